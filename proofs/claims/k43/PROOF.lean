import PyProof.Rows.All
import Wide.All
import OpenK.AllK
import Wide.FinOn
import HandS.ForMost
import HandS.Walk
import HandS.Zip
import HandS.TupAny
import HandS.IsInst
import HandS.Style
import HandS.Defaults
import HandS.Codes
import HandS.More
import HandS.SetKeys
import KE.GoesEnum
import KE.GoesZip
import KE.GoesMore
import HandS.SortRule
import HandS.Conv
import HandS.DictTup
import HandS.Strs
import HandS.SetFor
import HandS.SortInts
import KE.DataFind
import KE.KDictDisplayH
import HandS.TupMul
import HandS.Deep
import PyProof.DictUpdate
import HandS.HeadHook1
import HandS.HeadHook2
import HandS.HeadHook3
import PySem.Value
import HandS.MakeKw
import HandS.TupLen
import KE.KStateDown
import Lean
import HandS.WordsExc
import HandS.Head0
import HandS.Head1
import HandS.Head2
import HandS.HeadEnd
import HandS.HeadHook4
import PySem.Challenge.RW_partkits_k43_whole_most_by_all_sets
set_option Elab.async false
set_option linter.all false
set_option maxRecDepth 100000
set_option maxHeartbeats 0
namespace K43
open PySem PySem.Spec PyProof.Rows L2
/-! ### the text by places (printed by gen_head.py) -/
def top (i : Nat) : Stmt := PySem.Challenge.pw_partkits_k43_whole_most_by_all_sets.main.body.getD i (.Pass ⟨0, 0, 0, 0⟩)
abbrev s_counted : Stmt := top 6
abbrev s_Heap_init : Stmt := inClass (top 7) 0
abbrev s_Heap_rows : Stmt := inClass (top 7) 5
abbrev s_Heap_many : Stmt := inClass (top 7) 6
abbrev s_Heap_rows_lacking : Stmt := inClass (top 7) 9
abbrev s_Heap_holds : Stmt := inClass (top 7) 10
abbrev s_lets : Stmt := top 9
abbrev s_spread : Stmt := top 10
abbrev s_way_of : Stmt := top 11
abbrev s_lead : Stmt := top 12
abbrev s_parts_left : Stmt := top 13
abbrev s_led : Stmt := top 14
abbrev s_as_gift : Stmt := top 15
abbrev s_shades_of : Stmt := top 16
abbrev s_deal : Stmt := top 17
abbrev s_begun_ways : Stmt := top 19
abbrev s_taken_wants : Stmt := top 20
abbrev s_sheet_of : Stmt := top 22
abbrev s_wants_in : Stmt := top 23
abbrev s_open_row : Stmt := top 24
abbrev s_sought : Stmt := top 25
abbrev s_by_ways : Stmt := top 26
abbrev s_by_thing : Stmt := top 27
abbrev s_best : Stmt := top 28
abbrev s_most : Stmt := top 29
abbrev s_is_number : Stmt := top 33
abbrev s_is_word : Stmt := top 34
abbrev s_need : Stmt := top 36
abbrev s_wanted : Stmt := top 37
abbrev s_there : Stmt := top 38
abbrev s_is_rising : Stmt := top 39
abbrev s_is_shaped : Stmt := top 40
abbrev s_is_bar : Stmt := top 41
abbrev s_lets_bar : Stmt := top 42
abbrev s_need_node : Stmt := top 44
abbrev s_is_barred : Stmt := top 45
abbrev s_is_free : Stmt := top 46
abbrev s_choices : Stmt := top 48
abbrev s_wants_of : Stmt := top 49
abbrev s_is_gift : Stmt := top 51
abbrev s_is_right : Stmt := top 52
abbrev s_are_gifts : Stmt := top 53
abbrev s_is_given : Stmt := top 54
abbrev s_given_sum : Stmt := top 55
abbrev s_serves : Stmt := top 56
abbrev s_is_dealing : Stmt := top 57
abbrev s_is_places : Stmt := top 60
abbrev s_has_most_form : Stmt := top 61
abbrev s_look_most : Stmt := top 62
abbrev s_look_in_and_out : Stmt := top 63
abbrev s_look_ways : Stmt := top 64
abbrev s_lets_most : Stmt := top 65
abbrev s_most_paper : Stmt := top 67
abbrev s__law_tape : Stmt := top 69
abbrev s__law_pick : Stmt := top 70
abbrev s__law_forms : Stmt := top 71
abbrev s__law_shades : Stmt := top 72
abbrev s__law_count : Stmt := top 73
abbrev s__law_want : Stmt := top 74
abbrev s__law_way : Stmt := top 75
abbrev s__law_sheet : Stmt := top 76
abbrev s__law_rows : Stmt := top 77
abbrev s__law_stock : Stmt := top 78
abbrev s__law_choices : Stmt := top 79
abbrev s__law_wants : Stmt := top 80
abbrev s__law_things : Stmt := top 81
abbrev s__law_sheet_of : Stmt := top 82
abbrev s__law_given_out : Stmt := top 83
abbrev s_law : Stmt := top 84
/-! ### the head: facts by names, the run (printed by gen_head.py) -/
def d_counted : He.DefD := ⟨("counted", none), "counted", "counted", defArgs s_counted, defBody s_counted, defScope s_counted, [], []⟩
def d_Heap_init : He.DefD := ⟨("Heap", some "__init__"), "__init__", "Heap.__init__", defArgs s_Heap_init, defBody s_Heap_init, defScope s_Heap_init, [.non], []⟩
def d_Heap_rows : He.DefD := ⟨("Heap", some "rows"), "rows", "Heap.rows", defArgs s_Heap_rows, defBody s_Heap_rows, defScope s_Heap_rows, [], []⟩
def d_Heap_many : He.DefD := ⟨("Heap", some "many"), "many", "Heap.many", defArgs s_Heap_many, defBody s_Heap_many, defScope s_Heap_many, [.non], []⟩
def d_Heap_rows_lacking : He.DefD := ⟨("Heap", some "rows_lacking"), "rows_lacking", "Heap.rows_lacking", defArgs s_Heap_rows_lacking, defBody s_Heap_rows_lacking, defScope s_Heap_rows_lacking, [], []⟩
def d_Heap_holds : He.DefD := ⟨("Heap", some "holds"), "holds", "Heap.holds", defArgs s_Heap_holds, defBody s_Heap_holds, defScope s_Heap_holds, [], []⟩
def d_lets : He.DefD := ⟨("lets", none), "lets", "lets", defArgs s_lets, defBody s_lets, defScope s_lets, [], []⟩
def d_spread : He.DefD := ⟨("spread", none), "spread", "spread", defArgs s_spread, defBody s_spread, defScope s_spread, [], []⟩
def d_way_of : He.DefD := ⟨("way_of", none), "way_of", "way_of", defArgs s_way_of, defBody s_way_of, defScope s_way_of, [], []⟩
def d_lead : He.DefD := ⟨("lead", none), "lead", "lead", defArgs s_lead, defBody s_lead, defScope s_lead, [], []⟩
def d_parts_left : He.DefD := ⟨("parts_left", none), "parts_left", "parts_left", defArgs s_parts_left, defBody s_parts_left, defScope s_parts_left, [], []⟩
def d_led : He.DefD := ⟨("led", none), "led", "led", defArgs s_led, defBody s_led, defScope s_led, [], []⟩
def d_as_gift : He.DefD := ⟨("as_gift", none), "as_gift", "as_gift", defArgs s_as_gift, defBody s_as_gift, defScope s_as_gift, [], []⟩
def d_shades_of : He.DefD := ⟨("shades_of", none), "shades_of", "shades_of", defArgs s_shades_of, defBody s_shades_of, defScope s_shades_of, [], []⟩
def d_deal : He.DefD := ⟨("deal", none), "deal", "deal", defArgs s_deal, defBody s_deal, defScope s_deal, [], []⟩
def d_begun_ways : He.DefD := ⟨("begun_ways", none), "begun_ways", "begun_ways", defArgs s_begun_ways, defBody s_begun_ways, defScope s_begun_ways, [], []⟩
def d_taken_wants : He.DefD := ⟨("taken_wants", none), "taken_wants", "taken_wants", defArgs s_taken_wants, defBody s_taken_wants, defScope s_taken_wants, [], []⟩
def d_sheet_of : He.DefD := ⟨("sheet_of", none), "sheet_of", "sheet_of", defArgs s_sheet_of, defBody s_sheet_of, defScope s_sheet_of, [], []⟩
def d_wants_in : He.DefD := ⟨("wants_in", none), "wants_in", "wants_in", defArgs s_wants_in, defBody s_wants_in, defScope s_wants_in, [], []⟩
def d_open_row : He.DefD := ⟨("open_row", none), "open_row", "open_row", defArgs s_open_row, defBody s_open_row, defScope s_open_row, [], []⟩
def d_sought : He.DefD := ⟨("sought", none), "sought", "sought", defArgs s_sought, defBody s_sought, defScope s_sought, [], []⟩
def d_by_ways : He.DefD := ⟨("by_ways", none), "by_ways", "by_ways", defArgs s_by_ways, defBody s_by_ways, defScope s_by_ways, [], []⟩
def d_by_thing : He.DefD := ⟨("by_thing", none), "by_thing", "by_thing", defArgs s_by_thing, defBody s_by_thing, defScope s_by_thing, [], []⟩
def d_best : He.DefD := ⟨("best", none), "best", "best", defArgs s_best, defBody s_best, defScope s_best, [], []⟩
def d_most : He.DefD := ⟨("most", none), "most", "most", defArgs s_most, defBody s_most, defScope s_most, [], []⟩
def d_is_number : He.DefD := ⟨("is_number", none), "is_number", "is_number", defArgs s_is_number, defBody s_is_number, defScope s_is_number, [], []⟩
def d_is_word : He.DefD := ⟨("is_word", none), "is_word", "is_word", defArgs s_is_word, defBody s_is_word, defScope s_is_word, [], []⟩
def d_need : He.DefD := ⟨("need", none), "need", "need", defArgs s_need, defBody s_need, defScope s_need, [], []⟩
def d_wanted : He.DefD := ⟨("wanted", none), "wanted", "wanted", defArgs s_wanted, defBody s_wanted, defScope s_wanted, [], []⟩
def d_there : He.DefD := ⟨("there", none), "there", "there", defArgs s_there, defBody s_there, defScope s_there, [], []⟩
def d_is_rising : He.DefD := ⟨("is_rising", none), "is_rising", "is_rising", defArgs s_is_rising, defBody s_is_rising, defScope s_is_rising, [], []⟩
def d_is_shaped : He.DefD := ⟨("is_shaped", none), "is_shaped", "is_shaped", defArgs s_is_shaped, defBody s_is_shaped, defScope s_is_shaped, [], []⟩
def d_is_bar : He.DefD := ⟨("is_bar", none), "is_bar", "is_bar", defArgs s_is_bar, defBody s_is_bar, defScope s_is_bar, [], []⟩
def d_lets_bar : He.DefD := ⟨("lets_bar", none), "lets_bar", "lets_bar", defArgs s_lets_bar, defBody s_lets_bar, defScope s_lets_bar, [], []⟩
def d_need_node : He.DefD := ⟨("need_node", none), "need_node", "need_node", defArgs s_need_node, defBody s_need_node, defScope s_need_node, [], []⟩
def d_is_barred : He.DefD := ⟨("is_barred", none), "is_barred", "is_barred", defArgs s_is_barred, defBody s_is_barred, defScope s_is_barred, [], []⟩
def d_is_free : He.DefD := ⟨("is_free", none), "is_free", "is_free", defArgs s_is_free, defBody s_is_free, defScope s_is_free, [], []⟩
def d_choices : He.DefD := ⟨("choices", none), "choices", "choices", defArgs s_choices, defBody s_choices, defScope s_choices, [], []⟩
def d_wants_of : He.DefD := ⟨("wants_of", none), "wants_of", "wants_of", defArgs s_wants_of, defBody s_wants_of, defScope s_wants_of, [.non], []⟩
def d_is_gift : He.DefD := ⟨("is_gift", none), "is_gift", "is_gift", defArgs s_is_gift, defBody s_is_gift, defScope s_is_gift, [], []⟩
def d_is_right : He.DefD := ⟨("is_right", none), "is_right", "is_right", defArgs s_is_right, defBody s_is_right, defScope s_is_right, [], []⟩
def d_are_gifts : He.DefD := ⟨("are_gifts", none), "are_gifts", "are_gifts", defArgs s_are_gifts, defBody s_are_gifts, defScope s_are_gifts, [], []⟩
def d_is_given : He.DefD := ⟨("is_given", none), "is_given", "is_given", defArgs s_is_given, defBody s_is_given, defScope s_is_given, [], []⟩
def d_given_sum : He.DefD := ⟨("given_sum", none), "given_sum", "given_sum", defArgs s_given_sum, defBody s_given_sum, defScope s_given_sum, [], []⟩
def d_serves : He.DefD := ⟨("serves", none), "serves", "serves", defArgs s_serves, defBody s_serves, defScope s_serves, [], []⟩
def d_is_dealing : He.DefD := ⟨("is_dealing", none), "is_dealing", "is_dealing", defArgs s_is_dealing, defBody s_is_dealing, defScope s_is_dealing, [], []⟩
def d_is_places : He.DefD := ⟨("is_places", none), "is_places", "is_places", defArgs s_is_places, defBody s_is_places, defScope s_is_places, [], []⟩
def d_has_most_form : He.DefD := ⟨("has_most_form", none), "has_most_form", "has_most_form", defArgs s_has_most_form, defBody s_has_most_form, defScope s_has_most_form, [], []⟩
def d_look_most : He.DefD := ⟨("look_most", none), "look_most", "look_most", defArgs s_look_most, defBody s_look_most, defScope s_look_most, [], []⟩
def d_look_in_and_out : He.DefD := ⟨("look_in_and_out", none), "look_in_and_out", "look_in_and_out", defArgs s_look_in_and_out, defBody s_look_in_and_out, defScope s_look_in_and_out, [], []⟩
def d_look_ways : He.DefD := ⟨("look_ways", none), "look_ways", "look_ways", defArgs s_look_ways, defBody s_look_ways, defScope s_look_ways, [], []⟩
def d_lets_most : He.DefD := ⟨("lets_most", none), "lets_most", "lets_most", defArgs s_lets_most, defBody s_lets_most, defScope s_lets_most, [], []⟩
def d_most_paper : He.DefD := ⟨("most_paper", none), "most_paper", "most_paper", defArgs s_most_paper, defBody s_most_paper, defScope s_most_paper, [], []⟩
def d__law_tape : He.DefD := ⟨("_law_tape", none), "_law_tape", "_law_tape", defArgs s__law_tape, defBody s__law_tape, defScope s__law_tape, [], []⟩
def d__law_pick : He.DefD := ⟨("_law_pick", none), "_law_pick", "_law_pick", defArgs s__law_pick, defBody s__law_pick, defScope s__law_pick, [], []⟩
def d__law_forms : He.DefD := ⟨("_law_forms", none), "_law_forms", "_law_forms", defArgs s__law_forms, defBody s__law_forms, defScope s__law_forms, [], []⟩
def d__law_shades : He.DefD := ⟨("_law_shades", none), "_law_shades", "_law_shades", defArgs s__law_shades, defBody s__law_shades, defScope s__law_shades, [], []⟩
def d__law_count : He.DefD := ⟨("_law_count", none), "_law_count", "_law_count", defArgs s__law_count, defBody s__law_count, defScope s__law_count, [], []⟩
def d__law_want : He.DefD := ⟨("_law_want", none), "_law_want", "_law_want", defArgs s__law_want, defBody s__law_want, defScope s__law_want, [], []⟩
def d__law_way : He.DefD := ⟨("_law_way", none), "_law_way", "_law_way", defArgs s__law_way, defBody s__law_way, defScope s__law_way, [], []⟩
def d__law_sheet : He.DefD := ⟨("_law_sheet", none), "_law_sheet", "_law_sheet", defArgs s__law_sheet, defBody s__law_sheet, defScope s__law_sheet, [], []⟩
def d__law_rows : He.DefD := ⟨("_law_rows", none), "_law_rows", "_law_rows", defArgs s__law_rows, defBody s__law_rows, defScope s__law_rows, [], []⟩
def d__law_stock : He.DefD := ⟨("_law_stock", none), "_law_stock", "_law_stock", defArgs s__law_stock, defBody s__law_stock, defScope s__law_stock, [], []⟩
def d__law_choices : He.DefD := ⟨("_law_choices", none), "_law_choices", "_law_choices", defArgs s__law_choices, defBody s__law_choices, defScope s__law_choices, [], []⟩
def d__law_wants : He.DefD := ⟨("_law_wants", none), "_law_wants", "_law_wants", defArgs s__law_wants, defBody s__law_wants, defScope s__law_wants, [], []⟩
def d__law_things : He.DefD := ⟨("_law_things", none), "_law_things", "_law_things", defArgs s__law_things, defBody s__law_things, defScope s__law_things, [], []⟩
def d__law_sheet_of : He.DefD := ⟨("_law_sheet_of", none), "_law_sheet_of", "_law_sheet_of", defArgs s__law_sheet_of, defBody s__law_sheet_of, defScope s__law_sheet_of, [], []⟩
def d__law_given_out : He.DefD := ⟨("_law_given_out", none), "_law_given_out", "_law_given_out", defArgs s__law_given_out, defBody s__law_given_out, defScope s__law_given_out, [], []⟩
def d_law : He.DefD := ⟨("law", none), "law", "law", defArgs s_law, defBody s_law, defScope s_law, [], []⟩
def fn : List He.DefD := [d_counted, d_Heap_init, d_Heap_rows, d_Heap_many, d_Heap_rows_lacking, d_Heap_holds, d_lets, d_spread, d_way_of, d_lead, d_parts_left, d_led, d_as_gift, d_shades_of, d_deal, d_begun_ways, d_taken_wants, d_sheet_of, d_wants_in, d_open_row, d_sought, d_by_ways, d_by_thing, d_best, d_most, d_is_number, d_is_word, d_need, d_wanted, d_there, d_is_rising, d_is_shaped, d_is_bar, d_lets_bar, d_need_node] ++ [d_is_barred, d_is_free, d_choices, d_wants_of, d_is_gift, d_is_right, d_are_gifts, d_is_given, d_given_sum, d_serves, d_is_dealing, d_is_places, d_has_most_form, d_look_most, d_look_in_and_out, d_look_ways, d_lets_most, d_most_paper, d__law_tape, d__law_pick, d__law_forms, d__law_shades, d__law_count, d__law_want, d__law_way, d__law_sheet, d__law_rows, d__law_stock, d__law_choices, d__law_wants, d__law_things, d__law_sheet_of, d__law_given_out, d_law]
def fa0 : List He.Fa := [.glo "counted", .glo "lets", .glo "spread", .glo "way_of", .glo "lead", .glo "parts_left", .glo "led", .glo "as_gift", .glo "shades_of", .glo "deal", .glo "begun_ways", .glo "taken_wants", .glo "sheet_of", .glo "wants_in", .glo "open_row", .glo "sought", .glo "by_ways", .glo "by_thing", .glo "best", .glo "most", .glo "is_number", .glo "is_word", .glo "need", .glo "wanted", .glo "there", .glo "is_rising", .glo "is_shaped", .glo "is_bar", .glo "lets_bar", .glo "need_node"]
def fa1 : List He.Fa := [.glo "is_barred", .glo "is_free", .glo "choices", .glo "wants_of", .glo "is_gift", .glo "is_right", .glo "are_gifts", .glo "is_given", .glo "given_sum", .glo "serves", .glo "is_dealing", .glo "is_places", .glo "has_most_form", .glo "look_most", .glo "look_in_and_out", .glo "look_ways", .glo "lets_most", .glo "most_paper", .glo "_law_tape", .glo "_law_pick", .glo "_law_forms", .glo "_law_shades", .glo "_law_count", .glo "_law_want", .glo "_law_way", .glo "_law_sheet", .glo "_law_rows", .glo "_law_stock", .glo "_law_choices", .glo "_law_wants"]
def fa2 : List He.Fa := [.glo "_law_things", .glo "_law_sheet_of", .glo "_law_given_out", .glo "law", .free "all", .free "bool", .free "enumerate", .free "int", .free "isinstance", .free "len", .free "list", .free "max", .free "min", .free "range", .free "set", .free "sorted", .free "str", .free "sum", .free "tuple", .free "zip", .glo "Heap", .cls "Heap", .noat "Heap" "parts", .mkr "Heap", .meth "Heap" "rows", .meth "Heap" "many", .meth "Heap" "rows_lacking", .meth "Heap" "holds", .str "LETTERS" "abcdefghijklmnopqrstuvwxyz", .int "MOST_LETTERS" 8]
def fa3 : List He.Fa := [.glo "LENGTHS", .glo "NoPaper"]
def fa : List He.Fa := fa0 ++ fa1 ++ fa2 ++ fa3
def tabs : List He.Tab := [(fun K => He.ga K "LENGTHS", ["thing", "row", "bar", "count"])]
def nm0 : List PySem.Str := ["_wall", "__name__", "KitError", "PaperError", "NoPaper", "counted", "Heap", "lets", "spread", "way_of", "lead", "parts_left", "led", "as_gift", "shades_of", "deal", "begun_ways", "taken_wants", "sheet_of", "wants_in"]
def nm1 : List PySem.Str := ["open_row", "sought", "by_ways", "by_thing", "best", "most", "LETTERS", "MOST_LETTERS", "is_number", "is_word", "need", "wanted", "there", "is_rising", "is_shaped", "is_bar", "lets_bar", "need_node", "is_barred", "is_free"]
def nm2 : List PySem.Str := ["choices", "wants_of", "is_gift", "is_right", "are_gifts", "is_given", "given_sum", "serves", "is_dealing", "LENGTHS", "is_places", "has_most_form", "look_most", "look_in_and_out", "look_ways", "lets_most", "most_paper", "_law_tape", "_law_pick", "_law_forms"]
def nm3 : List PySem.Str := ["_law_shades", "_law_count", "_law_want", "_law_way", "_law_sheet", "_law_rows", "_law_stock", "_law_choices", "_law_wants", "_law_things", "_law_sheet_of", "_law_given_out"]
def names : List PySem.Str := nm0 ++ nm1 ++ nm2 ++ nm3
def lawAt : Nat := 84

/-- the table LENGTHS: each word's pair -/
def lenB (K : PySem.W.Frag) (x : Str) (i j : Int) : Bool := match PySem.W.nsIn K (He.ga K "LENGTHS") x with
  | some (some (.ref a)) => (match K.lookup a with
    | some ⟨.type c, _, .seq its _, _⟩ => decide (c = "tuple") && (decide (its.size ≤ sizeLine) && He.relAll [.int i, .int j] its.toList)
    | _ => false)
  | _ => false
def exB (K : PySem.W.Frag) : Bool := lenB K "thing" 4 4 && (lenB K "row" 3 9999 && (lenB K "bar" 3 3 && lenB K "count" 1 1))
end K43
/-! # KHR: the head's run, the end -/
namespace K43
open PySem PySem.Spec PyProof.Rows L2
abbrev hdR : PySem.W.OpenRow := PySem.W.OpenLaw.row PySem.Challenge.rw_partkits_k43_whole_most_by_all_sets
abbrev hdH : PySem.W.Hook := He.hookX 5 fa fn tabs [] exB
def hdO (s : PySem.W.SharedT) : He.AlX := He.obsX 5 fa fn tabs [] exB (HandSHeadRun.getT s)
theorem hdO_eq (s : PySem.W.SharedT) : hdO s = hdH.obs s.abs := He.obsX_eq (HandSHeadRun.getT_eq s)
theorem hd_f (w : World) : HandSHeadRun.RunEq hdR (PySem.W.view hdR.prog [lawAt]) hdH hdO 4000 names (w.withFollow "special-get-raises" false) := by
  intro os
  kernel_rfl
theorem hd_t (w : World) : HandSHeadRun.RunEq hdR (PySem.W.view hdR.prog [lawAt]) hdH hdO 4000 names (w.withFollow "special-get-raises" true) := by
  intro os
  kernel_rfl
theorem hd_run (w : World) : HandSHeadRun.RunEq hdR (PySem.W.view hdR.prog [lawAt]) hdH hdO 4000 names w :=
  PySem.W.byRow2 (P := fun w => HandSHeadRun.RunEq hdR (PySem.W.view hdR.prog [lawAt]) hdH hdO 4000 names w) "special-get-raises" hd_f hd_t w
end K43
set_option Elab.async false
set_option linter.all false
set_option maxRecDepth 100000
set_option maxHeartbeats 4000000
/-! # KB: the base layer: predicates of values, what a reading evaluates to, statements -/
namespace K43
open PySem PySem.Spec PyProof.Rows L2

/-! ### predicates -/
abbrev Pr := Hp → V → Prop
/-- what never changes: tuples, instances -/
def Fx : HO → Prop
  | .tup _ => True
  | .ins _ _ _ => True
  | _ => False
def FK (H H' : Hp) : Prop := ∀ a o, Fx o → H a = some o → H' a = some o
theorem FK.refl (H : Hp) : FK H H := fun _ _ _ h => h
theorem FK.trans {H H1 H2 : Hp} (a : FK H H1) (b : FK H1 H2) : FK H H2 := fun x o f h => b x o f (a x o f h)
end K43
namespace L2
open PySem K43
theorem Same.fk {H H' : Hp} (e : Same H H') : FK H H' := fun a o _ h => e a o h
theorem Same.new {H : Hp} {p : Addr} {o : HO} (h : H p = none) : Same H (upd H p o) := fun a u e => by
  rw [upd_ne (ne_of_none e h)]
  exact e
/-- an object that H does not know may change -/
theorem Same.mut {H H' : Hp} {p : Addr} {o : HO} (e : Same H H') (h : H p = none) : Same H (upd H' p o) := fun a u ha => by
  rw [upd_ne (ne_of_none ha h)]
  exact e a u ha
end L2
namespace K43
open PySem PySem.Spec PyProof.Rows L2
theorem FK.upd {H : Hp} {a : Addr} {o o' : HO} (h : H a = some o) (n : ¬ Fx o) : FK H (upd H a o') := fun b u f e => by
  rw [upd_ne (fun z => by subst z; rw [h] at e; cases e; exact n f)]
  exact e
theorem FK.new {H : Hp} {a : Addr} {o' : HO} (h : H a = none) : FK H (L2.upd H a o') := fun b u _ e => by
  rw [upd_ne (ne_of_none e h)]
  exact e
class MX (R : Pr) : Prop where
  mx : ∀ {H H' v}, Same H H' → R H v → R H' v
class MF (R : Pr) : Prop where
  mf : ∀ {H H' v}, FK H H' → R H v → R H' v
instance MF.mx {R : Pr} [MF R] : MX R := ⟨fun e h => MF.mf (Same.fk e) h⟩
/-- just this value -/
def IsV (u : V) : Pr := fun _ v => v = u
abbrev IsI (n : Int) : Pr := IsV (.int n)
abbrev IsS (s : Str) : Pr := IsV (.str s)
abbrev IsB (b : Bool) : Pr := IsV (.bl b)
abbrev IsN : Pr := IsV .non
instance (u : V) : MF (IsV u) := ⟨fun _ h => h⟩
/-- values with their predicates -/
def PP (H : Hp) : List V → List Pr → Prop
  | [], [] => True
  | v :: vs, p :: ps => p H v ∧ PP H vs ps
  | _, _ => False
class MXs (ps : List Pr) : Prop where
  mx : ∀ {H H' vs}, Same H H' → PP H vs ps → PP H' vs ps
class MFs (ps : List Pr) : Prop where
  mf : ∀ {H H' vs}, FK H H' → PP H vs ps → PP H' vs ps
instance MFs.mx {ps : List Pr} [MFs ps] : MXs ps := ⟨fun e h => MFs.mf (Same.fk e) h⟩
instance : MFs [] := ⟨fun {_ _ vs} _ h => match vs, h with | [], _ => True.intro⟩
instance {p : Pr} {ps : List Pr} [MF p] [MFs ps] : MFs (p :: ps) := ⟨fun {_ _ vs} e h => match vs, h with | _ :: _, ⟨h1, h2⟩ => ⟨MF.mf e h1, MFs.mf e h2⟩⟩
instance {p : Pr} {ps : List Pr} [MX p] [MXs ps] : MXs (p :: ps) := ⟨fun {_ _ vs} e h => match vs, h with | _ :: _, ⟨h1, h2⟩ => ⟨MX.mx e h1, MXs.mx e h2⟩⟩
theorem PP.map_mf {α : Type} {R : α → Pr} [∀ x, MF (R x)] : ∀ {xs : List α} {H H' : Hp} {vs : List V}, FK H H' → PP H vs (xs.map R) → PP H' vs (xs.map R)
  | [], _, _, [], _, h => h
  | _ :: _, _, _, _ :: _, e, ⟨h1, h2⟩ => ⟨MF.mf e h1, PP.map_mf e h2⟩
theorem PP.map_mx {α : Type} {R : α → Pr} [∀ x, MX (R x)] : ∀ {xs : List α} {H H' : Hp} {vs : List V}, Same H H' → PP H vs (xs.map R) → PP H' vs (xs.map R)
  | [], _, _, [], _, h => h
  | _ :: _, _, _, _ :: _, e, ⟨h1, h2⟩ => ⟨MX.mx e h1, PP.map_mx e h2⟩
instance {α : Type} {R : α → Pr} {xs : List α} [∀ x, MF (R x)] : MFs (xs.map R) := ⟨fun e h => PP.map_mf e h⟩
instance {α : Type} {R : α → Pr} {xs : List α} [∀ x, MX (R x)] : MXs (xs.map R) := ⟨fun e h => PP.map_mx e h⟩
theorem PP.length {H : Hp} : ∀ {vs : List V} {ps : List Pr}, PP H vs ps → vs.length = ps.length
  | [], [], _ => rfl
  | _ :: _, _ :: _, ⟨_, h⟩ => congrArg Nat.succ (PP.length h)
theorem PP.get {H : Hp} : ∀ {vs : List V} {ps : List Pr} {i : Nat} {p : Pr}, PP H vs ps → ps[i]? = some p → ∃ v, vs[i]? = some v ∧ p H v
  | [], [], _, _, _, e => by simp at e
  | v :: _, _ :: _, 0, _, ⟨h, _⟩, e => by simp at e; subst e; exact ⟨v, rfl, h⟩
  | _ :: _, _ :: _, i + 1, _, ⟨_, h⟩, e => by
    obtain ⟨v, a, b⟩ := PP.get (i := i) h (by simpa using e)
    exact ⟨v, by simpa using a, b⟩
theorem PP.getV {H : Hp} : ∀ {vs : List V} {ps : List Pr} {i : Nat} {v : V}, PP H vs ps → vs[i]? = some v → ∃ p, ps[i]? = some p ∧ p H v
  | [], [], _, _, _, e => by simp at e
  | _ :: _, p :: _, 0, _, ⟨h, _⟩, e => by simp at e; subst e; exact ⟨p, rfl, h⟩
  | _ :: _, _ :: _, i + 1, _, ⟨_, h⟩, e => by
    obtain ⟨v, a, b⟩ := PP.getV (i := i) h (by simpa using e)
    exact ⟨v, by simpa using a, b⟩
theorem PP.append {H : Hp} : ∀ {vs ws : List V} {ps qs : List Pr}, PP H vs ps → PP H ws qs → PP H (vs ++ ws) (ps ++ qs)
  | [], _, [], _, _, h => h
  | _ :: _, _, _ :: _, _, ⟨h1, h2⟩, h => ⟨h1, PP.append h2 h⟩
theorem PP.take {H : Hp} : ∀ {vs : List V} {ps : List Pr} (n : Nat), PP H vs ps → PP H (vs.take n) (ps.take n)
  | _, _, 0, _ => by simp [PP]
  | [], [], _ + 1, _ => by simp [PP]
  | _ :: _, _ :: _, n + 1, ⟨h1, h2⟩ => ⟨h1, PP.take n h2⟩
theorem PP.drop {H : Hp} : ∀ {vs : List V} {ps : List Pr} (n : Nat), PP H vs ps → PP H (vs.drop n) (ps.drop n)
  | _, _, 0, h => h
  | [], [], _ + 1, _ => by simp [PP]
  | _ :: _, _ :: _, n + 1, ⟨_, h2⟩ => PP.drop n h2
theorem PP.nil {H : Hp} {vs : List V} (h : PP H vs []) : vs = [] := match vs, h with | [], _ => rfl
theorem PP.one {H : Hp} {vs : List V} {p : Pr} (h : PP H vs [p]) : ∃ v, vs = [v] ∧ p H v := match vs, h with | [v], ⟨h, _⟩ => ⟨v, rfl, h⟩
theorem PP.two {H : Hp} {vs : List V} {p q : Pr} (h : PP H vs [p, q]) : ∃ v w, vs = [v, w] ∧ p H v ∧ q H w := match vs, h with | [v, w], ⟨h1, h2, _⟩ => ⟨v, w, rfl, h1, h2⟩
theorem PP.three {H : Hp} {vs : List V} {p q r : Pr} (h : PP H vs [p, q, r]) : ∃ v w x, vs = [v, w, x] ∧ p H v ∧ q H w ∧ r H x := match vs, h with | [v, w, x], ⟨h1, h2, h3, _⟩ => ⟨v, w, x, rfl, h1, h2, h3⟩
theorem PP.four {H : Hp} {vs : List V} {p q r t : Pr} (h : PP H vs [p, q, r, t]) : ∃ v w x y, vs = [v, w, x, y] ∧ p H v ∧ q H w ∧ r H x ∧ t H y := match vs, h with | [v, w, x, y], ⟨h1, h2, h3, h4, _⟩ => ⟨v, w, x, y, rfl, h1, h2, h3, h4⟩
theorem PP.five {H : Hp} {vs : List V} {p q r t u : Pr} (h : PP H vs [p, q, r, t, u]) : ∃ v w x y z, vs = [v, w, x, y, z] ∧ p H v ∧ q H w ∧ r H x ∧ t H y ∧ u H z := match vs, h with | [v, w, x, y, z], ⟨h1, h2, h3, h4, h5, _⟩ => ⟨v, w, x, y, z, rfl, h1, h2, h3, h4, h5⟩
theorem PP.six {H : Hp} {vs : List V} {p q r t u o : Pr} (h : PP H vs [p, q, r, t, u, o]) : ∃ v w x y z k, vs = [v, w, x, y, z, k] ∧ p H v ∧ q H w ∧ r H x ∧ t H y ∧ u H z ∧ o H k := match vs, h with | [v, w, x, y, z, k], ⟨h1, h2, h3, h4, h5, h6, _⟩ => ⟨v, w, x, y, z, k, rfl, h1, h2, h3, h4, h5, h6⟩
/-- values that are just these -/
theorem PP.isv {H : Hp} : ∀ {vs us : List V}, PP H vs (us.map IsV) → vs = us
  | [], [], _ => rfl
  | _ :: _, _ :: _, ⟨h1, h2⟩ => by rw [(show _ = _ from h1), PP.isv h2]
theorem PP.of_isv {H : Hp} : ∀ {us : List V}, PP H us (us.map IsV)
  | [] => True.intro
  | _ :: _ => ⟨rfl, PP.of_isv⟩
theorem PP.weak {α : Type} {R R' : α → Pr} {H : Hp} (w : ∀ x v, R x H v → R' x H v) : ∀ {xs : List α} {vs : List V}, PP H vs (xs.map R) → PP H vs (xs.map R')
  | [], [], h => h
  | _ :: _, _ :: _, ⟨h1, h2⟩ => ⟨w _ _ h1, PP.weak w h2⟩
theorem PP.map2 {α β : Type} {R : α → Pr} {R' : β → Pr} {f : α → β} {H : Hp} (w : ∀ x v, R x H v → R' (f x) H v) : ∀ {xs : List α} {vs : List V}, PP H vs (xs.map R) → PP H vs ((xs.map f).map R')
  | [], [], h => h
  | _ :: _, _ :: _, ⟨h1, h2⟩ => ⟨w _ _ h1, PP.map2 w h2⟩

/-- a tuple, a list of values that are so -/
def TupP (ps : List Pr) : Pr := fun H v => ∃ a vs, v = .ref a ∧ H a = some (.tup vs) ∧ PP H vs ps
def LstP (ps : List Pr) : Pr := fun H v => ∃ a vs, v = .ref a ∧ H a = some (.lst vs) ∧ PP H vs ps
abbrev TupOf {α : Type} (R : α → Pr) (xs : List α) : Pr := TupP (xs.map R)
abbrev LstOf {α : Type} (R : α → Pr) (xs : List α) : Pr := LstP (xs.map R)
instance {ps : List Pr} [MFs ps] : MF (TupP ps) := ⟨fun e ⟨a, vs, h1, h2, h3⟩ => ⟨a, vs, h1, e a _ True.intro h2, MFs.mf e h3⟩⟩
instance {ps : List Pr} [MXs ps] : MX (TupP ps) := ⟨fun e ⟨a, vs, h1, h2, h3⟩ => ⟨a, vs, h1, e a _ h2, MXs.mx e h3⟩⟩
instance {ps : List Pr} [MXs ps] : MX (LstP ps) := ⟨fun e ⟨a, vs, h1, h2, h3⟩ => ⟨a, vs, h1, e a _ h2, MXs.mx e h3⟩⟩
/-- exactly this object -/
def At (o : HO) : Pr := fun H v => ∃ a, v = .ref a ∧ H a = some o
instance {o : HO} : MX (At o) := ⟨fun e ⟨a, h1, h2⟩ => ⟨a, h1, e a _ h2⟩⟩
/-- an option -/
def OptP {α : Type} (R : α → Pr) : Option α → Pr
  | none => IsN
  | some x => R x
instance {α : Type} {R : α → Pr} {o : Option α} [∀ x, MF (R x)] : MF (OptP R o) := by
  cases o with
  | none => exact inferInstanceAs (MF (IsV .non))
  | some x => exact inferInstanceAs (MF (R x))

/-! ### what evaluates to what -/
def EvR (te : TE) (σ : L2.St) (H : Hp) (R : Pr) : Prop := ∀ H1, Same H H1 → ∀ Q : VK, (∀ v H2, Same H1 H2 → R H2 v → Q v H2) → te σ H1 Q
def EvB (tt : TT) (σ : L2.St) (H : Hp) (b : Bool) : Prop := ∀ H1, Same H H1 → ∀ Q : Bool → Hp → Prop, (∀ H2, Same H1 H2 → Q b H2) → tt σ H1 Q
def EvA (ta : TA) (σ : L2.St) (H : Hp) (ps : List Pr) : Prop := ∀ H1, Same H H1 → ∀ Q : List V → Hp → Prop, (∀ vs H2, Same H1 H2 → PP H2 vs ps → Q vs H2) → ta σ H1 Q
section
variable {K : PySem.W.Frag} {σ : L2.St} {H H' : Hp} {ta tb te tx : TE} {t u : TT} {R S : Pr} {x y : V}
theorem EvR.mono (h : EvR te σ H R) (e : Same H H') : EvR te σ H' R := fun H1 a Q q => h H1 (e.trans a) Q q
theorem EvB.mono {b : Bool} (h : EvB t σ H b) (e : Same H H') : EvB t σ H' b := fun H1 a Q q => h H1 (e.trans a) Q q
theorem EvA.mono {ts : TA} {ps : List Pr} (h : EvA ts σ H ps) (e : Same H H') : EvA ts σ H' ps := fun H1 a Q q => h H1 (e.trans a) Q q
theorem EvR.to (h : EvR te σ H R) (w : ∀ H v, R H v → S H v) : EvR te σ H S := fun H1 a Q q => h H1 a Q fun v H2 e r => q v H2 e (w H2 v r)
theorem EvR.toX (h : EvR te σ H R) (w : ∀ H' v, Same H H' → R H' v → S H' v) : EvR te σ H S := fun H1 a Q q => h H1 a Q fun v H2 e r => q v H2 e (w H2 v (a.trans e) r)
theorem EvR.is {v w : V} (h : EvR te σ H (IsV v)) (e : v = w) : EvR te σ H (IsV w) := e ▸ h
theorem EvB.is {a b : Bool} (h : EvB t σ H a) (e : a = b) : EvB t σ H b := e ▸ h
theorem er_var {i : Nat} {v : V} [MX R] (r : R H v) (h : σ[i]? = some (some v) := by rfl) : EvR (tVar i) σ H R := fun H1 e _ q => ⟨v, h, q v H1 (Same.refl H1) (MX.mx e r)⟩
/-- a name, its value itself -/
theorem er_v {i : Nat} {v : V} (h : σ[i]? = some (some v) := by rfl) : EvR (tVar i) σ H (IsV v) := er_var (R := IsV v) rfl h
theorem er_c {v : V} : EvR (tC v) σ H (IsV v) := fun H1 _ _ q => q v H1 (Same.refl H1) rfl
/-- two operands, a rule by values -/
theorem er_op {r : R2} {A B : Pr} [MX A] (ha : EvR ta σ H A) (hb : EvR tb σ H B) (hr : ∀ v w H1, Same H H1 → A H1 v → B H1 w → ∀ Q : VK, (∀ z H2, Same H1 H2 → R H2 z → Q z H2) → r v w H1 Q) : EvR (tOp r ta tb) σ H R := fun H1 e Q q =>
  ha H1 e _ fun v H2 e2 r2 => hb H2 (e.trans e2) _ fun w H3 e3 r3 => hr v w H3 ((e.trans e2).trans e3) (MX.mx e3 r2) r3 Q fun z H4 e4 r4 => q z H4 ((e2.trans e3).trans e4) r4
theorem er_I0 {g : Int → Int → V} {i j : Int} (ha : EvR ta σ H (IsI i)) (hb : EvR tb σ H (IsI j)) : EvR (tOp (rI0 g) ta tb) σ H (IsV (g i j)) :=
  er_op ha hb fun v w H1 _ h1 h2 Q q => ⟨i, j, h1, h2, q _ H1 (Same.refl H1) rfl⟩
theorem er_I {C : Int → Int → Prop} {g : Int → Int → V} {i j : Int} (ha : EvR ta σ H (IsI i)) (hb : EvR tb σ H (IsI j)) (hc : C i j) : EvR (tOp (rI C g) ta tb) σ H (IsV (g i j)) :=
  er_op ha hb fun v w H1 _ h1 h2 Q q => ⟨i, j, h1, h2, hc, q _ H1 (Same.refl H1) rfl⟩
theorem er_un {g : Int → V} {i : Int} (ha : EvR ta σ H (IsI i)) : EvR (tUn (rU g) ta) σ H (IsV (g i)) := fun H1 e Q q => ha H1 e _ fun v H2 e2 r2 => ⟨i, r2, q _ H2 e2 rfl⟩
theorem er_eq (ha : EvR ta σ H (IsV x)) (hb : EvR tb σ H (IsV y)) (h : scal x y = true) : EvR (tOp rEq ta tb) σ H (IsB (decide (x = y))) :=
  er_op ha hb fun v w H1 _ h1 h2 Q q => by cases h1; cases h2; exact ⟨h, q _ H1 (Same.refl H1) rfl⟩
theorem er_ne (ha : EvR ta σ H (IsV x)) (hb : EvR tb σ H (IsV y)) (h : scal x y = true) : EvR (tOp rNe ta tb) σ H (IsB (!decide (x = y))) :=
  er_op ha hb fun v w H1 _ h1 h2 Q q => by cases h1; cases h2; exact ⟨h, q _ H1 (Same.refl H1) rfl⟩
theorem er_ltS {a b : Str} (ha : EvR ta σ H (IsS a)) (hb : EvR tb σ H (IsS b)) : EvR (tOp (fun x y H Q => ∃ i j, x = .str i ∧ y = .str j ∧ Q (.bl (decide (i.cps.toList < j.cps.toList))) H) ta tb) σ H (IsB (decide (a.cps.toList < b.cps.toList))) :=
  er_op ha hb fun v w H1 _ h1 h2 Q q => ⟨a, b, h1, h2, q _ H1 (Same.refl H1) rfl⟩
/-- is None, by the test's own rule (pc_isN) and by the operator's -/
theorem er_isN (ha : EvR ta σ H (IsV x)) : EvR (tIsN ta) σ H (IsB (decide (x = .non))) := fun H1 e Q q => ha H1 e _ fun v H2 e2 r2 => by cases r2; exact q _ H2 e2 rfl
theorem er_notN (ha : EvR ta σ H (IsV x)) : EvR (tNotN ta) σ H (IsB (!decide (x = .non))) := fun H1 e Q q => ha H1 e _ fun v H2 e2 r2 => by cases r2; exact q _ H2 e2 rfl
/-- .. of what is so and so -/
theorem er_isNR {b : Bool} (ha : EvR ta σ H R) (hr : ∀ H v, R H v → decide (v = .non) = b) : EvR (tIsN ta) σ H (IsB b) := fun H1 e Q q => ha H1 e _ fun v H2 e2 r2 => q _ H2 e2 (congrArg V.bl (hr _ _ r2))
theorem er_notNR {b : Bool} (ha : EvR ta σ H R) (hr : ∀ H v, R H v → decide (v = .non) = b) : EvR (tNotN ta) σ H (IsB (!b)) := fun H1 e Q q => ha H1 e _ fun v H2 e2 r2 => q _ H2 e2 (congrArg V.bl (congrArg not (hr _ _ r2)))
theorem er_isB {a b : Bool} (ha : EvR ta σ H (IsB a)) (hb : EvR tb σ H (IsB b)) : EvR (tOp rIsB ta tb) σ H (IsB (decide (a = b))) :=
  er_op ha hb fun v w H1 _ h1 h2 Q q => ⟨a, b, h1, h2, q _ H1 (Same.refl H1) rfl⟩
/-! tests -/
theorem eb_test {b : Bool} (h : EvR te σ H (IsB b)) : EvB (tTest te) σ H b := fun H1 e _ q => h H1 e _ fun v H2 e2 r => ⟨b, r, q H2 e2⟩
theorem eb_B {b : Bool} (h : EvR te σ H (IsB b)) : EvB (tB te) σ H b := fun H1 e _ q => h H1 e _ fun v H2 e2 r => ⟨b, r, q H2 e2⟩
theorem eb_and {a b : Bool} (h1 : EvB t σ H a) (h2 : a = true → EvB u σ H b) : EvB (tAnd t u) σ H (a && b) := fun H1 e Q q => h1 H1 e _ fun H2 e2 => by
  cases a with
  | true =>
    show u σ H2 Q
    exact h2 rfl H2 (e.trans e2) Q fun H3 e3 => q H3 (e2.trans e3)
  | false =>
    show Q false H2
    exact q H2 e2
theorem eb_or {a b : Bool} (h1 : EvB t σ H a) (h2 : a = false → EvB u σ H b) : EvB (tOr t u) σ H (a || b) := fun H1 e Q q => h1 H1 e _ fun H2 e2 => by
  cases a with
  | true =>
    show Q true H2
    exact q H2 e2
  | false =>
    show u σ H2 Q
    exact h2 rfl H2 (e.trans e2) Q fun H3 e3 => q H3 (e2.trans e3)
theorem eb_not {a : Bool} (h1 : EvB t σ H a) : EvB (tNot t) σ H (!a) := fun H1 e _ q => h1 H1 e _ fun H2 e2 => q H2 e2
/-- a value's truth -/
theorem eb_tru {b : Bool} (ha : EvR ta σ H R) (ht : ∀ H v, R H v → TruV K v H b) : EvB (fun σ H Q => ta σ H fun x H' => ∃ k, TruV K x H' k ∧ Q k H') σ H b := fun H1 e Q q => ha H1 e _ fun v H2 e2 r => ⟨b, ht H2 v r, q H2 e2⟩
theorem er_and {a b : Bool} (h1 : EvR ta σ H (IsB a)) (h2 : a = true → EvR tb σ H (IsB b)) : EvR (tAndV ta tb) σ H (IsB (a && b)) := fun H1 e Q q => h1 H1 e _ fun v H2 e2 r => ⟨a, r, by
  cases a with
  | true =>
    show tb σ H2 Q
    exact h2 rfl H2 (e.trans e2) Q fun v H3 e3 r => q v H3 (e2.trans e3) r
  | false =>
    show Q (.bl false) H2
    exact q _ H2 e2 rfl⟩
theorem er_or {a b : Bool} (h1 : EvR ta σ H (IsB a)) (h2 : a = false → EvR tb σ H (IsB b)) : EvR (tOrV ta tb) σ H (IsB (a || b)) := fun H1 e Q q => h1 H1 e _ fun v H2 e2 r => ⟨a, r, by
  cases a with
  | true =>
    show Q (.bl true) H2
    exact q _ H2 e2 rfl
  | false =>
    show tb σ H2 Q
    exact h2 rfl H2 (e.trans e2) Q fun v H3 e3 r => q v H3 (e2.trans e3) r⟩
theorem er_not {a : Bool} (h1 : EvR ta σ H (IsB a)) : EvR (tNotV ta) σ H (IsB (!a)) := fun H1 e _ q => h1 H1 e _ fun v H2 e2 r => ⟨a, r, q _ H2 e2 rfl⟩
theorem er_if {b : Bool} (h : EvB t σ H b) (h1 : b = true → EvR ta σ H R) (h2 : b = false → EvR tb σ H R) : EvR (tIf t ta tb) σ H R := fun H1 e Q q => h H1 e _ fun H2 e2 => by
  cases b with
  | true =>
    show ta σ H2 Q
    exact h1 rfl H2 (e.trans e2) Q fun v H3 e3 r => q v H3 (e2.trans e3) r
  | false =>
    show tb σ H2 Q
    exact h2 rfl H2 (e.trans e2) Q fun v H3 e3 r => q v H3 (e2.trans e3) r
/-! a chain a < b < c -/
theorem er_chain {r r' : R2} {tc : TE} {A B C : Pr} [MX A] [MX B] {a b : Bool} (ha : EvR ta σ H A) (hb : EvR tb σ H B) (hr : ∀ v w H1, Same H H1 → A H1 v → B H1 w → ∀ Q : VK, (∀ z H2, Same H1 H2 → z = .bl a → Q z H2) → r v w H1 Q)
    (hc : a = true → EvR tc σ H C) (hr' : a = true → ∀ v w H1, Same H H1 → B H1 v → C H1 w → ∀ Q : VK, (∀ z H2, Same H1 H2 → z = .bl b → Q z H2) → r' v w H1 Q) : EvR (tChain r r' ta tb tc) σ H (IsB (a && b)) := fun H1 e Q q =>
  ha H1 e _ fun v H2 e2 r2 => hb H2 (e.trans e2) _ fun w H3 e3 r3 => hr v w H3 ((e.trans e2).trans e3) (MX.mx e3 r2) r3 _ fun z H4 e4 r4 => ⟨a, r4, by
    cases a with
    | true =>
      show tc σ H4 fun w' H5 => r' w w' H5 Q
      exact hc rfl H4 (((e.trans e2).trans e3).trans e4) _ fun v5 H5 e5 r5 => hr' rfl w v5 H5 ((((e.trans e2).trans e3).trans e4).trans e5) (MX.mx (e4.trans e5) r3) r5 _ fun z H6 e6 r6 => q z H6 ((((e2.trans e3).trans e4).trans e5).trans e6) r6
    | false =>
      show Q (.bl false) H4
      exact q _ H4 ((e2.trans e3).trans e4) rfl⟩
theorem r_I0 {g : Int → Int → V} {i j : Int} {H1 : Hp} {z : V} (hz : g i j = z) {v w : V} (h1 : v = .int i) (h2 : w = .int j) {Q : VK} (q : ∀ z' H2, Same H1 H2 → z' = z → Q z' H2) : rI0 g v w H1 Q := ⟨i, j, h1, h2, q _ H1 (Same.refl H1) hz⟩
/-! arguments, displays -/
theorem ea_nil : EvA tNil σ H [] := fun H1 _ _ q => q [] H1 (Same.refl H1) True.intro
theorem ea_cons {tr : TA} {p : Pr} {ps : List Pr} [MX p] (h : EvR ta σ H p) (hr : EvA tr σ H ps) : EvA (tCons ta tr) σ H (p :: ps) := fun H1 e _ q =>
  h H1 e _ fun v H2 e2 r => hr H2 (e.trans e2) _ fun vs H3 e3 rs => q (v :: vs) H3 (e2.trans e3) ⟨MX.mx e3 r, rs⟩
theorem ea1 {p : Pr} [MX p] (h : EvR ta σ H p) : EvA (tCons ta tNil) σ H [p] := ea_cons h ea_nil
theorem ea2 {p q : Pr} [MX p] [MX q] (h : EvR ta σ H p) (h2 : EvR tb σ H q) : EvA (tCons ta (tCons tb tNil)) σ H [p, q] := ea_cons h (ea1 h2)
theorem er_tup {ts : TA} {ps : List Pr} [MXs ps] (h : EvA ts σ H ps) (hl : ps.length ≤ 100000) : EvR (tTup ts) σ H (TupP ps) := fun H1 e _ q =>
  h H1 e _ fun vs H2 e2 r => ⟨by have := r.length; show vs.length ≤ sizeLine; rw [this, sizeLine_eq]; omega, fun p hp => q _ _ (e2.trans (Same.new hp)) ⟨p, vs, rfl, upd_same, MXs.mx (Same.new hp) r⟩⟩
theorem er_lst {ts : TA} {ps : List Pr} [MXs ps] (h : EvA ts σ H ps) (hl : ps.length ≤ 100000) : EvR (tLst ts) σ H (LstP ps) := fun H1 e _ q =>
  h H1 e _ fun vs H2 e2 r => ⟨by have := r.length; show vs.length ≤ sizeLine; rw [this, sizeLine_eq]; omega, fun p hp => q _ _ (e2.trans (Same.new hp)) ⟨p, vs, rfl, upd_same, MXs.mx (Same.new hp) r⟩⟩
/-! items -/
theorem atI_of {α : Type} {xs : List α} {i : Int} {v : α} (h0 : 0 ≤ i) (h : xs[i.toNat]? = some v) : atI xs i = some v := by
  have := atI_nat h
  rwa [show ((i.toNat : Nat) : Int) = i by omega] at this
theorem er_ixT {ps : List Pr} {i : Int} {p : Pr} [MXs ps] (ha : EvR ta σ H (TupP ps)) (hb : EvR tb σ H (IsI i)) (h : ps[i.toNat]? = some p := by rfl) (h0 : 0 ≤ i := by decide) : EvR (tOp (rIxT K) ta tb) σ H p :=
  er_op ha hb fun v w H1 _ ⟨a, vs, h1, h2, h3⟩ h4 Q q => by
    obtain ⟨z, g1, g2⟩ := PP.get h3 h
    exact ⟨a, vs, i, z, h1, h4, SqT.of h2, atI_of h0 g1, q z H1 (Same.refl H1) g2⟩
theorem er_ixL {ps : List Pr} {i : Int} {p : Pr} [MXs ps] (ha : EvR ta σ H (LstP ps)) (hb : EvR tb σ H (IsI i)) (h : ps[i.toNat]? = some p := by rfl) (h0 : 0 ≤ i := by decide) : EvR (tOp (rIxL K) ta tb) σ H p :=
  er_op ha hb fun v w H1 _ ⟨a, vs, h1, h2, h3⟩ h4 Q q => by
    obtain ⟨z, g1, g2⟩ := PP.get h3 h
    exact ⟨a, vs, i, z, h1, h4, SqL.of h2, atI_of h0 g1, q z H1 (Same.refl H1) g2⟩
theorem er_ixTO {α : Type} {R : α → Pr} [∀ x, MX (R x)] {xs : List α} {i : Int} {x : α} (ha : EvR ta σ H (TupOf R xs)) (hb : EvR tb σ H (IsI i)) (h0 : 0 ≤ i) (h : xs[i.toNat]? = some x) : EvR (tOp (rIxT K) ta tb) σ H (R x) :=
  er_ixT ha hb (by rw [List.getElem?_map, h]; rfl) h0
theorem er_ixLO {α : Type} {R : α → Pr} [∀ x, MX (R x)] {xs : List α} {i : Int} {x : α} (ha : EvR ta σ H (LstOf R xs)) (hb : EvR tb σ H (IsI i)) (h0 : 0 ≤ i) (h : xs[i.toNat]? = some x) : EvR (tOp (rIxL K) ta tb) σ H (R x) :=
  er_ixL ha hb (by rw [List.getElem?_map, h]; rfl) h0
/-! + of tuples, of lists -/
theorem er_catT {ps qs : List Pr} [MXs ps] [MXs qs] [MXs (ps ++ qs)] (ha : EvR ta σ H (TupP ps)) (hb : EvR tb σ H (TupP qs)) (hl : ps.length + qs.length ≤ 100000) : EvR (tOp (rCatA K) ta tb) σ H (TupP (ps ++ qs)) :=
  er_op ha hb fun v w H1 _ ⟨a, vs, h1, h2, h3⟩ ⟨b, ws, g1, g2, g3⟩ Q q => by
    have l1 := h3.length
    have l2 := g3.length
    refine ⟨a, b, vs, ws, h1, g1, SqT.of h2, SqT.of g2, by rw [sizeLine_eq]; omega, fun e => ?_, fun e e' => ?_, fun e e' p hp => ?_⟩
    · subst e
      have : ps = [] := List.eq_nil_of_length_eq_zero (by rw [← l1]; rfl)
      subst this
      exact q _ H1 (Same.refl H1) ⟨b, ws, rfl, g2, g3⟩
    · subst e'
      have : qs = [] := List.eq_nil_of_length_eq_zero (by rw [← l2]; rfl)
      subst this
      exact q _ H1 (Same.refl H1) ⟨a, vs, rfl, h2, by rw [List.append_nil]; exact h3⟩
    · exact q _ _ (Same.new hp) ⟨p, vs ++ ws, rfl, upd_same, MXs.mx (Same.new hp) (h3.append g3)⟩
theorem er_catTO {α : Type} {R : α → Pr} [∀ x, MX (R x)] {xs ys : List α} (ha : EvR ta σ H (TupOf R xs)) (hb : EvR tb σ H (TupOf R ys)) (hl : xs.length + ys.length ≤ 100000) : EvR (tOp (rCatA K) ta tb) σ H (TupOf R (xs ++ ys)) := by
  have e : (xs ++ ys).map R = xs.map R ++ ys.map R := List.map_append
  haveI : MXs (xs.map R ++ ys.map R) := e ▸ inferInstance
  have := er_catT (K := K) ha hb (by simpa using hl)
  rwa [← e] at this
theorem er_catL {ps qs : List Pr} [MXs ps] [MXs qs] [MXs (ps ++ qs)] (ha : EvR ta σ H (LstP ps)) (hb : EvR tb σ H (LstP qs)) (hl : ps.length + qs.length ≤ 100000) : EvR (tOp rCat ta tb) σ H (LstP (ps ++ qs)) :=
  er_op ha hb fun v w H1 _ ⟨a, vs, h1, h2, h3⟩ ⟨b, ws, g1, g2, g3⟩ Q q => by
    have l1 := h3.length
    have l2 := g3.length
    exact ⟨a, b, vs, ws, h1, g1, h2, g2, by rw [sizeLine_eq]; omega, fun p hp => q _ _ (Same.new hp) ⟨p, vs ++ ws, rfl, upd_same, MXs.mx (Same.new hp) (h3.append g3)⟩⟩
theorem er_catLO {α : Type} {R : α → Pr} [∀ x, MX (R x)] {xs ys : List α} (ha : EvR ta σ H (LstOf R xs)) (hb : EvR tb σ H (LstOf R ys)) (hl : xs.length + ys.length ≤ 100000) : EvR (tOp rCat ta tb) σ H (LstOf R (xs ++ ys)) := by
  have e : (xs ++ ys).map R = xs.map R ++ ys.map R := List.map_append
  haveI : MXs (xs.map R ++ ys.map R) := e ▸ inferInstance
  have := er_catL ha hb (by simpa using hl)
  rwa [← e] at this
/-! slices -/
def EvO (to : TO) (σ : L2.St) (H : Hp) (o : Option Int) : Prop := ∀ H1, Same H H1 → ∀ Q : Option Int → Hp → Prop, (∀ H2, Same H1 H2 → Q o H2) → to σ H1 Q
theorem eo_none : EvO tNoPart σ H none := fun H1 _ _ q => q H1 (Same.refl H1)
theorem eo_some {i : Int} (h : EvR te σ H (IsI i)) : EvO (tPart te) σ H (some i) := fun H1 e _ q => h H1 e _ fun v H2 e2 r => ⟨i, r, q H2 e2⟩
def cutP (ps : List Pr) (lo hi : Option Int) : List Pr := (ps.drop (HT.sIx ps.length 0 lo)).take (HT.sIx ps.length ps.length hi - HT.sIx ps.length 0 lo)
theorem PP.cut {vs : List V} {ps : List Pr} (h : PP H vs ps) (lo hi : Option Int) : PP H (cutV vs lo hi) (cutP ps lo hi) := by
  unfold cutV cutP
  rw [h.length]
  exact (h.drop _).take _
theorem er_slL {ps : List Pr} {tl th : TO} {lo hi : Option Int} [MXs ps] (ha : EvR te σ H (LstP ps)) (hl : EvO tl σ H lo) (hh : EvO th σ H hi) : EvR (tSl (rSlL K) te tl th) σ H (LstP (cutP ps lo hi)) := fun H1 e Q q =>
  ha H1 e _ fun v H2 e2 r => hl H2 (e.trans e2) _ fun H3 e3 => hh H3 ((e.trans e2).trans e3) _ fun H4 e4 => by
    obtain ⟨a, vs, h1, h2, h3⟩ := MX.mx (e3.trans e4) r
    exact ⟨a, vs, h1, SqL.of h2, fun p hp => q _ _ (((e2.trans e3).trans e4).trans (Same.new hp)) ⟨p, cutV vs lo hi, rfl, upd_same, (MXs.mx (Same.new hp) h3).cut lo hi⟩⟩
theorem cutP_to {ps : List Pr} {n : Nat} (h : n ≤ ps.length) : cutP ps none (some (n : Int)) = ps.take n := by
  unfold cutP
  rw [HT.sIx_none, HT.sIx_nat, List.drop_zero, Nat.min_eq_left h, Nat.sub_zero]
theorem cutP_from {ps : List Pr} {n : Nat} (h : n ≤ ps.length) : cutP ps (some (n : Int)) none = ps.drop n := by
  unfold cutP
  rw [HT.sIx_none, HT.sIx_nat, Nat.min_eq_left h, List.take_of_length_le (by rw [List.length_drop]; exact Nat.le_refl _)]
theorem er_slT {ps : List Pr} {tl th : TO} {lo hi : Option Int} [MXs ps] (ha : EvR te σ H (TupP ps)) (hl : EvO tl σ H lo) (hh : EvO th σ H hi) : EvR (tSl (rSlA K) te tl th) σ H (TupP (cutP ps lo hi)) := fun H1 e Q q =>
  ha H1 e _ fun v H2 e2 r => hl H2 (e.trans e2) _ fun H3 e3 => hh H3 ((e.trans e2).trans e3) _ fun H4 e4 => by
    obtain ⟨a, vs, h1, h2, h3⟩ := MX.mx (e3.trans e4) r
    refine ⟨a, vs, h1, SqT.of h2, fun c => ?_, fun _ p hp => q _ _ (((e2.trans e3).trans e4).trans (Same.new hp)) ⟨p, cutV vs lo hi, rfl, upd_same, (MXs.mx (Same.new hp) h3).cut lo hi⟩⟩
    refine q _ _ ((e2.trans e3).trans e4) ⟨a, vs, rfl, h2, ?_⟩
    have l := h3.length
    have e5 : cutP ps lo hi = ps := by
      unfold cutP
      rw [← l, c.1, c.2, List.drop_zero, Nat.sub_zero, List.take_of_length_le (by omega)]
    rw [e5]
    exact h3
/-! calls of the program's own defs -/
/-- a promise without effect: the arguments are so, then what comes is so -/
def PSp {ι : Type} (A : ι → List Pr) (C : ι → Prop) (R : ι → Pr) : Sp := fun vs H Q _ => ∃ i, PP H vs (A i) ∧ C i ∧ ∀ v H', Same H H' → R i H' v → Q v H'
theorem er_call {ι : Type} {A : ι → List Pr} {C : ι → Prop} {R : ι → Pr} {E : XK} {ts : TA} (i : ι) (ha : EvA ts σ H (A i)) (hc : C i) : EvR (tCall (PSp A C R) [] E ts) σ H (R i) := fun H1 e Q q =>
  ha H1 e _ fun vs H2 e2 r => ⟨i, by rw [List.append_nil]; exact r, hc, fun v H3 e3 r3 => q v H3 (e2.trans e3) r3⟩
/-! built-ins -/
theorem er_lenL {ps : List Pr} [MXs ps] (ha : EvR ta σ H (LstP ps)) : EvR (tCB (fun xs H Q => ∃ p ys, xs = [.ref p] ∧ (SqL K H p ys ∨ SqT K H p ys) ∧ Q (.int ys.length) H) (tCons ta tNil)) σ H (IsI (ps.length : Int)) := fun H1 e Q q =>
  (ea1 ha) H1 e _ fun vs H2 e2 r => by
    obtain ⟨v, rfl, a, ws, rfl, h2, h3⟩ := r.one
    exact ⟨a, ws, rfl, .inl (SqL.of h2), q _ _ e2 (by rw [h3.length]; exact rfl)⟩
theorem er_lenT {ps : List Pr} [MXs ps] (ha : EvR ta σ H (TupP ps)) : EvR (tCB (fun xs H Q => ∃ p ys, xs = [.ref p] ∧ (SqL K H p ys ∨ SqT K H p ys) ∧ Q (.int ys.length) H) (tCons ta tNil)) σ H (IsI (ps.length : Int)) := fun H1 e Q q =>
  (ea1 ha) H1 e _ fun vs H2 e2 r => by
    obtain ⟨v, rfl, a, ws, rfl, h2, h3⟩ := r.one
    exact ⟨a, ws, rfl, .inr (SqT.of h2), q _ _ e2 (by rw [h3.length]; exact rfl)⟩
theorem er_lenLO {α : Type} {R : α → Pr} [∀ x, MX (R x)] {xs : List α} (ha : EvR ta σ H (LstOf R xs)) : EvR (tCB (fun xs H Q => ∃ p ys, xs = [.ref p] ∧ (SqL K H p ys ∨ SqT K H p ys) ∧ Q (.int ys.length) H) (tCons ta tNil)) σ H (IsI (xs.length : Int)) :=
  (er_lenL ha).is (by rw [List.length_map])
theorem er_lenTO {α : Type} {R : α → Pr} [∀ x, MX (R x)] {xs : List α} (ha : EvR ta σ H (TupOf R xs)) : EvR (tCB (fun xs H Q => ∃ p ys, xs = [.ref p] ∧ (SqL K H p ys ∨ SqT K H p ys) ∧ Q (.int ys.length) H) (tCons ta tNil)) σ H (IsI (xs.length : Int)) :=
  (er_lenT ha).is (by rw [List.length_map])
/-- tuple(list) -/
theorem er_tuple {ps : List Pr} [MXs ps] (ha : EvR ta σ H (LstP ps)) : EvR (tCB (fun xs H Q => ∃ p ys, xs = [.ref p] ∧ ((SqL K H p ys ∧ ∀ l, H l = none → Q (.ref l) (upd H l (.tup ys))) ∨ (SqT K H p ys ∧ Q (.ref p) H))) (tCons ta tNil)) σ H (TupP ps) := fun H1 e Q q =>
  (ea1 ha) H1 e _ fun vs H2 e2 r => by
    obtain ⟨v, rfl, a, ws, rfl, h2, h3⟩ := r.one
    exact ⟨a, ws, rfl, .inl ⟨SqL.of h2, fun p hp => q _ _ (e2.trans (Same.new hp)) ⟨p, ws, rfl, upd_same, MXs.mx (Same.new hp) h3⟩⟩⟩
theorem pp_ints : ∀ {ns : List Int} {vs : List V}, PP H vs (ns.map IsI) → vs = ns.map V.int
  | [], [], _ => rfl
  | _ :: _, _ :: _, ⟨h1, h2⟩ => by rw [(show _ = _ from h1), pp_ints h2]; rfl
theorem pp_bls : ∀ {bs : List Bool} {vs : List V}, PP H vs (bs.map IsB) → vs = bs.map V.bl
  | [], [], _ => rfl
  | _ :: _, _ :: _, ⟨h1, h2⟩ => by rw [(show _ = _ from h1), pp_bls h2]; rfl
theorem er_sum {ns : List Int} (ha : EvR ta σ H (LstOf IsI ns)) : EvR (tCB (rSum K) (tCons ta tNil)) σ H (IsI ns.sum) := fun H1 e Q q =>
  (ea1 ha) H1 e _ fun vs H2 e2 r => by
    obtain ⟨v, rfl, a, ws, rfl, h2, h3⟩ := r.one
    exact ⟨a, ns, rfl, SqL.of (by rw [h2, pp_ints h3]), q _ _ e2 rfl⟩
theorem er_all {bs : List Bool} (ha : EvR ta σ H (LstOf IsB bs)) : EvR (tCB (rAll K) (tCons ta tNil)) σ H (IsB (bs.all id)) := fun H1 e Q q =>
  (ea1 ha) H1 e _ fun vs H2 e2 r => by
    obtain ⟨v, rfl, a, ws, rfl, h2, h3⟩ := r.one
    exact ⟨a, bs, rfl, SqL.of (by rw [h2, pp_bls h3]), q _ _ e2 rfl⟩
end
end K43
set_option Elab.async false
set_option linter.all false
set_option maxRecDepth 100000
set_option maxHeartbeats 4000000
/-! # KB2: what is walked, comprehensions, statements, loops -/
namespace K43
open PySem PySem.Spec PyProof.Rows L2 RZ
section
variable {K : PySem.W.Frag} {σ : L2.St} {H H' : Hp} {ta tb te tx : TE} {t u : TT} {R S : Pr} {x y : V}
/-! ### what is walked -/
def EvI {α : Type} (Rel : Hp → Hp → Prop) (wi : TI) (σ : L2.St) (H : Hp) (xs : List α) (RA : α → Pr) : Prop :=
  ∀ H1, Same H H1 → ∀ Rk : It → Hp → Prop, (∀ (J : It) (H2 : Hp) (G : Hp → Prop) (Y : Nat → Hp → V → Hp → Prop), Same H1 H2 → Walk J xs.length G Y → (∀ Hx, Rel H2 Hx → G Hx) →
    (∀ i x Hx v H', xs[i]? = some x → Rel H2 Hx → Y i Hx v H' → Same Hx H' ∧ RA x H' v) → Rk J H2) → wi σ H1 Rk
theorem map_get {α β : Type} {f : α → β} {xs : List α} {i : Nat} {x : α} (h : xs[i]? = some x) : (xs.map f)[i]? = some (f x) := by rw [List.getElem?_map, h]; rfl
/-- a tuple -/
theorem ei_tup {α : Type} {RA : α → Pr} {xs : List α} [∀ x, MF (RA x)] (h : EvR ta σ H (TupOf RA xs)) : EvI FK (iTup K ta) σ H xs RA := fun H1 e Rk q =>
  h H1 e _ fun v H2 e2 ⟨a, vs, h1, h2, h3⟩ => ⟨a, h1, ⟨vs, SqT.of h2⟩, by
    have l : xs.length = vs.length := by rw [h3.length, List.length_map]
    refine q _ H2 _ _ e2 (l ▸ walk_tup (K := K) (a := a) (xs := vs)) (fun Hx f => SqT.of (f a _ True.intro h2)) (fun i x Hx v H' hx f ⟨y1, y2⟩ => ?_)
    obtain ⟨w, g1, g2⟩ := h3.get (map_get hx)
    rw [g1] at y2
    cases y2
    subst y1
    exact ⟨Same.refl _, MF.mf f g2⟩⟩
theorem ei_tupX {α : Type} {RA : α → Pr} {xs : List α} [∀ x, MX (RA x)] (h : EvR ta σ H (TupOf RA xs)) : EvI Same (iTup K ta) σ H xs RA := fun H1 e Rk q =>
  h H1 e _ fun v H2 e2 ⟨a, vs, h1, h2, h3⟩ => ⟨a, h1, ⟨vs, SqT.of h2⟩, by
    have l : xs.length = vs.length := by rw [h3.length, List.length_map]
    refine q _ H2 _ _ e2 (l ▸ walk_tup (K := K) (a := a) (xs := vs)) (fun Hx f => SqT.of (f a _ h2)) (fun i x Hx v H' hx f ⟨y1, y2⟩ => ?_)
    obtain ⟨w, g1, g2⟩ := h3.get (map_get hx)
    rw [g1] at y2
    cases y2
    subst y1
    exact ⟨Same.refl _, MX.mx f g2⟩⟩
/-- a list -/
theorem ei_lstX {α : Type} {RA : α → Pr} {xs : List α} [∀ x, MX (RA x)] (h : EvR ta σ H (LstOf RA xs)) : EvI Same (iList K ta) σ H xs RA := fun H1 e Rk q =>
  h H1 e _ fun v H2 e2 ⟨a, vs, h1, h2, h3⟩ => ⟨a, h1, ⟨vs, SqL.of h2⟩, by
    have l : xs.length = vs.length := by rw [h3.length, List.length_map]
    refine q _ H2 _ _ e2 (l ▸ walk_list (K := K) (a := a) (xs := vs)) (fun Hx f => SqL.of (f a _ h2)) (fun i x Hx v H' hx f ⟨y1, y2⟩ => ?_)
    obtain ⟨w, g1, g2⟩ := h3.get (map_get hx)
    rw [g1] at y2
    cases y2
    subst y1
    exact ⟨Same.refl _, MX.mx f g2⟩⟩
/-- range(n) -/
theorem ei_rng {Rel : Hp → Hp → Prop} {ts : TA} {n : Int} (h : EvA ts σ H [IsI n]) (h1 : n ≤ 1000000) (h0 : 0 ≤ n) : EvI Rel (iRng1 ts) σ H (List.range n.toNat) (fun i => IsI ((i : Nat) : Int)) := fun H1 e Rk q =>
  h H1 e _ fun vs H2 e2 r => by
    obtain ⟨v, rfl, r2⟩ := r.one
    obtain rfl : v = V.int n := r2
    refine ⟨n, rfl, by omega, by omega, ?_⟩
    have wk : Walk (Itr 0 n.toNat) (List.range n.toNat).length (fun _ => True) (YFn fun i => .int (0 + (i : Int))) := by rw [List.length_range]; exact walk_range
    refine q _ H2 _ _ e2 wk (fun _ _ => True.intro) (fun i x Hx v H' hx f ⟨y1, y2⟩ => ?_)
    have hx' : i = x := by
      have h3 := List.getElem?_eq_some_iff.mp hx
      obtain ⟨h4, h5⟩ := h3
      rw [List.getElem_range] at h5
      exact h5
    subst hx' y1 y2
    exact ⟨Same.refl _, show V.int (0 + (i : Int)) = V.int (i : Int) by rw [Int.zero_add]⟩
/-- pairs, new ones -/
def PairP {α β : Type} (RA : α → Pr) (RB : β → Pr) : α × β → Pr := fun p => TupP [RA p.1, RB p.2]
instance {α β : Type} {RA : α → Pr} {RB : β → Pr} {p : α × β} [∀ x, MF (RA x)] [∀ x, MF (RB x)] : MF (PairP RA RB p) := inferInstanceAs (MF (TupP [RA p.1, RB p.2]))
instance {α β : Type} {RA : α → Pr} {RB : β → Pr} {p : α × β} [∀ x, MX (RA x)] [∀ x, MX (RB x)] : MX (PairP RA RB p) := inferInstanceAs (MX (TupP [RA p.1, RB p.2]))
theorem walk_zipT {a b : Addr} {xs ys : List V} {n : Nat} (hn : n = min xs.length ys.length) : Walk (ItzT K a b) n (fun H => SqT K H a xs ∧ SqT K H b ys) (YPair (fun i => xs[i]?) (fun i => ys[i]?)) := by
  subst hn
  refine ⟨fun i _ hi q => ?_, fun _ q => ⟨xs, ys, q.1, q.2, by omega⟩, fun i H v H' _ q y => ?_⟩
  · have h1 : i < xs.length := by omega
    have h2 : i < ys.length := by omega
    exact ⟨xs, ys, xs[i], ys[i], q.1, q.2, by simp [h1], by simp [h2]⟩
  · obtain ⟨T, x, z, h1, h2, h3, h4, h5⟩ := y
    exact ⟨T, x, z, h1, h2, h3, h4 xs q.1, h5 ys q.2⟩
theorem zip_get {α β : Type} : ∀ {xs : List α} {ys : List β} {i : Nat} {p : α × β}, (xs.zip ys)[i]? = some p → xs[i]? = some p.1 ∧ ys[i]? = some p.2
  | [], _, _, _, h => by simp at h
  | _ :: _, [], _, _, h => by simp at h
  | _ :: _, _ :: _, 0, _, h => by simp at h; subst h; simp
  | x :: xs, y :: ys, i + 1, p, h => by
    have := zip_get (xs := xs) (ys := ys) (i := i) (p := p) (by simpa using h)
    simpa using this
/-- zip of two tuples -/
theorem ei_zipT {α β : Type} {RA : α → Pr} {RB : β → Pr} {xs : List α} {ys : List β} [∀ x, MF (RA x)] [∀ x, MF (RB x)] {ts : TA} (h : EvA ts σ H [TupOf RA xs, TupOf RB ys]) : EvI FK (iZipA K ts) σ H (xs.zip ys) (PairP RA RB) := fun H1 e Rk q =>
  h H1 e _ fun vs H2 e2 r => by
    obtain ⟨v, w, rfl, ⟨a, xs', rfl, h2, h3⟩, ⟨b, ys', rfl, g2, g3⟩⟩ := r.two
    have l : (xs.zip ys).length = min xs'.length ys'.length := by rw [List.length_zip, h3.length, g3.length, List.length_map, List.length_map]
    refine ⟨a, b, xs', ys', rfl, .inr ⟨SqT.of h2, SqT.of g2, ?_⟩⟩
    refine q _ H2 _ _ e2 (walk_zipT l) (fun Hx f => ⟨SqT.of (f a _ True.intro h2), SqT.of (f b _ True.intro g2)⟩) (fun i x Hx v H' hx f ⟨T, z1, z2, y1, y2, y3, y4, y5⟩ => ?_)
    obtain ⟨x1, x2⟩ := zip_get hx
    obtain ⟨w1, k1, k2⟩ := h3.get (map_get x1)
    obtain ⟨w2, m1, m2⟩ := g3.get (map_get x2)
    rw [show xs'[i]? = some z1 from y4] at k1
    rw [show ys'[i]? = some z2 from y5] at m1
    cases k1
    cases m1
    subst y1 y3
    have s := Same.new (o := .tup [z1, z2]) y2
    exact ⟨s, T, _, rfl, upd_same, MF.mf (Same.fk s) (MF.mf f k2), MF.mf (Same.fk s) (MF.mf f m2), True.intro⟩
/-- a target -/
def EvG (g : TG) (v : V) (σ : L2.St) (H : Hp) (P : L2.St → Prop) : Prop := ∀ Q : L2.St → Hp → Prop, (∀ σ2, P σ2 → Q σ2 H) → g v σ H Q
theorem eg_name {i : Nat} {v : V} {P : L2.St → Prop} (h : P (σ.set i (some v))) : EvG (gName i) v σ H P := fun _ q => q _ h
theorem eg_tup1 {i : Nat} {v : V} {p1 : Pr} {P : L2.St → Prop} (r : TupP [p1] H v) (h : ∀ v1, p1 H v1 → P (σ.set i (some v1))) : EvG (gTup K 1 (gCons (gName i) gNil)) v σ H P := fun Q q => by
  obtain ⟨a, vs, rfl, h2, h3⟩ := r
  obtain ⟨v1, rfl, r1⟩ := h3.one
  exact ⟨a, _, rfl, SqT.of h2, rfl, v1, _, rfl, rfl, q _ (h v1 r1)⟩
theorem eg_tup2 {i j : Nat} {v : V} {p1 p2 : Pr} {P : L2.St → Prop} (r : TupP [p1, p2] H v) (h : ∀ v1 v2, p1 H v1 → p2 H v2 → P ((σ.set i (some v1)).set j (some v2))) : EvG (gTup K 2 (gCons (gName i) (gCons (gName j) gNil))) v σ H P := fun Q q => by
  obtain ⟨a, vs, rfl, h2, h3⟩ := r
  obtain ⟨v1, v2, rfl, r1, r2⟩ := h3.two
  exact ⟨a, _, rfl, SqT.of h2, rfl, v1, _, rfl, v2, _, rfl, rfl, q _ (h v1 v2 r1 r2)⟩
theorem eg_tup3 {i j k : Nat} {v : V} {p1 p2 p3 : Pr} {P : L2.St → Prop} (r : TupP [p1, p2, p3] H v) (h : ∀ v1 v2 v3, p1 H v1 → p2 H v2 → p3 H v3 → P (((σ.set i (some v1)).set j (some v2)).set k (some v3))) :
    EvG (gTup K 3 (gCons (gName i) (gCons (gName j) (gCons (gName k) gNil)))) v σ H P := fun Q q => by
  obtain ⟨a, vs, rfl, h2, h3⟩ := r
  obtain ⟨v1, v2, v3, rfl, r1, r2, r3⟩ := h3.three
  exact ⟨a, _, rfl, SqT.of h2, rfl, v1, _, rfl, v2, _, rfl, v3, _, rfl, rfl, q _ (h v1 v2 v3 r1 r2 r3)⟩
theorem eg_tup4 {i j k l : Nat} {v : V} {p1 p2 p3 p4 : Pr} {P : L2.St → Prop} (r : TupP [p1, p2, p3, p4] H v) (h : ∀ v1 v2 v3 v4, p1 H v1 → p2 H v2 → p3 H v3 → p4 H v4 → P ((((σ.set i (some v1)).set j (some v2)).set k (some v3)).set l (some v4))) :
    EvG (gTup K 4 (gCons (gName i) (gCons (gName j) (gCons (gName k) (gCons (gName l) gNil))))) v σ H P := fun Q q => by
  obtain ⟨a, vs, rfl, h2, h3⟩ := r
  obtain ⟨v1, v2, v3, v4, rfl, r1, r2, r3, r4⟩ := h3.four
  exact ⟨a, _, rfl, SqT.of h2, rfl, v1, _, rfl, v2, _, rfl, v3, _, rfl, v4, _, rfl, rfl, q _ (h v1 v2 v3 v4 r1 r2 r3 r4)⟩

/-! ### comprehensions -/
theorem take_snoc {α : Type} {xs : List α} {i : Nat} {x : α} (h : xs[i]? = some x) : xs.take (i + 1) = xs.take i ++ [x] := by
  rw [List.take_add_one, h]
  rfl
theorem er_lc {α β : Type} {RA : α → Pr} {RB : β → Pr} [∀ y, MF (RB y)] {wi : TI} {g : TG} {vs : List Nat} {xs : List α} (c : α → Bool) (f : α → β) (hi : EvI Same wi σ H xs RA) (hz : xs.length ≤ 100000)
    (hb : ∀ x v H1, x ∈ xs → Same H H1 → RA x H1 v → EvG g v (wipe σ vs) H1 fun σ2 => wipe σ2 vs = wipe σ vs ∧ EvB t σ2 H1 (c x) ∧ (c x = true → EvR te σ2 H1 (RB (f x)))) :
    EvR (tLc wi g t te vs) σ H (LstOf RB ((xs.filter c).map f)) := fun H0 e0 Q q => hi H0 e0 _ fun J H1 G Y e1 w hG hY D hD => by
  refine lc_it w (fun i Hc => Same H1 Hc ∧ ∃ acc, Hc D = some (.lst acc) ∧ acc.length ≤ i ∧ PP Hc acc ((((xs.take i).filter c).map f).map RB)) ⟨Same.new hD, [], upd_same, Nat.le_refl _, True.intro⟩ (fun i Hc _ p => hG Hc p.1) ?_ ?_
  · rintro i v Hc Hx hlt ⟨s1, acc, hD1, hl, ha⟩ hy
    have hx : xs[i]? = some xs[i] := List.getElem?_eq_getElem hlt
    obtain ⟨s2, r⟩ := hY i _ Hc v Hx hx s1 hy
    refine hb xs[i] v Hx (List.getElem_mem hlt) (e0.trans (e1.trans (s1.trans s2))) r _ fun σ2 ⟨hw, hbt, hbe⟩ => ⟨hw, ?_⟩
    refine hbt Hx (Same.refl _) _ fun H3 s3 => ?_
    have ht := take_snoc hx
    cases hc : c xs[i] with
    | true =>
      refine hbe hc H3 s3 _ fun y H4 s4 r4 => ⟨acc, s4 D _ (s3 D _ (s2 D _ hD1)), by rw [sizeLine_eq]; omega, (s1.trans (s2.trans (s3.trans s4))).mut hD, acc ++ [y], upd_same, by rw [List.length_append]; exact Nat.succ_le_succ hl, ?_⟩
      have fk : FK H4 (upd H4 D (.lst (acc ++ [y]))) := FK.upd (s4 D _ (s3 D _ (s2 D _ hD1))) fun z => z
      rw [ht, List.filter_append, List.map_append, List.map_append, List.filter_cons, if_pos hc]
      refine PP.append ?_ ⟨MF.mf fk r4, True.intro⟩
      exact MFs.mf fk (MFs.mf (Same.fk (s2.trans (s3.trans s4))) ha)
    | false =>
      refine ⟨s1.trans (s2.trans s3), acc, s3 D _ (s2 D _ hD1), by omega, ?_⟩
      rw [ht, List.filter_append, List.filter_cons, if_neg (by rw [hc]; decide), List.filter_nil, List.append_nil]
      exact MFs.mf (Same.fk (s2.trans s3)) ha
  · rintro Hc ⟨s1, acc, hD1, hl, ha⟩
    refine q _ Hc (e1.trans s1) ⟨D, acc, rfl, hD1, ?_⟩
    rw [List.take_of_length_le (Nat.le_refl _)] at ha
    exact ha
/-- without a test -/
theorem eb_yes : EvB tYes σ H true := fun H1 _ _ q => q H1 (Same.refl H1)
theorem er_lcM {α β : Type} {RA : α → Pr} {RB : β → Pr} [∀ y, MF (RB y)] {wi : TI} {g : TG} {vs : List Nat} {xs : List α} (f : α → β) (hi : EvI Same wi σ H xs RA) (hz : xs.length ≤ 100000)
    (hb : ∀ x v H1, x ∈ xs → Same H H1 → RA x H1 v → EvG g v (wipe σ vs) H1 fun σ2 => wipe σ2 vs = wipe σ vs ∧ EvR te σ2 H1 (RB (f x))) :
    EvR (tLc wi g tYes te vs) σ H (LstOf RB (xs.map f)) := by
  have h := er_lc (t := tYes) (fun _ => true) f hi hz fun x v H1 hx e r Q q => hb x v H1 hx e r Q fun σ2 ⟨h1, h2⟩ => q σ2 ⟨h1, eb_yes, fun _ => h2⟩
  rw [List.filter_eq_self.mpr (fun _ _ => rfl)] at h
  exact h
theorem EvI.same {α : Type} {RA : α → Pr} {wi : TI} {xs : List α} (h : EvI FK wi σ H xs RA) : EvI Same wi σ H xs RA := fun H1 e Rk q => h H1 e Rk fun J H2 G Y e2 w hG hY =>
  q J H2 G Y e2 w (fun Hx f => hG Hx (Same.fk f)) fun i x Hx v H' hx f => hY i x Hx v H' hx (Same.fk f)

/-! ### statements -/
variable {D : Ends} {tu tw tz : TS} {g : TG}
theorem q_set {i : Nat} (h : EvR te σ H R) (k : ∀ v H1, Same H H1 → R H1 v → tz D (σ.set i (some v)) H1) : tSeq (tAsg te (gName i)) tz D σ H := h H (Same.refl H) _ fun v H1 e r => k v H1 e r
theorem s_set {i : Nat} (h : EvR te σ H R) (k : ∀ v H1, Same H H1 → R H1 v → D.nx (σ.set i (some v)) H1) : tAsg te (gName i) D σ H := h H (Same.refl H) _ fun v H1 e r => k v H1 e r
theorem q_asg (h : EvR te σ H R) (k : ∀ v H1, Same H H1 → R H1 v → EvG g v σ H1 fun σ2 => tz D σ2 H1) : tSeq (tAsg te g) tz D σ H := h H (Same.refl H) _ fun v H1 e r => k v H1 e r _ fun _ q => q
theorem s_asg (h : EvR te σ H R) (k : ∀ v H1, Same H H1 → R H1 v → EvG g v σ H1 fun σ2 => D.nx σ2 H1) : tAsg te g D σ H := h H (Same.refl H) _ fun v H1 e r => k v H1 e r _ fun _ q => q
theorem s_ret (h : EvR te σ H R) (k : ∀ v H1, Same H H1 → R H1 v → D.rt v H1) : tRet te D σ H := h H (Same.refl H) _ fun v H1 e r => k v H1 e r
theorem q_drop (h : EvR te σ H R) (k : ∀ H1, Same H H1 → tz D σ H1) : tSeq (tDrop te) tz D σ H := h H (Same.refl H) _ fun _ H1 e _ => k H1 e
theorem s_drop (h : EvR te σ H R) (k : ∀ H1, Same H H1 → D.nx σ H1) : tDrop te D σ H := h H (Same.refl H) _ fun _ H1 e _ => k H1 e
theorem q_if {b : Bool} (h : EvB t σ H b) (h1 : b = true → ∀ H1, Same H H1 → tu { D with nx := tz D } σ H1) (h2 : b = false → ∀ H1, Same H H1 → tw { D with nx := tz D } σ H1) : tSeq (tIfS t tu tw) tz D σ H := h H (Same.refl H) _ fun H1 e => by
  cases b with
  | true => exact h1 rfl H1 e
  | false => exact h2 rfl H1 e
theorem s_if {b : Bool} (h : EvB t σ H b) (h1 : b = true → ∀ H1, Same H H1 → tu D σ H1) (h2 : b = false → ∀ H1, Same H H1 → tw D σ H1) : tIfS t tu tw D σ H := h H (Same.refl H) _ fun H1 e => by
  cases b with
  | true => exact h1 rfl H1 e
  | false => exact h2 rfl H1 e
theorem q_when {b : Bool} (h : EvB t σ H b) (h1 : b = true → ∀ H1, Same H H1 → tu { D with nx := tz D } σ H1) (h2 : b = false → ∀ H1, Same H H1 → tz D σ H1) : tSeq (tIfS t tu tNext) tz D σ H := q_if h h1 h2
theorem s_when {b : Bool} (h : EvB t σ H b) (h1 : b = true → ∀ H1, Same H H1 → tu D σ H1) (h2 : b = false → ∀ H1, Same H H1 → D.nx σ H1) : tIfS t tu tNext D σ H := s_if h h1 h2
/-- l.append(e), l a list of one's own -/
theorem q_app {l : Addr} {xs : List V} {i : Nat} (hl : H l = some (.lst xs)) (h : EvR te σ H R) (hz : xs.length < 100000) (k : ∀ v H1, Same H H1 → R H1 v → tz D σ (upd H1 l (.lst (xs ++ [v])))) (hi : σ[i]? = some (some (.ref l)) := by rfl) :
    tSeq (tDrop (tBM K "list" rAppend (tVar i) (tCons te tNil))) tz D σ H :=
  ⟨_, hi, .inl ⟨rfl, _, .inl (.inl hl)⟩, h H (Same.refl H) _ fun v H1 e r => ⟨l, xs, v, rfl, rfl, e l _ hl, by rw [sizeLine_eq]; omega, k v H1 e r⟩⟩
theorem s_app {l : Addr} {xs : List V} {i : Nat} (hl : H l = some (.lst xs)) (h : EvR te σ H R) (hz : xs.length < 100000) (k : ∀ v H1, Same H H1 → R H1 v → D.nx σ (upd H1 l (.lst (xs ++ [v])))) (hi : σ[i]? = some (some (.ref l)) := by rfl) :
    tDrop (tBM K "list" rAppend (tVar i) (tCons te tNil)) D σ H :=
  ⟨_, hi, .inl ⟨rfl, _, .inl (.inl hl)⟩, h H (Same.refl H) _ fun v H1 e r => ⟨l, xs, v, rfl, rfl, e l _ hl, by rw [sizeLine_eq]; omega, k v H1 e r⟩⟩
/-- l.extend(a list) -/
theorem s_ext {l : Addr} {xs : List V} {ps : List Pr} {i : Nat} [MXs ps] (hl : H l = some (.lst xs)) (h : EvR te σ H (LstP ps)) (hz : xs.length + ps.length < 100000) (k : ∀ vs H1, Same H H1 → PP H1 vs ps → D.nx σ (upd H1 l (.lst (xs ++ vs)))) (hi : σ[i]? = some (some (.ref l)) := by rfl) :
    tDrop (tBM K "list" rExtend (tVar i) (tCons te tNil)) D σ H :=
  ⟨_, hi, .inl ⟨rfl, _, .inl (.inl hl)⟩, h H (Same.refl H) _ fun v H1 e ⟨b, vs, h1, h2, h3⟩ => ⟨l, b, xs, vs, rfl, by rw [h1], e l _ hl, h2, by have := h3.length; rw [sizeLine_eq]; omega, k vs H1 e h3⟩⟩
/-- l[j] = e -/
theorem ixN_of {n : Nat} {j : Int} (h0 : 0 ≤ j) (h : j < n) : ixN n j = some j.toNat := by
  unfold ixN
  rw [if_pos h0, if_pos h]
theorem q_setL {l : Addr} {xs : List V} {j : Int} {ta tb : TE} (hl : H l = some (.lst xs)) (h : EvR te σ H R) [MX R] (ha : EvR ta σ H (IsV (.ref l))) (hb : EvR tb σ H (IsI j)) (h0 : 0 ≤ j) (hj : j < xs.length) (k : ∀ v H1, Same H H1 → R H1 v → tz D σ (upd H1 l (.lst (xs.set j.toNat v)))) :
    tSeq (tAsg te (gSub ta tb rSetL)) tz D σ H :=
  h H (Same.refl H) _ fun v H1 e r => ha H1 e _ fun o H2 e2 r2 => hb H2 (e.trans e2) _ fun w H3 e3 r3 => ⟨l, xs, j, j.toNat, r2, r3, (e.trans (e2.trans e3)) l _ hl, ixN_of h0 hj, k v H3 (e.trans (e2.trans e3)) (MX.mx (e2.trans e3) r)⟩
theorem s_setL {l : Addr} {xs : List V} {j : Int} {ta tb : TE} (hl : H l = some (.lst xs)) (h : EvR te σ H R) [MX R] (ha : EvR ta σ H (IsV (.ref l))) (hb : EvR tb σ H (IsI j)) (h0 : 0 ≤ j) (hj : j < xs.length) (k : ∀ v H1, Same H H1 → R H1 v → D.nx σ (upd H1 l (.lst (xs.set j.toNat v)))) :
    tAsg te (gSub ta tb rSetL) D σ H :=
  h H (Same.refl H) _ fun v H1 e r => ha H1 e _ fun o H2 e2 r2 => hb H2 (e.trans e2) _ fun w H3 e3 r3 => ⟨l, xs, j, j.toNat, r2, r3, (e.trans (e2.trans e3)) l _ hl, ixN_of h0 hj, k v H3 (e.trans (e2.trans e3)) (MX.mx (e2.trans e3) r)⟩

/-! ### loops -/
/-- a for: Pv by the turn, the slots, the heap; what never changes is carried -/
theorem s_for {α : Type} {RA : α → Pr} {wi : TI} {xs : List α} (hi : EvI FK wi σ H xs RA) (Pv : Nat → L2.St → Hp → Prop) (h0 : ∀ H1, Same H H1 → Pv 0 σ H1)
    (hs : ∀ i x v σ' Hc Hx (N : L2.St → Hp → Prop), xs[i]? = some x → FK H Hc → Pv i σ' Hc → Same Hc Hx → RA x Hx v → (∀ σ3 H3, FK Hx H3 → Pv (i + 1) σ3 H3 → N σ3 H3) → EvG g v σ' Hx fun σ2 => tu { D with nx := N, ct := N, bk := D.nx } σ2 Hx)
    (hd : ∀ σ' Hc, FK H Hc → Pv xs.length σ' Hc → D.nx σ' Hc) : tFor wi g tu D σ H := hi H (Same.refl H) _ fun J H1 G Y e1 w hG hY => by
  refine for_it w (fun i σ' Hc => FK H1 Hc ∧ Pv i σ' Hc) ⟨FK.refl _, h0 H1 e1⟩ (fun i σ' Hc _ p => hG Hc p.1) ?_ ?_
  · rintro i v σ' Hc Hx hlt ⟨f1, p⟩ hy
    have hx : xs[i]? = some xs[i] := List.getElem?_eq_getElem hlt
    obtain ⟨s2, r⟩ := hY i _ Hc v Hx hx f1 hy
    exact hs i xs[i] v σ' Hc Hx _ hx ((Same.fk e1).trans f1) p s2 r (fun σ3 H3 f3 p3 => ⟨(f1.trans (Same.fk s2)).trans f3, p3⟩) _ fun σ2 q => q
  · rintro σ' Hc ⟨f1, p⟩
    exact hd σ' Hc ((Same.fk e1).trans f1) p
theorem q_for {α : Type} {RA : α → Pr} {wi : TI} {xs : List α} (hi : EvI FK wi σ H xs RA) (Pv : Nat → L2.St → Hp → Prop) (h0 : ∀ H1, Same H H1 → Pv 0 σ H1)
    (hs : ∀ i x v σ' Hc Hx (N : L2.St → Hp → Prop), xs[i]? = some x → FK H Hc → Pv i σ' Hc → Same Hc Hx → RA x Hx v → (∀ σ3 H3, FK Hx H3 → Pv (i + 1) σ3 H3 → N σ3 H3) → EvG g v σ' Hx fun σ2 => tu { D with nx := N, ct := N, bk := tz D } σ2 Hx)
    (hd : ∀ σ' Hc, FK H Hc → Pv xs.length σ' Hc → tz D σ' Hc) : tSeq (tFor wi g tu) tz D σ H := s_for (D := { D with nx := tz D }) hi Pv h0 hs hd
/-- a for over a list that stands while the loop goes -/
theorem s_forL {α : Type} {RA : α → Pr} {xs : List α} [∀ x, MF (RA x)] (h : EvR ta σ H (LstOf RA xs)) (Pv : Addr → List V → Nat → L2.St → Hp → Prop)
    (h0 : ∀ a vs H1, Same H H1 → H1 a = some (.lst vs) → PP H1 vs (xs.map RA) → Pv a vs 0 σ H1) (hl : ∀ a vs i σ' Hc, i ≤ xs.length → Pv a vs i σ' Hc → Hc a = some (.lst vs))
    (hs : ∀ a vs i x v σ' Hc (N : L2.St → Hp → Prop), xs[i]? = some x → FK H Hc → Pv a vs i σ' Hc → RA x Hc v → (∀ σ3 H3, FK Hc H3 → Pv a vs (i + 1) σ3 H3 → N σ3 H3) → EvG g v σ' Hc fun σ2 => tu { D with nx := N, ct := N, bk := D.nx } σ2 Hc)
    (hd : ∀ a vs σ' Hc, FK H Hc → Pv a vs xs.length σ' Hc → D.nx σ' Hc) : tFor (iList K ta) g tu D σ H := h H (Same.refl H) _ fun v H1 e1 ⟨a, vs, h1, h2, h3⟩ => ⟨a, h1, ⟨vs, SqL.of h2⟩, by
  have l : xs.length = vs.length := by rw [h3.length, List.length_map]
  refine for_it (l ▸ walk_list (K := K) (a := a) (xs := vs)) (fun i σ' Hc => FK H1 Hc ∧ Pv a vs i σ' Hc) ⟨FK.refl _, h0 a vs H1 e1 h2 h3⟩ (fun i σ' Hc hi p => SqL.of (hl a vs i σ' Hc hi p.2)) ?_ ?_
  · rintro i w σ' Hc Hx hlt ⟨f1, p⟩ ⟨rfl, hw⟩
    have hx : xs[i]? = some xs[i] := List.getElem?_eq_getElem hlt
    obtain ⟨w', g1, g2⟩ := h3.get (map_get hx)
    rw [g1] at hw
    cases hw
    exact hs a vs i xs[i] _ σ' Hx _ hx ((Same.fk e1).trans f1) p (MF.mf f1 g2) (fun σ3 H3 f3 p3 => ⟨f1.trans f3, p3⟩) _ fun σ2 q => q
  · rintro σ' Hc ⟨f1, p⟩
    exact hd a vs σ' Hc ((Same.fk e1).trans f1) p⟩
theorem q_forL {α : Type} {RA : α → Pr} {xs : List α} [∀ x, MF (RA x)] (h : EvR ta σ H (LstOf RA xs)) (Pv : Addr → List V → Nat → L2.St → Hp → Prop)
    (h0 : ∀ a vs H1, Same H H1 → H1 a = some (.lst vs) → PP H1 vs (xs.map RA) → Pv a vs 0 σ H1) (hl : ∀ a vs i σ' Hc, i ≤ xs.length → Pv a vs i σ' Hc → Hc a = some (.lst vs))
    (hs : ∀ a vs i x v σ' Hc (N : L2.St → Hp → Prop), xs[i]? = some x → FK H Hc → Pv a vs i σ' Hc → RA x Hc v → (∀ σ3 H3, FK Hc H3 → Pv a vs (i + 1) σ3 H3 → N σ3 H3) → EvG g v σ' Hc fun σ2 => tu { D with nx := N, ct := N, bk := tz D } σ2 Hc)
    (hd : ∀ a vs σ' Hc, FK H Hc → Pv a vs xs.length σ' Hc → tz D σ' Hc) : tSeq (tFor (iList K ta) g tu) tz D σ H := s_forL (D := { D with nx := tz D }) h Pv h0 hl hs hd
/-- a while -/
theorem s_while (W : Nat → L2.St → Hp → Prop) (m0 : Nat) (h0 : W m0 σ H)
    (hs : ∀ m σ' H', W m σ' H' → ∃ b, EvB t σ' H' b ∧ (b = true → ∀ H1, Same H' H1 → ∀ N : L2.St → Hp → Prop, (∀ m' σ2 H2, m' < m → W m' σ2 H2 → N σ2 H2) → tu { D with nx := N, ct := N, bk := D.nx } σ' H1) ∧ (b = false → ∀ H1, Same H' H1 → D.nx σ' H1)) : tWhile t tu D σ H := by
  refine ⟨W, ⟨m0, h0⟩, fun m σ' H' w => ?_⟩
  obtain ⟨b, hb, h1, h2⟩ := hs m σ' H' w
  refine hb H' (Same.refl _) _ fun H1 e1 => ?_
  cases b with
  | true => exact ⟨_, fun σ2 H2 n => n, h1 rfl H1 e1 _ fun m' σ2 H2 l w2 => ⟨m', l, w2⟩⟩
  | false => exact h2 rfl H1 e1
theorem q_while (W : Nat → L2.St → Hp → Prop) (m0 : Nat) (h0 : W m0 σ H)
    (hs : ∀ m σ' H', W m σ' H' → ∃ b, EvB t σ' H' b ∧ (b = true → ∀ H1, Same H' H1 → ∀ N : L2.St → Hp → Prop, (∀ m' σ2 H2, m' < m → W m' σ2 H2 → N σ2 H2) → tu { D with nx := N, ct := N, bk := tz D } σ' H1) ∧ (b = false → ∀ H1, Same H' H1 → tz D σ' H1)) : tSeq (tWhile t tu) tz D σ H :=
  s_while (D := { D with nx := tz D }) W m0 h0 hs
end
end K43
set_option Elab.async false
set_option linter.all false
set_option maxRecDepth 100000
set_option maxHeartbeats 4000000
/-! # KB3: the layer's rules with the written part named -/
namespace K43
open PySem PySem.Spec PyProof.Rows L2 RZ
section
variable {X : Cx} (K : PySem.W.Frag)
theorem kx_ixL (h : X.K = K := by rfl) : IxR X (rIxL K) := h ▸ ix_list
theorem kx_ixT (h : X.K = K := by rfl) : IxR X (rIxT K) := h ▸ ix_tup
theorem kx_catA (h : X.K = K := by rfl) : OpR X (binaryOp .Add) (rCatA K) := h ▸ op_catA
theorem kx_in (h : X.K = K := by rfl) : OpR X (compareOp .In) (rIn K false) := h ▸ op_in_seq
theorem kx_notIn (h : X.K = K := by rfl) : OpR X (compareOp .NotIn) (rIn K true) := h ▸ op_notIn_seq
theorem kx_eqD (hu : X.A.units + 64 < cLine) (h : X.K = K := by rfl) : OpR X (compareOp .Eq) (rEqD K) := h ▸ op_eqD hu
theorem kx_neD (hu : X.A.units + 64 < cLine) (h : X.K = K := by rfl) : OpR X (compareOp .NotEq) (rNeD K) := h ▸ op_neD hu
/-- what the built-ins ask, by name -/
def rLenQ (K : PySem.W.Frag) : List V → Hp → VK → Prop := fun xs H Q => ∃ p ys, xs = [.ref p] ∧ (SqL K H p ys ∨ SqT K H p ys) ∧ Q (.int ys.length) H
def rTupQ (K : PySem.W.Frag) : List V → Hp → VK → Prop := fun xs H Q => ∃ p ys, xs = [.ref p] ∧ ((SqL K H p ys ∧ ∀ l, H l = none → Q (.ref l) (upd H l (.tup ys))) ∨ (SqT K H p ys ∧ Q (.ref p) H))
def rLstQ (K : PySem.W.Frag) : List V → Hp → VK → Prop := fun xs H Q => ∃ p ys, xs = [.ref p] ∧ (SqL K H p ys ∨ SqT K H p ys) ∧ ∀ l, H l = none → Q (.ref l) (upd H l (.lst ys))
theorem kx_len (h : X.K = K := by rfl) : CallR X (.builtin "len") (rLenQ K) := h ▸ call_len_seq
theorem kx_tuple (h : X.K = K := by rfl) : CallR X (.type "tuple") (rTupQ K) := h ▸ call_tuple_of
theorem kx_list (h : X.K = K := by rfl) : CallR X (.type "list") (rLstQ K) := h ▸ call_list_of
theorem kx_sum (hc : X.calm = true) (h : X.K = K := by rfl) : CallR X (.builtin "sum") (rSum K) := h ▸ cr_sum hc
theorem kx_all (hc : X.calm = true) (h : X.K = K := by rfl) : CallR X (.builtin "all") (rAll K) := h ▸ cr_all hc
theorem kx_min (hc : X.calm = true) (h : X.K = K := by rfl) : CallR X (.builtin "min") (rMin K) := h ▸ cr_min hc
theorem kx_isi (h : X.K = K := by rfl) : CallR X (.builtin "isinstance") (rIsi K) := h ▸ call_isi
theorem kx_slL (h : X.K = K := by rfl) : SlR X (rSlL K) := h ▸ sl_list
theorem kx_slT (h : X.K = K := by rfl) : SlR X (rSlA K) := h ▸ sl_tupA
theorem kx_index (h : X.K = K := by rfl) : MtR X "list.index" (rIndex K) := h ▸ mt_index
variable {tg l : Expr} {tl : TE} {ta : TA} {p pos apos cpos tpos : Pos}
theorem kx_pi_list (hl : PE X l tl) (h : X.K = K := by rfl) : PI X tg l (iList K tl) := h ▸ pi_list hl
theorem kx_pi_tup (hl : PE X l tl) (h : X.K = K := by rfl) : PI X tg l (iTup K tl) := h ▸ pi_tup hl
theorem kx_pi_zip {e e2 : Expr} {elts : List Expr} {kk : Nat} (hg : Gl X "zip") (hm : X.mg "zip" = none) (ha : PA X [e, e2] ta) (hs : starEach [e, e2] X.env = (false, eval e X.env) :: starEach [e2] X.env := by rfl) (hs2 : (backTo pos (starEach [e2] X.env)).any (·.1) = false := by rfl) (h : X.K = K := by rfl) :
    PI X (.Tuple elts kk tpos) (.Call (.Name "zip" p) [e, e2] [] pos) (iZipA K ta) := h ▸ pi_zipA hg hm ha hs hs2
theorem kx_pi_enum {e : Expr} {elts : List Expr} {kk : Nat} (hg : Gl X "enumerate") (hm : X.mg "enumerate" = none) (ha : PA X [e] ta) (hs : starEach [e] X.env = [(false, eval e X.env)] := by rfl) (h : X.K = K := by rfl) :
    PI X (.Tuple elts kk tpos) (.Call (.Name "enumerate" p) [e] [] pos) (iEnum K ta) := h ▸ pi_enum hg hm ha hs
theorem kx_fld {e : Expr} {f : Str} {ta : TE} (he : PE X e ta) (hb : attributeBase e f X.env (eval e X.env) = eval e X.env) (h : X.K = K := by rfl) : PE X (.Attribute e f pos) (tFld K ta f) := h ▸ pe_fld he hb
def tTru (K : PySem.W.Frag) (ta : TE) : TT := fun σ H Q => ta σ H fun x H' => ∃ k, TruV K x H' k ∧ Q k H'
theorem kx_truth {a : Expr} {ta : TE} (ha : PE X a ta) (he : ∀ whole, isTrue a X.env whole = (do let v ← whole; standAt a.pos; holding [v] (truthy v))) (h : X.K = K := by rfl) : PT X a (tTru K ta) := h ▸ pt_truth ha he
theorem kx_tup {es : List Expr} {k : Nat} {t : TGs} {n : Nat} (hc : X.calm = true) (hg : PGs X es t)
    (hn : (assignEach es X.env).length = n := by rfl) (hst : (assignEach es X.env).findIdx? (·.1) = none := by rfl) (h : X.K = K := by rfl) : PG X (.Tuple es k pos) (gTup K n t) := h ▸ pg_tup hc hg hn hst
theorem kx_bm {T id : String} {name : Str} {r : V → List V → Hp → VK → Prop} {o e : Expr} {es : List Expr} {to : TE} {t : TA} (pa : PlainAttrs T) (slot : Slot T name id) (hty : typeOf (.builtin id) = pure (.type "method_descriptor")) (hm : MtR X id r) (ho : PE X o to) (ha : PA X (e :: es) t)
    (hbase : attributeBase o name X.env (eval o X.env) = eval o X.env := by rfl)
    (hfew : ((backTo cpos (starEach (e :: es) X.env)).all (fun x => !x.1) && (backToKw cpos (keywordEach [] X.env)).all (fun x => x.1.isSome)
      && decide ((e :: es).length + ([] : List Keyword).length + (if ([] : List Keyword).isEmpty then 0 else 1) < 30)) = true := by rfl)
    (hline : (apos.endLine == cpos.line) = true := by rfl) (hs : starEach (e :: es) X.env = (false, eval e X.env) :: starEach es X.env := by rfl) (hplain : (backTo cpos (starEach es X.env)).any (·.1) = false := by rfl) (h : X.K = K := by rfl) :
    PE X (.Call (.Attribute o name apos) (e :: es) [] cpos) (tBM K T r to t) := h ▸ pe_bm pa slot hty hm ho ha hbase hfew hline hs hplain
end
section
variable {K : PySem.W.Frag} {σ : L2.St} {H H' : Hp} {ta tb te tx : TE} {t u : TT} {R S : Pr} {x y : V}
/-! the readings of these names -/
theorem ev_len {ps : List Pr} [MXs ps] (ha : EvR ta σ H (LstP ps)) : EvR (tCB (rLenQ K) (tCons ta tNil)) σ H (IsI (ps.length : Int)) := er_lenL ha
theorem ev_lenT {ps : List Pr} [MXs ps] (ha : EvR ta σ H (TupP ps)) : EvR (tCB (rLenQ K) (tCons ta tNil)) σ H (IsI (ps.length : Int)) := er_lenT ha
theorem ev_lenLO {α : Type} {R : α → Pr} [∀ x, MX (R x)] {xs : List α} (ha : EvR ta σ H (LstOf R xs)) : EvR (tCB (rLenQ K) (tCons ta tNil)) σ H (IsI (xs.length : Int)) := er_lenLO ha
theorem ev_lenTO {α : Type} {R : α → Pr} [∀ x, MX (R x)] {xs : List α} (ha : EvR ta σ H (TupOf R xs)) : EvR (tCB (rLenQ K) (tCons ta tNil)) σ H (IsI (xs.length : Int)) := er_lenTO ha
theorem ev_tuple {ps : List Pr} [MXs ps] (ha : EvR ta σ H (LstP ps)) : EvR (tCB (rTupQ K) (tCons ta tNil)) σ H (TupP ps) := er_tuple ha
theorem ev_tupleT {ps : List Pr} [MXs ps] (ha : EvR ta σ H (TupP ps)) : EvR (tCB (rTupQ K) (tCons ta tNil)) σ H (TupP ps) := fun H1 e Q q =>
  (ea1 ha) H1 e _ fun vs H2 e2 r => by
    obtain ⟨v, rfl, a, ws, rfl, h2, h3⟩ := r.one
    exact ⟨a, ws, rfl, .inr ⟨SqT.of h2, q _ _ e2 ⟨a, ws, rfl, h2, h3⟩⟩⟩
theorem ev_list {ps : List Pr} [MXs ps] (ha : EvR ta σ H (LstP ps)) : EvR (tCB (rLstQ K) (tCons ta tNil)) σ H (LstP ps) := fun H1 e Q q =>
  (ea1 ha) H1 e _ fun vs H2 e2 r => by
    obtain ⟨v, rfl, a, ws, rfl, h2, h3⟩ := r.one
    exact ⟨a, ws, rfl, .inl (SqL.of h2), fun p hp => q _ _ (e2.trans (Same.new hp)) ⟨p, ws, rfl, upd_same, MXs.mx (Same.new hp) h3⟩⟩
theorem ev_listT {ps : List Pr} [MXs ps] (ha : EvR ta σ H (TupP ps)) : EvR (tCB (rLstQ K) (tCons ta tNil)) σ H (LstP ps) := fun H1 e Q q =>
  (ea1 ha) H1 e _ fun vs H2 e2 r => by
    obtain ⟨v, rfl, a, ws, rfl, h2, h3⟩ := r.one
    exact ⟨a, ws, rfl, .inr (SqT.of h2), fun p hp => q _ _ (e2.trans (Same.new hp)) ⟨p, ws, rfl, upd_same, MXs.mx (Same.new hp) h3⟩⟩
theorem eb_tru' {b : Bool} (ha : EvR ta σ H R) (ht : ∀ H v, R H v → TruV K v H b) : EvB (tTru K ta) σ H b := eb_tru ha ht
/-! ### data of flat things, compared: tuples and lists of them -/
def pyV : V → PyData
  | .bl b => .bool b
  | .int i => .int i
  | .str x => .str x
  | _ => .none
theorem dp_flat {v : V} (h : flatV v = true) : Dp K H v (pyV v) := by
  cases v with
  | non => exact .non
  | bl b => exact .bl b
  | int i => exact .int i
  | str x => exact .str x
  | _ => cases h
theorem dpAll_flat : ∀ {vs : List V}, vs.all flatV = true → DpAll K H vs (vs.map pyV)
  | [], _ => .nil
  | v :: vs, h => by
    have h' : (flatV v && vs.all flatV) = true := h
    rw [Bool.and_eq_true] at h'
    exact .cons (dp_flat h'.1) (dpAll_flat h'.2)
theorem dp_tup {a : Addr} {vs : List V} (h : H a = some (.tup vs)) (f : vs.all flatV = true) : Dp K H (.ref a) (.tuple (vs.map pyV)) := .tup (SqT.of h) (dpAll_flat f)
theorem dp_lst {a : Addr} {vs : List V} (h : H a = some (.lst vs)) (f : vs.all flatV = true) : Dp K H (.ref a) (.list (vs.map pyV)) := .lst (SqL.of h) (dpAll_flat f)
end

/-! ### compared with nothing -/
section
variable {X : Cx} (K : PySem.W.Frag)
/-- t == (), t != () ; l == [], l != [] -/
def rEqET (K : PySem.W.Frag) : R2 := fun x y H Q => ∃ a b xs, x = .ref a ∧ y = .ref b ∧ SqT K H a xs ∧ SqT K H b [] ∧ Q (.bl xs.isEmpty) H
def rNeET (K : PySem.W.Frag) : R2 := fun x y H Q => ∃ a b xs, x = .ref a ∧ y = .ref b ∧ SqT K H a xs ∧ SqT K H b [] ∧ Q (.bl (!xs.isEmpty)) H
def rEqEL (K : PySem.W.Frag) : R2 := fun x y H Q => ∃ a b xs, x = .ref a ∧ y = .ref b ∧ SqL K H a xs ∧ SqL K H b [] ∧ Q (.bl xs.isEmpty) H
def rNeEL (K : PySem.W.Frag) : R2 := fun x y H Q => ∃ a b xs, x = .ref a ∧ y = .ref b ∧ SqL K H a xs ∧ SqL K H b [] ∧ Q (.bl (!xs.isEmpty)) H
theorem range_all_nil {n : Nat} (h : n = 0) {e : Nat → Bool} : (List.range n).all e = true := by subst h; rfl
theorem kx_eqET (hu : X.A.units < cLine) (h : X.K = K := by rfl) : OpR X (compareOp .Eq) (rEqET K) := by
  subst h
  intro pins s σ H x y v u Q I rx ry h
  obtain ⟨a, b, xs, rfl, rfl, hx, hy, q⟩ := h
  cases rx
  cases ry
  obtain ⟨its, r1, p1, _⟩ := I.tuple hx
  obtain ⟨its2, r2, p2, _⟩ := I.tuple hy
  cases r2
  have z := SeqAt.RcAt.tuples (A := X.A) (e := fun _ => true) (show s.heap.IsTuple a its.toArray from p1) (show s.heap.IsTuple b ([] : List Value).toArray from p2) hu (fun j h1 h2 => by simp at h2)
  have e : ((List.range (min its.toArray.size ([] : List Value).toArray.size)).all (fun _ => true) && its.toArray.size == ([] : List Value).toArray.size) = xs.isEmpty := by
    cases r1 <;> simp
  exact z X.prog X.w X.xe _ ⟨.bl _, H, I, by rw [e]; rfl, q⟩
theorem kx_neET (hu : X.A.units < cLine) (h : X.K = K := by rfl) : OpR X (compareOp .NotEq) (rNeET K) := by
  subst h
  intro pins s σ H x y v u Q I rx ry h
  obtain ⟨a, b, xs, rfl, rfl, hx, hy, q⟩ := h
  cases rx
  cases ry
  obtain ⟨its, r1, p1, _⟩ := I.tuple hx
  obtain ⟨its2, r2, p2, _⟩ := I.tuple hy
  cases r2
  have z := SeqAt.RcNeAt.tuples (A := X.A) (e := fun _ => true) (show s.heap.IsTuple a its.toArray from p1) (show s.heap.IsTuple b ([] : List Value).toArray from p2) hu (fun j h1 h2 => by simp at h2)
  have e : (!((List.range (min its.toArray.size ([] : List Value).toArray.size)).all (fun _ => true) && its.toArray.size == ([] : List Value).toArray.size)) = !xs.isEmpty := by
    cases r1 <;> simp
  exact z X.prog X.w X.xe _ ⟨.bl _, H, I, by rw [e]; rfl, q⟩
theorem kx_eqEL (hu : X.A.units < cLine) (h : X.K = K := by rfl) : OpR X (compareOp .Eq) (rEqEL K) := by
  subst h
  intro pins s σ H x y v u Q I rx ry h
  obtain ⟨a, b, xs, rfl, rfl, hx, hy, q⟩ := h
  cases rx
  cases ry
  obtain ⟨its, r1, p1, _⟩ := I.list hx
  obtain ⟨its2, r2, p2, _⟩ := I.list hy
  cases r2
  cases r1 with
  | nil =>
    have z := SeqAt.RcAt.lists (A := X.A) (e := fun _ => true) p1.isList p2.isList rfl hu (fun j h1 h2 => by simp at h2)
    exact z X.prog X.w X.xe _ ⟨.bl _, H, I, rfl, q⟩
  | cons c d =>
    have z := SeqAt.RcAt.lists_lengths (A := X.A) p1.isList p2.isList (by simp) hu
    exact z X.prog X.w X.xe _ ⟨.bl _, H, I, rfl, q⟩
theorem kx_neEL (hu : X.A.units < cLine) (h : X.K = K := by rfl) : OpR X (compareOp .NotEq) (rNeEL K) := by
  subst h
  intro pins s σ H x y v u Q I rx ry h
  obtain ⟨a, b, xs, rfl, rfl, hx, hy, q⟩ := h
  cases rx
  cases ry
  obtain ⟨its, r1, p1, _⟩ := I.list hx
  obtain ⟨its2, r2, p2, _⟩ := I.list hy
  cases r2
  cases r1 with
  | nil =>
    have z := SeqAt.RcNeAt.lists (A := X.A) (e := fun _ => true) p1.isList p2.isList rfl hu (fun j h1 h2 => by simp at h2)
    exact z X.prog X.w X.xe _ ⟨.bl _, H, I, rfl, q⟩
  | cons c d =>
    have z := SeqAt.RcNeAt.lists_lengths (A := X.A) p1.isList p2.isList (by simp) hu
    exact z X.prog X.w X.xe _ ⟨.bl _, H, I, rfl, q⟩
end
section
variable {K : PySem.W.Frag} {σ : L2.St} {H : Hp} {ta tb : TE}
theorem pp_empty {H : Hp} {vs : List V} {ps : List Pr} (h : PP H vs ps) : vs.isEmpty = ps.isEmpty := by
  cases vs <;> cases ps <;> first | rfl | exact h.elim
theorem ev_eqET {ps : List Pr} [MXs ps] (ha : EvR ta σ H (TupP ps)) (hb : EvR tb σ H (TupP [])) : EvR (tOp (rEqET K) ta tb) σ H (IsB ps.isEmpty) :=
  er_op ha hb fun v w H1 _ ⟨a, vs, h1, h2, h3⟩ ⟨b, ws, g1, g2, g3⟩ Q q => ⟨a, b, vs, h1, g1, SqT.of h2, by rw [g3.nil] at g2; exact SqT.of g2, q _ H1 (Same.refl H1) (by rw [pp_empty h3]; rfl)⟩
theorem ev_neET {ps : List Pr} [MXs ps] (ha : EvR ta σ H (TupP ps)) (hb : EvR tb σ H (TupP [])) : EvR (tOp (rNeET K) ta tb) σ H (IsB (!ps.isEmpty)) :=
  er_op ha hb fun v w H1 _ ⟨a, vs, h1, h2, h3⟩ ⟨b, ws, g1, g2, g3⟩ Q q => ⟨a, b, vs, h1, g1, SqT.of h2, by rw [g3.nil] at g2; exact SqT.of g2, q _ H1 (Same.refl H1) (by rw [pp_empty h3]; rfl)⟩
theorem ev_eqEL {ps : List Pr} [MXs ps] (ha : EvR ta σ H (LstP ps)) (hb : EvR tb σ H (LstP [])) : EvR (tOp (rEqEL K) ta tb) σ H (IsB ps.isEmpty) :=
  er_op ha hb fun v w H1 _ ⟨a, vs, h1, h2, h3⟩ ⟨b, ws, g1, g2, g3⟩ Q q => ⟨a, b, vs, h1, g1, SqL.of h2, by rw [g3.nil] at g2; exact SqL.of g2, q _ H1 (Same.refl H1) (by rw [pp_empty h3]; rfl)⟩
theorem ev_neEL {ps : List Pr} [MXs ps] (ha : EvR ta σ H (LstP ps)) (hb : EvR tb σ H (LstP [])) : EvR (tOp (rNeEL K) ta tb) σ H (IsB (!ps.isEmpty)) :=
  er_op ha hb fun v w H1 _ ⟨a, vs, h1, h2, h3⟩ ⟨b, ws, g1, g2, g3⟩ Q q => ⟨a, b, vs, h1, g1, SqL.of h2, by rw [g3.nil] at g2; exact SqL.of g2, q _ H1 (Same.refl H1) (by rw [pp_empty h3]; rfl)⟩
theorem map_isEmpty {α β : Type} (f : α → β) (xs : List α) : (xs.map f).isEmpty = xs.isEmpty := by cases xs <;> rfl
end
end K43
set_option Elab.async false
set_option linter.all false
set_option maxRecDepth 100000
set_option maxHeartbeats 4000000
/-! # KB4: enumerate(tuple), zip(tuple, list) -/
namespace K43L
open PySem
open Sem (wp)
open AutoSeq1 (wpAny_loadPart')
theorem meets_enumerate_newT (l : Addr) (items : Array Value) (n : Nat) (dct : Option Addr) (sl : Array (Option Value)) :
    Meets (Builtin.«enumerate.__new__» ⟨[.type "enumerate", .ref l], []⟩) (fun _ R s => s.heap.get? l = some { cls := .type "tuple", dict := dct, data := .seq items n, slots := sl } ∧
      R (.ok (.ret (.ref (s.heap.push { cls := .type "tuple_iterator", data := .fields #[.ref l, .int 0 0] }).objs.size)))
        { s with heap := (s.heap.push { cls := .type "tuple_iterator", data := .fields #[.ref l, .int 0 0] }).push { cls := .type "enumerate", data := .fields #[.none, .bool false, .ref s.heap.objs.size, rawInt 0, .none, .none] } }) :=
  .of_wp fun prog w A R s h => by
    obtain ⟨hp, g, d, tk, os⟩ := s; obtain ⟨hl, h⟩ := h
    have hsub := sub_enumerate
    have hL : Heap.IsTuple (Shared.heap ⟨hp, g, d, tk, os⟩) l items := ⟨_, hl, rfl, n, rfl⟩
    wp_walk using wpAny_loadPart' hl
    refine wpAny_stack_any fun st => wpAny_pure ?_
    split
    · rename_i c _ _ _ _ _
      cases (c == Value.type "enumerate")
      · wp_walk using wpAny_loadPart' hl, wpAny_pyIter_tuple hL
        exact ⟨_, rfl, h⟩
      · wp_walk using wpAny_loadPart' hl, wpAny_pyIter_tuple hL
        exact ⟨_, rfl, h⟩
    · wp_walk using wpAny_loadPart' hl, wpAny_pyIter_tuple hL
      exact ⟨_, rfl, h⟩
section
variable {prog : Program} {w : World} {A : Around} {E : Value → Shared → Prop} {s : Shared}
theorem call_enumerate_tuple {l : Addr} {items : Array Value} {Q : Value → Shared → Prop} (hL : s.heap.IsTuple l items)
    (h : ∀ h', IsEnum h' (s.heap.objs.size + 1) s.heap.objs.size 0 .none → h'.IsTupleIter s.heap.objs.size l 0 → h'.objs.size = s.heap.objs.size + 2 →
      (∀ b o, s.heap.get? b = some o → h'.get? b = some o) → Q (.ref (s.heap.objs.size + 1)) { s with heap := h' }) :
    wpAny (model prog w) A (call (.type "enumerate") [.ref l]) Q E s := by
  obtain ⟨⟨c, dct, dt, sl⟩, hl, hc, n, hd⟩ := hL
  replace hc : c = .type "tuple" := hc
  replace hd : dt = .seq items n := hd
  subst hc hd
  refine callType_new F.called_enumerate (by decide) (F.typeCall_enumerate_1 _) (F.newCall_enumerate_1 _) (fun obj => F.args_object_init_2 obj _) F.entry_enumerate_new
    (meets_enumerate_newT l items n dct sl) ⟨hl, ?_⟩
  have hz : (s.heap.push { cls := .type "tuple_iterator", data := .fields #[.ref l, .int 0 0] }).objs.size = s.heap.objs.size + 1 := Heap.size_push ..
  show _ ∧ _
  rw [hz]
  have he : IsEnum ((s.heap.push { cls := .type "tuple_iterator", data := .fields #[.ref l, .int 0 0] }).push
      { cls := .type "enumerate", data := .fields #[.none, .bool false, .ref s.heap.objs.size, rawInt 0, .none, .none] }) (s.heap.objs.size + 1) s.heap.objs.size 0 .none := by
    have := Heap.get?_push_size (s.heap.push { cls := .type "tuple_iterator", data := .fields #[.ref l, .int 0 0] })
      (o := { cls := .type "enumerate", data := .fields #[.none, .bool false, .ref s.heap.objs.size, rawInt 0, .none, .none] }) rfl
    rw [hz] at this; exact this
  refine ⟨⟨_, he, rfl⟩, h _ he ⟨_, Heap.get?_push_of_some _ (Heap.get?_push_size _ rfl), rfl, rfl⟩ (by rw [Heap.size_push, hz]) fun b o x => Heap.get?_push_of_some _ (Heap.get?_push_of_some _ x)⟩
end
end K43L
namespace K43
open PySem PySem.Spec PyProof.Rows L2 RZ
/-- the tuple at a as it stands at each turn, each item in a new pair -/
def IteT (K : PySem.W.Frag) (a : Addr) : It :=
  ⟨fun i H => ∃ (xs : List V) (x : V), SqT K H a xs ∧ xs[i]? = some x, fun i H v H' => ∃ T x, v = .ref T ∧ H T = none ∧ H' = upd H T (.tup [.int (i : Nat), x]) ∧ ∀ xs, SqT K H a xs → xs[i]? = some x, fun i H => ∃ xs : List V, SqT K H a xs ∧ xs.length = i⟩
theorem turn_enumT {P : Program} {w : World} {K : PySem.W.Frag} {elts : List Expr} {kk : Nat} {tpos : Pos} (a e it : Addr) :
    Turn P w K (.Tuple elts kk tpos) (IteT K a) [e, it] e (fun i h => (∃ old, IsEnum h e it ((i : Nat) : Int) old) ∧ h.IsTupleIter it a i ∧ e ≠ it ∧ a ≠ it ∧ e ≠ a) where
  mem := by simp
  obj := fun i h st b hb => by
    obtain ⟨⟨old, he⟩, ⟨o, ho, hc, hd⟩, _⟩ := st
    have e' : b = e ∨ b = it := by simpa using hb
    rcases e' with z | z
    · rw [z]; exact ⟨_, he, fun v q => nomatch q⟩
    · rw [z]; exact ⟨o, ho, fun v q => by rw [hd] at q; cases q⟩
  keep := fun i h h' st k => let ⟨⟨old, he⟩, hi, hne⟩ := st; ⟨⟨old, k e (by simp) _ he⟩, hi.at fun o q => k it (by simp) o q, hne⟩
  item := by
    intro X hP hw hK hc i pins s σ H E I hf st hg
    subst hP hw hK
    obtain ⟨⟨old, he⟩, hit, hne, hai, hea⟩ := st
    obtain ⟨xs, x, hq, hx⟩ := hg
    obtain ⟨its, rv, p, hz⟩ := I.tuple hq
    obtain ⟨u, hu, ru⟩ := rv.get hx
    have hel : e < s.heap.objs.size := Heap.lt_size he
    have hil : it < s.heap.objs.size := by obtain ⟨_, q, _⟩ := hit; exact Heap.lt_size q
    have Dr := Draws.tuple (prog := X.prog) (w := X.w) (A := X.A.in1) (I.ok.hd hc) it a hai its.toArray
    have hlt : i < its.toArray.size := by
      have := (List.getElem?_eq_some_iff.mp hu).1
      simpa using this
    refine wpAny_pyNext_enum_itemD Dr he ⟨hit, p⟩ hlt hne (by simp [hne, hea]) fun x' h' tk hP ho hit' hT hsz hk => ?_
    have ex : x' = u := by
      have : its.toArray[i]? = some u := by simpa using hu
      rw [this] at hP
      exact (Option.some.inj hP).symm
    subst ex
    refine ⟨_, rfl, wpAny_letOwnedTupleGo_enum (s := { s with heap := h', toks := tk + 1 }) ho fun h'' he' sb => ?_⟩
    have hT2 : h''.get? s.heap.objs.size = some { cls := .type "tuple", data := .seq #[.int i tk, x'] } := (sb.2 _ (Nat.ne_of_gt hel)).trans hT
    have new : ObjOk X.prog X.w (upd H s.heap.objs.size (.tup [.int (i : Nat), x])) h'' s.heap.objs.size (.tup [.int (i : Nat), x]) :=
      ⟨by show 2 ≤ sizeLine; decide, [.int i tk, x'], .cons ⟨_, rfl⟩ (.cons ru .nil), ⟨_, hT2, rfl, _, rfl⟩⟩
    have I1 : Inv X pins σ (upd H s.heap.objs.size (.tup [.int (i : Nat), x])) { s with heap := h'', toks := tk + 1 } :=
      I.turnedNew (ch := [e, it]) (fun b ob hb q => (sb.2 b (fun z => hb (by simp [z]))).trans (hk b ob (fun z => hb (by simp [z])) (fun z => hb (by simp [z])) q)) hf (Nat.le_refl _) new
    refine ⟨.ref s.heap.objs.size, _, I1, rfl, ⟨_, x, rfl, I.hok.fresh (Nat.le_refl _), rfl, fun ys hy => by rw [I.tuple_inj hy hq]; exact hx⟩, ⟨⟨x', ?_⟩, hit'.1.at fun o q => (sb.2 it (Ne.symm hne)).trans q, hne, hai, hea⟩, fun b hb => ?_⟩
    · have e1 : ((i + 1 : Nat) : Int) = (i : Int) + 1 := by omega
      rw [e1]; exact he'
    · have hb' : b < s.heap.objs.size := by
        have e' : b = e ∨ b = it := by simpa using hb
        rcases e' with z | z
        · rw [z]; exact hel
        · rw [z]; exact hil
      rw [upd_ne (Nat.ne_of_lt hb')]
      exact (hf b hb).1
  done := by
    intro X hP hw hK hc i pins s σ H E I hf st hg
    subst hP hw hK
    obtain ⟨⟨old, he⟩, hit, hne, hai, hea⟩ := st
    obtain ⟨xs, hq, hx⟩ := hg
    obtain ⟨its, rv, p, hz⟩ := I.tuple hq
    obtain ⟨f0, f1, f2, f3, f4, f5⟩ := hf it (by simp)
    have hl := rv.length
    have Dr := Draws.tuple (prog := X.prog) (w := X.w) (A := X.A.in1) (I.ok.hd hc) it a hai its.toArray
    have ei : i = its.toArray.size := by simp; omega
    subst ei
    exact wpAny_pyNext_enum_endD Dr he ⟨hit, p⟩ fun h' eb => ⟨rfl, I.turned (t' := s.toks) (fun b o hb q => eb b o hb q) f0 f1 f3 f4 f5⟩
  self := fun A i s Q E st h => let ⟨⟨_, he⟩, _⟩ := st; wpAny_pyIter_enum he h
def iEnumT (K : PySem.W.Frag) (ta : TA) : TI := fun σ H R => ta σ H fun vs H1 => ∃ a xs, vs = [.ref a] ∧ SqT K H1 a xs ∧ R (IteT K a) H1
theorem kx_pi_enumT {X : Cx} (K : PySem.W.Frag) {e : Expr} {ta : TA} {p pos tpos : Pos} {elts : List Expr} {kk : Nat} (hg : Gl X "enumerate") (hm : X.mg "enumerate" = none) (ha : PA X [e] ta) (hs : starEach [e] X.env = [(false, eval e X.env)] := by rfl) (h : X.K = K := by rfl) :
    PI X (.Tuple elts kk tpos) (.Call (.Name "enumerate" p) [e] [] pos) (iEnumT K ta) := by
  subst h
  refine ⟨fun pins s σ H R I h => ?_⟩
  refine Call_ (ld_blt I hg hm boot_enumerate (PyProof.Rows.callWith_type1 (thn (ha.run pos pins s σ H _ I h) fun us s1 ⟨vs, H1, I1, r1, q1⟩ => ?_) hs rfl))
  obtain ⟨a, xs, ex, hq, q⟩ := q1
  subst ex
  cases r1 with
  | cons r rr =>
    cases rr
    cases r
    obtain ⟨its, rv, p', hz⟩ := I1.tuple hq
    have la : a < s1.heap.objs.size := p'.lt
    refine K43L.call_enumerate_tuple p' fun h' he hit hsz hk => wpAny_pyIter_enum he ?_
    have I2 : Inv X pins σ H1 { s1 with heap := h' } := I1.kept (t' := s1.toks) hk
    refine ⟨s1.heap.objs.size + 1, [s1.heap.objs.size + 1, s1.heap.objs.size], _, _, H1, rfl, I2, turn_enumT a (s1.heap.objs.size + 1) s1.heap.objs.size, ⟨⟨.none, he⟩, hit, Nat.succ_ne_self _, Nat.ne_of_lt la, Nat.ne_of_gt (Nat.lt_succ_of_lt la)⟩, fun b hb => ?_, q⟩
    have e' : b = s1.heap.objs.size + 1 ∨ b = s1.heap.objs.size := by simpa using hb
    have hle : s1.heap.objs.size ≤ b := by
      rcases e' with z | z
      · rw [z]; exact Nat.le_add_right _ _
      · rw [z]; exact Nat.le_refl _
    exact I1.fpOk hle (I1.hok.fresh hle)
/-- the tuple at a, the list at b, as they stand at each turn, the items in new pairs -/
def ItzTL (K : PySem.W.Frag) (a b : Addr) : It :=
  ⟨fun i H => ∃ (xs ys : List V) (x y : V), SqT K H a xs ∧ SqL K H b ys ∧ xs[i]? = some x ∧ ys[i]? = some y,
    fun i H v H' => ∃ T x y, v = .ref T ∧ H T = none ∧ H' = upd H T (.tup [x, y]) ∧ (∀ xs, SqT K H a xs → xs[i]? = some x) ∧ ∀ ys, SqL K H b ys → ys[i]? = some y,
    fun i H => ∃ xs ys : List V, SqT K H a xs ∧ SqL K H b ys ∧ i ≤ xs.length ∧ i ≤ ys.length ∧ (i = xs.length ∨ i = ys.length)⟩
theorem turn_zipTL {P : Program} {w : World} {K : PySem.W.Frag} {elts : List Expr} {kk : Nat} {tpos : Pos} {a b z TI TO i1 i2 : Addr} (D : ZipSep2 z TI TO i1 i2 [i1, a] [i2, b]) :
    Turn P w K (.Tuple elts kk tpos) (ItzTL K a b) [z, TI, TO, i1, i2] z (fun i h => IsZip h z TI TO .none ∧ IsTupOf2 h TI (.ref i1) (.ref i2) ∧ (∃ x y, IsTupOf2 h TO x y) ∧ h.IsTupleIter i1 a i ∧ h.IsListIter i2 b i) where
  mem := by simp
  obj := fun i h st c hc => by
    obtain ⟨hz, hTI, ⟨x, y, hTO⟩, ⟨o1, e1, _, d1⟩, ⟨o2, e2, _, d2⟩⟩ := st
    have e' : c = z ∨ c = TI ∨ c = TO ∨ c = i1 ∨ c = i2 := by simpa using hc
    rcases e' with q | q | q | q | q
    · rw [q]; exact ⟨_, hz, fun v q => nomatch q⟩
    · rw [q]; exact ⟨_, hTI, fun v q => nomatch q⟩
    · rw [q]; exact ⟨_, hTO, fun v q => nomatch q⟩
    · rw [q]; exact ⟨o1, e1, fun v q => by rw [d1] at q; cases q⟩
    · rw [q]; exact ⟨o2, e2, fun v q => by rw [d2] at q; cases q⟩
  keep := fun i h h' st k => by
    obtain ⟨hz, hTI, ⟨x, y, hTO⟩, h1, h2⟩ := st
    exact ⟨k z (by simp) _ hz, k TI (by simp) _ hTI, ⟨x, y, k TO (by simp) _ hTO⟩, h1.at fun o q => k i1 (by simp) o q, h2.at fun o q => k i2 (by simp) o q⟩
  item := by
    intro X hP hw hK hc i pins s σ H E I hf st hg
    subst hP hw hK
    obtain ⟨hz, hTI, ⟨x0, y0, hTO⟩, h1, h2⟩ := st
    obtain ⟨xs, ys, x, y, hqx, hqy, hx, hy⟩ := hg
    obtain ⟨its, rv, p, _⟩ := I.tuple hqx
    obtain ⟨its2, rv2, p2, _⟩ := I.list hqy
    obtain ⟨u, hu, ru⟩ := rv.get hx
    obtain ⟨u2, hu2, ru2⟩ := rv2.get hy
    have hzl : z < s.heap.objs.size := Heap.lt_size hz
    have hai : a ≠ i1 := fun q => by
      obtain ⟨o1, e1, c1, _⟩ := h1
      obtain ⟨o2, e2, c2, _⟩ := p
      rw [q, e1] at e2
      cases e2
      rw [c1] at c2
      simp at c2
    have hbi : b ≠ i2 := fun q => by
      obtain ⟨o1, e1, c1, _⟩ := h2
      obtain ⟨o2, e2, c2, _⟩ := p2.isList
      rw [q, e1] at e2
      cases e2
      rw [c1] at c2
      simp at c2
    have D1 := Draws.tuple (prog := X.prog) (w := X.w) (A := X.A.in1) (I.ok.hd hc) i1 a hai its.toArray
    have D2 := Draws.list (prog := X.prog) (w := X.w) (A := X.A.in1) (I.ok.hd hc) i2 b hbi its2.toArray
    have l1 : i < its.toArray.size := by
      have := (List.getElem?_eq_some_iff.mp hu).1
      simpa using this
    have l2 : i < its2.toArray.size := by
      have := (List.getElem?_eq_some_iff.mp hu2).1
      simpa using this
    refine wpAny_pyNext_zipD2_item D D1 D2 hz hTI hTO ⟨h1, p⟩ ⟨h2, p2.isList⟩ l1 l2 fun x1 x2 h' tk hP1 hP2 z' TO' h1' h2' hT hsz hk => ?_
    have ex : x1 = u := by
      have : its.toArray[i]? = some u := by simpa using hu
      rw [this] at hP1
      exact (Option.some.inj hP1).symm
    have ey : x2 = u2 := by
      have : its2.toArray[i]? = some u2 := by simpa using hu2
      rw [this] at hP2
      exact (Option.some.inj hP2).symm
    subst ex ey
    refine ⟨_, rfl, wpAny_letOwnedTupleGo_zip (s := { s with heap := h', toks := tk }) z' fun h'' z'' sb => ?_⟩
    have hT2 : h''.get? s.heap.objs.size = some { cls := .type "tuple", data := .seq #[x1, x2] } := (sb.2 _ (Nat.ne_of_gt hzl)).trans hT
    have new : ObjOk X.prog X.w (upd H s.heap.objs.size (.tup [x, y])) h'' s.heap.objs.size (.tup [x, y]) :=
      ⟨by show 2 ≤ sizeLine; decide, [x1, x2], .cons ru (.cons ru2 .nil), ⟨_, hT2, rfl, _, rfl⟩⟩
    have I1 : Inv X pins σ (upd H s.heap.objs.size (.tup [x, y])) { s with heap := h'', toks := tk } :=
      I.turnedNew (ch := [z, TI, TO, i1, i2]) (fun c o hb q => (sb.2 c (fun q' => hb (by simp [q']))).trans (hk c o (fun q' => hb (by simp [q'])) (fun q' => hb (by simp [q'])) (fun q' => hb (by simp [q'])) (fun q' => hb (by simp [q'])) q)) hf (Nat.le_refl _) new
    have i1z : i1 ≠ z := fun q => D.zf1 (by simp [q])
    have i2z : i2 ≠ z := fun q => D.zf2 (by simp [q])
    have TITO : TI ≠ TO := D.TITO
    refine ⟨.ref s.heap.objs.size, _, I1, rfl, ⟨_, x, y, rfl, I.hok.fresh (Nat.le_refl _), rfl, fun l hl => by rw [I.tuple_inj hl hqx]; exact hx, fun l hl => by rw [I.list_inj hl hqy]; exact hy⟩, ⟨z'', ?_, ⟨x1, x2, ?_⟩, ?_, ?_⟩, fun c hcm => ?_⟩
    · exact (sb.2 _ D.TIz).trans (hk _ _ D.TIz D.TITO D.TIi1 D.TIi2 hTI)
    · exact (sb.2 _ D.TOz).trans TO'
    · exact h1'.1.at fun o q => (sb.2 _ i1z).trans q
    · exact h2'.1.at fun o q => (sb.2 _ i2z).trans q
    · have hlt : c < s.heap.objs.size := by
        have e' : c = z ∨ c = TI ∨ c = TO ∨ c = i1 ∨ c = i2 := by simpa using hcm
        rcases e' with q | q | q | q | q
        · rw [q]; exact hzl
        · rw [q]; exact Heap.lt_size hTI
        · rw [q]; exact Heap.lt_size hTO
        · rw [q]; obtain ⟨_, e1, _⟩ := h1; exact Heap.lt_size e1
        · rw [q]; obtain ⟨_, e2, _⟩ := h2; exact Heap.lt_size e2
      rw [upd_ne (Nat.ne_of_lt hlt)]
      exact (hf c hcm).1
  done := by
    intro X hP hw hK hc i pins s σ H E I hf st hg
    subst hP hw hK
    obtain ⟨hz, hTI, ⟨x0, y0, hTO⟩, h1, h2⟩ := st
    obtain ⟨xs, ys, hqx, hqy, b1, b2, hend⟩ := hg
    obtain ⟨its, rv, p, _⟩ := I.tuple hqx
    obtain ⟨its2, rv2, p2, _⟩ := I.list hqy
    have l1 := rv.length
    have l2 := rv2.length
    have hai : a ≠ i1 := fun q => by
      obtain ⟨o1, e1, c1, _⟩ := h1
      obtain ⟨o2, e2, c2, _⟩ := p
      rw [q, e1] at e2
      cases e2
      rw [c1] at c2
      simp at c2
    have hbi : b ≠ i2 := fun q => by
      obtain ⟨o1, e1, c1, _⟩ := h2
      obtain ⟨o2, e2, c2, _⟩ := p2.isList
      rw [q, e1] at e2
      cases e2
      rw [c1] at c2
      simp at c2
    have D1 := Draws.tuple (prog := X.prog) (w := X.w) (A := X.A.in1) (I.ok.hd hc) i1 a hai its.toArray
    have D2 := Draws.list (prog := X.prog) (w := X.w) (A := X.A.in1) (I.ok.hd hc) i2 b hbi its2.toArray
    exact wpAny_pyNext_zipD2_end D D1 D2 hz hTI hTO ⟨h1, p⟩ ⟨h2, p2.isList⟩ (by simp; omega) (by simp; omega) (by simp; omega) fun h' tk hk => ⟨rfl, I.turnedL (t' := tk) (ch := [z, TI, TO, i1, i2]) (fun c o hb q =>
      hk c o (fun q' => hb (by simp [q'])) (fun q' => hb (by simp [q'])) (fun q' => hb (by simp [q'])) (fun q' => hb (by simp [q'])) q) hf⟩
  self := fun A i s Q E st h => wpAny_pyIter_zip st.1 h
def iZipTL (K : PySem.W.Frag) (ta : TA) : TI := fun σ H R => ta σ H fun vs H1 => ∃ a b xs ys, vs = [.ref a, .ref b] ∧ SqT K H1 a xs ∧ SqL K H1 b ys ∧ R (ItzTL K a b) H1
theorem kx_pi_zipTL {X : Cx} (K : PySem.W.Frag) {e e2 : Expr} {ta : TA} {p pos tpos : Pos} {elts : List Expr} {kk : Nat} (hg : Gl X "zip") (hm : X.mg "zip" = none) (ha : PA X [e, e2] ta)
    (hs : starEach [e, e2] X.env = (false, eval e X.env) :: starEach [e2] X.env := by rfl) (hpl : (backTo pos (starEach [e2] X.env)).any (·.1) = false := by rfl) (h : X.K = K := by rfl) :
    PI X (.Tuple elts kk tpos) (.Call (.Name "zip" p) [e, e2] [] pos) (iZipTL K ta) := by
  subst h
  refine ⟨fun pins s σ H R I h => ?_⟩
  refine Call_ (ld_blt I hg hm PyProof.Rows.boot_zip (PyProof.Rows.callWith_type1 (thn (ha.run pos pins s σ H _ I h) fun us s1 ⟨vs, H1, I1, r1, q1⟩ => ?_) hs hpl))
  obtain ⟨a, b, xs, ys, ex, hqx, hqy, q⟩ := q1
  subst ex
  cases r1 with
  | cons r rr =>
    cases rr with
    | cons r' rr =>
      cases rr
      cases r
      cases r'
      obtain ⟨its, rv, p1, _⟩ := I1.tuple hqx
      obtain ⟨its2, rv2, p2, _⟩ := I1.list hqy
      have la : a < s1.heap.objs.size := p1.lt
      have lb : b < s1.heap.objs.size := p2.lt
      refine zip_begins2 (begins_tuple a its.toArray) (begins_list b its2.toArray) p1 p2.isList fun h' hz hTI hTO h1 h2 hsz hk => wpAny_pyIter_zip hz ?_
      have I2 : Inv X pins σ H1 { s1 with heap := h' } := I1.kept (t' := s1.toks) hk
      refine ⟨s1.heap.objs.size + 4, [s1.heap.objs.size + 4, s1.heap.objs.size + 2, s1.heap.objs.size + 3, s1.heap.objs.size, s1.heap.objs.size + 1], _, _, H1, rfl, I2, turn_zipTL (zip_sep2 (N := s1.heap.objs.size) (fp1 := [a]) (fp2 := [b]) (by simpa using la) (by simpa using lb)), ⟨hz, hTI, ⟨_, _, hTO⟩, ⟨_, h1, rfl, rfl⟩, ⟨_, h2, rfl, rfl⟩⟩, fun c hcm => ?_, q⟩
      have e' : c = s1.heap.objs.size + 4 ∨ c = s1.heap.objs.size + 2 ∨ c = s1.heap.objs.size + 3 ∨ c = s1.heap.objs.size ∨ c = s1.heap.objs.size + 1 := by simpa using hcm
      have hle : s1.heap.objs.size ≤ c := by
        rcases e' with z | z | z | z | z
        · rw [z]; exact Nat.le_add_right _ _
        · rw [z]; exact Nat.le_add_right _ _
        · rw [z]; exact Nat.le_add_right _ _
        · rw [z]; exact Nat.le_refl _
        · rw [z]; exact Nat.le_add_right _ _
      exact I1.fpOk hle (I1.hok.fresh hle)
end K43
set_option Elab.async false
set_option linter.all false
set_option maxRecDepth 100000
set_option maxHeartbeats 4000000
/-! # KR1: sorted of tuples that begin with a text, of dicts keyed by such -/
namespace K43S
open PySem PyProof.Rows Srt SrtO
/-! the order -/
def sLt (x y : Str) : Bool := decide (x.cps.toList < y.cps.toList)
theorem sLt_irr (x : Str) : sLt x x = false := decide_eq_false (List.lt_irrefl _)
theorem sLt_asym {x y : Str} (h : sLt x y = true) : sLt y x = false := decide_eq_false (List.lt_asymm (of_decide_eq_true h))
theorem sLt_trans {x y z : Str} (h : sLt x y = true) (h' : sLt y z = true) : sLt x z = true := decide_eq_true (List.lt_trans (of_decide_eq_true h) (of_decide_eq_true h'))
theorem str_ext {x y : Str} (h : x.cps.toList = y.cps.toList) : x = y := by
  obtain ⟨a⟩ := x
  obtain ⟨b⟩ := y
  have : a = b := Array.toList_inj.mp h
  rw [this]
theorem sLt_tri {x y : Str} (h : sLt x y = false) (h' : sLt y x = false) : x = y :=
  str_ext (List.le_antisymm (List.not_lt.mp (of_decide_eq_false h')) (List.not_lt.mp (of_decide_eq_false h)))
def kLt : L2.Key → L2.Key → Bool
  | .inl i, .inl j => decide (i < j)
  | .inr x, .inr y => sLt x y
  | .inl _, .inr _ => true
  | .inr _, .inl _ => false
theorem kLt_irr : ∀ x : L2.Key, kLt x x = false
  | .inl i => decide_eq_false (Int.lt_irrefl i)
  | .inr x => sLt_irr x
theorem kLt_trans {x y z : L2.Key} (h : kLt x y = true) (h' : kLt y z = true) : kLt x z = true := by
  cases x <;> cases y <;> cases z <;> simp_all [kLt]
  · omega
  · exact sLt_trans h h'
theorem kLt_tri {x y : L2.Key} (h : kLt x y = false) (h' : kLt y x = false) : x = y := by
  cases x <;> cases y <;> simp_all [kLt]
  · omega
  · exact sLt_tri h h'
abbrev PK := Str × L2.Key
def pLt (p q : PK) : Bool := if p.1 = q.1 then kLt p.2 q.2 else sLt p.1 q.1
theorem pLt_irr (p : PK) : pLt p p = false := by unfold pLt; rw [if_pos rfl]; exact kLt_irr _
theorem pLt_trans {x y z : PK} (h : pLt x y = true) (h' : pLt y z = true) : pLt x z = true := by
  unfold pLt at *
  by_cases e1 : x.1 = y.1
  · rw [if_pos e1] at h
    by_cases e2 : y.1 = z.1
    · rw [if_pos e2] at h'
      rw [if_pos (e1.trans e2)]
      exact kLt_trans h h'
    · rw [if_neg e2] at h'
      rw [if_neg (by rw [e1]; exact e2), e1]
      exact h'
  · rw [if_neg e1] at h
    by_cases e2 : y.1 = z.1
    · rw [if_neg (by rw [← e2]; exact e1), ← e2]
      exact h
    · rw [if_neg e2] at h'
      have t := sLt_trans h h'
      rw [if_neg (fun e => by rw [e, sLt_irr] at t; cases t)]
      exact t
theorem pLt_tri {x y : PK} (h : pLt x y = false) (h' : pLt y x = false) : x = y := by
  unfold pLt at *
  by_cases e : x.1 = y.1
  · rw [if_pos e] at h
    rw [if_pos e.symm] at h'
    exact Prod.ext e (kLt_tri h h')
  · rw [if_neg e] at h
    rw [if_neg (fun z => e z.symm)] at h'
    exact absurd (sLt_tri h h') e
theorem swo_of {α : Type} {lt : α → α → Bool} (irr : ∀ x, lt x x = false) (tr : ∀ {x y z}, lt x y = true → lt y z = true → lt x z = true) (tri : ∀ {x y}, lt x y = false → lt y x = false → x = y) : Swo lt := by
  refine ⟨fun x y h => ?_, fun x y z h1 h2 => ?_⟩
  · cases q : lt y x with
    | false => rfl
    | true => have := tr h q; rw [irr] at this; cases this
  · cases q : lt z x with
    | false => rfl
    | true =>
      cases r : lt x y with
      | true => have := tr q r; rw [h2] at this; cases this
      | false =>
        have e := tri r h1
        subst e
        rw [h2] at q
        cases q
theorem pLt_swo : Swo pLt := swo_of pLt_irr pLt_trans pLt_tri
theorem sLt_swo : Swo sLt := swo_of sLt_irr sLt_trans sLt_tri
theorem Swo.on {α β : Type} {lt : α → α → Bool} (O : Swo lt) (k : β → α) : Swo fun x y => lt (k x) (k y) := ⟨fun x y h => O.asym _ _ h, fun x y z h h' => O.tr _ _ _ h h'⟩
section
variable {prog : Program} {w : World} {A : Around} {E : Value → Shared → Prop} {s : Shared}
/-- a pair that begins with a text -/
def IsSK (h : Heap) (v : Value) (k : PK) : Prop := ∃ a o t u n, v = .ref a ∧ h.get? a = some o ∧ o.cls = .type "tuple" ∧ o.data = .seq #[.str k.1 t, u] n ∧ L2.RelV (L2.kV k.2) u
theorem IsSK.keeps {h h' : Heap} {v : Value} {x : PK} (p : IsSK h v x) (k : ∀ b o, h.get? b = some o → o.cls = .type "tuple" → h'.get? b = some o) : IsSK h' v x := by
  obtain ⟨a, o, t, u, n, e, ho, hc, hd⟩ := p
  exact ⟨a, o, t, u, n, e, k a o ho hc, hc, hd⟩
theorem firsts_sk {h : Heap} : ∀ {vs : List Value}, (∀ v ∈ vs, ∃ x, IsSK h v x) → ∃ fs : List Value, PySem.W.KatTups h vs fs ∧ fs.length = vs.length ∧ ∀ f ∈ fs, ∃ x t, f = Value.str x t
  | [], _ => ⟨[], PySem.W.KatTups.nil, rfl, fun _ hm => by simp at hm⟩
  | v :: vs, hp => by
    obtain ⟨fs, h1, h2, h3⟩ := firsts_sk (vs := vs) fun v' hm => hp v' (List.mem_cons_of_mem _ hm)
    obtain ⟨x, a, o, t, u, n, e, ho, hc, hd, r⟩ := hp v (List.mem_cons_self ..)
    subst e
    refine ⟨.str x.1 t :: fs, PySem.W.KatTups.cons ho hc hd rfl h1, by rw [List.length_cons, List.length_cons, h2], fun f hm => ?_⟩
    rcases List.mem_cons.mp hm with rfl | hm
    · exact ⟨x.1, t, rfl⟩
    · exact h3 f hm
theorem kEq {x y : L2.Key} {u v : Value} (rx : L2.RelV (L2.kV x) u) (ry : L2.RelV (L2.kV y) v) (hs : x.isLeft = y.isLeft) {Q : Bool → Shared → Prop} (h : Q (decide (x = y)) s) : wpAny (model prog w) A (eqBool u v) Q E s := by
  cases x with
  | inl i =>
    cases y with
    | inr z => cases hs
    | inl j =>
      obtain ⟨t, rfl⟩ := rx
      obtain ⟨t', rfl⟩ := ry
      refine SeqAt.EqAt.int_int i t j t' prog w _ _ ?_
      have e : (i == j) = decide ((Sum.inl i : L2.Key) = Sum.inl j) := by
        by_cases q : i = j
        · subst q; simp
        · simp [q]
      rw [e]
      exact h
  | inr i =>
    cases y with
    | inl z => cases hs
    | inr j =>
      obtain ⟨t, rfl⟩ := rx
      obtain ⟨t', rfl⟩ := ry
      refine SeqAt.EqAt.str_str i t j t' prog w _ _ ?_
      have e : (i == j) = decide ((Sum.inr i : L2.Key) = Sum.inr j) := by
        by_cases q : i = j
        · subst q; simp
        · simp [q]
      rw [e]
      exact h
theorem kLess {x y : L2.Key} {u v : Value} (rx : L2.RelV (L2.kV x) u) (ry : L2.RelV (L2.kV y) v) (hs : x.isLeft = y.isLeft) {Q : Bool → Shared → Prop} (h : Q (kLt x y) s) : wpAny (model prog w) A (oneLt' false u v) Q E s := by
  cases x with
  | inl i =>
    cases y with
    | inr z => cases hs
    | inl j =>
      obtain ⟨t, rfl⟩ := rx
      obtain ⟨t', rfl⟩ := ry
      exact PySem.W.kat_one _ _ (PyProof.Rows.lt_int h)
  | inr i =>
    cases y with
    | inl z => cases hs
    | inr j =>
      obtain ⟨t, rfl⟩ := rx
      obtain ⟨t', rfl⟩ := ry
      exact PySem.W.kat_one _ _ (PyProof.Rows.lt_str h)
theorem sk_cmp {m : Bool} {vs : List Value} {k : Value → PK} (hp : ∀ v ∈ vs, IsSK s.heap v (k v) ∧ (k v).2.isLeft = m) : SrtO.Cmp prog w A s (tuples' true) (fun p => p.1 ∈ vs) (lt2 fun v u => pLt (k v) (k u)) := by
  intro p q hm hm'
  obtain ⟨h1, m1⟩ := hp _ hm
  obtain ⟨h2, m2⟩ := hp _ hm'
  show wpAny (model prog w) A (keyLt' (tuples' true) p.1 q.1) (fun r s' => s' = s ∧ r = pLt (k p.1) (k q.1)) (fun _ _ => False) s
  unfold pLt
  have ms : (k p.1).2.isLeft = (k q.1).2.isLeft := m1.trans m2.symm
  generalize (k p.1) = x at h1 ms ⊢
  generalize (k q.1) = y at h2 ms ⊢
  obtain ⟨a, o, t, u, n, e, ho, hc, hd, r1⟩ := h1
  obtain ⟨a', o', t', u', n', e', ho', hc', hd', r2⟩ := h2
  rw [e, e']
  refine PySem.W.kat_lt ho hd ho' hd' ?_
  show PySem.W.KatLex prog w A true (decide (2 < 2)) _ [(.str x.1 t, .str y.1 t'), (u, u')] 0 s
  refine PySem.W.kat_cons (SeqAt.EqAt.str_str x.1 t y.1 t' prog w _ _ ?_)
  refine PySem.W.kat_go (fun e1 => ?_) (fun e1 => ?_)
  · have ex : x.1 = y.1 := by simpa using e1
    refine PySem.W.kat_yes (PySem.W.kat_cons (kEq r1 r2 ms ?_))
    refine PySem.W.kat_go (fun e2 => ?_) (fun e2 => ?_)
    · have ey : x.2 = y.2 := of_decide_eq_true e2
      refine PySem.W.kat_yes (PySem.W.kat_nil ⟨rfl, ?_⟩)
      rw [if_pos ex, ey, kLt_irr]
      rfl
    · refine PySem.W.kat_no (kLess r1 r2 ms ?_)
      refine ⟨rfl, ?_⟩
      rw [if_pos ex]
  · have ex : ¬ x.1 = y.1 := by simpa using e1
    refine PySem.W.kat_no (oneLt_str ?_)
    refine ⟨rfl, ?_⟩
    rw [if_neg ex]
    rfl
theorem sk_sortable {m : Bool} {a : Addr} {vs : List Value} {k : Value → PK} (h0 : 0 < vs.length) (hp : ∀ v ∈ vs, IsSK s.heap v (k v) ∧ (k v).2.isLeft = m) (ha : ∀ o, s.heap.get? a = some o → o.cls ≠ .type "tuple") : SortableO prog w A s a vs fun v u => pLt (k v) (k u) := by
  intro h' keep
  have hp' : ∀ v ∈ vs, IsSK h' v (k v) ∧ (k v).2.isLeft = m := fun v hm => ⟨(hp v hm).1.keeps fun b o e c => keep b o (fun z => by subst z; exact ha o e c) e, (hp v hm).2⟩
  obtain ⟨fs, h1, h2, h3⟩ := firsts_sk fun v hm => ⟨_, (hp' v hm).1⟩
  refine ⟨tuples' true, fun Q E hq => ?_, sk_cmp (s := { s with heap := h' }) hp'⟩
  refine PySem.W.kat_kind (T := .type "str") h1 (by omega) (fun f hm => ?_) (by rfl) ?_
  · obtain ⟨x, t, rfl⟩ := h3 f hm
    exact PySem.W.Looks.now
  · have e : (Value.type "str" != Value.type "tuple") = true := by first | decide +kernel | rfl | decide
    rw [e]
    exact hq
end
end K43S
namespace K43
open PySem PySem.Spec PyProof.Rows L2 RZ K43S
/-- what stands at an address, as such a pair -/
def pkAt (H : Hp) : Value → PK
  | .ref a => match H a with
    | some (.tup [.str x, .int i]) => (x, .inl i)
    | some (.tup [.str x, .str y]) => (x, .inr y)
    | _ => (⟨#[]⟩, .inl 0)
  | _ => (⟨#[]⟩, .inl 0)
theorem pkAt_of {H : Hp} {a : Addr} {x : Str} {k : Key} (h : H a = some (.tup [.str x, kV k])) : pkAt H (.ref a) = (x, k) := by
  unfold pkAt
  cases k <;> simp [h, kV]
section
variable {X : Cx} (K : PySem.W.Frag)
/-- sorted(a list of pairs that begin with a text) -/
def rSortSK (K : PySem.W.Frag) : List V → Hp → VK → Prop := fun vs H Q => ∃ (a : Addr) (ts : List Addr) (k : Addr → PK) (m : Bool), vs = [.ref a] ∧ SqL K H a (ts.map V.ref) ∧
  (∀ t ∈ ts, H t = some (.tup [.str (k t).1, kV (k t).2]) ∧ (k t).2.isLeft = m) ∧
  ∀ (us : List Addr) p, us.Perm ts → us.Pairwise (fun t u => pLt (k u) (k t) = false) → H p = none → Q (.ref p) (upd H p (.lst (us.map V.ref)))
theorem isSK_of {pins : List (Addr × Obj)} {σ : L2.St} {H : Hp} {s : Shared} (I : Inv X pins σ H s) {t : Addr} {x : PK} (h : H t = some (.tup [.str x.1, kV x.2])) : IsSK s.heap (.ref t) x := by
  obtain ⟨_, its2, r2, o, ho, hc, n, hd⟩ := I.hok _ _ h
  obtain ⟨u1, u2, rfl, ri, rj⟩ := vals2 r2
  obtain ⟨t1, rfl⟩ := ri
  exact ⟨t, o, t1, u2, n, rfl, ho, hc, hd, rj⟩
theorem refs_list {us : List Value} (h : ∀ u ∈ us, ∃ a, u = Value.ref a) : ∃ ts : List Addr, us = ts.map Value.ref := by
  induction us with
  | nil => exact ⟨[], rfl⟩
  | cons u us ih =>
    obtain ⟨ts, e⟩ := ih fun v hv => h v (List.mem_cons_of_mem _ hv)
    obtain ⟨a, e2⟩ := h u List.mem_cons_self
    exact ⟨a :: ts, by rw [e, e2]; rfl⟩
theorem refs_inj : ∀ {ts us : List Addr}, ts.map Value.ref = us.map Value.ref → ts = us
  | [], [], _ => rfl
  | _ :: _, _ :: _, h => by
    have := List.cons.inj h
    have e : _ = _ := Value.ref.inj this.1
    rw [e, refs_inj this.2]
theorem perm_refs {ts us : List Addr} (h : (us.map Value.ref).Perm (ts.map Value.ref)) : us.Perm ts := by
  have := h.map (fun v => match v with | Value.ref a => a | _ => 0)
  rw [List.map_map, List.map_map] at this
  have e : ∀ l : List Addr, l.map ((fun v => match v with | Value.ref a => a | _ => 0) ∘ Value.ref) = l := fun l => List.map_id'' (fun _ => rfl) l
  rwa [e, e] at this
theorem kr_sortedSK (h : X.K = K := by rfl) : CallR X (.builtin "sorted") (rSortSK K) := by
  subst h
  intro pins s σ H vs us Q I r h
  obtain ⟨a, ts, k, m, rfl, hs, hx, q⟩ := h
  obtain ⟨its, rv, hl, hz⟩ := I.list hs
  obtain ⟨u, rfl, ru⟩ := vals1 r
  obtain rfl : u = Value.ref a := ru
  have eits : its = ts.map Value.ref := by
    clear hl hz hs hx q
    induction ts generalizing its with
    | nil => cases rv; rfl
    | cons t ts ih =>
      cases rv with
      | cons r1 r2 =>
        cases r1
        rw [ih _ r2]
        rfl
  have hk : ∀ t ∈ ts, pkAt H (.ref t) = k t := fun t ht => pkAt_of (hx t ht).1
  refine SrtO.sorted_ord (ltv := fun v u => pLt (pkAt H v) (pkAt H u)) (Swo.on pLt_swo (pkAt H)) hl.isList (by rw [← rv.length]; exact hz) (fun h2 h₁ a ha kk => ?_) fun out hs' hb => ?_
  · refine sk_sortable (m := m) (s := { s with heap := h₁ }) (by omega) (fun v hv => ?_) fun o e => ?_
    · rw [eits] at hv
      obtain ⟨t, ht, rfl⟩ := List.mem_map.mp hv
      rw [hk t ht]
      exact ⟨(isSK_of I (hx t ht).1).keeps fun b o e _ => (kk b o e).2, (hx t ht).2⟩
    · have e' : some o = some (seqObj "list" its.toArray 0) := e.symm.trans ha
      cases e'
      intro c
      exact absurd (Value.type.inj c) (by decide)
  · rw [eits] at hb
    obtain ⟨us, eus⟩ := refs_list (us := out) fun u hu => by
      obtain ⟨t, _, e⟩ := List.mem_map.mp (hb.perm.mem_iff.mp hu)
      exact ⟨t, e.symm⟩
    subst eus
    have hp : us.Perm ts := perm_refs hb.perm
    have hmem : ∀ t, t ∈ us → t ∈ ts := fun t ht => hp.mem_iff.mp ht
    obtain ⟨n, hn⟩ := PyProof.Rows.sortedAll_at s.heap its (us.map Value.ref).toArray
    have kp : ∀ b o, s.heap.get? b = some o → (PyProof.Rows.sortedAll s.heap its (us.map Value.ref).toArray).get? b = some o := fun b o e => PyProof.Rows.sortedAll_old e
    have hd : s.heap.objs.size ≤ s.heap.objs.size + 1 := Nat.le_succ _
    refine ⟨.ref (s.heap.objs.size + 1), upd H (s.heap.objs.size + 1) (.lst (us.map V.ref)), I.laid (t' := s.toks) kp hd ⟨?_, us.map Value.ref, n, ?_, hn⟩, rfl, q us _ hp ?_ (I.hok.fresh hd)⟩
    · rw [List.length_map, hp.length_eq]
      simpa using hz
    · exact vals_refs us
    · have := List.pairwise_map.mp hs'
      refine List.Pairwise.imp_of_mem (fun {x y} hx hy h => ?_) this
      replace h : pLt (pkAt H (Value.ref y)) (pkAt H (Value.ref x)) = false := h
      rw [hk _ (hmem _ hx), hk _ (hmem _ hy)] at h
      exact h
/-- sorted(a dict keyed by pairs that begin with a text) -/
def rSortDT (H0 : Unit) : List V → Hp → VK → Prop := fun vs H Q => ∃ (a : Addr) (kvs : List (List Key × V)) (ks : List PK) (m : Bool), vs = [.ref a] ∧ Rd H a (.dT kvs) ∧ kvs.map (·.1) = ks.map (fun k => [.inr k.1, k.2]) ∧ kvs.length ≤ 100000 ∧
  (∀ k ∈ ks, k.2.isLeft = m) ∧
  ∀ (us : List Addr) (zs : List PK) p, zs.Perm ks → zs.Pairwise (fun t u => pLt u t = false) → Paired (fun u z => H u = some (.tup [.str z.1, kV z.2])) us zs → H p = none → Q (.ref p) (upd H p (.lst (us.map V.ref)))
theorem paired_of {α β : Type} {F : α → β → Prop} (f : α → β) : ∀ {us : List α}, (∀ u ∈ us, F u (f u)) → Paired F us (us.map f)
  | [], _ => .nil
  | u :: us, h => .cons (h u List.mem_cons_self) (paired_of f fun v hv => h v (List.mem_cons_of_mem _ hv))
theorem kr_sortedDT (hcalm : X.calm = true) : CallR X (.builtin "sorted") (rSortDT ()) := by
  intro pins s σ H xs us Q I r h
  obtain ⟨d, kvs, ks0, m, rfl, hd, hks, hlen, hm, q⟩ := h
  obtain ⟨u, rfl, rx⟩ := vals1 r
  cases rx
  obtain ⟨z, hs, ks, pr, o, es, ep, ho, hx, hdt, he, hn⟩ := (show ObjOk X.prog X.w H s.heap d (.dT kvs) from hd.ok I.hok)
  have l1 : es.size = ks.length := size_of_entries he
  have l2 : kvs.length = ks.length := Paired.length pr
  refine Calls.call_function_entry PyProof.Rows.kind_sorted PyProof.Rows.plain_sorted PyProof.Rows.entry_sorted (PyProof.Rows.args_sorted1 _) ?_
  unfold Builtin.«sorted»
  refine wpAny_bind (m := checkCount "sorted" 1 1 _) (wpAny_pure ?_)
  refine wpAny_bind (PySem.W.kdu_collect (A := X.A.in1) (kdl_raw hs hx hdt) (I.ok.hd hcalm) ho (by omega) fun h' tk acc hk it => ?_)
  have ea : acc.toList = (ks.map fun x => x.2.1).map Value.ref := by
    have hl : acc.toList.length = ks.length := by rw [Array.length_toList, it.1]; exact l1
    rw [List.map_map]
    apply List.ext_getElem?
    intro j
    rw [List.getElem?_map]
    cases hj : acc.toList[j]? with
    | none =>
      have h1 := List.getElem?_eq_none_iff.mp hj
      rw [List.getElem?_eq_none (by omega)]
      all_goals rfl
    | some v =>
      obtain ⟨en, hen, hv⟩ := it.2 j v (by rw [← Array.getElem?_toList]; exact hj)
      have qe := entry_at he j
      rw [hen] at qe
      cases hb : ks[j]? with
      | none =>
        rw [hb] at qe
        exact nomatch (show some en = none from qe)
      | some b =>
        rw [hb] at qe
        have e2 : en = entryOfKey (tupleKind (mixKind X.prog X.w)) b := Option.some.inj qe
        rw [hv, e2]
        all_goals rfl
  -- each key's tuple
  have hK : ∀ j b, (ks.map fun x => x.2.1)[j]? = some b → ∃ k : PK, ks0[j]? = some k ∧ H b = some (.tup [.str k.1, kV k.2]) := fun j b hj => by
    rw [List.getElem?_map] at hj
    cases hb : ks[j]? with
    | none => rw [hb] at hj; cases hj
    | some x =>
      rw [hb] at hj
      obtain rfl : x.2.1 = b := Option.some.inj hj
      obtain ⟨y, hy, f1, f2, f3⟩ := DX.pget pr hb
      have e1 : (kvs.map (·.1))[j]? = some y.1 := by rw [List.getElem?_map, hy]; rfl
      rw [hks, List.getElem?_map] at e1
      cases e2 : ks0[j]? with
      | none => rw [e2] at e1; cases e1
      | some k =>
        rw [e2] at e1
        have e3 : [Sum.inr k.1, k.2] = y.1 := Option.some.inj e1
        refine ⟨k, e2, ?_⟩
        rw [f2, ← e3]
        rfl
  have hK2 : ∀ b ∈ ks.map (fun x => x.2.1), ∃ k : PK, k ∈ ks0 ∧ H b = some (.tup [.str k.1, kV k.2]) := fun b hb => by
    obtain ⟨j, hj⟩ := List.mem_iff_getElem?.mp hb
    obtain ⟨k, h1, h2⟩ := hK j b hj
    exact ⟨k, List.mem_of_getElem? h1, h2⟩
  have I1 : Inv X pins σ H { s with heap := h', toks := tk } := I.kept hk
  have hz : acc.toList.length ≤ sizeLine := by rw [ea, List.length_map, List.length_map]; omega
  refine wpAny_bind (wpAny_newList ?_ hz)
  have hoL : (h'.push (seqObj "list" acc.toList.toArray 0)).get? h'.objs.size = some (seqObj "list" acc.toList.toArray 0) := Heap.get?_push_size _ rfl
  show wpAny _ _ _ _ _ { s with heap := h'.push (seqObj "list" acc.toList.toArray 0), toks := tk }
  have hk2 : ∀ b o, s.heap.get? b = some o → (h'.push (seqObj "list" acc.toList.toArray 0)).get? b = some o := fun b o e => Heap.get?_push_of_some _ (hk b o e)
  have hlt : ∀ b o, s.heap.get? b = some o → b ≠ h'.objs.size := fun b o e => Nat.ne_of_lt (Heap.lt_size (hk b o e))
  refine wpAny_bind (wpAny_holding (wpAny_call_entry PyProof.Rows.slot_list_sort ⟨_, hoL, rfl⟩ PyProof.Rows.entry_list_sort
    (SrtO.list_sort_ord (s := { s with heap := h'.push (seqObj "list" acc.toList.toArray 0), toks := tk }) (ltv := fun v u => pLt (pkAt H v) (pkAt H u)) (Swo.on pLt_swo (pkAt H)) hoL hz (fun h2 => ?_) fun out hs' hb => ⟨_, rfl, ?_⟩) (PyProof.Rows.args_list_sort _)))
  · refine sk_sortable (m := m) (by omega) (fun v hv => ?_) fun o e => ?_
    · rw [ea] at hv
      obtain ⟨t, ht, rfl⟩ := List.mem_map.mp hv
      obtain ⟨k, hk0, hHk⟩ := hK2 t ht
      rw [pkAt_of hHk]
      exact ⟨(isSK_of (x := k) I hHk).keeps fun b o e _ => hk2 b o e, hm k hk0⟩
    · have e' : some o = some (seqObj "list" acc.toList.toArray 0) := e.symm.trans hoL
      cases e'
      intro c
      exact absurd (Value.type.inj c) (by decide)
  · refine wpAny_pure ⟨_, rfl, ?_⟩
    have hl64 : True := True.intro
    obtain ⟨us, eus⟩ := refs_list (us := out) fun u hu => by
      have := hb.perm.mem_iff.mp hu
      rw [ea] at this
      obtain ⟨t, _, e⟩ := List.mem_map.mp this
      exact ⟨t, e.symm⟩
    subst eus
    have hb' := hb.perm
    rw [ea] at hb'
    have hp : us.Perm (ks.map fun x => x.2.1) := perm_refs hb'
    obtain ⟨n, hn⟩ := PyProof.Rows.sortedHeap_at (vs := acc.toList) (out := (us.map Value.ref).toArray) hoL
    have hkh : ∀ b o, h'.get? b = some o → (h'.push (seqObj "list" acc.toList.toArray 0)).get? b = some o := fun b o e => Heap.get?_push_of_some _ e
    have kp : ∀ b o, h'.get? b = some o → (sortedHeap (h'.push (seqObj "list" acc.toList.toArray 0)) h'.objs.size acc.toList (us.map Value.ref).toArray).get? b = some o := fun b o e =>
      (PyProof.Rows.sortedHeap_old (Nat.ne_of_lt (Heap.lt_size e)) (Heap.lt_size (hkh b o e))).trans (hkh b o e)
    have hzs : ((us.map fun u => pkAt H (.ref u))).Perm ks0 := by
      have h1 := hp.map (fun u => pkAt H (.ref u))
      have h2 : (ks.map fun x => x.2.1).map (fun u => pkAt H (.ref u)) = ks0 := by
        apply List.ext_getElem?
        intro j
        rw [List.getElem?_map]
        cases hj : (ks.map fun x => x.2.1)[j]? with
        | none =>
          have h3 := List.getElem?_eq_none_iff.mp hj
          have h4 := congrArg List.length hks
          rw [List.length_map, List.length_map] at h4
          rw [List.length_map] at h3
          rw [List.getElem?_eq_none (by omega)]
          rfl
        | some b =>
          obtain ⟨k, h3, h4⟩ := hK j b hj
          rw [h3]
          show some (pkAt H (.ref b)) = some k
          rw [pkAt_of h4]
      rwa [h2] at h1
    refine ⟨.ref h'.objs.size, upd H h'.objs.size (.lst (us.map V.ref)), I1.laid (t' := tk) kp (Nat.le_refl _) ⟨?_, us.map Value.ref, n, vals_refs us, hn⟩, rfl, q us (us.map fun u => pkAt H (.ref u)) _ hzs ?_ ?_ (I1.hok.fresh (Nat.le_refl _))⟩
    · rw [List.length_map, hp.length_eq, List.length_map]
      omega
    · exact List.pairwise_map.mpr (List.pairwise_map.mp hs')
    · refine paired_of _ fun t ht => ?_
      obtain ⟨k, _, h2⟩ := hK2 t (hp.mem_iff.mp ht)
      rw [pkAt_of h2]
      exact h2
end
end K43
set_option Elab.async false
set_option linter.all false
set_option maxRecDepth 100000
set_option maxHeartbeats 4000000
/-! # KR2: a set of texts from a list, sorted (turned from the layer's rules for ints) -/
namespace K43T
open PySem PySem.Spec PyProof.Rows L2
/-! ### what a set of ints is -/
def keyOf (e : Int × Value) : Str := match e.2 with | .str k _ => k | _ => ⟨#[]⟩
def GoodE (w : World) (e : Int × Value) : Prop := ∃ k tk, e.2 = Value.str k tk ∧ e.1 = hashStr w k

/-- the set of ints at a: S its members, n their number; its table rises and can be walked -/
def SetRS (w : World) (h : Heap) (a : Addr) (S : Str → Bool) (n : Nat) : Prop :=
  ∃ o es ep t, h.get? a = some o ∧ o.ExactSet ∧ o.data = .set es ep t ∧ (∀ e ∈ es.toList, GoodE w e) ∧ (es.toList.map keyOf).Nodup ∧ (∀ k, S k = true ↔ k ∈ es.toList.map keyOf) ∧
    es.size < scanBound ∧ t.fits es.size = true ∧ es.size = n ∧ Ris t.place.toList ∧ (w.params.followText "set-order" = true ∨ t.led = true)

section
variable {P : Program} {w : World} {h h' : Heap} {a : Addr} {S : Str → Bool} {n : Nat}

theorem SetRS.at (R : SetRS w h a S n) (k : ∀ o, h.get? a = some o → h'.get? a = some o) : SetRS w h' a S n := by
  obtain ⟨o, es, ep, t, ho, r⟩ := R
  exact ⟨o, es, ep, t, k o ho, r⟩
theorem SetRS.lt (R : SetRS w h a S n) : a < h.objs.size := by
  obtain ⟨o, es, ep, t, ho, r⟩ := R
  exact Heap.lt_size ho
theorem SetRS.congr {S' : Str → Bool} (R : SetRS w h a S n) (e : ∀ k, S' k = S k) : SetRS w h a S' n := by
  have q : S' = S := funext e
  rw [q]; exact R
theorem good_elems {l : List (Int × Value)} (g : ∀ e ∈ l, GoodE w e) : ElemsOf (PySem.strKind P w) l := fun e he => by
  obtain ⟨k, tk, h1, h2⟩ := g e he
  exact ⟨⟨k, by rw [h1]; exact strKind_is P w k tk, h2⟩, by rw [h1] <;> rfl⟩
theorem good_is {e : Int × Value} (g : GoodE w e) (k : Str) : (PySem.strKind P w).is k e.2 = true ↔ keyOf e = k := by
  obtain ⟨k0, tk, h1, _⟩ := g
  unfold keyOf
  rw [h1]
  show ((k0 == k) = true) ↔ k0 = k
  exact beq_iff_eq
theorem good_mem {l : List (Int × Value)} (g : ∀ e ∈ l, GoodE w e) (k : Str) : k ∈ l.map keyOf ↔ ∃ e ∈ l, (PySem.strKind P w).is k e.2 = true := by
  rw [List.mem_map]
  constructor
  · rintro ⟨e, he, q⟩
    exact ⟨e, he, (good_is (g e he) k).2 q⟩
  · rintro ⟨e, he, q⟩
    exact ⟨e, he, (good_is (g e he) k).1 q⟩
theorem SetRS.setOf (R : SetRS w h a S n) : h.SetOf (PySem.strKind P w) a S n := by
  obtain ⟨o, es, ep, t, ho, hx, hd, g, nd, hm, hb, hf, hn, _⟩ := R
  exact ⟨o, es, ep, t, ho, hx, hd, good_elems g, fun k => (hm k).trans (good_mem g k), hb, hf, hn⟩
end

section
variable {P : Program} {w : World} {A : Around} {E : Value → Shared → Prop} {s : Shared} {a : Addr} {S : Str → Bool} {n : Nat}

/-! ### add -/
theorem setRS_add_tail {g : Bool → Sem Unit} (hg : ∀ (b : Bool) (s₁ : Shared) (Q' : Unit → Shared → Prop), Q' () s₁ → wpAny (model P w) A (g b) Q' E s₁)
    {o : Obj} {es : Array (Int × Value)} {ep : Nat} {t : SetTable} (ho : s.heap.get? a = some o) (hex : o.ExactSet) (hd : o.data = .set es ep t)
    {es1 : Array (Int × Value)} {t2 : SetTable} {S' : Str → Bool} (g1 : ∀ e ∈ es1.toList, GoodE w e) (nd1 : (es1.toList.map keyOf).Nodup) (m1 : ∀ k, S' k = true ↔ k ∈ es1.toList.map keyOf)
    (hb1 : es1.size < scanBound) (hf2 : t2.fits es1.size = true) (hr : Ris t2.place.toList) (hl : w.params.followText "set-order" = true ∨ t2.led = true) {wasDummy : Bool} {R : Option Bool → Shared → Prop}
    (hR : ∀ h', Heap.SameBut a s.heap h' → SetRS w h' a S' es1.size → R (some true) { s with heap := h' }) :
    wpAny (model P w) A (do
        storeSet a es1 t2
        if (!wasDummy && t2.tooFull) = true then do
            g (relayAll t2 es1 (SetTable.grown es1.size)).2.2
            storeSet a (relayAll t2 es1 (SetTable.grown es1.size)).1 (relayAll t2 es1 (SetTable.grown es1.size)).2.1
            pure (some true)
          else pure (some true)) R E s := by
  refine wpAny_bind (wpAny_storeSet_of ho hd ?_ (fits_of_scanBound hb1))
  have ho1 := store_at (es' := es1) (t' := t2) ho hd
  have sb1 := Heap.SameBut.update s.heap a (Obj.putSet es1 t2)
  split
  · have pm := relayAll_perm t2 es1 (SetTable.grown es1.size)
    have hf3 := relayAll_fits t2 es1 (SetTable.grown es1.size)
    have hr3 := relayAll_ris t2 es1 (SetTable.grown es1.size)
    have hl3 := relayAll_led t2 es1 (SetTable.grown es1.size)
    generalize relayAll t2 es1 (SetTable.grown es1.size) = Z at pm hf3 hr3 hl3 ⊢
    obtain ⟨es2, t3, gave⟩ := Z
    dsimp only at pm hf3 hr3 hl3 ⊢
    have hsz : es2.size = es1.size := by rw [← Array.length_toList, pm.length_eq, Array.length_toList]
    have hb2 : es2.size < scanBound := by rw [hsz]; exact hb1
    refine wpAny_bind (hg _ _ _ ?_)
    refine wpAny_bind (wpAny_storeSet_of ho1 rfl ?_ (fits_of_scanBound hb2))
    have ho2 := store_at (es' := es2) (t' := t3) ho1 rfl
    refine wpAny_pure (hR _ (sb1.trans (Heap.SameBut.update _ a _)) ?_)
    exact ⟨_, es2, _, t3, ho2, hex, rfl, fun e he => g1 e (pm.mem_iff.mp he), (pm.map keyOf).nodup_iff.mpr nd1, fun k => (m1 k).trans (pm.map keyOf).mem_iff.symm, hb2, hf3, hsz, hr3,
      hl.imp id fun z => by rw [hl3]; exact z⟩
  · exact wpAny_pure (hR _ sb1 ⟨_, es1, _, t2, ho1, hex, rfl, g1, nd1, m1, hb1, hf2, rfl, hr, hl⟩)

theorem setRS_add_hashed {k : Str} {tk : Tok} {Q : Bool → Shared → Prop} (R : SetRS w s.heap a S n) (room : n + 1 < scanBound)
    (hQ : ∀ h', Heap.SameBut a s.heap h' → SetRS w h' a (fun j => S j || decide (j = k)) (if S k = true then n else n + 1) → Q (!S k) { s with heap := h' }) :
    wpAny (model P w) A (setAddHashed a (.str k tk) ((PySem.strKind P w).hash k)) Q E s := by
  obtain ⟨o, es, ep, t, ho, hex, hd, g, nd, hm, hb, hf, hn, hr, hl⟩ := R
  have hkey : (PySem.strKind P w).is k (.str k tk) = true := strKind_is P w k tk
  have hsc : (Value.str k tk).scannable = true := rfl
  have hel : ElemsOf (PySem.strKind P w) es.toList := good_elems g
  unfold setAddHashed setAddHashedIn
  refine wpAny_holding (wpAny_bind (wpAny_setState_of ho hd hf ?_))
  dsimp only
  rw [byScan_of hsc hb hel]
  simp only [↓reduceIte]
  unfold setAddByScan
  refine wpAny_bind ?_
  refine wpAny_bind (wpAny_rule ?_)
  refine wpAny_bind (wpAny_setScan_of hkey ho hd hf hel ?_)
  cases hfi : List.findIdx? (fun e => (PySem.strKind P w).is k e.2) es.toList with
  | some j =>
    dsimp only
    obtain ⟨hj, pj, _⟩ := List.findIdx?_eq_some_iff_getElem.mp hfi
    have hSk : S k = true := (hm k).2 ((good_mem (P := P) (w := w) g k).2 ⟨es.toList[j], List.getElem_mem hj, pj⟩)
    refine wpAny_pure (wpAny_pure ?_)
    have q := hQ s.heap (Heap.SameBut.refl a s.heap) ⟨o, es, ep, t, ho, hex, hd, g, nd, fun i => by
      rw [Bool.or_eq_true, decide_eq_true_eq, ← hm i]
      exact ⟨fun z => z.elim id (fun e => e ▸ hSk), .inl⟩, hb, hf, by rw [if_pos hSk]; exact hn, hr, hl⟩
    rw [hSk] at q
    exact q
  | none =>
    dsimp only
    have hnk : k ∉ es.toList.map keyOf := fun z => by
      obtain ⟨e, he, q⟩ := (good_mem (P := P) (w := w) g k).1 z
      have c := List.findIdx?_eq_none_iff.mp hfi e he
      rw [q] at c
      cases c
    have hSk : S k = false := by
      cases q : S k with
      | false => rfl
      | true => exact absurd ((hm k).1 q) hnk
    have hgw : ∀ (b : Bool) {s₁ : Shared} {Q' : Unit → Shared → Prop}, Q' () s₁ → wpAny (model P w) A (match b with | true => rule "set.scan.the-table-gave-way" | false => pure ()) Q' E s₁ :=
      fun b s₁ Q' q => by cases b <;> first | exact wpAny_pure q | exact wpAny_rule q
    have pm := layNew_perm t es ((PySem.strKind P w).hash k) (.str k tk)
    have hf1 := layNew_fits t es ((PySem.strKind P w).hash k) (.str k tk)
    have hr1 := layNew_ris t es ((PySem.strKind P w).hash k) (.str k tk) hr
    have hl1 := layNew_led t es ((PySem.strKind P w).hash k) (.str k tk)
    generalize layNew t es ((PySem.strKind P w).hash k) (.str k tk) = Z at pm hf1 hr1 hl1 ⊢
    obtain ⟨es1, t1, wasDummy, gave⟩ := Z
    dsimp only at pm hf1 hr1 hl1 ⊢
    rw [Array.toList_push] at pm
    have pc : es1.toList.Perm (((PySem.strKind P w).hash k, Value.str k tk) :: es.toList) := pm.trans (List.perm_append_singleton _ _)
    have pk : (es1.toList.map keyOf).Perm (k :: es.toList.map keyOf) := pc.map keyOf
    have g1 : ∀ e ∈ es1.toList, GoodE w e := fun e he => by
      rcases List.mem_cons.mp (pc.mem_iff.mp he) with z | z
      · rw [z]; exact ⟨k, tk, rfl, rfl⟩
      · exact g e z
    have nd1 : (es1.toList.map keyOf).Nodup := pk.nodup_iff.mpr (List.nodup_cons.mpr ⟨hnk, nd⟩)
    have m1 : ∀ i, (S i || decide (i = k)) = true ↔ i ∈ es1.toList.map keyOf := fun i => by
      rw [Bool.or_eq_true, decide_eq_true_eq, hm i, pk.mem_iff, List.mem_cons]
      exact Or.comm
    have hsz : es1.size = n + 1 := by rw [← Array.length_toList, pc.length_eq, List.length_cons, Array.length_toList, hn]
    have hb1 : es1.size < scanBound := by rw [hsz]; exact room
    have hled : w.params.followText "set-order" = true ∨ t1.led = true := hl.imp id fun z => by rw [hl1]; exact z
    have fin : ∀ h', Heap.SameBut a s.heap h' → SetRS w h' a (fun j => S j || decide (j = k)) es1.size → Q true { s with heap := h' } := fun h' sb r => by
      have q := hQ h' sb
      rw [hSk] at q
      rw [hsz] at r
      exact q r
    refine wpAny_bind (hgw _ ?_)
    split
    · refine wpAny_bind ?_
      rw [hashByValue_scannable 8 hsc]
      refine wpAny_pure ?_
      refine setRS_add_tail ?_ ho hex hd g1 nd1 m1 hb1 ?_ ?_ ?_ ?_
      · intro b s₁ Q' q; cases b <;> first | exact wpAny_pure q | exact wpAny_rule q
      · first | (split <;> first | exact hf1 | exact SetTable.fits_plain_off hf1) | exact hf1
      · first | (split <;> exact hr1) | exact hr1
      · first | (split <;> exact hled) | exact hled
      · intro h' sb r; dsimp only; exact wpAny_pure (fin h' sb r)
    · refine wpAny_bind (wpAny_pure ?_)
      simp only [↓reduceIte]
      refine setRS_add_tail ?_ ho hex hd g1 nd1 m1 hb1 hf1 hr1 hled ?_
      · intro b s₁ Q' q; cases b <;> first | exact wpAny_pure q | exact wpAny_rule q
      · intro h' sb r; dsimp only; exact wpAny_pure (fin h' sb r)

end
theorem setRS_new_at {w : World} {h : Heap} {a : Addr} {ns : List Str} (ho : h.get? a = some { cls := .type "set", dict := none, data := .set #[] 0 (.fresh 0 0 (!w.params.followText "set-order")) }) : SetRS w h a (fun j => decide (j ∈ ns.take 0)) 0 :=
  ⟨_, #[], 0, _, ho, ⟨rfl, rfl, rfl⟩, rfl, (fun e he => by simp at he), (by simp), (fun k => by simp), (by decide), (by rfl), rfl, List.Pairwise.nil, by
    show _ ∨ (!w.params.followText "set-order") = true
    cases w.params.followText "set-order"
    · exact .inr rfl
    · exact .inl rfl⟩
section
variable {P : Program} {w : World} {A : Around} {E : Value → Shared → Prop} {s : Shared}
theorem set_update_strs {I : Addr} {fp wr : List Addr} {G : Array GenState → Array GenState → Prop} {n : Nat} {Pv : Nat → Value → Prop} {St : Nat → Shared → Prop} {R : Result → Shared → Prop}
    (W : WalksS P w A.in1 I fp wr G n Pv St) (S : Addr) (hSf : S ∉ fp) (ns : List Str) (hn : n = ns.length) (hb : ns.length + 1 < scanBound) (hval : ∀ i v, Pv i v → ∃ k t, ns[i]? = some k ∧ v = .str k t) :
    ∀ (k i : Nat) (s : Shared), n - i = k → i ≤ n → St i s → (∃ c, c ≤ i ∧ SetRS w s.heap S (fun j => decide (j ∈ ns.take i)) c) →
      (∀ s' c, Moved (S :: wr) G s s' → c ≤ n → SetRS w s'.heap S (fun j => decide (j ∈ ns)) c → R (.ok (.ret .none)) s') →
      codeAny (model P w) A (.builtin "set.update.loop" ⟨[.ref S, .ref I], []⟩) R s := by
  have hSw : S ∉ wr := fun h => hSf (W.sub _ h)
  have hsub : ∀ b ∈ wr, b ∈ S :: wr := fun b hb => List.mem_cons_of_mem _ hb
  intro k
  induction k with
  | zero =>
    intro i s hk' hi hst ⟨c, hc, hS⟩ hR
    have hin : i = n := by omega
    subst hin
    refine codeAny_builtin F.entry_set_update_loop ?_
    rw [Around.under_plainId F.plain_set_update_loop _]
    show wpAny _ A.in1 (pyNext (.ref I) >>= _) _ _ s
    refine wpAny_bind (W.done s _ _ hst fun s' hm => ?_)
    show wpAny _ A.in1 (ret Value.none) _ _ s'
    have e : ns.take i = ns := List.take_of_length_le (by omega)
    rw [e] at hS
    exact wpAny_pure (hR s' c (hm.mono hsub) hc (hS.at fun o e => hm.heap S o hSw e))
  | succ k ih =>
    intro i s hk' hi hst ⟨c, hc, hS⟩ hR
    have hlt : i < n := by omega
    refine codeAny_builtin F.entry_set_update_loop ?_
    rw [Around.under_plainId F.plain_set_update_loop _]
    show wpAny _ A.in1 (pyNext (.ref I) >>= _) _ _ s
    refine wpAny_bind (W.item i s _ _ hlt hst fun v s' hP hst' hm => ?_)
    obtain ⟨z, t, hz, rfl⟩ := hval i v hP
    have hS' : SetRS w s'.heap S (fun j => decide (j ∈ ns.take i)) c := hS.at fun o e => hm.heap S o hSw e
    show wpAny _ A.in1 (holding [Value.str z t] (setAdd S (.str z t)) >>= _) _ _ s'
    refine wpAny_bind (wpAny_holding ?_)
    unfold setAdd
    refine wpAny_holding ?_
    refine wpAny_bind ((PySem.strKind P w).pyHash (k := z) (strKind_is _ _ _ _) ?_)
    refine setRS_add_hashed (s := { s' with toks := s'.toks + 1 }) hS' (by omega) fun h' hsb hS2 => ?_
    have hS3 : SetRS w h' S (fun j => decide (j ∈ ns.take (i + 1))) (if decide (z ∈ ns.take i) = true then c else c + 1) := hS2.congr fun j => by
      rw [List.take_add_one, hz]
      simp [List.mem_append]
    have hc3 : (if decide (z ∈ ns.take i) = true then c else c + 1) ≤ i + 1 := by
      split <;> omega
    refine wpAny_pure ⟨plainId_quiet F.plain_set_update_loop _, ih (i + 1) _ (by omega) hlt (W.frame _ s' _ _ hst' (Nat.le_succ _) fun b hb o e => ?_) ⟨_, hc3, hS3⟩ fun s'' c2 hm'' hc'' hS'' => ?_⟩
    · rw [hsb.2 b (fun h : b = S => hSf (by rw [← h]; exact hb))]; exact e
    · refine hR s'' c2 (Moved.trans W.gtrans ((hm.mono hsub).then_heap (Nat.le_succ _) fun b o hb e => ?_) hm'') hc'' hS''
      rw [hsb.2 b (fun h : b = S => hb (by rw [h]; exact List.mem_cons_self))]; exact e

set_option maxRecDepth 100000 in
set_option maxHeartbeats 3200000 in
theorem call_set_lstS {l : Addr} {items : Array Value} (ns : List Str) {Q : Value → Shared → Prop} (hh : A.handled = none) (hl : s.heap.IsList l items) (hit : StrsAre items.toList ns) (hb : ns.length + 1 < scanBound)
    (h : ∀ (h' : Heap) (tk c : Nat), SetRS w h' s.heap.objs.size (fun j => decide (j ∈ ns)) c → c ≤ ns.length → (∀ b o, s.heap.get? b = some o → h'.get? b = some o) → Q (.ref s.heap.objs.size) { s with heap := h', toks := tk }) :
    wpAny (model P w) A (call (.type "set") [.ref l]) Q E s := by
  have hisz : items.size = ns.length := by
    have q := PyProof.Rows.StrsAre.len_eq hit
    rw [Array.length_toList] at q
    exact q
  obtain ⟨c, tl, hmro⟩ := F.called_set.mro
  have hmade := F.called_set.made
  have hsub := F.called_set.sub
  refine wpAny_call (codeAny_of_tree ?_)
  show wpAny _ _ (callAny (.type "set") _) _ _ _
  refine wpAny_pure ⟨Code.quiet_builtin _ (by decide +kernel), codeAny_builtin F.entry_type_call ?_⟩
  rw [Around.under_plain (weight_type_call_type "set" [.ref l] []) rfl]
  have h1 := F.called_set.notType
  have h2 := F.called_set.canCreate
  have hct := F.typeCall_set_1 (.ref l)
  repeat (any_goals (first | assumption | wp_step))

  refine codeAny_mono (code_set_led1 (.ref l) (E := E) (Q₁ := fun obj s₁ => obj = .ref s.heap.objs.size ∧ s₁ = { s with heap := s.heap.push { cls := .type "set", dict := none, data := .set #[] 0 (.fresh 0 0 (!w.params.followText "set-order")) } }) ⟨rfl, rfl⟩) fun r s₁ hr => ?_
  cases r with
  | error e => exact hr
  | ok fl =>
    cases fl with
    | ret obj =>
      obtain ⟨rfl, rfl⟩ := hr
      have hS : (s.heap.push { cls := .type "set", dict := none, data := .set #[] 0 (.fresh 0 0 (!w.params.followText "set-order")) }).get? s.heap.objs.size = some { cls := .type "set", dict := none, data := .set #[] 0 (.fresh 0 0 (!w.params.followText "set-order")) } := Heap.get?_push_size _ rfl
      have hT : Shared.TypeIs { s with heap := s.heap.push { cls := .type "set", dict := none, data := .set #[] 0 (.fresh 0 0 (!w.params.followText "set-order")) } } (.ref s.heap.objs.size) "set" := ⟨_, hS, rfl⟩
      have hli := F.called_set.init.lookup
      have hbi := F.called_set.init.bind (.ref s.heap.objs.size)
      repeat (any_goals (first | assumption | wp_step))

      refine codeAny_mono (codeAny_call_builtin (R := wants (fun r s₂ => r = .none ∧ ∃ h' tk c, s₂ = { s with heap := h', toks := tk } ∧ SetRS w h' s.heap.objs.size (fun j => decide (j ∈ ns)) c ∧ c ≤ ns.length ∧
          (∀ b o, s.heap.get? b = some o → h'.get? b = some o)) E) F.called_set.init.plain F.entry_set_init (check_set_init_1 hT ?_)) fun r₂ s₂ hr₂ => ?_
      · obtain ⟨ol, hol, hcl, nl, hdl⟩ := hl
        obtain ⟨ocls, odict, odata, oslots⟩ := ol
        simp only at hcl hdl
        subst hcl; subst hdl
        have hol' : (s.heap.push { cls := .type "set", dict := none, data := .set #[] 0 (.fresh 0 0 (!w.params.followText "set-order")) }).get? l = some { cls := .type "list", dict := odict, data := .seq items nl, slots := oslots } := Heap.get?_push_of_some _ hol
        have hsls := F.sub_list_set
        have hslf := F.sub_list_frozenset
        have hne : (Value.type "list" == Value.type "dict") = false := by decide
        have hl1 : (s.heap.push { cls := .type "set", dict := none, data := .set #[] 0 (.fresh 0 0 (!w.params.followText "set-order")) }).IsList l items := ⟨_, hol', rfl, nl, rfl⟩
        unfold Builtin.«set.__init__» noKeywords Builtin.Frozenset.updateFrom
        generalize hPI : pyIter = PI
        wp_walk
        subst hPI

        refine wpAny_pyIter_list hl1 ?_
        refine wpAny_bind (wpAny_runValue ?_)
        have hlS : l < s.heap.objs.size := Heap.lt_size hol
        have hh3 : A.in1.in1.in1.handled = none := by simp [hh]
        have hz1 : (s.heap.push { cls := .type "set", dict := none, data := .set #[] 0 (.fresh 0 0 (!w.params.followText "set-order")) }).objs.size = s.heap.objs.size + 1 := Heap.size_push ..
        have hneI : l ≠ (s.heap.push { cls := .type "set", dict := none, data := .set #[] 0 (.fresh 0 0 (!w.params.followText "set-order")) }).objs.size := by
          rw [Heap.size_push]; exact Nat.ne_of_lt (Nat.lt_succ_of_lt hlS)
        have hSf : s.heap.objs.size ∉ [(s.heap.push { cls := .type "set", dict := none, data := .set #[] 0 (.fresh 0 0 (!w.params.followText "set-order")) }).objs.size, l] := by
          rw [Heap.size_push]; simp only [List.mem_cons, List.mem_singleton, List.not_mem_nil, or_false, not_or]
          exact ⟨Nat.ne_of_lt (Nat.lt_succ_self _), Nat.ne_of_gt hlS⟩
        have hval : ∀ (i : Nat) (v : Value), items[i]? = some v → ∃ k t, ns[i]? = some k ∧ v = .str k t := fun i v hv => by
          have hi : i < ns.length := by rw [← hisz]; exact (Array.getElem?_eq_some_iff.mp hv).1
          obtain ⟨t, e⟩ := SS.strs_at hit i v (by rw [Array.getElem?_toList]; exact hv)
          refine ⟨ns[i], t, List.getElem?_eq_getElem hi, ?_⟩
          rw [e, List.getD_eq_getElem?_getD, List.getElem?_eq_getElem hi] <;> rfl
        refine set_update_strs ((Walks.list hh3 _ l hneI items).toS) s.heap.objs.size
          hSf ns hisz hb hval (items.size - 0) 0 _ (by omega) (Nat.zero_le _)
          ⟨⟨_, Heap.get?_push_size _ rfl, rfl, rfl⟩, (hl1.push _)⟩ ?hS0 ?hR
        case hS0 =>
          have hget : ((s.heap.push { cls := .type "set", dict := none, data := .set #[] 0 (.fresh 0 0 (!w.params.followText "set-order")) }).push { cls := .type "list_iterator", data := .fields #[.ref l, .int 0 0] }).get? s.heap.objs.size
              = some { cls := .type "set", dict := none, data := .set #[] 0 (.fresh 0 0 (!w.params.followText "set-order")) } := Heap.get?_push_of_some _ hS
          exact ⟨0, Nat.le_refl 0, setRS_new_at hget⟩
        case hR =>
          intro s' c' hm hc' hS'
          obtain ⟨h', g2, d', tk', os'⟩ := s'
          have eg : g2 = s.gens := hm.gens
          have ed : d' = s.drawn := hm.drawn
          have eo : os' = s.os := hm.os
          subst eg; subst ed; subst eo
          show wpAny _ _ _ _ _ _
          refine wpAny_pure ?_
          show wpAny _ _ (ret Value.none) _ _ _
          rw [hisz] at hc'
          refine wpAny_pure ⟨rfl, h', tk', c', rfl, hS', hc', fun b o e => ?_⟩
          have hb0 : b < s.heap.objs.size := Heap.lt_size e
          have hb1 : b ≠ s.heap.objs.size := Nat.ne_of_lt hb0
          have hb2 : b ≠ (s.heap.push { cls := .type "set", dict := none, data := .set #[] 0 (.fresh 0 0 (!w.params.followText "set-order")) }).objs.size := by
            rw [Heap.size_push]; exact Nat.ne_of_lt (Nat.lt_succ_of_lt hb0)
          exact hm.heap b o (by simp only [List.mem_cons, List.mem_singleton, List.not_mem_nil, or_false, not_or]; exact ⟨hb1, hb2⟩) (Heap.get?_push_of_some _ (Heap.get?_push_of_some _ e))

      · cases r₂ with
        | error e => exact hr₂
        | ok fl₂ =>
          cases fl₂ with
          | ret r =>
            obtain ⟨rfl, h', tk, c', rfl, hS', hc', hk'⟩ := hr₂
            repeat (any_goals (first | assumption | wp_step))
            exact h _ _ _ hS' hc' hk'
          | _ => exact hr₂.elim
    | _ => exact hr.elim

end

end K43T
set_option Elab.async false
set_option linter.all false
set_option maxRecDepth 100000
set_option maxHeartbeats 4000000
/-! # KR3: rules: set(texts), sorted of it, l.extend(tuple) -/
namespace K43
open PySem PySem.Spec PyProof.Rows L2 RZ K43S K43T
def SetSO (w : World) (a : Addr) (S : Str → Bool) (n : Nat) : HO := .ext fun h => SetRS w h a S n
theorem setSO_new {w : World} {P : Program} {H : Hp} {h : Heap} {a : Addr} {S : Str → Bool} {n : Nat} (R : SetRS w h a S n) : ObjOk P w H h a (SetSO w a S n) := by
  have ⟨o, _, _, _, ho, _⟩ := R
  exact ⟨R, ⟨o, ho⟩, fun h1 h2 p k => SetRS.at p k⟩
section
variable {X : Cx}
/-- set(xs), a list of texts -/
def rSetS (w : World) : List V → Hp → VK → Prop := fun xs H Q => ∃ (l : Addr) (ss : List Str), xs = [.ref l] ∧ H l = some (.lst (ss.map V.str)) ∧ ss.length < 4000 ∧ ∀ a c, H a = none → c ≤ ss.length → Q (.ref a) (upd H a (SetSO w a (fun j => decide (j ∈ ss)) c))
theorem kr_setS (hc : X.calm = true) : CallR X (.type "set") (rSetS X.w) := by
  intro pins s σ H xs us Q I r h
  obtain ⟨l, ss, rfl, hl, hz, q⟩ := h
  rw [Vals.ref1 r]
  obtain ⟨its, rv, pl, hz'⟩ := I.list (SqL.of (K := X.K) hl)
  refine call_set_lstS (P := X.prog) (w := X.w) ss (I.ok.hd hc) pl.isList (by simpa using strs_of_vals rv) (by unfold scanBound; omega) fun h' tk c R hc' k => ?_
  exact ⟨.ref s.heap.objs.size, upd H s.heap.objs.size (SetSO X.w s.heap.objs.size _ c), I.laid (t' := tk) k (Nat.le_refl _) (setSO_new R), rfl, q _ c (I.hok.fresh (Nat.le_refl _)) hc'⟩
/-! texts, sorted -/
def svt (v : Value) : Str := match v with | .str x _ => x | _ => ⟨#[]⟩
theorem strs_mem : ∀ {vs : List Value} {ns : List Str}, StrsAre vs ns → ∀ v ∈ vs, ∃ i t, v = Value.str i t
  | _, _, .nil, v, h => absurd h (by simp)
  | _, _, .cons n t r, v, h => by
    rcases List.mem_cons.mp h with e | h
    · exact ⟨n, t, e⟩
    · exact strs_mem r v h
theorem strs_svt : ∀ {vs : List Value}, (∀ v ∈ vs, ∃ i t, v = Value.str i t) → StrsAre vs (vs.map svt)
  | [], _ => .nil
  | v :: vs, h => by
    obtain ⟨i, t, e⟩ := h v List.mem_cons_self
    subst e
    exact .cons i t (strs_svt fun u hu => h u (List.mem_cons_of_mem _ hu))
section
variable {prog : Program} {w : World} {A : Around} {E : Value → Shared → Prop} {s : Shared}
theorem strs_sortable {a : Addr} {vs : List Value} {ns : List Str} (hI : StrsAre vs ns) (h2 : 2 ≤ vs.length) : SrtO.SortableO prog w A s a vs fun v u => sLt (svt v) (svt u) := by
  intro h' _
  refine ⟨oneType', fun Q E hq => ?_, fun p q hm hm' => ?_⟩
  · match vs, hI, h2 with
    | v1 :: v2 :: rest, hI, _ =>
      rw [keyKind_strs hI]
      exact wpAny_pure hq
    | [], _, h => exact absurd h (by decide)
    | [v], _, h => exact absurd h (by simp)
  · obtain ⟨a, t, e⟩ := strs_mem hI _ hm
    obtain ⟨b, u, e'⟩ := strs_mem hI _ hm'
    show wpAny (model prog w) A (keyLt' oneType' p.1 q.1) (fun r s' => s' = { s with heap := h' } ∧ r = sLt (svt p.1) (svt q.1)) (fun _ _ => False) { s with heap := h' }
    rw [e, e', keyLt'_oneType]
    exact oneLt_str ⟨rfl, rfl⟩
end
/-- sorted(a set of texts) -/
def rSortedS (w : World) : List V → Hp → VK → Prop := fun vs H Q => ∃ (a : Addr) (S : Str → Bool) (n : Nat), vs = [.ref a] ∧ H a = some (SetSO w a S n) ∧
  ∀ (ys : List Str) (p : Addr), ys.Pairwise (fun x y => sLt x y = true) → (∀ k : Str, k ∈ ys ↔ S k = true) → H p = none → Q (.ref p) (upd H p (.lst (ys.map V.str)))
theorem kr_sortedS (hcalm : X.calm = true) : CallR X (.builtin "sorted") (rSortedS X.w) := by
  intro pins s σ H xs us Q I r h
  obtain ⟨a, S, n, rfl, ha, q⟩ := h
  rw [Vals.ref1 r]
  have R : SetRS X.w s.heap a S n := (I.hok a _ ha).1
  obtain ⟨o, es, ep, t, ho, hex, hd, g, nd, hm, hb, hf, hn, hr, hl⟩ := R
  refine Calls.call_function_entry PyProof.Rows.kind_sorted PyProof.Rows.plain_sorted PyProof.Rows.entry_sorted (PyProof.Rows.args_sorted1 _) ?_
  unfold Builtin.«sorted»
  refine wpAny_bind (m := checkCount "sorted" 1 1 _) (wpAny_pure ?_)
  refine wpAny_bind (collect_set (A := X.A.in1) (I.ok.hd hcalm) ⟨o, ho, hex.1, hd⟩ hf hb hr hl fun s1 vs k1 hz g1 o1 pm => ?_)
  have hvl : vs.length = n := by rw [pm.length_eq, List.length_map, Array.length_toList]; exact hn
  have hvz : vs.length ≤ sizeLine := by rw [hvl, sizeLine_eq, ← hn]; unfold scanBound at hb; omega
  have hI : StrsAre vs (vs.map svt) := strs_svt fun v hv => by
    obtain ⟨e, he, q⟩ := List.mem_map.mp (pm.mem_iff.mp hv)
    obtain ⟨k, tk, h1, _⟩ := g e he
    exact ⟨k, tk, by rw [← q]; exact h1⟩
  have pk : (vs.map svt).Perm (es.toList.map K43T.keyOf) := by
    have q := pm.map svt
    rw [List.map_map] at q
    exact q
  refine wpAny_bind (wpAny_newList ?_ hvz)
  have hoL : (s1.heap.push (seqObj "list" vs.toArray 0)).get? s1.heap.objs.size = some (seqObj "list" vs.toArray 0) := Heap.get?_push_size _ rfl
  show wpAny _ _ _ _ _ { s1 with heap := s1.heap.push (seqObj "list" vs.toArray 0) }
  refine wpAny_bind (wpAny_holding (wpAny_call_entry PyProof.Rows.slot_list_sort ⟨_, hoL, rfl⟩ PyProof.Rows.entry_list_sort
    (SrtO.list_sort_ord (s := { s1 with heap := s1.heap.push (seqObj "list" vs.toArray 0) }) (ltv := fun v u => sLt (svt v) (svt u)) (Swo.on sLt_swo svt) hoL hvz (fun h2 => strs_sortable hI h2) fun out hs' hb' => ⟨_, rfl, ?_⟩) (PyProof.Rows.args_list_sort _)))
  obtain ⟨c, hc⟩ := PyProof.Rows.sortedHeap_at (vs := vs) (out := out.toArray) hoL
  have hSo : StrsAre out (out.map svt) := strs_svt fun v hv => strs_mem hI v (hb'.perm.mem_iff.mp hv)
  have pn : (out.map svt).Perm (es.toList.map K43T.keyOf) := (hb'.perm.map svt).trans pk
  have hnd : (out.map svt).Nodup := pn.nodup_iff.mpr nd
  have hso : (out.map svt).Pairwise (fun x y => sLt x y = true) := by
    have h1 : (out.map svt).Pairwise (fun x y => sLt y x = false) := List.pairwise_map.mpr hs'
    refine (List.Pairwise.and h1 hnd).imp fun {x y} ⟨h2, h3⟩ => ?_
    cases q : sLt x y with
    | true => rfl
    | false => exact absurd (sLt_tri q h2) h3
  have kp : ∀ b o, s.heap.get? b = some o → (sortedHeap (s1.heap.push (seqObj "list" vs.toArray 0)) s1.heap.objs.size vs out.toArray).get? b = some o := fun b u e => by
    have q := k1 b u e
    have hlt := Heap.lt_size q
    rw [PyProof.Rows.sortedHeap_old (Nat.ne_of_lt hlt) (by rw [size_push']; exact Nat.lt_succ_of_lt hlt)]
    exact Heap.get?_push_of_some _ q
  have hn0 : H s1.heap.objs.size = none := I.hok.fresh hz
  have hlen : ((out.map svt).map V.str).length ≤ sizeLine := by rw [List.length_map, List.length_map, hb'.perm.length_eq]; exact hvz
  have J : Inv X pins σ (upd H s1.heap.objs.size (.lst ((out.map svt).map V.str))) { s with heap := sortedHeap (s1.heap.push (seqObj "list" vs.toArray 0)) s1.heap.objs.size vs out.toArray, gens := s1.gens, drawn := s1.drawn, toks := s1.toks } :=
    I.call (ch := []) (Un.laid kp hz hn0) (I.hok.laid kp hz ⟨hlen, out, c, vals_of_strs hSo, hc⟩) (by rw [g1]; exact I.bare) (fun _ z => nomatch z)
  have e : ({ s1 with heap := sortedHeap (s1.heap.push (seqObj "list" vs.toArray 0)) s1.heap.objs.size vs out.toArray } : Shared) = { s with heap := sortedHeap (s1.heap.push (seqObj "list" vs.toArray 0)) s1.heap.objs.size vs out.toArray, gens := s1.gens, drawn := s1.drawn, toks := s1.toks } := by
    cases s1
    cases s
    cases o1
    rfl
  refine wpAny_pure ⟨_, rfl, ?_⟩
  show EP X pins σ Q _ _
  rw [e]
  exact ⟨.ref s1.heap.objs.size, _, J, rfl, q _ _ hso (fun k => by rw [pn.mem_iff, ← hm k]) hn0⟩
/-! l.extend(tuple) -/
theorem list_extend_tuple (l : Addr) (items : Array Value) (n : Nat) (b : Addr) (items2 : Array Value) (n2 : Nat) (od : Option Addr) (sl : Array (Option Value)) (hs0 : ¬(!items.isEmpty && Builtin.List.listTooLong (items.size + items2.size)) = true) (hs1 : items.size ≤ sizeLine) (hs2 : items.size + items2.size ≤ sizeLine + 1) :
    Meets (Builtin.«list.extend» ⟨[.ref l, .ref b], []⟩) (fun _ R s => s.heap.get? l = some { cls := .type "list", dict := none, data := .seq items n, slots := #[] } ∧ s.heap.get? b = some { cls := .type "tuple", dict := od, data := .seq items2 n2, slots := sl } ∧ R (.ok (.ret Value.none)) { s with heap := s.heap.update l (Obj.mapSeq fun x => x ++ items2), toks := s.toks }) :=
  .of_wp fun prog w A R s h => by
    obtain ⟨hp, g, d, tk, os⟩ := s; obtain ⟨hl, hb, h⟩ := h; have f1 := AutoSeq1.idx_int; have f2 := AutoSeq1.sub_tuple_tuple; have f3 := AutoSeq1.sub_list_list; have f4 := AutoSeq1.sub_tuple_list; have f5 := AutoSeq1.sub_list_tuple
    have hz' : (items ++ items2).size ≤ sizeLine + 1 := by rw [Array.size_append]; exact hs2
    wp_walk using (PySem.wpAny_updateSeq hl rfl (hz := hs1) (_hz' := hz')), AutoSeq1.wpAny_loadPart' hl, AutoSeq1.wpAny_loadPart' hb; exact ⟨_, rfl, h⟩
def rExtendT (K : PySem.W.Frag) : V → List V → Hp → VK → Prop := fun x vs H Q => ∃ l b xs zs, x = .ref l ∧ vs = [.ref b] ∧ H l = some (.lst xs) ∧ H b = some (.tup zs) ∧ xs.length + zs.length ≤ 100000 ∧ Q .non (upd H l (.lst (xs ++ zs)))
theorem kx_extendT (K : PySem.W.Frag) (h : X.K = K := by rfl) : MtR X "list.extend" (rExtendT K) := by
  subst h
  intro pins s σ H x vs v us Q I rx rv h
  obtain ⟨l, b, xs, zs, rfl, rfl, hH, hB, hz, q⟩ := h
  cases rx
  obtain ⟨u, rfl, ru⟩ := rv.one
  cases ru
  obtain ⟨z, its, n, r, hl, e⟩ := I.lstM hH
  obtain ⟨z2, its2, r2, ⟨⟨oc, od, dt, sl⟩, ho, hc, n2, hd⟩⟩ := (show ObjOk X.prog X.w H s.heap b (.tup zs) from I.hok b _ hB)
  have hl2 := r2.length
  simp only at hc hd
  subst hc hd
  have hsz : its.toArray.size + its2.toArray.size ≤ sizeLine := by rw [List.size_toArray, List.size_toArray, sizeLine_eq]; omega
  have hlong : ¬ (!its.toArray.isEmpty && Builtin.List.listTooLong (its.toArray.size + its2.toArray.size)) = true := by
    rw [notLongL hsz, Bool.and_false]
    exact Bool.false_ne_true
  refine call_meets F.slot_list_extend ⟨_, e, rfl⟩ F.entry_list_extend (F.args_list_extend_2 _ _)
    (list_extend_tuple l its.toArray n b its2.toArray n2 od sl hlong (by rw [List.size_toArray]; omega) (by omega)) ⟨e, ho, ?_⟩
  refine ⟨.non, _, I.lset (its' := its ++ its2) hH e (by simp) (r.append r2) ?_, rfl, q⟩
  rw [List.length_append, sizeLine_eq]
  omega
end
end K43
set_option Elab.async false
set_option linter.all false
set_option maxRecDepth 100000
set_option maxHeartbeats 4000000
/-! # KR4: more rules: setdefault by tuple keys, update, a display keyed by a tuple, count, not in a tuple, tuple times 0 or 1 -/
namespace K43
open PySem PySem.Spec PyProof.Rows L2 RZ
open AutoSeq1 (wpAny_loadPart')
section
variable {X : Cx} {pins : List (Addr × Obj)} {σ : L2.St} {H : Hp} {s : Shared} {a : Addr} {A : Around} {E : Value → Shared → Prop}
/-! d.setdefault((..), x) -/
theorem dT_setd {kvs : List (List Key × V)} {k : List Key} {b : Addr} {d : V} {r : Value} {Q : Value → Shared → Prop} (hu : A.units + 1 < cLine) (I : Inv X pins σ H s) (e : H a = some (.dT kvs)) (eb : H b = some (.tup (k.map kV))) (rd : RelV d r) (hl : kvs.length < sizeLine)
    (h1 : ∀ v, valV kvs k = some v → ∀ (w' : Value) (s' : Shared), Inv X pins σ H s' → RelV v w' → Q w' s') (h2 : valV kvs k = none → ∀ (w' : Value) (s' : Shared), Inv X pins σ (upd H a (.dT (putK kvs k d))) s' → RelV d w' → Q w' s') :
    wpAny (model X.prog X.w) A (call (.builtin "dict.setdefault") [.ref a, .ref b, r]) Q E s := by
  obtain ⟨z, hd, xs, rel, dd⟩ := dt_of I.hok e
  have hz : xs.length ≤ sizeLine := by rw [← Paired.length rel]; exact z
  have q := rel.val k
  refine call_setdefault_heap (hsz := hz) (knd := tupleKind (mixKind X.prog X.w)) (tupleKind_room_in1 hu) (key_of I.hok eb) hd dd (fun p hp => ?_) fun hn h' dd' hs => ?_
  · rw [hp] at q
    cases q0 : valV kvs k with
    | none =>
      rw [q0] at q
      exact (show False from q).elim
    | some v0 =>
      rw [q0] at q
      exact h1 v0 q0 _ _ (I.tok _) q
  · rw [hn] at q
    cases q0 : valV kvs k with
    | some v0 =>
      rw [q0] at q
      exact (show False from q).elim
    | none =>
      have hl2 : (putK kvs k d).length ≤ sizeLine := by have := length_putK kvs k d; omega
      obtain ⟨o, es, ep, hq, g2, g3, g4, _, g5⟩ := dd'
      refine h2 q0 _ _ (d_write I (by rw [e]; exact True.intro) hs ⟨o, hq⟩ ⟨hl2, hd, _, (rel.put k eb rd).keeps fun c ys ec => ?_, o, es, ep, hq, g2, g3, g4, g5⟩) rd
      rw [upd_ne (ne_of ec e (fun z => nomatch z))]
      exact ec
end
def tSetdT (td ty tx : TE) : TE := fun σ H Q => td σ H fun x H1 => ∃ a, x = .ref a ∧ IsD H1 a ∧ ty σ H1 fun y H2 => tx σ H2 fun z H3 => ∃ (kvs : List (List Key × V)) (k : List Key) (b : Addr), y = .ref b ∧ H3 a = some (.dT kvs) ∧ H3 b = some (.tup (k.map kV)) ∧ kvs.length < sizeLine ∧
  (∀ v, valV kvs k = some v → Q v H3) ∧ (valV kvs k = none → Q z (upd H3 a (.dT (putK kvs k z))))
section
variable {X : Cx} {o e f : Expr} {td ty tx : TE} {apos cpos pos : Pos}
theorem pe_tsetd (hu : X.A.units + 1 < cLine) (ho : PE X o td) (he : PE X e ty) (hf : PE X f tx) (m : M2 X o "setdefault" apos e f cpos) : PE X (.Call (.Attribute o "setdefault" apos) [e, f] [] cpos) (tSetdT td ty tx) := by
  refine ⟨fun pins s σ H Q I h => ?_⟩
  refine wpAny_Call_method m.base m.few m.line PySem.F.plainAttrs_dict PySem.F.slot_dict_setdefault PySem.F.type_dict_setdefault (thn (ho.run pins s σ H _ I h) fun u s1 ⟨x, H1, I1, rx, a, ex, d, q1⟩ => ?_)
  subst ex
  obtain rfl : u = Value.ref a := rx
  obtain ⟨t1, t2, _⟩ := isD_at I1 d
  refine ⟨t1, t2, ?_⟩
  rw [m.trees]
  refine Calls.callWith_builtin rfl (Calls.evalArgs_plain (Calls.spliced_cons (thn (he.run pins s1 σ H1 _ I1 q1) fun iv s2 ⟨y, H2, I2, ry, q2⟩ =>
    Calls.spliced_cons (thn (hf.run pins s2 σ H2 _ I2 q2) fun fv s3 ⟨z, H3, I3, rz, kvs, k, b, ey, ea, eb, hl, q3, q4⟩ => Calls.spliced_nil ?_))))
  subst ey
  obtain rfl : iv = Value.ref b := ry
  exact dT_setd hu I3 ea eb rz hl (fun v hv w' s4 I4 rw' => ⟨v, _, I4, rw', q3 v hv⟩) fun hn w' s4 I4 rw' => ⟨z, _, I4, rw', q4 hn⟩
/-! d.update(a dict) -/
def rUpdate : V → List V → Hp → VK → Prop := fun x vs H Q => ∃ a b kvs more, x = .ref a ∧ vs = [.ref b] ∧ H a = some (.dK kvs) ∧ H b = some (.dK more) ∧ a ≠ b ∧ kvs.length + more.length ≤ 100000 ∧ Q .non (upd H a (.dK (mergeK kvs more)))
theorem mt_update : MtR X "dict.update" rUpdate := by
  intro pins s σ H x vs v us Q I rx rv h
  obtain ⟨a, b, kvs, more, rfl, rfl, ha, hb, ne, hz, q⟩ := h
  cases rx
  obtain rfl := Vals.ref1 rv
  obtain ⟨z, hd, xs, rel, dd⟩ := dk_of I.hok ha
  obtain ⟨z2, hd2, xs2, rel2, dd2⟩ := dk_of I.hok hb
  have l1 := rel.length
  have l2 := rel2.length
  refine call_meetsIn PySem.F.slot_dict_update dd.typeIs PySem.F.entry_dict_update (PySem.F.args_dict_update_2 _ _) (meets_dict_update (mixKind X.prog X.w) a b ne hd2)
    ⟨xs, xs2, dd, dd2, by rw [sizeLine_eq]; omega, fun h' dd' _ hs => ?_⟩
  have he : ∃ q, h'.get? a = some q := let ⟨q, _, _, hq, _⟩ := dd'; ⟨q, hq⟩
  have hz3 : (mergeK kvs more).length ≤ sizeLine := by have := length_mergeK more kvs; rw [sizeLine_eq]; omega
  exact ⟨.non, _, d_write (t' := s.toks) I (by rw [ha]; exact True.intro) hs he (dk_new hz3 hd (rel2.merge rel) dd'), rfl, q⟩
/-! {(..): x} -/
def tDispT (tk tv : TE) : TE := fun σ H Q => ∀ p, H p = none → tPairs [(tk, tv)] σ (upd H p (.dT [])) fun ps H2 => H2 p = some (.dT []) ∧ ∃ (b : Addr) (k : List Key) (y : V), ps = [(.ref b, y)] ∧ H2 b = some (.tup (k.map kV)) ∧ Q (.ref p) (upd H2 p (.dT [(k, y)]))
theorem pe_dispT (hu : X.A.units + 1 < cLine) {k v : Expr} {tk tv : TE} (hk : PE X k tk) (hv : PE X v tv) : PE X (.Dict [some k] [v] pos) (tDispT tk tv) := by
  refine ⟨fun pins s σ H Q I q => ?_⟩
  have hn := I.hok.fresh (Nat.le_refl s.heap.objs.size)
  have I1 := I.laid (a := s.heap.objs.size) (o := .dT []) (h' := s.heap.push { cls := .type "dict", data := .dict #[] }) (t' := s.toks) (fun _ _ q => Heap.get?_push_of_some _ q) (Nat.le_refl _) (dt_empty s.heap I.big)
  have hpp : PPs X pos [some k] [v] [(tk, tv)] := pps_cons hk hv pps_nil
  refine wpAny_Dict_any (by rfl) (by rfl) (by simp) (by show 1 ≤ 15; decide) (thn (hpp.run pins _ σ _ _ I1 (q _ hn)) fun ws s2 ⟨ps, H2, I2, rel, e, b, kk, y, ep, eb, q2⟩ => ?_)
  subst ep
  cases rel with
  | @cons _ q0 _ qs r1 r2 =>
    cases r2
    obtain ⟨w1, w2⟩ := q0
    obtain ⟨r3, r4⟩ := r1
    obtain rfl : w1 = Value.ref b := r3
    obtain ⟨z, hd, xs, rx, dd⟩ := dt_of I2.hok e
    cases rx
    refine wpAny_storeAllH (knd := tupleKind (mixKind X.prog X.w)) (Nat.lt_of_succ_lt hu) [(Value.ref b, w2)] [(kk, b, w2)] [] s2 _ ⟨rfl, rfl, key_of I2.hok eb, True.intro⟩ dd (by show 0 + 1 ≤ sizeLine; rw [sizeLine_eq]; omega) fun h' tk dd' hs => ?_
    obtain ⟨o, es, ep, hq, g2, g3, g4, _, g5⟩ := dd'
    have rel2 : KT H2 [(kk, y)] [(kk, b, w2)] := .cons ⟨rfl, eb, r4⟩ .nil
    refine ⟨.ref s.heap.objs.size, upd H2 s.heap.objs.size (.dT [(kk, y)]), d_write (t' := tk) I2 (by rw [e]; exact True.intro) hs ⟨o, hq⟩ ⟨by show 1 ≤ sizeLine; decide, hd, [(kk, b, w2)], rel2.keeps fun c ys ec => ?_, o, es, ep, hq, g2, g3, g4, g5⟩, rfl, q2⟩
    rw [upd_ne (ne_of ec e (fun z => nomatch z))]
    exact ec
/-! l.count(x), t not in a tuple -/
def rCountD (K : PySem.W.Frag) : V → List V → Hp → VK → Prop := fun x xs H Q => ∃ (a : Addr) (y : V) (ds : List PyData) (d : PyData), x = .ref a ∧ xs = [y] ∧ Dp K H (.ref a) (.list ds) ∧ Dp K H y d ∧ PyData.plainAll ds = true ∧ d.plain = true ∧ d.depth ≤ 1 ∧ Q (.int ((ds.countP fun z => PyData.eqv z d : Nat) : Int)) H
theorem kx_count (K : PySem.W.Frag) (hu : X.A.units + 65 < cLine) (h : X.K = K := by rfl) : MtR X "list.count" (rCountD K) := by
  subst h
  intro pins s σ H x xs v us Q I rx rxs h
  obtain ⟨a, y, ds, d, rfl, rfl, hl, hy, p1, p2, p3, q⟩ := h
  cases rx
  obtain ⟨u, rfl, ru⟩ := rxs.one
  obtain ⟨as, r1⟩ := Dp.reads I _ _ _ hl (show RelV (.ref a) (Value.ref a) from rfl)
  obtain ⟨bs, r2⟩ := Dp.reads I _ _ _ hy ru
  cases r1 with
  | list h1 h2 h3 h4 =>
    refine PySem.SeqAt.count_list_data ⟨_, h1, h2, _, h3⟩ h4 r2 p1 p2 ?_ ⟨.int _, H, I.tok _, ⟨s.toks, rfl⟩, q⟩
    have : min (PyData.depthAll ds) d.depth ≤ d.depth := Nat.min_le_right _ _
    omega
def rNotInT (K : PySem.W.Frag) : R2 := fun x y H Q => ∃ d ds, Dp K H x d ∧ Dp K H y (.tuple ds) ∧ SeqAt.shaped d = true ∧ SeqAt.shaped (.tuple ds) = true ∧ Q (.bl (!ds.any fun z => PyData.eqv z d)) H
theorem PyCan {ds : List PyData} (h : SeqAt.shaped (.tuple ds) = true) : PyData.canLayAll0 ds = true := by
  have := SeqAt.canLay_of_shaped h
  simpa [PyData.canLay0] using this
theorem kx_notInT (K : PySem.W.Frag) (hu : X.A.units + 65 < cLine) (h : X.K = K := by rfl) : OpR X (compareOp .NotIn) (rNotInT K) := by
  subst h
  intro pins s σ H x y v u Q I rx ry h
  obtain ⟨d, ds, hd, he, sd, se, q⟩ := h
  obtain ⟨as, r1⟩ := Dp.reads I d x v hd rx
  obtain ⟨bs, r2⟩ := Dp.reads I (.tuple ds) y u he ry
  exact SeqAt.notIn_tuple_reads r2 r1 (PyCan se) (SeqAt.canLay_of_shaped sd) (room_in_shaped sd hu) ⟨.bl _, H, I, rfl, q⟩
/-! tuple * 0, tuple * 1 -/
theorem tuple_mul0 (l : Addr) (items : Array Value) (n : Nat) (dd : Option Addr) (sl : Array (Option Value)) (u : Tok) (c1 : items.isEmpty = false) :
    Meets (Builtin.«tuple.__mul__» ⟨[.ref l, .int 0 u], []⟩) (fun _ R s => s.heap.get? l = some { cls := .type "tuple", dict := dd, data := .seq items n, slots := sl } ∧
      R (.ok (.ret (Value.ref s.heap.objs.size))) { s with heap := s.heap.push { cls := Value.type "tuple", data := Data.seq #[] }, toks := s.toks }) :=
  .of_wp fun prog w A R s h => by
    obtain ⟨hp, g, d, tk, os⟩ := s
    obtain ⟨hl, h⟩ := h
    have f1 := AutoSeq1.idx_int
    have c2 : ¬ (items.isEmpty || (0 : Int) == 1) = true := by rw [c1]; decide
    wp_walk using wpAny_loadPart' hl
    repeat (first
      | (refine wpAny_ite_false (by first | decide | (rw [c1]; decide)) ?_; wp_walk using wpAny_loadPart' hl)
      | (refine wpAny_ite_true (by first | decide | (rw [c1]; decide)) ?_; wp_walk using wpAny_loadPart' hl))
    exact ⟨_, rfl, h⟩
theorem tuple_mul1 (l : Addr) (items : Array Value) (n : Nat) (dd : Option Addr) (sl : Array (Option Value)) (u : Tok) :
    Meets (Builtin.«tuple.__mul__» ⟨[.ref l, .int 1 u], []⟩) (fun _ R s => s.heap.get? l = some { cls := .type "tuple", dict := dd, data := .seq items n, slots := sl } ∧
      R (.ok (.ret (Value.ref l))) s) :=
  .of_wp fun prog w A R s h => by
    obtain ⟨hp, g, d, tk, os⟩ := s
    obtain ⟨hl, h⟩ := h
    have f1 := AutoSeq1.idx_int
    wp_walk using wpAny_loadPart' hl
    exact ⟨_, rfl, h⟩
def rMulT1 (K : PySem.W.Frag) : R2 := fun x y H Q => ∃ l k xs, x = .ref l ∧ y = .int k ∧ SqT K H l xs ∧ xs ≠ [] ∧ (k = 0 ∨ k = 1) ∧ (k = 1 → Q (.ref l) H) ∧ (k = 0 → ∀ p, H p = none → Q (.ref p) (upd H p (.tup [])))
theorem kx_mulT1 (K : PySem.W.Frag) (h : X.K = K := by rfl) : OpR X (binaryOp .Mult) (rMulT1 K) := by
  subst h
  intro pins s σ H x y v u Q I rx ry h
  obtain ⟨l, k, xs, rfl, rfl, hT, hne, h01, q1, q0⟩ := h
  cases rx
  obtain ⟨t, rfl⟩ := ry
  obtain ⟨its, r, ⟨⟨cls, dd, data, sl⟩, ho, hc, n, hd⟩, hs⟩ := I.tuple hT
  simp only at hc hd
  subst hc hd
  have hi : its.toArray.isEmpty = false := by
    cases r with
    | nil => exact absurd rfl hne
    | cons a b => rfl
  rcases h01 with rfl | rfl
  · refine wpAny_binaryOp_repeat_ref (T := "tuple") (U := "int") (by decide) ⟨_, ho, rfl⟩ (fun s' => typeIs_int s' 0 t) noFill_tuple_mul F.fills_int_mul F.slot_int_rmul repeat_tuple F.slot_int_index.lookup
      (call_meets F.slot_int_rmul (typeIs_int s 0 t) F.entry_int_rmul (F.args_int_rmul_2 _ _) (int_rmul_tuple 0 t l its.toArray n dd sl)
        ⟨ho, rfl, ⟨_, ho, rfl⟩, call_meets F.slot_tuple_mul ⟨_, ho, rfl⟩ F.entry_tuple_mul (F.args_tuple_mul_2 _ _) (tuple_mul0 l its.toArray n dd sl t hi) ⟨ho, ?_⟩⟩)
    exact ⟨.ref s.heap.objs.size, _, I.laid (t' := s.toks) (o := .tup []) (fun b ob q => Heap.get?_push_of_some _ q) (Nat.le_refl _) ⟨Nat.zero_le _, [], .nil, IsTup.new _ _⟩, rfl, q0 rfl _ (I.hok.fresh (Nat.le_refl _))⟩
  · refine wpAny_binaryOp_repeat_ref (T := "tuple") (U := "int") (by decide) ⟨_, ho, rfl⟩ (fun s' => typeIs_int s' 1 t) noFill_tuple_mul F.fills_int_mul F.slot_int_rmul repeat_tuple F.slot_int_index.lookup
      (call_meets F.slot_int_rmul (typeIs_int s 1 t) F.entry_int_rmul (F.args_int_rmul_2 _ _) (int_rmul_tuple 1 t l its.toArray n dd sl)
        ⟨ho, rfl, ⟨_, ho, rfl⟩, call_meets F.slot_tuple_mul ⟨_, ho, rfl⟩ F.entry_tuple_mul (F.args_tuple_mul_2 _ _) (tuple_mul1 l its.toArray n dd sl t) ⟨ho, ?_⟩⟩)
    exact ⟨.ref l, H, I, rfl, q1 rfl⟩
end
end K43
set_option Elab.async false
set_option linter.all false
set_option maxRecDepth 100000
set_option maxHeartbeats 4000000
/-! # KB5: readings of what is walked, of dicts -/
namespace K43
open PySem PySem.Spec PyProof.Rows L2 RZ
section
variable {K : PySem.W.Frag} {σ : L2.St} {H H' : Hp} {ta tb te tx : TE} {t u : TT} {R S : Pr} {x y : V}
theorem walk_enumT {a : Addr} {xs : List V} : Walk (IteT K a) xs.length (fun H => SqT K H a xs) (YPair (fun i => some (.int (i : Nat))) (fun i => xs[i]?)) := by
  refine ⟨fun i _ hi q => ⟨xs, xs[i], q, by simp [hi]⟩, fun _ q => ⟨xs, q, rfl⟩, fun i H v H' _ q y => ?_⟩
  obtain ⟨T, x, h1, h2, h3, h4⟩ := y
  exact ⟨T, .int (i : Nat), x, h1, h2, h3, rfl, h4 xs q⟩
theorem walk_zipTL {a b : Addr} {xs ys : List V} {n : Nat} (hn : n = min xs.length ys.length) : Walk (ItzTL K a b) n (fun H => SqT K H a xs ∧ SqL K H b ys) (YPair (fun i => xs[i]?) (fun i => ys[i]?)) := by
  subst hn
  refine ⟨fun i _ hi q => ?_, fun _ q => ⟨xs, ys, q.1, q.2, by omega⟩, fun i H v H' _ q y => ?_⟩
  · have h1 : i < xs.length := by omega
    have h2 : i < ys.length := by omega
    exact ⟨xs, ys, xs[i], ys[i], q.1, q.2, by simp [h1], by simp [h2]⟩
  · obtain ⟨T, x, z, h1, h2, h3, h4, h5⟩ := y
    exact ⟨T, x, z, h1, h2, h3, h4 xs q.1, h5 ys q.2⟩
/-- zip of a tuple and a list -/
theorem ei_zipTL {α β : Type} {RA : α → Pr} {RB : β → Pr} {xs : List α} {ys : List β} [∀ x, MX (RA x)] [∀ x, MX (RB x)] {ts : TA} (h : EvA ts σ H [TupOf RA xs, LstOf RB ys]) : EvI Same (iZipTL K ts) σ H (xs.zip ys) (PairP RA RB) := fun H1 e Rk q =>
  h H1 e _ fun vs H2 e2 r => by
    obtain ⟨v, w, rfl, ⟨a, xs', rfl, h2, h3⟩, ⟨b, ys', rfl, g2, g3⟩⟩ := r.two
    have l : (xs.zip ys).length = min xs'.length ys'.length := by rw [List.length_zip, h3.length, g3.length, List.length_map, List.length_map]
    refine ⟨a, b, xs', ys', rfl, SqT.of h2, SqL.of g2, ?_⟩
    refine q _ H2 _ _ e2 (walk_zipTL l) (fun Hx f => ⟨SqT.of (f a _ h2), SqL.of (f b _ g2)⟩) (fun i x Hx v H' hx f ⟨T, z1, z2, y1, y2, y3, y4, y5⟩ => ?_)
    obtain ⟨x1, x2⟩ := zip_get hx
    obtain ⟨w1, k1, k2⟩ := h3.get (map_get x1)
    obtain ⟨w2, m1, m2⟩ := g3.get (map_get x2)
    rw [show xs'[i]? = some z1 from y4] at k1
    rw [show ys'[i]? = some z2 from y5] at m1
    cases k1
    cases m1
    subst y1 y3
    have s := Same.new (o := .tup [z1, z2]) y2
    exact ⟨s, T, _, rfl, upd_same, MX.mx s (MX.mx f k2), MX.mx s (MX.mx f m2), True.intro⟩
/-- enumerate of a tuple -/
theorem ei_enumT {α : Type} {RA : α → Pr} {xs : List α} [∀ x, MF (RA x)] {ts : TA} (h : EvA ts σ H [TupOf RA xs]) : EvI FK (iEnumT K ts) σ H xs.zipIdx (fun p => TupP [IsI ((p.2 : Nat) : Int), RA p.1]) := fun H1 e Rk q =>
  h H1 e _ fun vs H2 e2 r => by
    obtain ⟨v, rfl, ⟨a, xs', rfl, h2, h3⟩⟩ := r.one
    have l : xs.zipIdx.length = xs'.length := by rw [List.length_zipIdx, h3.length, List.length_map]
    refine ⟨a, xs', rfl, SqT.of h2, ?_⟩
    refine q _ H2 _ _ e2 (l ▸ walk_enumT) (fun Hx f => SqT.of (f a _ True.intro h2)) (fun i x Hx v H' hx f ⟨T, z1, z2, y1, y2, y3, y4, y5⟩ => ?_)
    rw [List.getElem?_zipIdx] at hx
    cases hq : xs[i]? with
    | none => rw [hq] at hx; cases hx
    | some x0 =>
      rw [hq] at hx
      simp at hx
      subst hx
      obtain ⟨w1, k1, k2⟩ := h3.get (map_get hq)
      rw [show xs'[i]? = some z2 from y5] at k1
      cases k1
      have e4 : V.int (i : Nat) = z1 := Option.some.inj y4
      subst e4
      subst y1 y3
      have s := Same.new (o := .tup [.int (i : Nat), z2]) y2
      exact ⟨s, T, _, rfl, upd_same, rfl, MF.mf (Same.fk s) (MF.mf f k2), True.intro⟩
/-- enumerate of a list -/
theorem ei_enumL {α : Type} {RA : α → Pr} {xs : List α} [∀ x, MX (RA x)] {ts : TA} (h : EvA ts σ H [LstOf RA xs]) : EvI Same (iEnum K ts) σ H xs.zipIdx (fun p => TupP [IsI ((p.2 : Nat) : Int), RA p.1]) := fun H1 e Rk q =>
  h H1 e _ fun vs H2 e2 r => by
    obtain ⟨v, rfl, ⟨a, xs', rfl, h2, h3⟩⟩ := r.one
    have l : xs.zipIdx.length = xs'.length := by rw [List.length_zipIdx, h3.length, List.length_map]
    refine ⟨a, xs', rfl, SqL.of h2, ?_⟩
    refine q _ H2 _ _ e2 (l ▸ walk_enum) (fun Hx f => SqL.of (f a _ h2)) (fun i x Hx v H' hx f ⟨T, z1, z2, y1, y2, y3, y4, y5⟩ => ?_)
    rw [List.getElem?_zipIdx] at hx
    cases hq : xs[i]? with
    | none => rw [hq] at hx; cases hx
    | some x0 =>
      rw [hq] at hx
      simp at hx
      subst hx
      obtain ⟨w1, k1, k2⟩ := h3.get (map_get hq)
      rw [show xs'[i]? = some z2 from y5] at k1
      cases k1
      have e4 : V.int (i : Nat) = z1 := Option.some.inj y4
      subst e4
      subst y1 y3
      have s := Same.new (o := .tup [.int (i : Nat), z2]) y2
      exact ⟨s, T, _, rfl, upd_same, rfl, MX.mx s (MX.mx f k2), True.intro⟩
/-- a text, sign by sign -/
theorem ei_str {Rel : Hp → Hp → Prop} {z : Str} (h : EvR ta σ H (IsS z)) : EvI Rel (iStr ta) σ H z.cps.toList (fun c => IsS ⟨#[c]⟩) := fun H1 e Rk q =>
  h H1 e _ fun v H2 e2 r => ⟨z, r, by
    have l : z.cps.toList.length = z.cps.size := Array.length_toList
    refine q _ H2 _ _ e2 (l ▸ walk_str) (fun _ _ => True.intro) (fun i x Hx v H' hx f ⟨y1, c, y2, y3⟩ => ?_)
    subst y1 y3
    rw [Array.getElem?_toList, y2] at hx
    cases hx
    exact ⟨Same.refl _, rfl⟩⟩
/-- x in l, l.index(x): plain things -/
theorem pp_of {α : Type} {g : α → V} {xs : List α} {vs : List V} {H : Hp} (h : PP H vs (xs.map fun x => IsV (g x))) : vs = xs.map g := by
  have e : (xs.map fun x => IsV (g x)) = (xs.map g).map IsV := by rw [List.map_map]; rfl
  rw [e] at h
  exact h.isv
theorem flat_map {α : Type} {g : α → V} {xs : List α} (h : ∀ x, flatV (g x) = true) : (xs.map g).all flatV = true := by
  rw [List.all_map]
  exact List.all_eq_true.mpr fun x _ => h x
theorem er_inL {α : Type} {g : α → V} {xs : List α} (ha : EvR ta σ H (IsV x)) (hb : EvR tb σ H (LstOf (fun y => IsV (g y)) xs)) (hx : flatV x = true) (hg : ∀ y, flatV (g y) = true) : EvR (tOp (rIn K false) ta tb) σ H (IsB (inV x (xs.map g))) :=
  er_op ha hb fun v w H1 _ h1 ⟨a, vs, g1, g2, g3⟩ Q q => by
    cases h1
    refine ⟨a, vs, g1, .inl (SqL.of g2), hx, ?_, q _ H1 (Same.refl H1) ?_⟩
    · rw [pp_of g3]; exact flat_map hg
    · rw [pp_of g3]; rfl
theorem er_inT {α : Type} {g : α → V} {xs : List α} (ha : EvR ta σ H (IsV x)) (hb : EvR tb σ H (TupOf (fun y => IsV (g y)) xs)) (hx : flatV x = true) (hg : ∀ y, flatV (g y) = true) : EvR (tOp (rIn K false) ta tb) σ H (IsB (inV x (xs.map g))) :=
  er_op ha hb fun v w H1 _ h1 ⟨a, vs, g1, g2, g3⟩ Q q => by
    cases h1
    refine ⟨a, vs, g1, .inr (SqT.of g2), hx, ?_, q _ H1 (Same.refl H1) ?_⟩
    · rw [pp_of g3]; exact flat_map hg
    · rw [pp_of g3]; rfl
/-- a list's method that changes nothing -/
theorem er_bmL {r : V → List V → Hp → VK → Prop} {ps qs : List Pr} {ts : TA} [MXs ps] (ha : EvR ta σ H (LstP ps)) (hb : EvA ts σ H qs) (hr : ∀ a vs ws H1, H1 a = some (.lst vs) → PP H1 vs ps → PP H1 ws qs → ∀ Q : VK, (∀ z H2, Same H1 H2 → R H2 z → Q z H2) → r (.ref a) ws H1 Q) :
    EvR (tBM K "list" r ta ts) σ H R := fun H1 e Q q => ha H1 e _ fun v H2 e2 ⟨a, vs, g1, g2, g3⟩ => by
  subst g1
  refine ⟨.inl ⟨rfl, _, .inl (.inl g2)⟩, ?_⟩
  refine hb H2 (e.trans e2) _ fun ws H3 e3 r3 => ?_
  exact hr a vs ws H3 (e3 a _ g2) (MXs.mx e3 g3) r3 Q fun z H4 e4 r4 => q z H4 ((e2.trans e3).trans e4) r4
theorem er_index {α : Type} {g : α → V} {xs : List α} {j : Nat} {z : α} (ha : EvR ta σ H (LstOf (fun y => IsV (g y)) xs)) (hb : EvR tb σ H (IsV x)) (hx : flatV x = true) (hg : ∀ y, flatV (g y) = true) (hj : xs[j]? = some z) (hz : eqV (g z) x = true) (hno : ∀ (m : Nat) z', m < j → xs[m]? = some z' → eqV (g z') x = false) :
    EvR (tBM K "list" (rIndex K) ta (tCons tb tNil)) σ H (IsI (j : Int)) :=
  er_bmL ha (ea1 hb) fun a vs ws H1 h1 h2 h3 Q q => by
    obtain ⟨w, rfl, h4⟩ := h3.one
    obtain rfl : w = x := h4
    have e := pp_of h2
    subst e
    refine ⟨a, xs.map g, w, j, g z, rfl, rfl, SqL.of h1, hx, flat_map hg, by rw [List.getElem?_map, hj]; rfl, hz, fun m z' hm hz' => ?_, q _ H1 (Same.refl H1) rfl⟩
    rw [List.getElem?_map] at hz'
    cases hq : xs[m]? with
    | none => rw [hq] at hz'; cases hz'
    | some y =>
      rw [hq] at hz'
      cases hz'
      exact hno m y hm hq
/-- l.count(False) of None, True, False -/
theorem dpAll_map {α : Type} {g : α → V} {H : Hp} {xs : List α} (hg : ∀ y, flatV (g y) = true) : DpAll K H (xs.map g) (xs.map fun y => pyV (g y)) := by
  have := dpAll_flat (K := K) (H := H) (flat_map (xs := xs) hg)
  rwa [List.map_map] at this
theorem plainAll_map {α : Type} {f : α → PyData} {xs : List α} (h : ∀ y, (f y).plain = true) : PyData.plainAll (xs.map f) = true := by
  induction xs with
  | nil => rfl
  | cons y ys ih => simp [PyData.plainAll, h y, ih]
theorem er_count {α : Type} {g : α → V} {xs : List α} (ha : EvR ta σ H (LstOf (fun y => IsV (g y)) xs)) (hb : EvR tb σ H (IsV x)) (hx : flatV x = true) (hp : ∀ v, flatV v = true → (pyV v).plain = true ∧ (pyV v).depth ≤ 1) (hg : ∀ y, flatV (g y) = true) :
    EvR (tBM K "list" (rCountD K) ta (tCons tb tNil)) σ H (IsI ((xs.countP fun y => PyData.eqv (pyV (g y)) (pyV x) : Nat) : Int)) :=
  er_bmL ha (ea1 hb) fun a vs ws H1 h1 h2 h3 Q q => by
    obtain ⟨w, rfl, h4⟩ := h3.one
    obtain rfl : w = x := h4
    have e := pp_of h2
    subst e
    refine ⟨a, w, xs.map fun y => pyV (g y), pyV w, rfl, rfl, .lst (SqL.of h1) (dpAll_map hg), dp_flat hx, plainAll_map fun y => (hp _ (hg y)).1, (hp w hx).1, (hp w hx).2, q _ H1 (Same.refl H1) ?_⟩
    rw [List.countP_map]
    rfl
theorem py_plain (v : V) (h : flatV v = true) : (pyV v).plain = true ∧ (pyV v).depth ≤ 1 := by
  cases v <;> first | (exact ⟨rfl, by decide⟩) | (exact ⟨rfl, by simp [pyV, PyData.depth]⟩) | (cases h)
/-! loops that change nothing that stood -/
variable {D : Ends} {tu tz : TS} {g : TG}
theorem s_forS {α : Type} {RA : α → Pr} {wi : TI} {xs : List α} (hi : EvI Same wi σ H xs RA) (Pv : Nat → L2.St → Hp → Prop) (h0 : ∀ H1, Same H H1 → Pv 0 σ H1)
    (hs : ∀ i x v σ' Hc Hx (N : L2.St → Hp → Prop), xs[i]? = some x → Same H Hc → Pv i σ' Hc → Same Hc Hx → RA x Hx v → (∀ σ3 H3, Same Hx H3 → Pv (i + 1) σ3 H3 → N σ3 H3) → EvG g v σ' Hx fun σ2 => tu { D with nx := N, ct := N, bk := D.nx } σ2 Hx)
    (hd : ∀ σ' Hc, Same H Hc → Pv xs.length σ' Hc → D.nx σ' Hc) : tFor wi g tu D σ H := hi H (Same.refl H) _ fun J H1 G Y e1 w hG hY => by
  refine for_it w (fun i σ' Hc => Same H1 Hc ∧ Pv i σ' Hc) ⟨Same.refl _, h0 H1 e1⟩ (fun i σ' Hc _ p => hG Hc p.1) ?_ ?_
  · rintro i v σ' Hc Hx hlt ⟨f1, p⟩ hy
    have hx : xs[i]? = some xs[i] := List.getElem?_eq_getElem hlt
    obtain ⟨s2, r⟩ := hY i _ Hc v Hx hx f1 hy
    exact hs i xs[i] v σ' Hc Hx _ hx (e1.trans f1) p s2 r (fun σ3 H3 f3 p3 => ⟨(f1.trans s2).trans f3, p3⟩) _ fun σ2 q => q
  · rintro σ' Hc ⟨f1, p⟩
    exact hd σ' Hc (e1.trans f1) p
theorem q_forS {α : Type} {RA : α → Pr} {wi : TI} {xs : List α} (hi : EvI Same wi σ H xs RA) (Pv : Nat → L2.St → Hp → Prop) (h0 : ∀ H1, Same H H1 → Pv 0 σ H1)
    (hs : ∀ i x v σ' Hc Hx (N : L2.St → Hp → Prop), xs[i]? = some x → Same H Hc → Pv i σ' Hc → Same Hc Hx → RA x Hx v → (∀ σ3 H3, Same Hx H3 → Pv (i + 1) σ3 H3 → N σ3 H3) → EvG g v σ' Hx fun σ2 => tu { D with nx := N, ct := N, bk := tz D } σ2 Hx)
    (hd : ∀ σ' Hc, Same H Hc → Pv xs.length σ' Hc → tz D σ' Hc) : tSeq (tFor wi g tu) tz D σ H := s_forS (D := { D with nx := tz D }) hi Pv h0 hs hd
/-- a for over the list at a, which stands while the loop goes -/
theorem s_forA {α : Type} {RA : α → Pr} {xs : List α} {a : Addr} {vs : List V} [∀ x, MF (RA x)] (h : EvR ta σ H (IsV (.ref a))) (ha : H a = some (.lst vs)) (hp : PP H vs (xs.map RA)) (Pv : Nat → L2.St → Hp → Prop)
    (h0 : ∀ H1, Same H H1 → Pv 0 σ H1) (hl : ∀ i σ' Hc, i ≤ xs.length → Pv i σ' Hc → Hc a = some (.lst vs))
    (hs : ∀ i x v σ' Hc (N : L2.St → Hp → Prop), xs[i]? = some x → FK H Hc → Pv i σ' Hc → RA x Hc v → (∀ σ3 H3, FK Hc H3 → Pv (i + 1) σ3 H3 → N σ3 H3) → EvG g v σ' Hc fun σ2 => tu { D with nx := N, ct := N, bk := D.nx } σ2 Hc)
    (hd : ∀ σ' Hc, FK H Hc → Pv xs.length σ' Hc → D.nx σ' Hc) : tFor (iList K ta) g tu D σ H := h H (Same.refl H) _ fun v H1 e1 r => ⟨a, r, ⟨vs, SqL.of (e1 a _ ha)⟩, by
  have l : xs.length = vs.length := by rw [hp.length, List.length_map]
  refine for_it (l ▸ walk_list (K := K) (a := a) (xs := vs)) (fun i σ' Hc => FK H1 Hc ∧ Pv i σ' Hc) ⟨FK.refl _, h0 H1 e1⟩ (fun i σ' Hc hi p => SqL.of (hl i σ' Hc hi p.2)) ?_ ?_
  · rintro i w σ' Hc Hx hlt ⟨f1, p⟩ ⟨rfl, hw⟩
    have hx : xs[i]? = some xs[i] := List.getElem?_eq_getElem hlt
    obtain ⟨w', g1, g2⟩ := hp.get (map_get hx)
    rw [g1] at hw
    cases hw
    exact hs i xs[i] _ σ' Hx _ hx ((Same.fk e1).trans f1) p (MF.mf ((Same.fk e1).trans f1) g2) (fun σ3 H3 f3 p3 => ⟨f1.trans f3, p3⟩) _ fun σ2 q => q
  · rintro σ' Hc ⟨f1, p⟩
    exact hd σ' Hc ((Same.fk e1).trans f1) p⟩
theorem q_forA {α : Type} {RA : α → Pr} {xs : List α} {a : Addr} {vs : List V} [∀ x, MF (RA x)] (h : EvR ta σ H (IsV (.ref a))) (ha : H a = some (.lst vs)) (hp : PP H vs (xs.map RA)) (Pv : Nat → L2.St → Hp → Prop)
    (h0 : ∀ H1, Same H H1 → Pv 0 σ H1) (hl : ∀ i σ' Hc, i ≤ xs.length → Pv i σ' Hc → Hc a = some (.lst vs))
    (hs : ∀ i x v σ' Hc (N : L2.St → Hp → Prop), xs[i]? = some x → FK H Hc → Pv i σ' Hc → RA x Hc v → (∀ σ3 H3, FK Hc H3 → Pv (i + 1) σ3 H3 → N σ3 H3) → EvG g v σ' Hc fun σ2 => tu { D with nx := N, ct := N, bk := tz D } σ2 Hc)
    (hd : ∀ σ' Hc, FK H Hc → Pv xs.length σ' Hc → tz D σ' Hc) : tSeq (tFor (iList K ta) g tu) tz D σ H := s_forA (D := { D with nx := tz D }) h ha hp Pv h0 hl hs hd
/-- x = [], a list that is new -/
theorem q_nil {i : Nat} (k : ∀ l, H l = none → tz D (σ.set i (some (.ref l))) (upd H l (.lst []))) : tSeq (tAsg (tLst tNil) (gName i)) tz D σ H := ⟨Nat.zero_le _, fun p hp => k p hp⟩
/-- what a list holds, one list behind the other -/
theorem pp_flat {α β : Type} {R : β → Pr} {f : α → List β} {xs : List α} {i : Nat} {x : α} {H : Hp} {vs ws : List V} (h : xs[i]? = some x) (h1 : PP H vs ((((xs.take i).map f).flatten).map R)) (h2 : PP H ws ((f x).map R)) : PP H (vs ++ ws) ((((xs.take (i + 1)).map f).flatten).map R) := by
  rw [take_snoc h, List.map_append, List.flatten_append, List.map_append]
  refine h1.append ?_
  simpa using h2
theorem hu65 {A : Around} {k : Nat} (hr : Room k A) : A.units + 65 < cLine := by have := hr.un; omega
end
end K43
set_option Elab.async false
set_option linter.all false
set_option maxRecDepth 100000
set_option maxHeartbeats 4000000
/-! # KT: the text by places, what the top has left, a def's promise -/
namespace K43
open PySem PySem.Spec PyProof.Rows L2
open C8 (Cal Mak Met pe_c pe_mk pe_mt pe_mt0)
/-- what the top has left -/
structure Tx (w : World) (K : PySem.W.Frag) (mg : Str → Option Value) : Prop where
  says : He.SaysD fa fn K
  hX : ∃ h : Heap, K.In h ∧ h.Ns mainGlobals mg
  tab : ∃ es n, KDict K w (He.ga K "LENGTHS") es n
  ex : exB K = true
section
variable {P : Program} {w : World} {K : PySem.W.Frag} {mg : Str → Option Value} {base : Heap}
theorem Tx.f_counted (T : Tx w K mg) : ∃ fd, FunD K "counted" "counted" (defArgs s_counted) (defBody s_counted) (defScope s_counted) [] [] (He.fAd K ("counted", none)) fd := T.says.def_ 0 (d := d_counted) rfl
theorem Tx.g_counted (T : Tx w K mg) : mg "counted" = some (.ref (He.fAd K ("counted", none))) := by obtain ⟨h, X, G⟩ := T.hX; exact He.glo_ok X G (T.says.fact 0 (f := .glo "counted") rfl)
theorem Tx.f_Heap_init (T : Tx w K mg) : ∃ fd, FunD K "__init__" "Heap.__init__" (defArgs s_Heap_init) (defBody s_Heap_init) (defScope s_Heap_init) [.non] [] (He.fAd K ("Heap", some "__init__")) fd := T.says.def_ 1 (d := d_Heap_init) rfl
theorem Tx.f_Heap_rows (T : Tx w K mg) : ∃ fd, FunD K "rows" "Heap.rows" (defArgs s_Heap_rows) (defBody s_Heap_rows) (defScope s_Heap_rows) [] [] (He.fAd K ("Heap", some "rows")) fd := T.says.def_ 2 (d := d_Heap_rows) rfl
theorem Tx.f_Heap_many (T : Tx w K mg) : ∃ fd, FunD K "many" "Heap.many" (defArgs s_Heap_many) (defBody s_Heap_many) (defScope s_Heap_many) [.non] [] (He.fAd K ("Heap", some "many")) fd := T.says.def_ 3 (d := d_Heap_many) rfl
theorem Tx.f_Heap_rows_lacking (T : Tx w K mg) : ∃ fd, FunD K "rows_lacking" "Heap.rows_lacking" (defArgs s_Heap_rows_lacking) (defBody s_Heap_rows_lacking) (defScope s_Heap_rows_lacking) [] [] (He.fAd K ("Heap", some "rows_lacking")) fd := T.says.def_ 4 (d := d_Heap_rows_lacking) rfl
theorem Tx.f_Heap_holds (T : Tx w K mg) : ∃ fd, FunD K "holds" "Heap.holds" (defArgs s_Heap_holds) (defBody s_Heap_holds) (defScope s_Heap_holds) [] [] (He.fAd K ("Heap", some "holds")) fd := T.says.def_ 5 (d := d_Heap_holds) rfl
theorem Tx.f_lets (T : Tx w K mg) : ∃ fd, FunD K "lets" "lets" (defArgs s_lets) (defBody s_lets) (defScope s_lets) [] [] (He.fAd K ("lets", none)) fd := T.says.def_ 6 (d := d_lets) rfl
theorem Tx.g_lets (T : Tx w K mg) : mg "lets" = some (.ref (He.fAd K ("lets", none))) := by obtain ⟨h, X, G⟩ := T.hX; exact He.glo_ok X G (T.says.fact 1 (f := .glo "lets") rfl)
theorem Tx.f_spread (T : Tx w K mg) : ∃ fd, FunD K "spread" "spread" (defArgs s_spread) (defBody s_spread) (defScope s_spread) [] [] (He.fAd K ("spread", none)) fd := T.says.def_ 7 (d := d_spread) rfl
theorem Tx.g_spread (T : Tx w K mg) : mg "spread" = some (.ref (He.fAd K ("spread", none))) := by obtain ⟨h, X, G⟩ := T.hX; exact He.glo_ok X G (T.says.fact 2 (f := .glo "spread") rfl)
theorem Tx.f_way_of (T : Tx w K mg) : ∃ fd, FunD K "way_of" "way_of" (defArgs s_way_of) (defBody s_way_of) (defScope s_way_of) [] [] (He.fAd K ("way_of", none)) fd := T.says.def_ 8 (d := d_way_of) rfl
theorem Tx.g_way_of (T : Tx w K mg) : mg "way_of" = some (.ref (He.fAd K ("way_of", none))) := by obtain ⟨h, X, G⟩ := T.hX; exact He.glo_ok X G (T.says.fact 3 (f := .glo "way_of") rfl)
theorem Tx.f_lead (T : Tx w K mg) : ∃ fd, FunD K "lead" "lead" (defArgs s_lead) (defBody s_lead) (defScope s_lead) [] [] (He.fAd K ("lead", none)) fd := T.says.def_ 9 (d := d_lead) rfl
theorem Tx.g_lead (T : Tx w K mg) : mg "lead" = some (.ref (He.fAd K ("lead", none))) := by obtain ⟨h, X, G⟩ := T.hX; exact He.glo_ok X G (T.says.fact 4 (f := .glo "lead") rfl)
theorem Tx.f_parts_left (T : Tx w K mg) : ∃ fd, FunD K "parts_left" "parts_left" (defArgs s_parts_left) (defBody s_parts_left) (defScope s_parts_left) [] [] (He.fAd K ("parts_left", none)) fd := T.says.def_ 10 (d := d_parts_left) rfl
theorem Tx.g_parts_left (T : Tx w K mg) : mg "parts_left" = some (.ref (He.fAd K ("parts_left", none))) := by obtain ⟨h, X, G⟩ := T.hX; exact He.glo_ok X G (T.says.fact 5 (f := .glo "parts_left") rfl)
theorem Tx.f_led (T : Tx w K mg) : ∃ fd, FunD K "led" "led" (defArgs s_led) (defBody s_led) (defScope s_led) [] [] (He.fAd K ("led", none)) fd := T.says.def_ 11 (d := d_led) rfl
theorem Tx.g_led (T : Tx w K mg) : mg "led" = some (.ref (He.fAd K ("led", none))) := by obtain ⟨h, X, G⟩ := T.hX; exact He.glo_ok X G (T.says.fact 6 (f := .glo "led") rfl)
theorem Tx.f_as_gift (T : Tx w K mg) : ∃ fd, FunD K "as_gift" "as_gift" (defArgs s_as_gift) (defBody s_as_gift) (defScope s_as_gift) [] [] (He.fAd K ("as_gift", none)) fd := T.says.def_ 12 (d := d_as_gift) rfl
theorem Tx.g_as_gift (T : Tx w K mg) : mg "as_gift" = some (.ref (He.fAd K ("as_gift", none))) := by obtain ⟨h, X, G⟩ := T.hX; exact He.glo_ok X G (T.says.fact 7 (f := .glo "as_gift") rfl)
theorem Tx.f_shades_of (T : Tx w K mg) : ∃ fd, FunD K "shades_of" "shades_of" (defArgs s_shades_of) (defBody s_shades_of) (defScope s_shades_of) [] [] (He.fAd K ("shades_of", none)) fd := T.says.def_ 13 (d := d_shades_of) rfl
theorem Tx.g_shades_of (T : Tx w K mg) : mg "shades_of" = some (.ref (He.fAd K ("shades_of", none))) := by obtain ⟨h, X, G⟩ := T.hX; exact He.glo_ok X G (T.says.fact 8 (f := .glo "shades_of") rfl)
theorem Tx.f_deal (T : Tx w K mg) : ∃ fd, FunD K "deal" "deal" (defArgs s_deal) (defBody s_deal) (defScope s_deal) [] [] (He.fAd K ("deal", none)) fd := T.says.def_ 14 (d := d_deal) rfl
theorem Tx.g_deal (T : Tx w K mg) : mg "deal" = some (.ref (He.fAd K ("deal", none))) := by obtain ⟨h, X, G⟩ := T.hX; exact He.glo_ok X G (T.says.fact 9 (f := .glo "deal") rfl)
theorem Tx.f_begun_ways (T : Tx w K mg) : ∃ fd, FunD K "begun_ways" "begun_ways" (defArgs s_begun_ways) (defBody s_begun_ways) (defScope s_begun_ways) [] [] (He.fAd K ("begun_ways", none)) fd := T.says.def_ 15 (d := d_begun_ways) rfl
theorem Tx.g_begun_ways (T : Tx w K mg) : mg "begun_ways" = some (.ref (He.fAd K ("begun_ways", none))) := by obtain ⟨h, X, G⟩ := T.hX; exact He.glo_ok X G (T.says.fact 10 (f := .glo "begun_ways") rfl)
theorem Tx.f_taken_wants (T : Tx w K mg) : ∃ fd, FunD K "taken_wants" "taken_wants" (defArgs s_taken_wants) (defBody s_taken_wants) (defScope s_taken_wants) [] [] (He.fAd K ("taken_wants", none)) fd := T.says.def_ 16 (d := d_taken_wants) rfl
theorem Tx.g_taken_wants (T : Tx w K mg) : mg "taken_wants" = some (.ref (He.fAd K ("taken_wants", none))) := by obtain ⟨h, X, G⟩ := T.hX; exact He.glo_ok X G (T.says.fact 11 (f := .glo "taken_wants") rfl)
theorem Tx.f_sheet_of (T : Tx w K mg) : ∃ fd, FunD K "sheet_of" "sheet_of" (defArgs s_sheet_of) (defBody s_sheet_of) (defScope s_sheet_of) [] [] (He.fAd K ("sheet_of", none)) fd := T.says.def_ 17 (d := d_sheet_of) rfl
theorem Tx.g_sheet_of (T : Tx w K mg) : mg "sheet_of" = some (.ref (He.fAd K ("sheet_of", none))) := by obtain ⟨h, X, G⟩ := T.hX; exact He.glo_ok X G (T.says.fact 12 (f := .glo "sheet_of") rfl)
theorem Tx.f_wants_in (T : Tx w K mg) : ∃ fd, FunD K "wants_in" "wants_in" (defArgs s_wants_in) (defBody s_wants_in) (defScope s_wants_in) [] [] (He.fAd K ("wants_in", none)) fd := T.says.def_ 18 (d := d_wants_in) rfl
theorem Tx.g_wants_in (T : Tx w K mg) : mg "wants_in" = some (.ref (He.fAd K ("wants_in", none))) := by obtain ⟨h, X, G⟩ := T.hX; exact He.glo_ok X G (T.says.fact 13 (f := .glo "wants_in") rfl)
theorem Tx.f_open_row (T : Tx w K mg) : ∃ fd, FunD K "open_row" "open_row" (defArgs s_open_row) (defBody s_open_row) (defScope s_open_row) [] [] (He.fAd K ("open_row", none)) fd := T.says.def_ 19 (d := d_open_row) rfl
theorem Tx.g_open_row (T : Tx w K mg) : mg "open_row" = some (.ref (He.fAd K ("open_row", none))) := by obtain ⟨h, X, G⟩ := T.hX; exact He.glo_ok X G (T.says.fact 14 (f := .glo "open_row") rfl)
theorem Tx.f_sought (T : Tx w K mg) : ∃ fd, FunD K "sought" "sought" (defArgs s_sought) (defBody s_sought) (defScope s_sought) [] [] (He.fAd K ("sought", none)) fd := T.says.def_ 20 (d := d_sought) rfl
theorem Tx.g_sought (T : Tx w K mg) : mg "sought" = some (.ref (He.fAd K ("sought", none))) := by obtain ⟨h, X, G⟩ := T.hX; exact He.glo_ok X G (T.says.fact 15 (f := .glo "sought") rfl)
theorem Tx.f_by_ways (T : Tx w K mg) : ∃ fd, FunD K "by_ways" "by_ways" (defArgs s_by_ways) (defBody s_by_ways) (defScope s_by_ways) [] [] (He.fAd K ("by_ways", none)) fd := T.says.def_ 21 (d := d_by_ways) rfl
theorem Tx.g_by_ways (T : Tx w K mg) : mg "by_ways" = some (.ref (He.fAd K ("by_ways", none))) := by obtain ⟨h, X, G⟩ := T.hX; exact He.glo_ok X G (T.says.fact 16 (f := .glo "by_ways") rfl)
theorem Tx.f_by_thing (T : Tx w K mg) : ∃ fd, FunD K "by_thing" "by_thing" (defArgs s_by_thing) (defBody s_by_thing) (defScope s_by_thing) [] [] (He.fAd K ("by_thing", none)) fd := T.says.def_ 22 (d := d_by_thing) rfl
theorem Tx.g_by_thing (T : Tx w K mg) : mg "by_thing" = some (.ref (He.fAd K ("by_thing", none))) := by obtain ⟨h, X, G⟩ := T.hX; exact He.glo_ok X G (T.says.fact 17 (f := .glo "by_thing") rfl)
theorem Tx.f_best (T : Tx w K mg) : ∃ fd, FunD K "best" "best" (defArgs s_best) (defBody s_best) (defScope s_best) [] [] (He.fAd K ("best", none)) fd := T.says.def_ 23 (d := d_best) rfl
theorem Tx.g_best (T : Tx w K mg) : mg "best" = some (.ref (He.fAd K ("best", none))) := by obtain ⟨h, X, G⟩ := T.hX; exact He.glo_ok X G (T.says.fact 18 (f := .glo "best") rfl)
theorem Tx.f_most (T : Tx w K mg) : ∃ fd, FunD K "most" "most" (defArgs s_most) (defBody s_most) (defScope s_most) [] [] (He.fAd K ("most", none)) fd := T.says.def_ 24 (d := d_most) rfl
theorem Tx.g_most (T : Tx w K mg) : mg "most" = some (.ref (He.fAd K ("most", none))) := by obtain ⟨h, X, G⟩ := T.hX; exact He.glo_ok X G (T.says.fact 19 (f := .glo "most") rfl)
theorem Tx.f_is_number (T : Tx w K mg) : ∃ fd, FunD K "is_number" "is_number" (defArgs s_is_number) (defBody s_is_number) (defScope s_is_number) [] [] (He.fAd K ("is_number", none)) fd := T.says.def_ 25 (d := d_is_number) rfl
theorem Tx.g_is_number (T : Tx w K mg) : mg "is_number" = some (.ref (He.fAd K ("is_number", none))) := by obtain ⟨h, X, G⟩ := T.hX; exact He.glo_ok X G (T.says.fact 20 (f := .glo "is_number") rfl)
theorem Tx.f_is_word (T : Tx w K mg) : ∃ fd, FunD K "is_word" "is_word" (defArgs s_is_word) (defBody s_is_word) (defScope s_is_word) [] [] (He.fAd K ("is_word", none)) fd := T.says.def_ 26 (d := d_is_word) rfl
theorem Tx.g_is_word (T : Tx w K mg) : mg "is_word" = some (.ref (He.fAd K ("is_word", none))) := by obtain ⟨h, X, G⟩ := T.hX; exact He.glo_ok X G (T.says.fact 21 (f := .glo "is_word") rfl)
theorem Tx.f_need (T : Tx w K mg) : ∃ fd, FunD K "need" "need" (defArgs s_need) (defBody s_need) (defScope s_need) [] [] (He.fAd K ("need", none)) fd := T.says.def_ 27 (d := d_need) rfl
theorem Tx.g_need (T : Tx w K mg) : mg "need" = some (.ref (He.fAd K ("need", none))) := by obtain ⟨h, X, G⟩ := T.hX; exact He.glo_ok X G (T.says.fact 22 (f := .glo "need") rfl)
theorem Tx.f_wanted (T : Tx w K mg) : ∃ fd, FunD K "wanted" "wanted" (defArgs s_wanted) (defBody s_wanted) (defScope s_wanted) [] [] (He.fAd K ("wanted", none)) fd := T.says.def_ 28 (d := d_wanted) rfl
theorem Tx.g_wanted (T : Tx w K mg) : mg "wanted" = some (.ref (He.fAd K ("wanted", none))) := by obtain ⟨h, X, G⟩ := T.hX; exact He.glo_ok X G (T.says.fact 23 (f := .glo "wanted") rfl)
theorem Tx.f_there (T : Tx w K mg) : ∃ fd, FunD K "there" "there" (defArgs s_there) (defBody s_there) (defScope s_there) [] [] (He.fAd K ("there", none)) fd := T.says.def_ 29 (d := d_there) rfl
theorem Tx.g_there (T : Tx w K mg) : mg "there" = some (.ref (He.fAd K ("there", none))) := by obtain ⟨h, X, G⟩ := T.hX; exact He.glo_ok X G (T.says.fact 24 (f := .glo "there") rfl)
theorem Tx.f_is_rising (T : Tx w K mg) : ∃ fd, FunD K "is_rising" "is_rising" (defArgs s_is_rising) (defBody s_is_rising) (defScope s_is_rising) [] [] (He.fAd K ("is_rising", none)) fd := T.says.def_ 30 (d := d_is_rising) rfl
theorem Tx.g_is_rising (T : Tx w K mg) : mg "is_rising" = some (.ref (He.fAd K ("is_rising", none))) := by obtain ⟨h, X, G⟩ := T.hX; exact He.glo_ok X G (T.says.fact 25 (f := .glo "is_rising") rfl)
theorem Tx.f_is_shaped (T : Tx w K mg) : ∃ fd, FunD K "is_shaped" "is_shaped" (defArgs s_is_shaped) (defBody s_is_shaped) (defScope s_is_shaped) [] [] (He.fAd K ("is_shaped", none)) fd := T.says.def_ 31 (d := d_is_shaped) rfl
theorem Tx.g_is_shaped (T : Tx w K mg) : mg "is_shaped" = some (.ref (He.fAd K ("is_shaped", none))) := by obtain ⟨h, X, G⟩ := T.hX; exact He.glo_ok X G (T.says.fact 26 (f := .glo "is_shaped") rfl)
theorem Tx.f_is_bar (T : Tx w K mg) : ∃ fd, FunD K "is_bar" "is_bar" (defArgs s_is_bar) (defBody s_is_bar) (defScope s_is_bar) [] [] (He.fAd K ("is_bar", none)) fd := T.says.def_ 32 (d := d_is_bar) rfl
theorem Tx.g_is_bar (T : Tx w K mg) : mg "is_bar" = some (.ref (He.fAd K ("is_bar", none))) := by obtain ⟨h, X, G⟩ := T.hX; exact He.glo_ok X G (T.says.fact 27 (f := .glo "is_bar") rfl)
theorem Tx.f_lets_bar (T : Tx w K mg) : ∃ fd, FunD K "lets_bar" "lets_bar" (defArgs s_lets_bar) (defBody s_lets_bar) (defScope s_lets_bar) [] [] (He.fAd K ("lets_bar", none)) fd := T.says.def_ 33 (d := d_lets_bar) rfl
theorem Tx.g_lets_bar (T : Tx w K mg) : mg "lets_bar" = some (.ref (He.fAd K ("lets_bar", none))) := by obtain ⟨h, X, G⟩ := T.hX; exact He.glo_ok X G (T.says.fact 28 (f := .glo "lets_bar") rfl)
theorem Tx.f_need_node (T : Tx w K mg) : ∃ fd, FunD K "need_node" "need_node" (defArgs s_need_node) (defBody s_need_node) (defScope s_need_node) [] [] (He.fAd K ("need_node", none)) fd := T.says.def_ 34 (d := d_need_node) rfl
theorem Tx.g_need_node (T : Tx w K mg) : mg "need_node" = some (.ref (He.fAd K ("need_node", none))) := by obtain ⟨h, X, G⟩ := T.hX; exact He.glo_ok X G (T.says.fact 29 (f := .glo "need_node") rfl)
theorem Tx.f_is_barred (T : Tx w K mg) : ∃ fd, FunD K "is_barred" "is_barred" (defArgs s_is_barred) (defBody s_is_barred) (defScope s_is_barred) [] [] (He.fAd K ("is_barred", none)) fd := T.says.def_ 35 (d := d_is_barred) rfl
theorem Tx.g_is_barred (T : Tx w K mg) : mg "is_barred" = some (.ref (He.fAd K ("is_barred", none))) := by obtain ⟨h, X, G⟩ := T.hX; exact He.glo_ok X G (T.says.fact 30 (f := .glo "is_barred") rfl)
theorem Tx.f_is_free (T : Tx w K mg) : ∃ fd, FunD K "is_free" "is_free" (defArgs s_is_free) (defBody s_is_free) (defScope s_is_free) [] [] (He.fAd K ("is_free", none)) fd := T.says.def_ 36 (d := d_is_free) rfl
theorem Tx.g_is_free (T : Tx w K mg) : mg "is_free" = some (.ref (He.fAd K ("is_free", none))) := by obtain ⟨h, X, G⟩ := T.hX; exact He.glo_ok X G (T.says.fact 31 (f := .glo "is_free") rfl)
theorem Tx.f_choices (T : Tx w K mg) : ∃ fd, FunD K "choices" "choices" (defArgs s_choices) (defBody s_choices) (defScope s_choices) [] [] (He.fAd K ("choices", none)) fd := T.says.def_ 37 (d := d_choices) rfl
theorem Tx.g_choices (T : Tx w K mg) : mg "choices" = some (.ref (He.fAd K ("choices", none))) := by obtain ⟨h, X, G⟩ := T.hX; exact He.glo_ok X G (T.says.fact 32 (f := .glo "choices") rfl)
theorem Tx.f_wants_of (T : Tx w K mg) : ∃ fd, FunD K "wants_of" "wants_of" (defArgs s_wants_of) (defBody s_wants_of) (defScope s_wants_of) [.non] [] (He.fAd K ("wants_of", none)) fd := T.says.def_ 38 (d := d_wants_of) rfl
theorem Tx.g_wants_of (T : Tx w K mg) : mg "wants_of" = some (.ref (He.fAd K ("wants_of", none))) := by obtain ⟨h, X, G⟩ := T.hX; exact He.glo_ok X G (T.says.fact 33 (f := .glo "wants_of") rfl)
theorem Tx.f_is_gift (T : Tx w K mg) : ∃ fd, FunD K "is_gift" "is_gift" (defArgs s_is_gift) (defBody s_is_gift) (defScope s_is_gift) [] [] (He.fAd K ("is_gift", none)) fd := T.says.def_ 39 (d := d_is_gift) rfl
theorem Tx.g_is_gift (T : Tx w K mg) : mg "is_gift" = some (.ref (He.fAd K ("is_gift", none))) := by obtain ⟨h, X, G⟩ := T.hX; exact He.glo_ok X G (T.says.fact 34 (f := .glo "is_gift") rfl)
theorem Tx.f_is_right (T : Tx w K mg) : ∃ fd, FunD K "is_right" "is_right" (defArgs s_is_right) (defBody s_is_right) (defScope s_is_right) [] [] (He.fAd K ("is_right", none)) fd := T.says.def_ 40 (d := d_is_right) rfl
theorem Tx.g_is_right (T : Tx w K mg) : mg "is_right" = some (.ref (He.fAd K ("is_right", none))) := by obtain ⟨h, X, G⟩ := T.hX; exact He.glo_ok X G (T.says.fact 35 (f := .glo "is_right") rfl)
theorem Tx.f_are_gifts (T : Tx w K mg) : ∃ fd, FunD K "are_gifts" "are_gifts" (defArgs s_are_gifts) (defBody s_are_gifts) (defScope s_are_gifts) [] [] (He.fAd K ("are_gifts", none)) fd := T.says.def_ 41 (d := d_are_gifts) rfl
theorem Tx.g_are_gifts (T : Tx w K mg) : mg "are_gifts" = some (.ref (He.fAd K ("are_gifts", none))) := by obtain ⟨h, X, G⟩ := T.hX; exact He.glo_ok X G (T.says.fact 36 (f := .glo "are_gifts") rfl)
theorem Tx.f_is_given (T : Tx w K mg) : ∃ fd, FunD K "is_given" "is_given" (defArgs s_is_given) (defBody s_is_given) (defScope s_is_given) [] [] (He.fAd K ("is_given", none)) fd := T.says.def_ 42 (d := d_is_given) rfl
theorem Tx.g_is_given (T : Tx w K mg) : mg "is_given" = some (.ref (He.fAd K ("is_given", none))) := by obtain ⟨h, X, G⟩ := T.hX; exact He.glo_ok X G (T.says.fact 37 (f := .glo "is_given") rfl)
theorem Tx.f_given_sum (T : Tx w K mg) : ∃ fd, FunD K "given_sum" "given_sum" (defArgs s_given_sum) (defBody s_given_sum) (defScope s_given_sum) [] [] (He.fAd K ("given_sum", none)) fd := T.says.def_ 43 (d := d_given_sum) rfl
theorem Tx.g_given_sum (T : Tx w K mg) : mg "given_sum" = some (.ref (He.fAd K ("given_sum", none))) := by obtain ⟨h, X, G⟩ := T.hX; exact He.glo_ok X G (T.says.fact 38 (f := .glo "given_sum") rfl)
theorem Tx.f_serves (T : Tx w K mg) : ∃ fd, FunD K "serves" "serves" (defArgs s_serves) (defBody s_serves) (defScope s_serves) [] [] (He.fAd K ("serves", none)) fd := T.says.def_ 44 (d := d_serves) rfl
theorem Tx.g_serves (T : Tx w K mg) : mg "serves" = some (.ref (He.fAd K ("serves", none))) := by obtain ⟨h, X, G⟩ := T.hX; exact He.glo_ok X G (T.says.fact 39 (f := .glo "serves") rfl)
theorem Tx.f_is_dealing (T : Tx w K mg) : ∃ fd, FunD K "is_dealing" "is_dealing" (defArgs s_is_dealing) (defBody s_is_dealing) (defScope s_is_dealing) [] [] (He.fAd K ("is_dealing", none)) fd := T.says.def_ 45 (d := d_is_dealing) rfl
theorem Tx.g_is_dealing (T : Tx w K mg) : mg "is_dealing" = some (.ref (He.fAd K ("is_dealing", none))) := by obtain ⟨h, X, G⟩ := T.hX; exact He.glo_ok X G (T.says.fact 40 (f := .glo "is_dealing") rfl)
theorem Tx.f_is_places (T : Tx w K mg) : ∃ fd, FunD K "is_places" "is_places" (defArgs s_is_places) (defBody s_is_places) (defScope s_is_places) [] [] (He.fAd K ("is_places", none)) fd := T.says.def_ 46 (d := d_is_places) rfl
theorem Tx.g_is_places (T : Tx w K mg) : mg "is_places" = some (.ref (He.fAd K ("is_places", none))) := by obtain ⟨h, X, G⟩ := T.hX; exact He.glo_ok X G (T.says.fact 41 (f := .glo "is_places") rfl)
theorem Tx.f_has_most_form (T : Tx w K mg) : ∃ fd, FunD K "has_most_form" "has_most_form" (defArgs s_has_most_form) (defBody s_has_most_form) (defScope s_has_most_form) [] [] (He.fAd K ("has_most_form", none)) fd := T.says.def_ 47 (d := d_has_most_form) rfl
theorem Tx.g_has_most_form (T : Tx w K mg) : mg "has_most_form" = some (.ref (He.fAd K ("has_most_form", none))) := by obtain ⟨h, X, G⟩ := T.hX; exact He.glo_ok X G (T.says.fact 42 (f := .glo "has_most_form") rfl)
theorem Tx.f_look_most (T : Tx w K mg) : ∃ fd, FunD K "look_most" "look_most" (defArgs s_look_most) (defBody s_look_most) (defScope s_look_most) [] [] (He.fAd K ("look_most", none)) fd := T.says.def_ 48 (d := d_look_most) rfl
theorem Tx.g_look_most (T : Tx w K mg) : mg "look_most" = some (.ref (He.fAd K ("look_most", none))) := by obtain ⟨h, X, G⟩ := T.hX; exact He.glo_ok X G (T.says.fact 43 (f := .glo "look_most") rfl)
theorem Tx.f_look_in_and_out (T : Tx w K mg) : ∃ fd, FunD K "look_in_and_out" "look_in_and_out" (defArgs s_look_in_and_out) (defBody s_look_in_and_out) (defScope s_look_in_and_out) [] [] (He.fAd K ("look_in_and_out", none)) fd := T.says.def_ 49 (d := d_look_in_and_out) rfl
theorem Tx.g_look_in_and_out (T : Tx w K mg) : mg "look_in_and_out" = some (.ref (He.fAd K ("look_in_and_out", none))) := by obtain ⟨h, X, G⟩ := T.hX; exact He.glo_ok X G (T.says.fact 44 (f := .glo "look_in_and_out") rfl)
theorem Tx.f_look_ways (T : Tx w K mg) : ∃ fd, FunD K "look_ways" "look_ways" (defArgs s_look_ways) (defBody s_look_ways) (defScope s_look_ways) [] [] (He.fAd K ("look_ways", none)) fd := T.says.def_ 50 (d := d_look_ways) rfl
theorem Tx.g_look_ways (T : Tx w K mg) : mg "look_ways" = some (.ref (He.fAd K ("look_ways", none))) := by obtain ⟨h, X, G⟩ := T.hX; exact He.glo_ok X G (T.says.fact 45 (f := .glo "look_ways") rfl)
theorem Tx.f_lets_most (T : Tx w K mg) : ∃ fd, FunD K "lets_most" "lets_most" (defArgs s_lets_most) (defBody s_lets_most) (defScope s_lets_most) [] [] (He.fAd K ("lets_most", none)) fd := T.says.def_ 51 (d := d_lets_most) rfl
theorem Tx.g_lets_most (T : Tx w K mg) : mg "lets_most" = some (.ref (He.fAd K ("lets_most", none))) := by obtain ⟨h, X, G⟩ := T.hX; exact He.glo_ok X G (T.says.fact 46 (f := .glo "lets_most") rfl)
theorem Tx.f_most_paper (T : Tx w K mg) : ∃ fd, FunD K "most_paper" "most_paper" (defArgs s_most_paper) (defBody s_most_paper) (defScope s_most_paper) [] [] (He.fAd K ("most_paper", none)) fd := T.says.def_ 52 (d := d_most_paper) rfl
theorem Tx.g_most_paper (T : Tx w K mg) : mg "most_paper" = some (.ref (He.fAd K ("most_paper", none))) := by obtain ⟨h, X, G⟩ := T.hX; exact He.glo_ok X G (T.says.fact 47 (f := .glo "most_paper") rfl)
theorem Tx.f__law_tape (T : Tx w K mg) : ∃ fd, FunD K "_law_tape" "_law_tape" (defArgs s__law_tape) (defBody s__law_tape) (defScope s__law_tape) [] [] (He.fAd K ("_law_tape", none)) fd := T.says.def_ 53 (d := d__law_tape) rfl
theorem Tx.g__law_tape (T : Tx w K mg) : mg "_law_tape" = some (.ref (He.fAd K ("_law_tape", none))) := by obtain ⟨h, X, G⟩ := T.hX; exact He.glo_ok X G (T.says.fact 48 (f := .glo "_law_tape") rfl)
theorem Tx.f__law_pick (T : Tx w K mg) : ∃ fd, FunD K "_law_pick" "_law_pick" (defArgs s__law_pick) (defBody s__law_pick) (defScope s__law_pick) [] [] (He.fAd K ("_law_pick", none)) fd := T.says.def_ 54 (d := d__law_pick) rfl
theorem Tx.g__law_pick (T : Tx w K mg) : mg "_law_pick" = some (.ref (He.fAd K ("_law_pick", none))) := by obtain ⟨h, X, G⟩ := T.hX; exact He.glo_ok X G (T.says.fact 49 (f := .glo "_law_pick") rfl)
theorem Tx.f__law_forms (T : Tx w K mg) : ∃ fd, FunD K "_law_forms" "_law_forms" (defArgs s__law_forms) (defBody s__law_forms) (defScope s__law_forms) [] [] (He.fAd K ("_law_forms", none)) fd := T.says.def_ 55 (d := d__law_forms) rfl
theorem Tx.g__law_forms (T : Tx w K mg) : mg "_law_forms" = some (.ref (He.fAd K ("_law_forms", none))) := by obtain ⟨h, X, G⟩ := T.hX; exact He.glo_ok X G (T.says.fact 50 (f := .glo "_law_forms") rfl)
theorem Tx.f__law_shades (T : Tx w K mg) : ∃ fd, FunD K "_law_shades" "_law_shades" (defArgs s__law_shades) (defBody s__law_shades) (defScope s__law_shades) [] [] (He.fAd K ("_law_shades", none)) fd := T.says.def_ 56 (d := d__law_shades) rfl
theorem Tx.g__law_shades (T : Tx w K mg) : mg "_law_shades" = some (.ref (He.fAd K ("_law_shades", none))) := by obtain ⟨h, X, G⟩ := T.hX; exact He.glo_ok X G (T.says.fact 51 (f := .glo "_law_shades") rfl)
theorem Tx.f__law_count (T : Tx w K mg) : ∃ fd, FunD K "_law_count" "_law_count" (defArgs s__law_count) (defBody s__law_count) (defScope s__law_count) [] [] (He.fAd K ("_law_count", none)) fd := T.says.def_ 57 (d := d__law_count) rfl
theorem Tx.g__law_count (T : Tx w K mg) : mg "_law_count" = some (.ref (He.fAd K ("_law_count", none))) := by obtain ⟨h, X, G⟩ := T.hX; exact He.glo_ok X G (T.says.fact 52 (f := .glo "_law_count") rfl)
theorem Tx.f__law_want (T : Tx w K mg) : ∃ fd, FunD K "_law_want" "_law_want" (defArgs s__law_want) (defBody s__law_want) (defScope s__law_want) [] [] (He.fAd K ("_law_want", none)) fd := T.says.def_ 58 (d := d__law_want) rfl
theorem Tx.g__law_want (T : Tx w K mg) : mg "_law_want" = some (.ref (He.fAd K ("_law_want", none))) := by obtain ⟨h, X, G⟩ := T.hX; exact He.glo_ok X G (T.says.fact 53 (f := .glo "_law_want") rfl)
theorem Tx.f__law_way (T : Tx w K mg) : ∃ fd, FunD K "_law_way" "_law_way" (defArgs s__law_way) (defBody s__law_way) (defScope s__law_way) [] [] (He.fAd K ("_law_way", none)) fd := T.says.def_ 59 (d := d__law_way) rfl
theorem Tx.g__law_way (T : Tx w K mg) : mg "_law_way" = some (.ref (He.fAd K ("_law_way", none))) := by obtain ⟨h, X, G⟩ := T.hX; exact He.glo_ok X G (T.says.fact 54 (f := .glo "_law_way") rfl)
theorem Tx.f__law_sheet (T : Tx w K mg) : ∃ fd, FunD K "_law_sheet" "_law_sheet" (defArgs s__law_sheet) (defBody s__law_sheet) (defScope s__law_sheet) [] [] (He.fAd K ("_law_sheet", none)) fd := T.says.def_ 60 (d := d__law_sheet) rfl
theorem Tx.g__law_sheet (T : Tx w K mg) : mg "_law_sheet" = some (.ref (He.fAd K ("_law_sheet", none))) := by obtain ⟨h, X, G⟩ := T.hX; exact He.glo_ok X G (T.says.fact 55 (f := .glo "_law_sheet") rfl)
theorem Tx.f__law_rows (T : Tx w K mg) : ∃ fd, FunD K "_law_rows" "_law_rows" (defArgs s__law_rows) (defBody s__law_rows) (defScope s__law_rows) [] [] (He.fAd K ("_law_rows", none)) fd := T.says.def_ 61 (d := d__law_rows) rfl
theorem Tx.g__law_rows (T : Tx w K mg) : mg "_law_rows" = some (.ref (He.fAd K ("_law_rows", none))) := by obtain ⟨h, X, G⟩ := T.hX; exact He.glo_ok X G (T.says.fact 56 (f := .glo "_law_rows") rfl)
theorem Tx.f__law_stock (T : Tx w K mg) : ∃ fd, FunD K "_law_stock" "_law_stock" (defArgs s__law_stock) (defBody s__law_stock) (defScope s__law_stock) [] [] (He.fAd K ("_law_stock", none)) fd := T.says.def_ 62 (d := d__law_stock) rfl
theorem Tx.g__law_stock (T : Tx w K mg) : mg "_law_stock" = some (.ref (He.fAd K ("_law_stock", none))) := by obtain ⟨h, X, G⟩ := T.hX; exact He.glo_ok X G (T.says.fact 57 (f := .glo "_law_stock") rfl)
theorem Tx.f__law_choices (T : Tx w K mg) : ∃ fd, FunD K "_law_choices" "_law_choices" (defArgs s__law_choices) (defBody s__law_choices) (defScope s__law_choices) [] [] (He.fAd K ("_law_choices", none)) fd := T.says.def_ 63 (d := d__law_choices) rfl
theorem Tx.g__law_choices (T : Tx w K mg) : mg "_law_choices" = some (.ref (He.fAd K ("_law_choices", none))) := by obtain ⟨h, X, G⟩ := T.hX; exact He.glo_ok X G (T.says.fact 58 (f := .glo "_law_choices") rfl)
theorem Tx.f__law_wants (T : Tx w K mg) : ∃ fd, FunD K "_law_wants" "_law_wants" (defArgs s__law_wants) (defBody s__law_wants) (defScope s__law_wants) [] [] (He.fAd K ("_law_wants", none)) fd := T.says.def_ 64 (d := d__law_wants) rfl
theorem Tx.g__law_wants (T : Tx w K mg) : mg "_law_wants" = some (.ref (He.fAd K ("_law_wants", none))) := by obtain ⟨h, X, G⟩ := T.hX; exact He.glo_ok X G (T.says.fact 59 (f := .glo "_law_wants") rfl)
theorem Tx.f__law_things (T : Tx w K mg) : ∃ fd, FunD K "_law_things" "_law_things" (defArgs s__law_things) (defBody s__law_things) (defScope s__law_things) [] [] (He.fAd K ("_law_things", none)) fd := T.says.def_ 65 (d := d__law_things) rfl
theorem Tx.g__law_things (T : Tx w K mg) : mg "_law_things" = some (.ref (He.fAd K ("_law_things", none))) := by obtain ⟨h, X, G⟩ := T.hX; exact He.glo_ok X G (T.says.fact 60 (f := .glo "_law_things") rfl)
theorem Tx.f__law_sheet_of (T : Tx w K mg) : ∃ fd, FunD K "_law_sheet_of" "_law_sheet_of" (defArgs s__law_sheet_of) (defBody s__law_sheet_of) (defScope s__law_sheet_of) [] [] (He.fAd K ("_law_sheet_of", none)) fd := T.says.def_ 66 (d := d__law_sheet_of) rfl
theorem Tx.g__law_sheet_of (T : Tx w K mg) : mg "_law_sheet_of" = some (.ref (He.fAd K ("_law_sheet_of", none))) := by obtain ⟨h, X, G⟩ := T.hX; exact He.glo_ok X G (T.says.fact 61 (f := .glo "_law_sheet_of") rfl)
theorem Tx.f__law_given_out (T : Tx w K mg) : ∃ fd, FunD K "_law_given_out" "_law_given_out" (defArgs s__law_given_out) (defBody s__law_given_out) (defScope s__law_given_out) [] [] (He.fAd K ("_law_given_out", none)) fd := T.says.def_ 67 (d := d__law_given_out) rfl
theorem Tx.g__law_given_out (T : Tx w K mg) : mg "_law_given_out" = some (.ref (He.fAd K ("_law_given_out", none))) := by obtain ⟨h, X, G⟩ := T.hX; exact He.glo_ok X G (T.says.fact 62 (f := .glo "_law_given_out") rfl)
theorem Tx.f_law (T : Tx w K mg) : ∃ fd, FunD K "law" "law" (defArgs s_law) (defBody s_law) (defScope s_law) [] [] (He.fAd K ("law", none)) fd := T.says.def_ 68 (d := d_law) rfl
theorem Tx.g_law (T : Tx w K mg) : mg "law" = some (.ref (He.fAd K ("law", none))) := by obtain ⟨h, X, G⟩ := T.hX; exact He.glo_ok X G (T.says.fact 63 (f := .glo "law") rfl)
theorem Tx.b_all (T : Tx w K mg) : mg "all" = none := by obtain ⟨h, X, G⟩ := T.hX; exact He.free_ok X G (T.says.fact 64 (f := .free "all") rfl)
theorem Tx.b_bool (T : Tx w K mg) : mg "bool" = none := by obtain ⟨h, X, G⟩ := T.hX; exact He.free_ok X G (T.says.fact 65 (f := .free "bool") rfl)
theorem Tx.b_enumerate (T : Tx w K mg) : mg "enumerate" = none := by obtain ⟨h, X, G⟩ := T.hX; exact He.free_ok X G (T.says.fact 66 (f := .free "enumerate") rfl)
theorem Tx.b_int (T : Tx w K mg) : mg "int" = none := by obtain ⟨h, X, G⟩ := T.hX; exact He.free_ok X G (T.says.fact 67 (f := .free "int") rfl)
theorem Tx.b_isinstance (T : Tx w K mg) : mg "isinstance" = none := by obtain ⟨h, X, G⟩ := T.hX; exact He.free_ok X G (T.says.fact 68 (f := .free "isinstance") rfl)
theorem Tx.b_len (T : Tx w K mg) : mg "len" = none := by obtain ⟨h, X, G⟩ := T.hX; exact He.free_ok X G (T.says.fact 69 (f := .free "len") rfl)
theorem Tx.b_list (T : Tx w K mg) : mg "list" = none := by obtain ⟨h, X, G⟩ := T.hX; exact He.free_ok X G (T.says.fact 70 (f := .free "list") rfl)
theorem Tx.b_max (T : Tx w K mg) : mg "max" = none := by obtain ⟨h, X, G⟩ := T.hX; exact He.free_ok X G (T.says.fact 71 (f := .free "max") rfl)
theorem Tx.b_min (T : Tx w K mg) : mg "min" = none := by obtain ⟨h, X, G⟩ := T.hX; exact He.free_ok X G (T.says.fact 72 (f := .free "min") rfl)
theorem Tx.b_range (T : Tx w K mg) : mg "range" = none := by obtain ⟨h, X, G⟩ := T.hX; exact He.free_ok X G (T.says.fact 73 (f := .free "range") rfl)
theorem Tx.b_set (T : Tx w K mg) : mg "set" = none := by obtain ⟨h, X, G⟩ := T.hX; exact He.free_ok X G (T.says.fact 74 (f := .free "set") rfl)
theorem Tx.b_sorted (T : Tx w K mg) : mg "sorted" = none := by obtain ⟨h, X, G⟩ := T.hX; exact He.free_ok X G (T.says.fact 75 (f := .free "sorted") rfl)
theorem Tx.b_str (T : Tx w K mg) : mg "str" = none := by obtain ⟨h, X, G⟩ := T.hX; exact He.free_ok X G (T.says.fact 76 (f := .free "str") rfl)
theorem Tx.b_sum (T : Tx w K mg) : mg "sum" = none := by obtain ⟨h, X, G⟩ := T.hX; exact He.free_ok X G (T.says.fact 77 (f := .free "sum") rfl)
theorem Tx.b_tuple (T : Tx w K mg) : mg "tuple" = none := by obtain ⟨h, X, G⟩ := T.hX; exact He.free_ok X G (T.says.fact 78 (f := .free "tuple") rfl)
theorem Tx.b_zip (T : Tx w K mg) : mg "zip" = none := by obtain ⟨h, X, G⟩ := T.hX; exact He.free_ok X G (T.says.fact 79 (f := .free "zip") rfl)
theorem Tx.g_Heap (T : Tx w K mg) : mg "Heap" = some (.ref (He.ga K "Heap")) := by obtain ⟨h, X, G⟩ := T.hX; exact He.glo_ok X G (T.says.fact 80 (f := .glo "Heap") rfl)
theorem Tx.g_LENGTHS (T : Tx w K mg) : mg "LENGTHS" = some (.ref (He.ga K "LENGTHS")) := by obtain ⟨h, X, G⟩ := T.hX; exact He.glo_ok X G (T.says.fact 90 (f := .glo "LENGTHS") rfl)
theorem Tx.cl (T : Tx w K mg) : Cls K (He.ga K "Heap") := He.cls_ok (T.says.fact 81 (f := .cls "Heap") rfl)
theorem Tx.nP (T : Tx w K mg) : NoAttr K (He.ga K "Heap") "parts" := He.noat_ok (T.says.fact 82 (f := .noat "Heap" "parts") rfl)
theorem Tx.mkH (T : Tx w K mg) : Mk K (He.ga K "Heap") (He.fAd K ("Heap", some "__init__")) := He.mkr_ok (T.says.fact 83 (f := .mkr "Heap") rfl)
theorem Tx.m_rows (T : Tx w K mg) : Meth K (He.ga K "Heap") "rows" (He.fAd K ("Heap", some "rows")) := He.meth_ok (T.says.fact 84 (f := .meth "Heap" "rows") rfl)
theorem Tx.m_many (T : Tx w K mg) : Meth K (He.ga K "Heap") "many" (He.fAd K ("Heap", some "many")) := He.meth_ok (T.says.fact 85 (f := .meth "Heap" "many") rfl)
theorem Tx.m_rows_lacking (T : Tx w K mg) : Meth K (He.ga K "Heap") "rows_lacking" (He.fAd K ("Heap", some "rows_lacking")) := He.meth_ok (T.says.fact 86 (f := .meth "Heap" "rows_lacking") rfl)
theorem Tx.m_holds (T : Tx w K mg) : Meth K (He.ga K "Heap") "holds" (He.fAd K ("Heap", some "holds")) := He.meth_ok (T.says.fact 87 (f := .meth "Heap" "holds") rfl)
theorem Tx.letters (T : Tx w K mg) : ∃ t, mg "LETTERS" = some (.str "abcdefghijklmnopqrstuvwxyz" t) := by obtain ⟨h, X, G⟩ := T.hX; exact He.str_ok X G (T.says.fact 88 (f := .str "LETTERS" "abcdefghijklmnopqrstuvwxyz") rfl)
theorem Tx.mostl (T : Tx w K mg) : ∃ t, mg "MOST_LETTERS" = some (.int 8 t) := by obtain ⟨h, X, G⟩ := T.hX; exact He.int_ok X G (T.says.fact 89 (f := .int "MOST_LETTERS" 8) rfl)

/-- a def's promise, by its body -/
theorem mk_cal {x : Str} {st : Stmt} {f : Addr} {N ps : List Str} {k : Nat} {sp : Sp} (hF : ∃ fd, FunD K x x (defArgs st) (defBody st) (defScope st) [] [] f fd) (hm : mg x = some (.ref f)) (S : FnScope N ps (defScope st))
    (hb : ∀ (kV doc pm : Value) (an : Option Addr) (cdv ct : Value) (us : List Value), us.length = ps.length → bindArgs (PySem.W.fnOf x x (defArgs st) (defBody st) (defScope st) .none kV doc pm an cdv ct) ⟨us, []⟩ = pure (ps.zip us))
    (len : ∀ vs H Q E, sp vs H Q E → vs.length = ps.length)
    (hbody : ∀ (cdv : Value) (A : Around) (outer : List Env) (s : Shared) (H : Hp) (vs : List V) (Q : VK) (E : XK), Room k (A.deeper (envOfC x (defScope st) s.heap.objs.size f cdv)) → sp vs H Q E →
      ∃ t, PSs (cxOf CX0 P w K mg base N x (defScope st) f cdv A outer s H E).nox (defBody st) t ∧ t { nx := fun _ H' => Q .non H', rt := Q } (start N vs) H) : Cal P w K mg base (k + 1) x sp [] := by
  obtain ⟨fd, F⟩ := hF
  refine ⟨f, fd, ps, [], F.ok S len fun cdv A outer s H vs Q E hr hsp => ?_, hm, F.kp, F.bindsN hb, .nil⟩
  obtain ⟨t, h, q⟩ := hbody cdv A outer s H vs Q E hr hsp
  exact ⟨t, h.nox, q⟩
/-- a promise without effect -/
theorem mk_pure {ι : Type} {Ar : ι → List Pr} {C : ι → Prop} {R : ι → Pr} {x : Str} {st : Stmt} {f : Addr} {N ps : List Str} {k : Nat} (hF : ∃ fd, FunD K x x (defArgs st) (defBody st) (defScope st) [] [] f fd) (hm : mg x = some (.ref f)) (S : FnScope N ps (defScope st))
    (hb : ∀ (kV doc pm : Value) (an : Option Addr) (cdv ct : Value) (us : List Value), us.length = ps.length → bindArgs (PySem.W.fnOf x x (defArgs st) (defBody st) (defScope st) .none kV doc pm an cdv ct) ⟨us, []⟩ = pure (ps.zip us))
    (len : ∀ i, (Ar i).length = ps.length)
    (hbody : ∀ (cdv : Value) (A : Around) (outer : List Env) (s : Shared) (H : Hp) (vs : List V) (Q : VK) (E : XK) (i : ι), Room k (A.deeper (envOfC x (defScope st) s.heap.objs.size f cdv)) → PP H vs (Ar i) → C i → (∀ v H', Same H H' → R i H' v → Q v H') →
      ∃ t, PSs (cxOf CX0 P w K mg base N x (defScope st) f cdv A outer s H E).nox (defBody st) t ∧ t { nx := fun _ H' => Q .non H', rt := Q } (start N vs) H) : Cal P w K mg base (k + 1) x (PSp Ar C R) [] :=
  mk_cal hF hm S hb (fun vs H Q E ⟨i, h, _⟩ => h.length.trans (len i)) fun cdv A outer s H vs Q E hr ⟨i, h1, h2, h3⟩ => hbody cdv A outer s H vs Q E i hr h1 h2 h3
end
end K43
set_option Elab.async false
set_option linter.all false
/-! # KM0: the data, and what the small defs reckon, in plain Lean -/
namespace K43
open PySem
/-- a want -/
structure Want where
  form : Str
  shades : List Str
  many : Int
  deriving DecidableEq
abbrev Way := List Want
abbrev Row := List Way
abbrev Sheet := List Row
abbrev Things := List Sheet
/-- the ways taken from the beginning on -/
def begun (sheet : Sheet) : List (Option Nat) := sheet.map fun row => if row.length = 1 then some 0 else none
def takenAt (p : Row × Option Nat) : List Want := match p.2 with
  | none => []
  | some w => p.1.getD w []
def takenWants (sheet : Sheet) (taken : List (Option Nat)) : List Want := ((sheet.zip taken).map takenAt).flatten
def sheetOf (things : Things) (places : List Nat) : Sheet := (places.map fun p => things.getD p []).flatten
def wantsIn (things : Things) (inside : List (Option Bool)) (taken : List (List (Option Nat))) : List Want :=
  ((List.range things.length).map fun k => if inside.getD k none = some true then takenWants (things.getD k []) (taken.getD k []) else []).flatten
def wantsOf (sheet : Sheet) (choice : List Nat) : List Want := ((sheet.zip choice).map fun p => p.1.getD p.2 []).flatten
/-- all choices, one row more -/
def chMore (acc : List (List Nat)) (row : Row) : List (List Nat) := acc.flatMap fun c => (List.range row.length).map fun k => c ++ [k]
def choices (sheet : Sheet) : List (List Nat) := sheet.foldl chMore [[]]
/-- the first thing that is in and has a row of which no way is taken -/
def openAt (inside : List (Option Bool)) (taken : List (List (Option Nat))) (k : Nat) : Bool := decide (inside.getD k none = some true) && (taken.getD k []).contains none
def openRow (inside : List (Option Bool)) (taken : List (List (Option Nat))) : Option (Nat × Nat) :=
  ((List.range inside.length).find? (openAt inside taken)).map fun k => (k, (taken.getD k []).findIdx (· == none))
end K43
set_option Elab.async false
set_option linter.all false
set_option maxRecDepth 100000
set_option maxHeartbeats 4000000
/-! # KD0: the predicates of the data -/
namespace K43
open PySem PySem.Spec PyProof.Rows L2
abbrev RStr (s : Str) : Pr := IsS s
abbrev RNat (n : Nat) : Pr := IsI (n : Int)
abbrev RWant (w : Want) : Pr := TupP [IsS w.form, TupOf RStr w.shades, IsI w.many]
abbrev RWay (y : Way) : Pr := TupOf RWant y
abbrev RRow (r : Row) : Pr := TupOf RWay r
abbrev RSheet (s : Sheet) : Pr := TupOf RRow s
abbrev RThings (t : Things) : Pr := TupOf RSheet t
abbrev RChoice (c : List Nat) : Pr := TupOf RNat c
/-- a part -/
abbrev Part := Str × Str
abbrev RPart (p : Part) : Pr := TupP [IsS p.1, IsS p.2]
/-- a row of parts -/
abbrev RPrt (p : Str × Str × Int) : Pr := TupP [IsS p.1, IsS p.2.1, IsI p.2.2]
/-- of three: True, False, None -/
def vOB : Option Bool → V
  | none => .non
  | some b => .bl b
abbrev ROB (o : Option Bool) : Pr := IsV (vOB o)
def vON : Option Nat → V
  | none => .non
  | some n => .int n
abbrev RON (o : Option Nat) : Pr := IsV (vON o)
abbrev RInside (l : List (Option Bool)) : Pr := LstOf ROB l
abbrev RTk (l : List (Option Nat)) : Pr := LstOf RON l
abbrev RTaken (l : List (List (Option Nat))) : Pr := LstOf RTk l
/-- a heap: its parts, a tuple in the instance's own field -/
def RHeap (C : Addr) (ps : List (Str × Str × Int)) : Pr := fun H v => ∃ a dx vp, v = .ref a ∧ H a = some (.ins C dx [("parts", vp)]) ∧ TupOf RPrt ps H vp
instance {C : Addr} {ps : List (Str × Str × Int)} : MF (RHeap C ps) := ⟨fun e ⟨a, dx, vp, h1, h2, h3⟩ => ⟨a, dx, vp, h1, e a _ True.intro h2, MF.mf e h3⟩⟩
section
variable {H : Hp} {v : V}
theorem ron_non {o : Option Nat} (h : RON o H v) : decide (v = .non) = o.isNone := by
  obtain rfl : v = vON o := h
  cases o <;> rfl
theorem rob_non {o : Option Bool} (h : ROB o H v) : decide (v = .non) = o.isNone := by
  obtain rfl : v = vOB o := h
  cases o <;> rfl
theorem take_map_flatten {α β : Type} {f : α → List β} {xs : List α} {i : Nat} {x : α} (h : xs[i]? = some x) : ((xs.take (i + 1)).map f).flatten = ((xs.take i).map f).flatten ++ f x := by
  rw [take_snoc h, List.map_append, List.flatten_append]
  simp
theorem flatten_take_le {α β : Type} {f : α → List β} {xs : List α} {i : Nat} : ((xs.take i).map f).flatten.length ≤ (xs.map f).flatten.length := by
  have e : xs.map f = (xs.take i).map f ++ (xs.drop i).map f := by rw [← List.map_append, List.take_append_drop]
  rw [e, List.flatten_append, List.length_append]
  omega
theorem flatten_at_le {α β : Type} {f : α → List β} {xs : List α} {i : Nat} {x : α} (h : xs[i]? = some x) : ((xs.take i).map f).flatten.length + (f x).length ≤ (xs.map f).flatten.length := by
  have := flatten_take_le (f := f) (xs := xs) (i := i + 1)
  rw [take_map_flatten h, List.length_append] at this
  exact this
end
end K43
set_option Elab.async false
set_option linter.all false
set_option maxRecDepth 100000
set_option maxHeartbeats 4000000
/-! # KDA: small defs of sheets -/
namespace K43
open PySem PySem.Spec PyProof.Rows L2
open C8 (Cal Mak Met pe_c pe_mk pe_mt pe_mt0)
section
variable {P : Program} {w : World} {K : PySem.W.Frag} {mg : Str → Option Value} {base : Heap}
-- slots: 0 things, 1 places, 2 found, 3 place
abbrev N_sheet_of : List Str := ["things", "places", "found", "place"]
theorem sc_sheet_of : FnScope N_sheet_of ["things", "places"] (defScope s_sheet_of) := ⟨rfl, rfl, rfl, by decide +kernel, rfl, by decide +kernel, by decide +kernel⟩
abbrev spSheetOf : Sp := PSp (ι := Things × List Nat) (fun i => [RThings i.1, TupOf RNat i.2]) (fun i => (∀ p ∈ i.2, p < i.1.length) ∧ (sheetOf i.1 i.2).length ≤ 1000) fun i => RSheet (sheetOf i.1 i.2)
theorem ok_sheet_of (T : Tx w K mg) : Cal P w K mg base 1 "sheet_of" spSheetOf [] := by
  refine mk_pure T.f_sheet_of T.g_sheet_of sc_sheet_of (fun _ _ _ _ _ _ us hl => match us, hl with | [_, _], _ => rfl) (fun _ => rfl) (fun cdv A outer s H vs Q E i hr hp hc q => ?_)
  obtain ⟨v0, v1, rfl, h0, h1⟩ := PP.two hp
  obtain ⟨things, places⟩ := i
  obtain ⟨hpl, hlen⟩ := hc
  dsimp only at hpl hlen
  refine ⟨_, (pss_cons (ps_set (i := 2) sc_sheet_of.nd rfl (.inl rfl) (pe_tup pa_nil))
    (pss_cons (ps_for PassesOwn.never rfl (kx_pi_tup K (pv 1)) (pg_name (i := 3) sc_sheet_of.nd rfl (.inl rfl))
      (pss_one (ps_set (i := 2) sc_sheet_of.nd rfl (.inl rfl) (pe_op (kx_catA K) (pv 2) (pe_ix (kx_ixT K) (pv 0) (pv 3) (fun _ _ => rfl))))))
    (pss_one (ps_ret (pv 2))))), ?_⟩
  refine q_set (er_tup ea_nil (by decide)) fun vf H1 e1 r1 => ?_
  refine q_for (ei_tup (er_var (MX.mx e1 h1))) (fun i σ' Hc => Same H Hc ∧ ∃ vf vp, σ' = [some v0, some v1, some vf, vp] ∧ RSheet (sheetOf things (places.take i)) Hc vf)
    (fun H2 e2 => ⟨e1.trans e2, vf, none, rfl, MX.mx e2 r1⟩) ?_ ?_
  · rintro i x v σ' Hc Hx N hx f ⟨s, vf, vp, rfl, rf⟩ sx r n
    have hx2 : x < things.length := hpl x (List.mem_of_getElem? hx)
    have el : (sheetOf things (places.take i)).length + (things.getD x []).length ≤ (sheetOf things places).length := flatten_at_le (f := fun p => things.getD p []) hx
    refine eg_name (s_set (er_catTO (er_var (MX.mx sx rf)) (er_ixTO (er_var (MX.mx (s.trans sx) h0)) (er_var r) (by omega) (x := things.getD x []) (by simp [List.getD, List.getElem?_eq_getElem hx2])) (by omega)) fun vg H2 e2 r2 => ?_)
    refine n _ _ (Same.fk e2) ⟨(s.trans sx).trans e2, vg, _, rfl, ?_⟩
    have e : sheetOf things (places.take (i + 1)) = sheetOf things (places.take i) ++ things.getD x [] := take_map_flatten hx
    rw [e]
    exact r2
  · rintro σ' Hc f ⟨s, vf, vp, rfl, rf⟩
    rw [List.take_length] at rf
    exact s_ret (er_var rf) fun v H2 e2 r2 => q v H2 (s.trans e2) r2
-- slots: 0 sheet, 1 row
abbrev N_begun_ways : List Str := ["sheet", "row"]
theorem sc_begun_ways : FnScope N_begun_ways ["sheet"] (defScope s_begun_ways) := ⟨rfl, rfl, rfl, by decide +kernel, rfl, by decide +kernel, by decide +kernel⟩
abbrev spBegun : Sp := PSp (ι := Sheet) (fun i => [RSheet i]) (fun i => i.length ≤ 1000) fun i => RTk (begun i)
theorem ok_begun_ways (T : Tx w K mg) : Cal P w K mg base 1 "begun_ways" spBegun [] := by
  refine mk_pure T.f_begun_ways T.g_begun_ways sc_begun_ways (fun _ _ _ _ _ _ us hl => match us, hl with | [_], _ => rfl) (fun _ => rfl) (fun cdv A outer s H vs Q E i hr hp hc q => ?_)
  obtain ⟨v0, rfl, h0⟩ := PP.one hp
  refine ⟨_, (pss_one (ps_ret (pe_lc (own := [("row", 1)]) (g := gName 1) (by rfl) sc_begun_ways.nd (kx_pi_tup K (pv 0)) (blkOk_by (N := N_begun_ways) (sc := defScope s_begun_ways) (by decide +kernel)) (fun _ _ _ _ _ => (pg_name (i := 1) sc_begun_ways.nd rfl (.inl rfl))) (fun _ _ _ _ _ => pts_nil) (fun _ _ _ _ _ => (pe_ifExp (pt_cmpR op_eq (pe_callB (id := "len") (kx_len K) (by rfl) T.b_len (by decide +kernel) (pa_cons (pv 1) pa_nil)) pe_int (nomark _)) pe_int pe_non))))), ?_⟩
  have hc : i.length ≤ 1000 := hc
  refine s_ret (er_lcM (RB := RON) (fun (row : Row) => if row.length = 1 then some 0 else none) (ei_tup (er_var h0)).same (by omega) fun x v H1 hx e r => eg_name ⟨rfl, ?_⟩) q
  refine er_if (eb_test (er_eq (ev_lenTO (er_var r)) er_c rfl)) (fun hb => ?_) fun hb => ?_
  · have h : x.length = 1 := by simp at hb; omega
    rw [if_pos h]
    exact er_c
  · have h : ¬ x.length = 1 := by simp at hb; omega
    rw [if_neg h]
    exact er_c
end
end K43
set_option Elab.async false
set_option linter.all false
set_option maxRecDepth 100000
set_option maxHeartbeats 4000000
/-! # KDB: small defs: taken_wants, wants_in, open_row, choices .. -/
namespace K43
open PySem PySem.Spec PyProof.Rows L2
open C8 (Cal Mak Met pe_c pe_mk pe_mt pe_mt0)
section
variable {P : Program} {w : World} {K : PySem.W.Frag} {mg : Str → Option Value} {base : Heap}
def OkTk (sheet : Sheet) (taken : List (Option Nat)) : Prop := ∀ p ∈ sheet.zip taken, ∀ w, p.2 = some w → w < p.1.length
-- slots: 0 sheet, 1 taken, 2 found, 3 row, 4 way
abbrev N_taken_wants : List Str := ["sheet", "taken", "found", "row", "way"]
theorem sc_taken_wants : FnScope N_taken_wants ["sheet", "taken"] (defScope s_taken_wants) := ⟨rfl, rfl, rfl, by decide +kernel, rfl, by decide +kernel, by decide +kernel⟩
abbrev spTakenWants : Sp := PSp (ι := Sheet × List (Option Nat)) (fun i => [RSheet i.1, RTk i.2]) (fun i => OkTk i.1 i.2 ∧ (takenWants i.1 i.2).length ≤ 1000) fun i => RWay (takenWants i.1 i.2)
theorem ok_taken_wants (T : Tx w K mg) : Cal P w K mg base 1 "taken_wants" spTakenWants [] := by
  refine mk_pure T.f_taken_wants T.g_taken_wants sc_taken_wants (fun _ _ _ _ _ _ us hl => match us, hl with | [_, _], _ => rfl) (fun _ => rfl) (fun cdv A outer s H vs Q E i hr hp hc q => ?_)
  obtain ⟨v0, v1, rfl, h0, h1⟩ := PP.two hp
  obtain ⟨sheet, taken⟩ := i
  obtain ⟨hok, hlen⟩ := hc
  dsimp only at hok hlen h0 h1
  refine ⟨_, (pss_cons (ps_set (i := 2) sc_taken_wants.nd rfl (.inl rfl) (pe_tup pa_nil))
    (pss_cons (ps_for PassesOwn.never rfl (kx_pi_zipTL K rfl T.b_zip (pa_cons (pv 0) (pa_cons (pv 1) pa_nil))) (kx_tup K (by rfl) (pgs_cons (pg_name (i := 3) sc_taken_wants.nd rfl (.inl rfl)) (pgs_cons (pg_name (i := 4) sc_taken_wants.nd rfl (.inl rfl)) pgs_nil)))
      (pss_one (ps_if (pt_cmp (pc_notN (pv 4))) (pss_one (ps_set (i := 2) sc_taken_wants.nd rfl (.inl rfl) (pe_op (kx_catA K) (pv 2) (pe_ix (kx_ixT K) (pv 3) (pv 4) (fun _ _ => rfl))))) pss_nil)))
    (pss_one (ps_ret (pv 2))))), ?_⟩
  refine q_set (er_tup ea_nil (by decide)) fun vf H1 e1 r1 => ?_
  refine q_forS (ei_zipTL (ea2 (er_var (MX.mx e1 h0)) (er_var (MX.mx e1 h1)))) (fun i σ' Hc => ∃ vf v3 v4, σ' = [some v0, some v1, some vf, v3, v4] ∧ RWay (((sheet.zip taken).take i).map takenAt).flatten Hc vf)
    (fun H2 e2 => ⟨vf, none, none, rfl, MX.mx e2 r1⟩) ?_ ?_
  · rintro i ⟨row, way⟩ v σ' Hc Hx N hx s ⟨vf, v3, v4, rfl, rf⟩ sx r n
    have hm := List.mem_of_getElem? hx
    have el := flatten_at_le (f := takenAt) hx
    refine eg_tup2 r fun vr vw hr hw => ?_
    refine s_when (eb_test (er_notNR (er_var hw) fun H v h => ron_non h)) (fun hb H2 e2 => ?_) fun hb H2 e2 => ?_
    · cases way with
      | none => simp at hb
      | some k =>
        have hk : k < row.length := hok _ hm k rfl
        have eg : row.getD k [] = row[k] := by simp [List.getD, List.getElem?_eq_getElem hk]
        have el2 : (((sheet.zip taken).take i).map takenAt).flatten.length + (row.getD k []).length ≤ (takenWants sheet taken).length := el
        refine s_set (er_catTO (er_var (MX.mx (sx.trans e2) rf)) (er_ixTO (er_var (MX.mx e2 hr)) (er_var (R := IsI (k : Int)) (MX.mx e2 hw)) (by omega) (x := row.getD k []) (by simp [eg, hk])) (by omega)) fun vg H3 e3 r3 => ?_
        refine n _ _ (e2.trans e3) ⟨vg, _, _, rfl, ?_⟩
        rw [take_map_flatten hx]
        exact r3
    · cases way with
      | some k => simp at hb
      | none =>
        refine n _ _ e2 ⟨vf, _, _, rfl, ?_⟩
        rw [take_map_flatten hx]
        show RWay (_ ++ []) H2 vf
        rw [List.append_nil]
        exact MX.mx (sx.trans e2) rf
  · rintro σ' Hc s ⟨vf, v3, v4, rfl, rf⟩
    rw [List.take_length] at rf
    exact s_ret (er_var rf) fun v H2 e2 r2 => q v H2 (e1.trans (s.trans e2)) r2
-- slots: 0 things, 1 inside, 2 taken, 3 found, 4 k
abbrev N_wants_in : List Str := ["things", "inside", "taken", "found", "k"]
theorem sc_wants_in : FnScope N_wants_in ["things", "inside", "taken"] (defScope s_wants_in) := ⟨rfl, rfl, rfl, by decide +kernel, rfl, by decide +kernel, by decide +kernel⟩
/-- the input of a search: as long as the things, ways that are there -/
structure OkIT (things : Things) (inside : List (Option Bool)) (taken : List (List (Option Nat))) : Prop where
  li : inside.length = things.length
  lt : taken.length = things.length
  ok : ∀ k, OkTk (things.getD k []) (taken.getD k [])
theorem getD_of {α : Type} {xs : List α} {k : Nat} {d : α} (h : k < xs.length) : xs[k]? = some (xs.getD k d) := by simp [List.getD, List.getElem?_eq_getElem h]
abbrev spWantsIn : Sp := PSp (ι := Things × List (Option Bool) × List (List (Option Nat))) (fun i => [RThings i.1, RInside i.2.1, RTaken i.2.2]) (fun i => OkIT i.1 i.2.1 i.2.2 ∧ i.1.length ≤ 1000 ∧ (wantsIn i.1 i.2.1 i.2.2).length ≤ 1000) fun i => RWay (wantsIn i.1 i.2.1 i.2.2)
theorem rob_tru {o : Option Bool} {H : Hp} {v : V} (h : ROB o H v) : TruV K v H (decide (o = some true)) := by
  obtain rfl : v = vOB o := h
  cases o with
  | none => exact (show decide ((none : Option Bool) = some true) = false by decide)
  | some b => cases b <;> exact (show decide (_ = some true) = _ by decide)
theorem ok_wants_in (T : Tx w K mg) : Cal P w K mg base 2 "wants_in" spWantsIn [] := by
  refine mk_pure T.f_wants_in T.g_wants_in sc_wants_in (fun _ _ _ _ _ _ us hl => match us, hl with | [_, _, _], _ => rfl) (fun _ => rfl) (fun cdv A outer s H vs Q E i hr hp hc q => ?_)
  obtain ⟨v0, v1, v2, rfl, h0, h1, h2⟩ := PP.three hp
  obtain ⟨things, inside, taken⟩ := i
  obtain ⟨ok, hth, hlen⟩ := hc
  dsimp only at ok hth hlen h0 h1 h2
  refine ⟨_, (pss_cons (ps_set (i := 3) sc_wants_in.nd rfl (.inl rfl) (pe_tup pa_nil))
    (pss_cons (ps_for PassesOwn.never rfl (pi_range1 rfl T.b_range (pa_cons (pe_callB (id := "len") (kx_len K) (by rfl) T.b_len (by decide +kernel) (pa_cons (pv 0) pa_nil)) pa_nil)) (pg_name (i := 4) sc_wants_in.nd rfl (.inl rfl))
      (pss_one (ps_if (kx_truth K (pe_ix (kx_ixL K) (pv 1) (pv 4) (fun _ _ => rfl)) (by intro _; rfl)) (pss_one (ps_set (i := 3) sc_wants_in.nd rfl (.inl rfl) (pe_op (kx_catA K) (pv 3) (pe_c (ok_taken_wants T) hr (by decide) rfl (pa_cons (pe_ix (kx_ixT K) (pv 0) (pv 4) (fun _ _ => rfl)) (pa_cons (pe_ix (kx_ixL K) (pv 2) (pv 4) (fun _ _ => rfl)) pa_nil)))))) pss_nil)))
    (pss_one (ps_ret (pv 3))))), ?_⟩
  refine q_set (er_tup ea_nil (by decide)) fun vf H1 e1 r1 => ?_
  refine q_for (ei_rng (ea1 (ev_lenTO (er_var (MX.mx e1 h0)))) (by omega) (by omega)) (fun i σ' Hc => Same H Hc ∧ ∃ vf v4, σ' = [some v0, some v1, some v2, some vf, v4] ∧ RWay (((List.range things.length).take i).map fun k => if inside.getD k none = some true then takenWants (things.getD k []) (taken.getD k []) else []).flatten Hc vf)
    (fun H2 e2 => ⟨e1.trans e2, vf, none, rfl, MX.mx e2 r1⟩) ?_ ?_
  · rintro i k v σ' Hc Hx N hx f ⟨s, vf, v4, rfl, rf⟩ sx r n
    have hkl : k < things.length := by have := List.mem_of_getElem? hx; simpa using this
    have hx' : (List.range things.length)[i]? = some k := by simpa using hx
    have el := flatten_at_le (f := fun k => if inside.getD k none = some true then takenWants (things.getD k []) (taken.getD k []) else []) hx'
    refine eg_name (s_when (eb_tru' (er_ixLO (er_var (MX.mx (s.trans sx) h1)) (er_var r) (by omega) (x := inside.getD k none) (by simpa using getD_of (by rw [ok.li]; exact hkl))) fun H v h => rob_tru h) (fun hb H2 e2 => ?_) fun hb H2 e2 => ?_)
    · have hi : inside.getD k none = some true := of_decide_eq_true hb
      have ef : (if inside.getD k none = some true then takenWants (things.getD k []) (taken.getD k []) else []) = takenWants (things.getD k []) (taken.getD k []) := if_pos hi
      rw [ef] at el
      have el2 : (((((List.range things.length).take i).map fun k => if inside.getD k none = some true then takenWants (things.getD k []) (taken.getD k []) else []).flatten)).length + (takenWants (things.getD k []) (taken.getD k [])).length ≤ (wantsIn things inside taken).length := el
      refine s_set (er_catTO (ys := takenWants (things.getD k []) (taken.getD k [])) (er_var (MX.mx (sx.trans e2) rf)) (er_call (things.getD k [], taken.getD k []) (ea2 (er_ixTO (er_var (MX.mx ((s.trans sx).trans e2) h0)) (er_var (MX.mx e2 r)) (by omega) (by simpa using getD_of hkl)) (er_ixLO (er_var (MX.mx ((s.trans sx).trans e2) h2)) (er_var (MX.mx e2 r)) (by omega) (by simpa using getD_of (by rw [ok.lt]; exact hkl)))) ⟨ok.ok k, by show (takenWants (things.getD k []) (taken.getD k [])).length ≤ 1000; omega⟩) (by omega)) fun vg H3 e3 r3 => ?_
      refine n _ _ (Same.fk (e2.trans e3)) ⟨((s.trans sx).trans e2).trans e3, vg, _, rfl, ?_⟩
      rw [take_map_flatten hx']
      rw [ef]
      exact r3
    · have hi : ¬ inside.getD k none = some true := of_decide_eq_false hb
      refine n _ _ (Same.fk e2) ⟨(s.trans sx).trans e2, vf, _, rfl, ?_⟩
      rw [take_map_flatten hx']
      rw [if_neg hi, List.append_nil]
      exact MX.mx (sx.trans e2) rf
  · rintro σ' Hc f ⟨s, vf, v4, rfl, rf⟩
    have el : (List.range ((things.length : Int)).toNat).length = things.length := by simp
    rw [el, List.take_of_length_le (by simp)] at rf
    exact s_ret (er_var rf) fun v H2 e2 r2 => q v H2 (s.trans e2) r2
-- slots: 0 inside, 1 taken, 2 k
abbrev N_open_row : List Str := ["inside", "taken", "k"]
theorem sc_open_row : FnScope N_open_row ["inside", "taken"] (defScope s_open_row) := ⟨rfl, rfl, rfl, by decide +kernel, rfl, by decide +kernel, by decide +kernel⟩
abbrev ROpen (o : Option (Nat × Nat)) : Pr := OptP (fun p => TupP [RNat p.1, RNat p.2]) o
abbrev spOpenRow : Sp := PSp (ι := List (Option Bool) × List (List (Option Nat))) (fun i => [RInside i.1, RTaken i.2]) (fun i => i.1.length = i.2.length ∧ i.1.length ≤ 1000) fun i => ROpen (openRow i.1 i.2)
theorem inV_none (l : List (Option Nat)) : inV .non (l.map vON) = l.contains none := by
  induction l with
  | nil => rfl
  | cons o l ih => cases o <;> simp_all [inV, eqV, vON]
theorem find_take {p : Nat → Bool} {n i : Nat} (h : ∀ k, k < i → p k = false) (hi : i < n) (hp : p i = true) : (List.range n).find? p = some i := by
  rw [List.find?_range_eq_some]
  exact ⟨hp, by simpa using hi, fun j hj => by simpa using h j hj⟩
theorem ok_open_row (T : Tx w K mg) : Cal P w K mg base 1 "open_row" spOpenRow [] := by
  refine mk_pure T.f_open_row T.g_open_row sc_open_row (fun _ _ _ _ _ _ us hl => match us, hl with | [_, _], _ => rfl) (fun _ => rfl) (fun cdv A outer s H vs Q E i hr hp hc q => ?_)
  obtain ⟨v0, v1, rfl, h0, h1⟩ := PP.two hp
  obtain ⟨inside, taken⟩ := i
  obtain ⟨hl, hlen⟩ := hc
  dsimp only at hl hlen h0 h1
  refine ⟨_, (pss_cons (ps_for PassesOwn.never rfl (pi_range1 rfl T.b_range (pa_cons (pe_callB (id := "len") (kx_len K) (by rfl) T.b_len (by decide +kernel) (pa_cons (pv 0) pa_nil)) pa_nil)) (pg_name (i := 2) sc_open_row.nd rfl (.inl rfl))
      (pss_one (ps_if (PW.pt (pw_and (kx_truth K (pe_ix (kx_ixL K) (pv 0) (pv 2) (fun _ _ => rfl)) (by intro _; rfl)) (pw_and1 (pt_cmpR (kx_in K) pe_non (pe_ix (kx_ixL K) (pv 1) (pv 2) (fun _ _ => rfl)) (by rfl))))) (pss_one (ps_ret (pe_tup (pa_cons (pv 2) (pa_cons (kx_bm K PySem.F.plainAttrs_list PySem.F.slot_list_index PySem.F.type_list_index (kx_index K) (pe_ix (kx_ixL K) (pv 1) (pv 2) (fun _ _ => rfl)) (pa_cons pe_non pa_nil)) pa_nil))))) pss_nil)))
    (pss_one (ps_ret pe_non))), ?_⟩
  refine q_for (ei_rng (ea1 (ev_lenLO (er_var h0))) (by omega) (by omega)) (fun i σ' Hc => Same H Hc ∧ (∃ v2, σ' = [some v0, some v1, v2]) ∧ ∀ k, k < i → openAt inside taken k = false)
    (fun H2 e2 => ⟨e2, ⟨_, rfl⟩, fun k hk => absurd hk (Nat.not_lt_zero k)⟩) ?_ ?_
  · rintro i k v σ' Hc Hx N hx f ⟨s, ⟨v2, rfl⟩, hno⟩ sx r n
    obtain ⟨hkl, rfl⟩ : i < inside.length ∧ k = i := by
      obtain ⟨h5, h6⟩ := List.getElem?_eq_some_iff.mp hx
      simp at h5 h6
      exact ⟨h5, h6.symm⟩
    have g1 : inside[k]? = some (inside.getD k none) := getD_of hkl
    have g2 : taken[k]? = some (taken.getD k []) := getD_of (by omega)
    refine eg_name (s_when (b := openAt inside taken k) (eb_and (eb_tru' (er_ixLO (er_var (MX.mx (s.trans sx) h0)) (er_var r) (by omega) (by simpa using g1)) fun H v h => rob_tru h) fun _ => eb_test (EvR.is (er_inL er_c (er_ixLO (R := RTk) (er_var (MX.mx (s.trans sx) h1)) (er_var r) (by omega) (by simpa using g2)) rfl (fun o => by cases o <;> rfl)) (congrArg V.bl (inV_none _)))) (fun hb H2 e2 => ?_) fun hb H2 e2 => ?_)
    · have hb' := hb
      unfold openAt at hb'
      rw [Bool.and_eq_true] at hb'
      have hmem : none ∈ taken.getD k [] := by simpa using hb'.2
      have hj : ((taken.getD k []).findIdx (· == none)) < (taken.getD k []).length := List.findIdx_lt_length_of_exists ⟨none, hmem, rfl⟩
      have ho : openRow inside taken = some (k, (taken.getD k []).findIdx (· == none)) := by
        unfold openRow
        rw [find_take hno hkl hb]
        rfl
      have hz : (taken.getD k [])[(taken.getD k []).findIdx (· == none)]? = some none := by
        rw [List.getElem?_eq_getElem hj]
        have := List.findIdx_getElem (w := hj)
        simpa using this
      refine s_ret (er_tup (ps := [RNat k, RNat ((taken.getD k []).findIdx (· == none))]) (ea2 (er_var (MX.mx e2 r)) (er_index (er_ixLO (R := RTk) (er_var (MX.mx ((s.trans sx).trans e2) h1)) (er_var (MX.mx e2 r)) (by omega) (by simpa using g2)) er_c rfl (fun o => by cases o <;> rfl) hz rfl (fun m z' hm hz' => ?_))) (by simp)) fun v H3 e3 r3 => q v H3 (((s.trans sx).trans e2).trans e3) (by dsimp only; rw [ho]; exact r3)
      have := List.not_of_lt_findIdx hm
      obtain ⟨h5, h6⟩ := List.getElem?_eq_some_iff.mp hz'
      rw [h6] at this
      cases z' with
      | none => simp at this
      | some y => rfl
    · refine n _ _ (Same.fk e2) ⟨(s.trans sx).trans e2, ⟨_, rfl⟩, fun j hj => ?_⟩
      rcases Nat.lt_succ_iff_lt_or_eq.mp hj with h | rfl
      · exact hno j h
      · exact hb
  · rintro σ' Hc f ⟨s, ⟨v2, rfl⟩, hno⟩
    have ho : openRow inside taken = none := by
      unfold openRow
      rw [Option.map_eq_none_iff, List.find?_eq_none]
      intro k hk
      have := hno k (by simpa using hk)
      rw [this]
      decide
    exact s_ret er_c fun v H2 e2 r2 => q v H2 (s.trans e2) (by dsimp only; rw [ho]; exact r2)
end
end K43
set_option Elab.async false
set_option linter.all false
set_option maxRecDepth 100000
set_option maxHeartbeats 4000000
/-! # KDC: choices, wants by a choice, small tests -/
namespace K43
open PySem PySem.Spec PyProof.Rows L2
open C8 (Cal Mak Met pe_c pe_mk pe_mt pe_mt0)
section
variable {P : Program} {w : World} {K : PySem.W.Frag} {mg : Str → Option Value} {base : Heap}
/-- choices, so far -/
def chs (sheet : Sheet) : List (List Nat) := sheet.foldl chMore [[]]
def chOne (n : Nat) (c : List Nat) : List (List Nat) := (List.range n).map fun k => c ++ [k]
theorem chMore_eq (acc : List (List Nat)) (row : Row) : chMore acc row = (acc.map (chOne row.length)).flatten := by
  unfold chMore chOne
  rw [List.flatMap_def]
theorem chs_take {sheet : Sheet} {i : Nat} {row : Row} (h : sheet[i]? = some row) : chs (sheet.take (i + 1)) = chMore (chs (sheet.take i)) row := by
  unfold chs
  rw [take_snoc h, List.foldl_append]
  rfl
theorem chs_len (sheet : Sheet) : ∀ c ∈ chs sheet, c.length = sheet.length := by
  have key : ∀ (l : Sheet) (acc : List (List Nat)) (m : Nat), (∀ c ∈ acc, c.length = m) → ∀ c ∈ l.foldl chMore acc, c.length = m + l.length := by
    intro l
    induction l with
    | nil => intro acc m h c hc; simpa using h c hc
    | cons r l ih =>
      intro acc m h c hc
      have := ih (chMore acc r) (m + 1) (fun c hc => by
        unfold chMore at hc
        simp only [List.mem_flatMap, List.mem_map] at hc
        obtain ⟨c0, h0, k, _, rfl⟩ := hc
        rw [List.length_append, h c0 h0]
        rfl) c hc
      rw [this, List.length_cons]
      omega
  intro c hc
  have := key sheet [[]] 0 (fun c hc => by simp at hc; subst hc; rfl) c hc
  omega
/-- few of them -/
structure FewCh (sheet : Sheet) : Prop where
  rows : sheet.length ≤ 1000
  wide : ∀ r ∈ sheet, r.length ≤ 1000
  few : ∀ i, (chs (sheet.take i)).length ≤ 10000
-- slots: 0 sheet, 1 found, 2 row, 3 longer, 4 choice (cell), 5 k
abbrev N_choices : List Str := ["sheet", "found", "row", "longer", "choice", "k"]
theorem sc_choices : FnScope N_choices ["sheet"] (defScope s_choices) := ⟨rfl, rfl, rfl, by decide +kernel, rfl, by decide +kernel, by decide +kernel⟩
abbrev spChoices : Sp := PSp (ι := Sheet) (fun i => [RSheet i]) (fun i => FewCh i) fun i => TupOf RChoice (chs i)
-- slots: 0 _law_sheet_here, 1 _law_found, 2 _law_row, 3 _law_more, 4 _law_some (cell), 5 _law_way_here
abbrev N__law_choices : List Str := ["_law_sheet_here", "_law_found", "_law_row", "_law_more", "_law_some", "_law_way_here"]
theorem sc__law_choices : FnScope N__law_choices ["_law_sheet_here"] (defScope s__law_choices) := ⟨rfl, rfl, rfl, by decide +kernel, rfl, by decide +kernel, by decide +kernel⟩
abbrev spLawChoices : Sp := PSp (ι := Sheet) (fun i => [RSheet i]) (fun i => FewCh i) fun i => LstOf RChoice (chs i)
theorem ok_choices (T : Tx w K mg) : Cal P w K mg base 1 "choices" spChoices [] := by
  refine mk_pure T.f_choices T.g_choices sc_choices (fun _ _ _ _ _ _ us hl => match us, hl with | [_], _ => rfl) (fun _ => rfl) (fun cdv A outer s H vs Q E i hr hp hc q => ?_)
  obtain ⟨v0, rfl, h0⟩ := PP.one hp
  have few : FewCh i := hc
  refine ⟨_, (pss_cons (ps_set (i := 1) sc_choices.nd rfl (.inl rfl) (pe_lst (pa_cons (pe_tup pa_nil) pa_nil)))
    (pss_cons (ps_for PassesOwn.never rfl (kx_pi_tup K (pv 0)) (pg_name (i := 2) sc_choices.nd rfl (.inl rfl))
      (pss_cons (ps_set (i := 3) sc_choices.nd rfl (.inl rfl) (pe_lst pa_nil))
    (pss_cons (ps_for PassesOwn.never rfl (kx_pi_list K (pv 1)) (pg_name (i := 4) sc_choices.nd rfl (.inr rfl))
      (pss_one (ps_expr (kx_bm K PySem.F.plainAttrs_list PySem.F.slot_list_extend PySem.F.type_list_extend mt_extend (pv 3) (pa_cons (pe_lc (own := [("k", 5)]) (g := gName 5) (by rfl) sc_choices.nd (pi_range1 rfl T.b_range (pa_cons (pe_callB (id := "len") (kx_len K) (by rfl) T.b_len (by decide +kernel) (pa_cons (pv 2) pa_nil)) pa_nil)) (blkOk_by (N := N_choices) (sc := defScope s_choices) (by decide +kernel)) (fun _ _ _ _ _ => (pg_name (i := 5) sc_choices.nd rfl (.inl rfl))) (fun _ _ _ _ _ => pts_nil) (fun _ _ _ _ _ => (pe_op (kx_catA K) (pv 4) (pe_tup (pa_cons (pv 5) pa_nil))))) pa_nil)))))
    (pss_one (ps_set (i := 1) sc_choices.nd rfl (.inl rfl) (pv 3))))))
    (pss_one (ps_ret (pe_callTy (T := "tuple") (kx_tuple K) (by rfl) T.b_tuple (by decide +kernel) (pa_cons (pv 1) pa_nil)))))), ?_⟩
  refine q_set (er_lst (ps := [TupP []]) (ea1 (er_tup ea_nil (by decide))) (by decide)) fun vf H1 e1 r1 => ?_
  refine q_forS (ei_tup (er_var (MX.mx e1 h0))).same (fun j σ' Hc => Same H Hc ∧ ∃ vf v2 v3 v4 v5, σ' = [some v0, some vf, v2, v3, v4, v5] ∧ LstOf RChoice (chs (i.take j)) Hc vf)
    (fun H2 e2 => ⟨e1.trans e2, vf, none, none, none, none, rfl, MX.mx e2 r1⟩) ?_ ?_
  · rintro j row v σ' Hc Hx N hx s1 ⟨s, vf, v2, v3, v4, v5, rfl, rf⟩ sx r n
    have hrow : row.length ≤ 1000 := few.wide row (List.mem_of_getElem? hx)
    refine eg_name (q_nil fun l hl => ?_)
    obtain ⟨a, vs, rfl, ha, hvs⟩ := MX.mx sx rf
    have e2 := Same.new (o := .lst []) hl
    refine q_forA (a := a) (vs := vs) (xs := chs (i.take j)) (RA := RChoice) er_v (e2 a _ ha) (MXs.mx e2 hvs) (fun m σ' Hc => Same Hx Hc ∧ ∃ acc v4 v5, σ' = [some v0, some (.ref a), some v, some (.ref l), v4, v5] ∧ Hc l = some (.lst acc) ∧ PP Hc acc ((((chs (i.take j)).take m).map (chOne row.length)).flatten.map RChoice))
      (fun H3 e3 => ⟨e2.trans e3, [], _, _, rfl, e3 l _ upd_same, True.intro⟩) (fun m σ' Hc hm ⟨s2, _⟩ => s2 a _ ha) ?_ ?_
    · rintro m c v σ' Hc N2 hc2 f2 ⟨s2, acc, v4, v5, rfl, hl2, hacc⟩ rc n2
      have hlen : (((((chs (i.take j)).take m).map (chOne row.length)).flatten)).length + (chOne row.length c).length ≤ 10000 := by
        have h1 := flatten_at_le (f := chOne row.length) hc2
        have h2 := few.few (j + 1)
        rw [chs_take hx, chMore_eq] at h2
        omega
      have hacl := hacc.length
      rw [List.length_map] at hacl
      have hcl : c.length ≤ 1000 := by
        have h1 := chs_len _ c (List.mem_of_getElem? hc2)
        have h2 := few.rows
        rw [h1, List.length_take]
        omega
      refine eg_name (s_ext (ps := (chOne row.length c).map RChoice) hl2 (er_lcM (RB := RChoice) (fun k => c ++ [k]) (ei_rng (ea1 (ev_lenTO (er_var (MX.mx s2 r)))) (by omega) (by omega)) (by simp; omega) fun k v H4 hk e4 r4 => eg_name ⟨rfl, er_catTO (ys := [k]) (er_var (MX.mx e4 rc)) (er_tup (ea1 (er_var r4)) (by simp)) (by simp; omega)⟩) (by rw [List.length_map]; omega) fun ws H3 e3 r3 => ?_)
      have fk : FK H3 (upd H3 l (.lst (acc ++ ws))) := FK.upd (e3 l _ hl2) fun z => z
      refine n2 _ _ ((Same.fk e3).trans fk) ⟨(s2.trans e3).mut hl, _, _, _, rfl, upd_same, ?_⟩
      exact pp_flat hc2 (MFs.mf ((Same.fk e3).trans fk) hacc) (MFs.mf fk r3)
    · rintro σ' Hc f2 ⟨s2, acc, v4, v5, rfl, hl2, hacc⟩
      refine s_set (er_v) fun vz H3 e3 r3 => ?_
      obtain rfl := r3
      refine n _ _ (s2.trans e3) ⟨((s.trans sx).trans s2).trans e3, _, _, _, _, _, rfl, l, acc, rfl, e3 l _ hl2, ?_⟩
      rw [List.take_length] at hacc
      rw [chs_take hx, chMore_eq]
      exact MXs.mx e3 hacc
  · rintro σ' Hc s1 ⟨s, vf, v2, v3, v4, v5, rfl, rf⟩
    rw [List.take_length] at rf
    exact s_ret (ev_tuple (er_var rf)) fun v H2 e2 r2 => q v H2 (s.trans e2) r2
theorem ok__law_choices (T : Tx w K mg) : Cal P w K mg base 1 "_law_choices" spLawChoices [] := by
  refine mk_pure T.f__law_choices T.g__law_choices sc__law_choices (fun _ _ _ _ _ _ us hl => match us, hl with | [_], _ => rfl) (fun _ => rfl) (fun cdv A outer s H vs Q E i hr hp hc q => ?_)
  obtain ⟨v0, rfl, h0⟩ := PP.one hp
  have few : FewCh i := hc
  refine ⟨_, (pss_cons (ps_set (i := 1) sc__law_choices.nd rfl (.inl rfl) (pe_lst (pa_cons (pe_tup pa_nil) pa_nil)))
    (pss_cons (ps_for PassesOwn.never rfl (kx_pi_tup K (pv 0)) (pg_name (i := 2) sc__law_choices.nd rfl (.inl rfl))
      (pss_cons (ps_set (i := 3) sc__law_choices.nd rfl (.inl rfl) (pe_lst pa_nil))
    (pss_cons (ps_for PassesOwn.never rfl (kx_pi_list K (pv 1)) (pg_name (i := 4) sc__law_choices.nd rfl (.inr rfl))
      (pss_one (ps_expr (kx_bm K PySem.F.plainAttrs_list PySem.F.slot_list_extend PySem.F.type_list_extend mt_extend (pv 3) (pa_cons (pe_lc (own := [("_law_way_here", 5)]) (g := gName 5) (by rfl) sc__law_choices.nd (pi_range1 rfl T.b_range (pa_cons (pe_callB (id := "len") (kx_len K) (by rfl) T.b_len (by decide +kernel) (pa_cons (pv 2) pa_nil)) pa_nil)) (blkOk_by (N := N__law_choices) (sc := defScope s__law_choices) (by decide +kernel)) (fun _ _ _ _ _ => (pg_name (i := 5) sc__law_choices.nd rfl (.inl rfl))) (fun _ _ _ _ _ => pts_nil) (fun _ _ _ _ _ => (pe_op (kx_catA K) (pv 4) (pe_tup (pa_cons (pv 5) pa_nil))))) pa_nil)))))
    (pss_one (ps_set (i := 1) sc__law_choices.nd rfl (.inl rfl) (pv 3))))))
    (pss_one (ps_ret (pv 1))))), ?_⟩
  refine q_set (er_lst (ps := [TupP []]) (ea1 (er_tup ea_nil (by decide))) (by decide)) fun vf H1 e1 r1 => ?_
  refine q_forS (ei_tup (er_var (MX.mx e1 h0))).same (fun j σ' Hc => Same H Hc ∧ ∃ vf v2 v3 v4 v5, σ' = [some v0, some vf, v2, v3, v4, v5] ∧ LstOf RChoice (chs (i.take j)) Hc vf)
    (fun H2 e2 => ⟨e1.trans e2, vf, none, none, none, none, rfl, MX.mx e2 r1⟩) ?_ ?_
  · rintro j row v σ' Hc Hx N hx s1 ⟨s, vf, v2, v3, v4, v5, rfl, rf⟩ sx r n
    have hrow : row.length ≤ 1000 := few.wide row (List.mem_of_getElem? hx)
    refine eg_name (q_nil fun l hl => ?_)
    obtain ⟨a, vs, rfl, ha, hvs⟩ := MX.mx sx rf
    have e2 := Same.new (o := .lst []) hl
    refine q_forA (a := a) (vs := vs) (xs := chs (i.take j)) (RA := RChoice) er_v (e2 a _ ha) (MXs.mx e2 hvs) (fun m σ' Hc => Same Hx Hc ∧ ∃ acc v4 v5, σ' = [some v0, some (.ref a), some v, some (.ref l), v4, v5] ∧ Hc l = some (.lst acc) ∧ PP Hc acc ((((chs (i.take j)).take m).map (chOne row.length)).flatten.map RChoice))
      (fun H3 e3 => ⟨e2.trans e3, [], _, _, rfl, e3 l _ upd_same, True.intro⟩) (fun m σ' Hc hm ⟨s2, _⟩ => s2 a _ ha) ?_ ?_
    · rintro m c v σ' Hc N2 hc2 f2 ⟨s2, acc, v4, v5, rfl, hl2, hacc⟩ rc n2
      have hlen : (((((chs (i.take j)).take m).map (chOne row.length)).flatten)).length + (chOne row.length c).length ≤ 10000 := by
        have h1 := flatten_at_le (f := chOne row.length) hc2
        have h2 := few.few (j + 1)
        rw [chs_take hx, chMore_eq] at h2
        omega
      have hacl := hacc.length
      rw [List.length_map] at hacl
      have hcl : c.length ≤ 1000 := by
        have h1 := chs_len _ c (List.mem_of_getElem? hc2)
        have h2 := few.rows
        rw [h1, List.length_take]
        omega
      refine eg_name (s_ext (ps := (chOne row.length c).map RChoice) hl2 (er_lcM (RB := RChoice) (fun k => c ++ [k]) (ei_rng (ea1 (ev_lenTO (er_var (MX.mx s2 r)))) (by omega) (by omega)) (by simp; omega) fun k v H4 hk e4 r4 => eg_name ⟨rfl, er_catTO (ys := [k]) (er_var (MX.mx e4 rc)) (er_tup (ea1 (er_var r4)) (by simp)) (by simp; omega)⟩) (by rw [List.length_map]; omega) fun ws H3 e3 r3 => ?_)
      have fk : FK H3 (upd H3 l (.lst (acc ++ ws))) := FK.upd (e3 l _ hl2) fun z => z
      refine n2 _ _ ((Same.fk e3).trans fk) ⟨(s2.trans e3).mut hl, _, _, _, rfl, upd_same, ?_⟩
      exact pp_flat hc2 (MFs.mf ((Same.fk e3).trans fk) hacc) (MFs.mf fk r3)
    · rintro σ' Hc f2 ⟨s2, acc, v4, v5, rfl, hl2, hacc⟩
      refine s_set (er_v) fun vz H3 e3 r3 => ?_
      obtain rfl := r3
      refine n _ _ (s2.trans e3) ⟨((s.trans sx).trans s2).trans e3, _, _, _, _, _, rfl, l, acc, rfl, e3 l _ hl2, ?_⟩
      rw [List.take_length] at hacc
      rw [chs_take hx, chMore_eq]
      exact MXs.mx e3 hacc
  · rintro σ' Hc s1 ⟨s, vf, v2, v3, v4, v5, rfl, rf⟩
    rw [List.take_length] at rf
    exact s_ret (er_var rf) fun v H2 e2 r2 => q v H2 (s.trans e2) r2
/-- a choice of a sheet: one way for each row -/
def OkCh (sheet : Sheet) (choice : List Nat) : Prop := choice.length = sheet.length ∧ ∀ p ∈ sheet.zip choice, p.2 < p.1.length
def wayAt (p : Row × Nat) : Way := p.1.getD p.2 []
-- slots: 0 _law_sheet_here, 1 _law_choice, 2 _law_found, 3 _law_row, 4 _law_way_here
abbrev N__law_wants : List Str := ["_law_sheet_here", "_law_choice", "_law_found", "_law_row", "_law_way_here"]
theorem sc__law_wants : FnScope N__law_wants ["_law_sheet_here", "_law_choice"] (defScope s__law_wants) := ⟨rfl, rfl, rfl, by decide +kernel, rfl, by decide +kernel, by decide +kernel⟩
abbrev spLawWants : Sp := PSp (ι := Sheet × List Nat) (fun i => [RSheet i.1, RChoice i.2]) (fun i => OkCh i.1 i.2 ∧ (wantsOf i.1 i.2).length ≤ 1000) fun i => RWay (wantsOf i.1 i.2)
theorem ok__law_wants (T : Tx w K mg) : Cal P w K mg base 1 "_law_wants" spLawWants [] := by
  refine mk_pure T.f__law_wants T.g__law_wants sc__law_wants (fun _ _ _ _ _ _ us hl => match us, hl with | [_, _], _ => rfl) (fun _ => rfl) (fun cdv A outer s H vs Q E i hr hp hc q => ?_)
  obtain ⟨v0, v1, rfl, h0, h1⟩ := PP.two hp
  obtain ⟨sheet, choice⟩ := i
  obtain ⟨hok, hlen⟩ := hc
  dsimp only at hok hlen h0 h1
  refine ⟨_, (pss_cons (ps_set (i := 2) sc__law_wants.nd rfl (.inl rfl) (pe_tup pa_nil))
    (pss_cons (ps_for PassesOwn.never rfl (kx_pi_zip K rfl T.b_zip (pa_cons (pv 0) (pa_cons (pv 1) pa_nil))) (kx_tup K (by rfl) (pgs_cons (pg_name (i := 3) sc__law_wants.nd rfl (.inl rfl)) (pgs_cons (pg_name (i := 4) sc__law_wants.nd rfl (.inl rfl)) pgs_nil)))
      (pss_one (ps_set (i := 2) sc__law_wants.nd rfl (.inl rfl) (pe_op (kx_catA K) (pv 2) (pe_ix (kx_ixT K) (pv 3) (pv 4) (fun _ _ => rfl))))))
    (pss_one (ps_ret (pv 2))))), ?_⟩
  refine q_set (er_tup ea_nil (by decide)) fun vf H1 e1 r1 => ?_
  refine q_forS (ei_zipT (ea2 (er_var (MX.mx e1 h0)) (er_var (MX.mx e1 h1)))).same (fun i σ' Hc => ∃ vf v3 v4, σ' = [some v0, some v1, some vf, v3, v4] ∧ RWay (((sheet.zip choice).take i).map wayAt).flatten Hc vf)
    (fun H2 e2 => ⟨vf, none, none, rfl, MX.mx e2 r1⟩) ?_ ?_
  · rintro i ⟨row, way⟩ v σ' Hc Hx N hx s ⟨vf, v3, v4, rfl, rf⟩ sx r n
    have hm := List.mem_of_getElem? hx
    have hk : way < row.length := hok.2 _ hm
    have el : (((sheet.zip choice).take i).map wayAt).flatten.length + (wayAt (row, way)).length ≤ (wantsOf sheet choice).length := flatten_at_le (f := wayAt) hx
    refine eg_tup2 r fun vr vw hr hw => s_set (er_catTO (ys := wayAt (row, way)) (er_var (MX.mx sx rf)) (er_ixTO (er_var hr) (er_var hw) (by omega) (by simpa [wayAt] using getD_of hk)) (by omega)) fun vg H3 e3 r3 => ?_
    refine n _ _ e3 ⟨vg, _, _, rfl, ?_⟩
    rw [take_map_flatten hx]
    exact r3
  · rintro σ' Hc s ⟨vf, v3, v4, rfl, rf⟩
    rw [List.take_length] at rf
    exact s_ret (er_var rf) fun v H2 e2 r2 => q v H2 (e1.trans (s.trans e2)) r2
-- slots: 0 _law_things_here, 1 _law_places, 2 _law_found, 3 _law_place
abbrev N__law_sheet_of : List Str := ["_law_things_here", "_law_places", "_law_found", "_law_place"]
theorem sc__law_sheet_of : FnScope N__law_sheet_of ["_law_things_here", "_law_places"] (defScope s__law_sheet_of) := ⟨rfl, rfl, rfl, by decide +kernel, rfl, by decide +kernel, by decide +kernel⟩
abbrev spLawSheetOf : Sp := PSp (ι := Things × List Nat) (fun i => [RThings i.1, TupOf RNat i.2]) (fun i => (∀ p ∈ i.2, p < i.1.length) ∧ (sheetOf i.1 i.2).length ≤ 1000) fun i => RSheet (sheetOf i.1 i.2)
theorem ok__law_sheet_of (T : Tx w K mg) : Cal P w K mg base 1 "_law_sheet_of" spLawSheetOf [] := by
  refine mk_pure T.f__law_sheet_of T.g__law_sheet_of sc__law_sheet_of (fun _ _ _ _ _ _ us hl => match us, hl with | [_, _], _ => rfl) (fun _ => rfl) (fun cdv A outer s H vs Q E i hr hp hc q => ?_)
  obtain ⟨v0, v1, rfl, h0, h1⟩ := PP.two hp
  obtain ⟨things, places⟩ := i
  obtain ⟨hpl, hlen⟩ := hc
  dsimp only at hpl hlen
  refine ⟨_, (pss_cons (ps_set (i := 2) sc__law_sheet_of.nd rfl (.inl rfl) (pe_tup pa_nil))
    (pss_cons (ps_for PassesOwn.never rfl (kx_pi_tup K (pv 1)) (pg_name (i := 3) sc__law_sheet_of.nd rfl (.inl rfl))
      (pss_one (ps_set (i := 2) sc__law_sheet_of.nd rfl (.inl rfl) (pe_op (kx_catA K) (pv 2) (pe_ix (kx_ixT K) (pv 0) (pv 3) (fun _ _ => rfl))))))
    (pss_one (ps_ret (pv 2))))), ?_⟩
  refine q_set (er_tup ea_nil (by decide)) fun vf H1 e1 r1 => ?_
  refine q_for (ei_tup (er_var (MX.mx e1 h1))) (fun i σ' Hc => Same H Hc ∧ ∃ vf vp, σ' = [some v0, some v1, some vf, vp] ∧ RSheet (sheetOf things (places.take i)) Hc vf)
    (fun H2 e2 => ⟨e1.trans e2, vf, none, rfl, MX.mx e2 r1⟩) ?_ ?_
  · rintro i x v σ' Hc Hx N hx f ⟨s, vf, vp, rfl, rf⟩ sx r n
    have hx2 : x < things.length := hpl x (List.mem_of_getElem? hx)
    have el : (sheetOf things (places.take i)).length + (things.getD x []).length ≤ (sheetOf things places).length := flatten_at_le (f := fun p => things.getD p []) hx
    refine eg_name (s_set (er_catTO (er_var (MX.mx sx rf)) (er_ixTO (er_var (MX.mx (s.trans sx) h0)) (er_var r) (by omega) (x := things.getD x []) (by simpa using getD_of hx2)) (by omega)) fun vg H2 e2 r2 => ?_)
    refine n _ _ (Same.fk e2) ⟨(s.trans sx).trans e2, vg, _, rfl, ?_⟩
    have e : sheetOf things (places.take (i + 1)) = sheetOf things (places.take i) ++ things.getD x [] := take_map_flatten hx
    rw [e]
    exact r2
  · rintro σ' Hc f ⟨s, vf, vp, rfl, rf⟩
    rw [List.take_length] at rf
    exact s_ret (er_var rf) fun v H2 e2 r2 => q v H2 (s.trans e2) r2
/-! small tests -/
def AnyP : Pr := fun _ _ => True
instance : MF AnyP := ⟨fun _ _ => True.intro⟩
theorem er_any {σ : L2.St} {H : Hp} {te : TE} {R : Pr} (h : EvR te σ H R) : EvR te σ H AnyP := h.to fun _ _ _ => True.intro
theorem er_isi {σ : L2.St} {H : Hp} {ta tb : TE} {R : Pr} {c : V} {t u : Value} {b : Bool} [MX R] (ha : EvR ta σ H R) (hb : EvR tb σ H (IsV c)) (hc : ClsV c u) (ht : ∀ H v, R H v → TyX K H v t) (hk : PySem.W.kitOne K t u = some b) : EvR (tCB (rIsi K) (tCons ta (tCons tb tNil))) σ H (IsB b) := fun H1 e Q q =>
  (ea2 ha hb) H1 e _ fun vs H2 e2 r => by
    obtain ⟨v, w, rfl, r1, r2⟩ := r.two
    obtain rfl : w = c := r2
    exact ⟨v, w, t, u, b, rfl, hc, ht _ _ r1, hk, q _ _ e2 rfl⟩
-- slots: 0 thing
abbrev N_is_number : List Str := ["thing"]
theorem sc_is_number : FnScope N_is_number ["thing"] (defScope s_is_number) := ⟨rfl, rfl, rfl, by decide +kernel, rfl, by decide +kernel, by decide +kernel⟩
abbrev spIsNumber : Sp := PSp (ι := Int) (fun i => [IsI i]) (fun _ => True) fun _ => IsB true
theorem ok_is_number (T : Tx w K mg) : Cal P w K mg base 1 "is_number" spIsNumber [] := by
  refine mk_pure T.f_is_number T.g_is_number sc_is_number (fun _ _ _ _ _ _ us hl => match us, hl with | [_], _ => rfl) (fun _ => rfl) (fun cdv A outer s H vs Q E i hr hp hc q => ?_)
  obtain ⟨v0, rfl, h0⟩ := PP.one hp
  refine ⟨_, (pss_one (ps_ret (pe_and (pe_callB (id := "isinstance") (kx_isi K) (by rfl) T.b_isinstance (by decide +kernel) (pa_cons (pv 0) (pa_cons (pe_bltn (v := .ty "int") rfl T.b_int (by decide +kernel) rfl) pa_nil))) (pe_one (pe_not (pe_callB (id := "isinstance") (kx_isi K) (by rfl) T.b_isinstance (by decide +kernel) (pa_cons (pv 0) (pa_cons (pe_bltn (v := .ty "bool") rfl T.b_bool (by decide +kernel) rfl) pa_nil)))))))), ?_⟩
  exact s_ret (EvR.is (er_and (a := true) (b := true) (er_isi (er_var h0) er_c (.ty "int") (fun H v h => by cases h; exact .base (.int _)) (by rfl)) fun _ => er_not (a := false) (er_isi (er_var h0) er_c (.ty "bool") (fun H v h => by cases h; exact .base (.int _)) (by rfl))) rfl) q
-- slots: 0 truth, 1 word, 2 at
abbrev N_need : List Str := ["truth", "word", "at"]
theorem sc_need : FnScope N_need ["truth", "word", "at"] (defScope s_need) := ⟨rfl, rfl, rfl, by decide +kernel, rfl, by decide +kernel, by decide +kernel⟩
abbrev spNeed : Sp := PSp (ι := Unit) (fun _ => [IsB true, AnyP, AnyP]) (fun _ => True) fun _ => IsN
theorem ok_need (T : Tx w K mg) : Cal P w K mg base 1 "need" spNeed [] := by
  refine mk_pure T.f_need T.g_need sc_need (fun _ _ _ _ _ _ us hl => match us, hl with | [_, _, _], _ => rfl) (fun _ => rfl) (fun cdv A outer s H vs Q E i hr hp hc q => ?_)
  obtain ⟨v0, v1, v2, rfl, h0, h1, h2⟩ := PP.three hp
  refine ⟨_, (pss_one (ps_if (pt_not (pt_val (pv 0))) (pss_one ps_never) pss_nil)), ?_⟩
  exact s_when (eb_not (eb_B (er_var h0))) (fun hb => absurd hb (by decide)) fun _ H1 e => q _ H1 e rfl
-- slots: 0 truth, 1 word, 2 number
abbrev N_need_node : List Str := ["truth", "word", "number"]
theorem sc_need_node : FnScope N_need_node ["truth", "word", "number"] (defScope s_need_node) := ⟨rfl, rfl, rfl, by decide +kernel, rfl, by decide +kernel, by decide +kernel⟩
theorem ok_need_node (T : Tx w K mg) : Cal P w K mg base 1 "need_node" spNeed [] := by
  refine mk_pure T.f_need_node T.g_need_node sc_need_node (fun _ _ _ _ _ _ us hl => match us, hl with | [_, _, _], _ => rfl) (fun _ => rfl) (fun cdv A outer s H vs Q E i hr hp hc q => ?_)
  obtain ⟨v0, v1, v2, rfl, h0, h1, h2⟩ := PP.three hp
  refine ⟨_, (pss_one (ps_if (pt_not (pt_val (pv 0))) (pss_one ps_never) pss_nil)), ?_⟩
  exact s_when (eb_not (eb_B (er_var h0))) (fun hb => absurd hb (by decide)) fun _ H1 e => q _ H1 e rfl
-- slots: 0 taken, 1 k
abbrev N_is_free : List Str := ["taken", "k"]
theorem sc_is_free : FnScope N_is_free ["taken", "k"] (defScope s_is_free) := ⟨rfl, rfl, rfl, by decide +kernel, rfl, by decide +kernel, by decide +kernel⟩
/-- a list, at k the thing is None -/
abbrev spIsFree : Sp := PSp (ι := List V × Nat) (fun i => [LstP (i.1.map IsV), RNat i.2]) (fun i => i.1[i.2]? = some .non) fun _ => IsB true
theorem ok_is_free (T : Tx w K mg) : Cal P w K mg base 2 "is_free" spIsFree [] := by
  refine mk_pure T.f_is_free T.g_is_free sc_is_free (fun _ _ _ _ _ _ us hl => match us, hl with | [_, _], _ => rfl) (fun _ => rfl) (fun cdv A outer s H vs Q E i hr hp hc q => ?_)
  obtain ⟨v0, v1, rfl, h0, h1⟩ := PP.two hp
  obtain ⟨l, k⟩ := i
  dsimp only at hc h0 h1
  have hk : k < l.length := (List.getElem?_eq_some_iff.mp hc).1
  haveI : MXs (l.map IsV) := inferInstance
  refine ⟨_, (pss_one (ps_ret (pe_and (pe_c (ok_is_number T) hr (by decide) rfl (pa_cons (pv 1) pa_nil)) (pe_and (pe_chain op_le op_lt pe_int (pv 1) (pe_callB (id := "len") (kx_len K) (by rfl) T.b_len (by decide +kernel) (pa_cons (pv 0) pa_nil))) (pe_one (pe_cmp (pc_isN (pe_ix (kx_ixL K) (pv 0) (pv 1) (fun _ _ => rfl))))))))), ?_⟩
  refine s_ret (EvR.is (er_and (a := true) (er_call (k : Int) (ea1 (er_var h1)) True.intro) fun _ => er_and (er_chain (a := true) (b := true) (er_c) (er_var h1) (fun v w H1 _ g1 g2 Q q => r_I0 (by simp) g1 g2 q) (fun _ => ev_lenLO (R := IsV) (er_var h0)) (fun _ v w H1 _ g1 g2 Q q => r_I0 (by simp; omega) g1 g2 q)) fun _ => er_isN (er_ixLO (R := IsV) (x := .non) (er_var h0) (er_var h1) (by omega) (by simpa using hc))) (by rfl)) q
end
end K43
set_option Elab.async false
set_option linter.all false
/-! # KM1: lists of pairs as tables, in plain Lean -/
namespace K43
open PySem
section
variable {κ β : Type} [DecidableEq κ]
def ag (g : List (κ × β)) (k : κ) : Option β := (g.find? fun kv => decide (kv.1 = k)).map (·.2)
def ap (g : List (κ × β)) (k : κ) (v : β) : List (κ × β) := if (g.any fun kv => decide (kv.1 = k)) = true then g.map (fun kv => if kv.1 = k then (kv.1, v) else kv) else g ++ [(k, v)]
theorem ag_nil {k : κ} : ag ([] : List (κ × β)) k = none := rfl
theorem ag_pos {p : κ × β} {r : List (κ × β)} {k : κ} (e : p.1 = k) : ag (p :: r) k = some p.2 := by simp [ag, List.find?_cons, e]
theorem ag_neg {p : κ × β} {r : List (κ × β)} {k : κ} (e : ¬ p.1 = k) : ag (p :: r) k = ag r k := by simp [ag, List.find?_cons, e]
theorem ag_some {g : List (κ × β)} {k : κ} {v : β} (h : ag g k = some v) : (k, v) ∈ g := by
  induction g with
  | nil => cases h
  | cons p r ih =>
    by_cases e : p.1 = k
    · rw [ag_pos e] at h
      cases h
      subst e
      exact List.mem_cons_self
    · rw [ag_neg e] at h
      exact List.mem_cons_of_mem _ (ih h)
theorem ag_none {g : List (κ × β)} {k : κ} : ag g k = none ↔ k ∉ g.map (·.1) := by
  induction g with
  | nil => simp [ag_nil]
  | cons p r ih =>
    by_cases e : p.1 = k
    · rw [ag_pos e]
      simp [e]
    · rw [ag_neg e, ih, List.map_cons, List.mem_cons, not_or]
      exact ⟨fun h => ⟨fun z => e z.symm, h⟩, fun h => h.2⟩
theorem ag_isSome {g : List (κ × β)} {k : κ} : (ag g k).isSome = true ↔ k ∈ g.map (·.1) := by
  have := ag_none (g := g) (k := k)
  cases h : ag g k with
  | none => simp [this.mp h]
  | some v => simp only [Option.isSome_some, true_iff]; exact Decidable.byContradiction fun z => by rw [this.mpr z] at h; cases h
theorem ag_mem {g : List (κ × β)} (nd : (g.map (·.1)).Nodup) {k : κ} {v : β} (h : (k, v) ∈ g) : ag g k = some v := by
  induction g with
  | nil => cases h
  | cons p r ih =>
    rw [List.map_cons, List.nodup_cons] at nd
    rcases List.mem_cons.mp h with rfl | h
    · exact ag_pos rfl
    · rw [ag_neg (fun e => nd.1 (by rw [e]; exact List.mem_map.mpr ⟨_, h, rfl⟩))]
      exact ih nd.2 h
theorem any_iff {g : List (κ × β)} {k : κ} : (g.any fun kv => decide (kv.1 = k)) = true ↔ k ∈ g.map (·.1) := by
  rw [List.any_eq_true, List.mem_map]
  constructor
  · rintro ⟨x, h, e⟩
    exact ⟨x, h, of_decide_eq_true e⟩
  · rintro ⟨x, h, e⟩
    exact ⟨x, h, decide_eq_true e⟩
theorem ap_keys (g : List (κ × β)) (k : κ) (v : β) : (ap g k v).map (·.1) = if k ∈ g.map (·.1) then g.map (·.1) else g.map (·.1) ++ [k] := by
  unfold ap
  by_cases h : k ∈ g.map (·.1)
  · rw [if_pos (any_iff.mpr h), if_pos h, List.map_map]
    refine List.map_congr_left fun x _ => ?_
    simp only [Function.comp]
    split <;> rfl
  · rw [if_neg (fun z => h (any_iff.mp z)), if_neg h, List.map_append]
    rfl
theorem ap_mem_keys {g : List (κ × β)} {k j : κ} {v : β} : j ∈ (ap g k v).map (·.1) ↔ j = k ∨ j ∈ g.map (·.1) := by
  rw [ap_keys]
  by_cases h : k ∈ g.map (·.1)
  · rw [if_pos h]
    constructor
    · exact .inr
    · rintro (rfl | h')
      · exact h
      · exact h'
  · rw [if_neg h, List.mem_append, List.mem_singleton]
    exact Or.comm
theorem ap_nodup {g : List (κ × β)} {k : κ} {v : β} (nd : (g.map (·.1)).Nodup) : ((ap g k v).map (·.1)).Nodup := by
  rw [ap_keys]
  by_cases h : k ∈ g.map (·.1)
  · rw [if_pos h]; exact nd
  · rw [if_neg h, List.nodup_append]
    refine ⟨nd, by simp, fun a ha b hb e => ?_⟩
    rw [List.mem_singleton.mp hb] at e
    exact h (e ▸ ha)
theorem ag_map (g : List (κ × β)) (k j : κ) (v : β) : ag (g.map fun kv => if kv.1 = k then (kv.1, v) else kv) j = if j = k then (if k ∈ g.map (·.1) then some v else none) else ag g j := by
  induction g with
  | nil => by_cases e : j = k <;> simp [ag_nil, e]
  | cons p r ih =>
    rw [List.map_cons]
    by_cases e1 : p.1 = k
    · rw [if_pos e1]
      by_cases e2 : p.1 = j
      · rw [ag_pos (p := (p.1, v)) e2, if_pos (e2.symm.trans e1), if_pos (by simp [e1])]
      · rw [ag_neg (p := (p.1, v)) e2, ag_neg e2, ih, if_neg (fun z => e2 (e1.trans z.symm)), if_neg (fun z => e2 (e1.trans z.symm))]
    · rw [if_neg e1]
      by_cases e2 : p.1 = j
      · rw [ag_pos (p := p) e2, ag_pos e2, if_neg (fun z => e1 (e2.trans z))]
      · have hm : (k ∈ (p :: r).map (·.1)) = (k ∈ r.map (·.1)) := by
          rw [List.map_cons, List.mem_cons]
          exact propext ⟨fun h => h.resolve_left fun z => e1 z.symm, .inr⟩
        rw [ag_neg (p := p) e2, ag_neg e2, ih]
        simp only [hm]
theorem ag_snoc (g : List (κ × β)) (k j : κ) (v : β) (h : k ∉ g.map (·.1)) : ag (g ++ [(k, v)]) j = if j = k then some v else ag g j := by
  induction g with
  | nil =>
    by_cases e : j = k
    · rw [if_pos e]; exact ag_pos (p := (k, v)) e.symm
    · rw [if_neg e]; exact ag_neg (p := (k, v)) (fun z => e z.symm)
  | cons p r ih =>
    rw [List.map_cons, List.mem_cons, not_or] at h
    rw [List.cons_append]
    by_cases e2 : p.1 = j
    · rw [ag_pos e2, ag_pos e2, if_neg (fun z => h.1 (z.symm.trans e2.symm))]
    · rw [ag_neg e2, ag_neg e2, ih h.2]
theorem ag_ap (g : List (κ × β)) (k j : κ) (v : β) : ag (ap g k v) j = if j = k then some v else ag g j := by
  unfold ap
  by_cases h : k ∈ g.map (·.1)
  · rw [if_pos (any_iff.mpr h), ag_map]
    by_cases e : j = k
    · rw [if_pos e, if_pos e, if_pos h]
    · rw [if_neg e, if_neg e]
  · rw [if_neg (fun z => h (any_iff.mp z)), ag_snoc g k j v h]
theorem ap_ap (g : List (κ × β)) (k : κ) (u v : β) : ap (ap g k u) k v = ap g k v := by
  have h1 : k ∈ (ap g k u).map (·.1) := ap_mem_keys.mpr (.inl rfl)
  by_cases h : k ∈ g.map (·.1)
  · unfold ap at *
    rw [if_pos (any_iff.mpr h)] at h1 ⊢
    rw [if_pos (any_iff.mpr h1), if_pos (any_iff.mpr h), List.map_map]
    refine List.map_congr_left fun x _ => ?_
    simp only [Function.comp]
    by_cases e : x.1 = k
    · rw [if_pos e, if_pos e, if_pos e]
    · rw [if_neg e, if_neg e]
  · have e0 : ap g k u = g ++ [(k, u)] := by unfold ap; rw [if_neg (fun z => h (any_iff.mp z))]
    have e1 : ap g k v = g ++ [(k, v)] := by unfold ap; rw [if_neg (fun z => h (any_iff.mp z))]
    rw [e1, e0]
    unfold ap
    rw [if_pos (any_iff.mpr (by rw [e0] at h1; exact h1)), List.map_append]
    congr 1
    · refine (List.map_congr_left fun x hx => ?_).trans (List.map_id _)
      rw [if_neg (fun z => h (List.mem_map.mpr ⟨x, hx, z⟩))]
      rfl
    · simp
theorem ap_len (g : List (κ × β)) (k : κ) (v : β) : (ap g k v).length ≤ g.length + 1 := by
  unfold ap
  split
  · rw [List.length_map]; omega
  · rw [List.length_append]; exact Nat.le_refl _
end
/-! whole numbers in a table -/
section
variable {κ : Type} [DecidableEq κ]
def gv (g : List (κ × Int)) (k : κ) : Int := (ag g k).getD 0
def vsum (g : List (κ × Int)) : Int := (g.map (·.2)).sum
theorem gv_ap (g : List (κ × Int)) (k j : κ) (v : Int) : gv (ap g k v) j = if j = k then v else gv g j := by
  unfold gv
  rw [ag_ap]
  by_cases e : j = k
  · rw [if_pos e, if_pos e]; rfl
  · rw [if_neg e, if_neg e]
theorem vsum_cons (p : κ × Int) (g : List (κ × Int)) : vsum (p :: g) = p.2 + vsum g := by simp [vsum]
theorem vsum_map {g : List (κ × Int)} (nd : (g.map (·.1)).Nodup) {k : κ} (v : Int) (h : k ∈ g.map (·.1)) : vsum (g.map fun kv => if kv.1 = k then (kv.1, v) else kv) = vsum g - gv g k + v := by
  induction g with
  | nil => cases h
  | cons p r ih =>
    rw [List.map_cons, List.nodup_cons] at nd
    rw [List.map_cons, vsum_cons, vsum_cons]
    by_cases e : p.1 = k
    · have hn : k ∉ r.map (·.1) := by rw [← e]; exact nd.1
      have er : (r.map fun kv => if kv.1 = k then (kv.1, v) else kv) = r := (List.map_congr_left fun x hx => by rw [if_neg (fun z => hn (List.mem_map.mpr ⟨x, hx, z⟩))]; rfl).trans (List.map_id _)
      have eg : gv (p :: r) k = p.2 := by unfold gv; rw [ag_pos e]; rfl
      rw [er, if_pos e, eg]
      show v + _ = _
      omega
    · have h' : k ∈ r.map (·.1) := by
        rw [List.map_cons, List.mem_cons] at h
        exact h.resolve_left fun z => e z.symm
      have eg : gv (p :: r) k = gv r k := by unfold gv; rw [ag_neg e]
      rw [if_neg e, ih nd.2 h', eg]
      omega
theorem vsum_ap {g : List (κ × Int)} (nd : (g.map (·.1)).Nodup) (k : κ) (v : Int) : vsum (ap g k v) = vsum g - gv g k + v := by
  unfold ap
  by_cases h : k ∈ g.map (·.1)
  · rw [if_pos (any_iff.mpr h)]
    exact vsum_map nd v h
  · rw [if_neg (fun z => h (any_iff.mp z))]
    have eg : gv g k = 0 := by unfold gv; rw [ag_none.mpr h]; rfl
    rw [eg]
    unfold vsum
    rw [List.map_append, List.sum_append]
    simp
/-- the sum over places that hold all that is not nothing -/
theorem vsum_over {g : List (κ × Int)} (nd : (g.map (·.1)).Nodup) {ps : List κ} (np : ps.Nodup) (h : ∀ k, gv g k ≠ 0 → k ∈ ps) : (ps.map (gv g)).sum = vsum g := by
  induction g generalizing ps with
  | nil =>
    have e : ps.map (gv ([] : List (κ × Int))) = ps.map fun _ => 0 := List.map_congr_left fun _ _ => rfl
    rw [e]
    clear np h e
    induction ps with
    | nil => rfl
    | cons a l ih => rw [List.map_cons, List.sum_cons, ih]; rfl
  | cons p r ih =>
    rw [List.map_cons, List.nodup_cons] at nd
    rw [vsum_cons]
    have hn : ag r p.1 = none := ag_none.mpr nd.1
    have hr : gv r p.1 = 0 := by unfold gv; rw [hn]; rfl
    have e1 : ∀ k, k ≠ p.1 → gv (p :: r) k = gv r k := fun k hk => by unfold gv; rw [ag_neg (fun z => hk z.symm)]
    have e2 : gv (p :: r) p.1 = p.2 := by unfold gv; rw [ag_pos rfl]; rfl
    have ihr := ih nd.2 np (fun k hk => h k (by
      by_cases e : k = p.1
      · rw [e, hr] at hk; exact absurd rfl hk
      · rw [e1 k e]; exact hk))
    by_cases hp : p.1 ∈ ps
    · have key : ∀ l : List κ, l.Nodup → p.1 ∈ l → (l.map (gv (p :: r))).sum = p.2 + (l.map (gv r)).sum := by
        intro l
        induction l with
        | nil => intro _ z; cases z
        | cons a l ih2 =>
          intro nl hl
          rw [List.nodup_cons] at nl
          rw [List.map_cons, List.sum_cons, List.map_cons, List.sum_cons]
          by_cases ea : a = p.1
          · subst ea
            have : l.map (gv (p :: r)) = l.map (gv r) := List.map_congr_left fun x hx => e1 x (fun z => nl.1 (z ▸ hx))
            rw [this, e2, hr]
            omega
          · have hl' : p.1 ∈ l := by
              rcases List.mem_cons.mp hl with z | z
              · exact absurd z.symm ea
              · exact z
            rw [ih2 nl.2 hl', e1 a ea]
            omega
      rw [key ps np hp, ihr]
    · have hz : p.2 = 0 := Decidable.byContradiction fun z => hp (h p.1 (by rw [e2]; exact z))
      have : ps.map (gv (p :: r)) = ps.map (gv r) := List.map_congr_left fun x hx => e1 x (fun z => hp (z ▸ hx))
      rw [this, ihr, hz]
      omega
end
end K43
set_option Elab.async false
set_option linter.all false
set_option maxRecDepth 100000
set_option maxHeartbeats 4000000
/-! # KD1: dicts: parts to whole numbers, numbers to parts -/
namespace K43
open PySem PySem.Spec PyProof.Rows L2
def encP (p : Part) : List Key := [.inr p.1, .inr p.2]
def encT (g : List (Part × Int)) : List (List Key × V) := g.map fun e => (encP e.1, .int e.2)
theorem encP_inj {p q : Part} (h : encP p = encP q) : p = q := by
  obtain ⟨a, b⟩ := p
  obtain ⟨c, d⟩ := q
  simp [encP] at h
  rw [h.1, h.2]
theorem encT_any (g : List (Part × Int)) (p : Part) : ((encT g).any fun kv => decide (kv.1 = encP p)) = g.any fun kv => decide (kv.1 = p) := by
  unfold encT
  rw [List.any_map]
  refine congrFun (congrArg List.any rfl) _ |>.trans (congrArg (fun f => g.any f) (funext fun e => ?_))
  show decide (encP e.1 = encP p) = decide (e.1 = p)
  exact decide_eq_decide.mpr ⟨encP_inj, fun h => by rw [h]⟩
theorem valV_encT (g : List (Part × Int)) (p : Part) : valV (encT g) (encP p) = (ag g p).map V.int := by
  induction g with
  | nil => rfl
  | cons e r ih =>
    by_cases h : e.1 = p
    · rw [ag_pos h]
      exact valV_pos (p := (encP e.1, V.int e.2)) (by rw [h])
    · rw [ag_neg h, ← ih]
      exact valV_neg (p := (encP e.1, V.int e.2)) fun z => h (encP_inj z)
theorem putK_encT (g : List (Part × Int)) (p : Part) (n : Int) : putK (encT g) (encP p) (.int n) = encT (ap g p n) := by
  unfold putK ap
  rw [encT_any]
  split
  · unfold encT
    rw [List.map_map, List.map_map]
    refine List.map_congr_left fun e _ => ?_
    simp only [Function.comp]
    by_cases h : e.1 = p
    · rw [if_pos h, if_pos (by rw [h])]
    · rw [if_neg h, if_neg (fun z => h (encP_inj z))]
  · unfold encT
    rw [List.map_append]
    rfl
theorem rpart_key {p : Part} {H : Hp} {v : V} (h : RPart p H v) : ∃ b, v = .ref b ∧ H b = some (.tup ((encP p).map kV)) := by
  obtain ⟨b, vs, rfl, h1, h2⟩ := h
  obtain ⟨v1, v2, rfl, r1, r2⟩ := h2.two
  obtain rfl : v1 = V.str p.1 := r1
  obtain rfl : v2 = V.str p.2 := r2
  exact ⟨b, rfl, h1⟩
theorem key_rpart {p : Part} {H : Hp} {b : Addr} (h : H b = some (.tup ((encP p).map kV))) : RPart p H (.ref b) := ⟨b, _, rfl, h, rfl, rfl, True.intro⟩
/-- a dict of parts to whole numbers -/
abbrev DcT (g : List (Part × Int)) : Pr := At (.dT (encT g))
/-- numbers to parts or None -/
def HK (H : Hp) : List (Key × V) → List (Nat × Option Part) → Prop
  | [], [] => True
  | (k, v) :: r, (i, o) :: t => k = .inl (i : Int) ∧ OptP RPart o H v ∧ HK H r t
  | _, _ => False
theorem HK.fk {H H' : Hp} (f : FK H H') : ∀ {kvs : List (Key × V)} {hs : List (Nat × Option Part)}, HK H kvs hs → HK H' kvs hs
  | [], [], h => h
  | (_, _) :: _, (_, _) :: _, ⟨h1, h2, h3⟩ => ⟨h1, MF.mf f h2, HK.fk f h3⟩
theorem HK.len {H : Hp} : ∀ {kvs : List (Key × V)} {hs : List (Nat × Option Part)}, HK H kvs hs → kvs.length = hs.length
  | [], [], _ => rfl
  | (_, _) :: _, (_, _) :: _, ⟨_, _, h⟩ => congrArg Nat.succ (HK.len h)
theorem HK.keys {H : Hp} : ∀ {kvs : List (Key × V)} {hs : List (Nat × Option Part)}, HK H kvs hs → kvs.map (·.1) = hs.map fun e => Sum.inl (e.1 : Int)
  | [], [], _ => rfl
  | (_, _) :: _, (_, _) :: _, ⟨h1, _, h⟩ => by rw [List.map_cons, List.map_cons, HK.keys h, h1]
theorem HK.val {H : Hp} : ∀ {kvs : List (Key × V)} {hs : List (Nat × Option Part)} {i : Nat}, HK H kvs hs → match ag hs i with
    | none => valV kvs (.inl (i : Int)) = none
    | some o => ∃ v, valV kvs (.inl (i : Int)) = some v ∧ OptP RPart o H v
  | [], [], i, _ => rfl
  | (k, v) :: r, (j, o) :: t, i, ⟨h1, h2, h3⟩ => by
    by_cases e : j = i
    · rw [ag_pos (p := (j, o)) e]
      exact ⟨v, valV_pos (p := (k, v)) (by rw [h1, e]), h2⟩
    · have ih := HK.val (i := i) h3
      have ev : valV ((k, v) :: r) (.inl (i : Int)) = valV r (.inl (i : Int)) := valV_neg (p := (k, v)) (fun z => e (by rw [h1] at z; have := Sum.inl.inj z; omega))
      rw [ag_neg (p := (j, o)) e, ev]
      exact ih
theorem HK.map {H : Hp} {i : Nat} {o : Option Part} {v : V} (hv : OptP RPart o H v) : ∀ {kvs : List (Key × V)} {hs : List (Nat × Option Part)}, HK H kvs hs → HK H (kvs.map fun kv => if kv.1 = .inl (i : Int) then (kv.1, v) else kv) (hs.map fun e => if e.1 = i then (e.1, o) else e)
  | [], [], h => h
  | (k, w) :: r, (j, o') :: t, ⟨h1, h2, h3⟩ => by
    rw [List.map_cons, List.map_cons]
    by_cases e : j = i
    · rw [if_pos (show (j, o').1 = i from e), if_pos (show (k, w).1 = Sum.inl (i : Int) by show k = _; rw [h1, e])]
      exact ⟨h1, hv, HK.map hv h3⟩
    · rw [if_neg (show ¬ (j, o').1 = i from e), if_neg (show ¬ (k, w).1 = Sum.inl (i : Int) from fun z => e (by have z : k = _ := z; rw [h1] at z; have := Sum.inl.inj z; omega))]
      exact ⟨h1, h2, HK.map hv h3⟩
theorem HK.snoc {H : Hp} {i : Nat} {o : Option Part} {v : V} (hv : OptP RPart o H v) : ∀ {kvs : List (Key × V)} {hs : List (Nat × Option Part)}, HK H kvs hs → HK H (kvs ++ [(.inl (i : Int), v)]) (hs ++ [(i, o)])
  | [], [], _ => ⟨rfl, hv, True.intro⟩
  | (_, _) :: _, (_, _) :: _, ⟨h1, h2, h3⟩ => ⟨h1, h2, HK.snoc hv h3⟩
theorem HK.any {H : Hp} {i : Nat} {kvs : List (Key × V)} {hs : List (Nat × Option Part)} (h : HK H kvs hs) : (kvs.any fun kv => decide (kv.1 = .inl (i : Int))) = hs.any fun e => decide (e.1 = i) := by
  have e1 : (kvs.any fun kv => decide (kv.1 = .inl (i : Int))) = (kvs.map (·.1)).any fun k => decide (k = .inl (i : Int)) := by rw [List.any_map]; rfl
  rw [e1, h.keys, List.any_map]
  refine congrArg (fun f => hs.any f) (funext fun e => ?_)
  show decide (Sum.inl (e.1 : Int) = (Sum.inl (i : Int) : Key)) = decide (e.1 = i)
  exact decide_eq_decide.mpr ⟨fun z => by have := Sum.inl.inj z; omega, fun z => by rw [z]⟩
theorem HK.put {H : Hp} {i : Nat} {o : Option Part} {v : V} {kvs : List (Key × V)} {hs : List (Nat × Option Part)} (h : HK H kvs hs) (hv : OptP RPart o H v) : HK H (putK kvs (.inl (i : Int)) v) (ap hs i o) := by
  unfold putK ap
  rw [h.any]
  split
  · exact HK.map hv h
  · exact HK.snoc hv h
def HdP (hs : List (Nat × Option Part)) : Pr := fun H v => ∃ a kvs, v = .ref a ∧ H a = some (.dK kvs) ∧ HK H kvs hs
instance {hs : List (Nat × Option Part)} : MX (HdP hs) := ⟨fun e ⟨a, kvs, h1, h2, h3⟩ => ⟨a, kvs, h1, e a _ h2, h3.fk (Same.fk e)⟩⟩
section
variable {K : PySem.W.Frag} {σ : L2.St} {H H' : Hp} {td ty tx tv : TE} {D : Ends} {tz : TS} {g : List (Part × Int)} {p : Part}
theorem er_dgetT {n : Int} (ha : EvR td σ H (DcT g)) (hb : EvR ty σ H (RPart p)) (h : ag g p = some n) : EvR (tDGet td ty) σ H (IsI n) := fun H1 e Q q =>
  ha H1 e _ fun x H2 e2 r2 => hb H2 (e.trans e2) _ fun y H3 e3 r3 => by
    obtain ⟨a, rfl, h1⟩ := MX.mx e3 r2
    obtain ⟨b, rfl, h2⟩ := rpart_key r3
    refine ⟨a, .int n, rfl, ?_, q _ _ (e2.trans e3) rfl⟩
    have := DGet.t h1 h2
    rwa [valV_encT, h] at this
theorem er_dget2T {n : Int} (ha : EvR td σ H (DcT g)) (hb : EvR ty σ H (RPart p)) (hx : EvR tx σ H (IsI n)) : EvR (tDGet2 td ty tx) σ H (IsI ((ag g p).getD n)) := fun H1 e Q q =>
  ha H1 e _ fun x H2 e2 ⟨a, r1, r2⟩ => ⟨a, r1, .inr ⟨_, .inl r2⟩, hb H2 (e.trans e2) _ fun y H3 e3 r3 => hx H3 ((e.trans e2).trans e3) _ fun z H4 e4 r4 => by
    obtain ⟨b, rfl, h2⟩ := rpart_key (MX.mx e4 r3)
    refine ⟨_, DGet.t ((e3.trans e4) a _ r2) h2, ?_⟩
    rw [valV_encT]
    refine q _ _ ((e2.trans e3).trans e4) ?_
    obtain rfl : z = V.int n := r4
    cases ag g p <;> rfl⟩
theorem er_dnotinT (hb : EvR ty σ H (RPart p)) (ha : EvR td σ H (DcT g)) : EvR (tDNotIn ty td) σ H (IsB (!(ag g p).isSome)) := fun H1 e Q q =>
  hb H1 e _ fun y H2 e2 r2 => ha H2 (e.trans e2) _ fun x H3 e3 ⟨a, r1, r3⟩ => by
    obtain ⟨b, rfl, h2⟩ := rpart_key (MX.mx e3 r2)
    refine ⟨a, _, r1, DGet.t r3 h2, q _ _ (e2.trans e3) ?_⟩
    rw [valV_encT, Option.isSome_map]
    exact rfl
theorem q_dputT {d : Addr} {n : Int} (hd : H d = some (.dT (encT g))) (hv : EvR tv σ H (IsI n)) (hx : EvR td σ H (IsV (.ref d))) (hy : EvR ty σ H (RPart p)) (hl : g.length < 100000) (k : ∀ H1, Same H H1 → tz D σ (upd H1 d (.dT (encT (ap g p n))))) : tSeq (sDPut td ty tv) tz D σ H :=
  hv H (Same.refl H) _ fun v H1 e1 r1 => hx H1 e1 _ fun x H2 e2 r2 => hy H2 (e1.trans e2) _ fun y H3 e3 r3 => by
    obtain ⟨b, rfl, h2⟩ := rpart_key r3
    obtain rfl : v = V.int n := r1
    refine ⟨d, _, r2, DPut.t (((e1.trans e2).trans e3) d _ hd) h2 (by unfold encT; rw [List.length_map, sizeLine_eq]; omega), ?_⟩
    rw [putK_encT]
    exact k H3 ((e1.trans e2).trans e3)
theorem s_dputT {d : Addr} {n : Int} (hd : H d = some (.dT (encT g))) (hv : EvR tv σ H (IsI n)) (hx : EvR td σ H (IsV (.ref d))) (hy : EvR ty σ H (RPart p)) (hl : g.length < 100000) (k : ∀ H1, Same H H1 → D.nx σ (upd H1 d (.dT (encT (ap g p n))))) : sDPut td ty tv D σ H :=
  q_dputT (tz := fun D σ H => D.nx σ H) hd hv hx hy hl k
variable {hs : List (Nat × Option Part)} {i : Nat}
theorem er_dgetK {o : Option Part} (ha : EvR td σ H (HdP hs)) (hb : EvR ty σ H (IsI (i : Int))) (h : ag hs i = some o) : EvR (tDGet td ty) σ H (OptP RPart o) := fun H1 e Q q =>
  ha H1 e _ fun x H2 e2 r2 => hb H2 (e.trans e2) _ fun y H3 e3 r3 => by
    obtain ⟨a, kvs, rfl, h1, h2⟩ := MX.mx e3 r2
    obtain rfl : y = V.int i := r3
    have := h2.val (i := i)
    rw [h] at this
    obtain ⟨v, h3, h4⟩ := this
    refine ⟨a, v, rfl, ?_, q _ _ (e2.trans e3) h4⟩
    have z := DGet.k (k := .inl (i : Int)) h1
    rwa [h3] at z
theorem er_dnotinK (hb : EvR ty σ H (IsI (i : Int))) (ha : EvR td σ H (HdP hs)) : EvR (tDNotIn ty td) σ H (IsB (!(ag hs i).isSome)) := fun H1 e Q q =>
  hb H1 e _ fun y H2 e2 r2 => ha H2 (e.trans e2) _ fun x H3 e3 ⟨a, kvs, r1, r3, r4⟩ => by
    obtain rfl : y = V.int i := r2
    refine ⟨a, _, r1, DGet.k (k := .inl (i : Int)) r3, q _ _ (e2.trans e3) ?_⟩
    have := r4.val (i := i)
    cases h : ag hs i with
    | none => rw [h] at this; rw [this]; rfl
    | some o => rw [h] at this; obtain ⟨v, h3, _⟩ := this; rw [h3]; rfl
theorem q_dputK {d : Addr} {kvs : List (Key × V)} {R : Pr} [MX R] (hd : H d = some (.dK kvs)) (hv : EvR tv σ H R) (hx : EvR td σ H (IsV (.ref d))) (hy : EvR ty σ H (IsI (i : Int))) (hl : kvs.length < 100000) (k : ∀ v H1, Same H H1 → R H1 v → tz D σ (upd H1 d (.dK (putK kvs (.inl (i : Int)) v)))) : tSeq (sDPut td ty tv) tz D σ H :=
  hv H (Same.refl H) _ fun v H1 e1 r1 => hx H1 e1 _ fun x H2 e2 r2 => hy H2 (e1.trans e2) _ fun y H3 e3 r3 => by
    obtain rfl : y = V.int i := r3
    exact ⟨d, _, r2, DPut.k (k := .inl (i : Int)) (((e1.trans e2).trans e3) d _ hd) (by rw [sizeLine_eq]; omega), k v H3 ((e1.trans e2).trans e3) (MX.mx (e2.trans e3) r1)⟩
end
end K43
set_option Elab.async false
set_option linter.all false
set_option maxRecDepth 100000
set_option maxHeartbeats 4000000
/-! # KD2: methods and instances: promises, readings -/
namespace K43
open PySem PySem.Spec PyProof.Rows L2
open C8 (Cal Mak Met pe_c pe_mk pe_mt pe_mt0)
section
variable {P : Program} {w : World} {K : PySem.W.Frag} {mg : Str → Option Value} {base : Heap}
theorem mk_met {m qual : Str} {C : Addr} {st : Stmt} {f : Addr} {N ps : List Str} {k : Nat} {sp : Sp} (c : Cls K C) (me : Meth K C m f) (hF : ∃ fd, FunD K m qual (defArgs st) (defBody st) (defScope st) [] [] f fd) (S : FnScope N ps (defScope st))
    (hb : ∀ (kV doc pm : Value) (an : Option Addr) (cdv ct : Value) (us : List Value), us.length = ps.length → bindArgs (PySem.W.fnOf m qual (defArgs st) (defBody st) (defScope st) .none kV doc pm an cdv ct) ⟨us, []⟩ = pure (ps.zip us))
    (len : ∀ vs H Q E, sp vs H Q E → vs.length = ps.length)
    (hbody : ∀ (cdv : Value) (A : Around) (outer : List Env) (s : Shared) (H : Hp) (vs : List V) (Q : VK) (E : XK), Room k (A.deeper (envOfC qual (defScope st) s.heap.objs.size f cdv)) → sp vs H Q E →
      ∃ t, PSs (cxOf CX0 P w K mg base N qual (defScope st) f cdv A outer s H E).nox (defBody st) t ∧ t { nx := fun _ H' => Q .non H', rt := Q } (start N vs) H) : Met P w K mg base (k + 1) C m sp [] := by
  obtain ⟨fd, F⟩ := hF
  refine ⟨f, fd, ps, [], c, me, F.ok S len fun cdv A outer s H vs Q E hr hsp => ?_, F.bindsN hb, .nil⟩
  obtain ⟨t, h, q⟩ := hbody cdv A outer s H vs Q E hr hsp
  exact ⟨t, h.nox, q⟩
theorem mk_metD {m qual : Str} {C : Addr} {st : Stmt} {f : Addr} {N ps : List Str} {k : Nat} {sp : Sp} {dvs : List V} (n j : Nat) (c : Cls K C) (me : Meth K C m f) (hF : ∃ fd, FunD K m qual (defArgs st) (defBody st) (defScope st) dvs [] f fd) (S : FnScope N ps (defScope st))
    (hd : dvs ≠ []) (hn : n + (dvs.length - j) = ps.length)
    (hb : ∀ (T : Addr) (kV doc pm : Value) (an : Option Addr) (cdv ct : Value) (us its : List Value), us.length = n → its.length = dvs.length →
      ∃ k, bindArgs (PySem.W.fnOf m qual (defArgs st) (defBody st) (defScope st) (.ref T) kV doc pm an cdv ct) ⟨us, []⟩ = seqItems? (.ref T) >>= k ∧ k (some its.toArray) = pure (ps.zip (us ++ its.drop j)))
    (len : ∀ vs H Q E, sp vs H Q E → vs.length = ps.length)
    (hbody : ∀ (cdv : Value) (A : Around) (outer : List Env) (s : Shared) (H : Hp) (vs : List V) (Q : VK) (E : XK), Room k (A.deeper (envOfC qual (defScope st) s.heap.objs.size f cdv)) → sp vs H Q E →
      ∃ t, PSs (cxOf CX0 P w K mg base N qual (defScope st) f cdv A outer s H E).nox (defBody st) t ∧ t { nx := fun _ H' => Q .non H', rt := Q } (start N vs) H) : Met P w K mg base (k + 1) C m sp (dvs.drop j) := by
  obtain ⟨fd, F⟩ := hF
  obtain ⟨ds, hv, hbi⟩ := F.binds1 n j hd hn hb
  refine ⟨f, fd, ps, ds, c, me, F.ok S len fun cdv A outer s H vs Q E hr hsp => ?_, hbi, hv⟩
  obtain ⟨t, h, q⟩ := hbody cdv A outer s H vs Q E hr hsp
  exact ⟨t, h.nox, q⟩
theorem mk_makD {x qual : Str} {C : Addr} {st : Stmt} {f : Addr} {N ps : List Str} {k : Nat} {sp : Sp} {dvs : List V} (n j : Nat) (M : Mk K C f) (hm : mg x = some (.ref C)) (hF : ∃ fd, FunD K "__init__" qual (defArgs st) (defBody st) (defScope st) dvs [] f fd) (S : FnScope N ps (defScope st))
    (hd : dvs ≠ []) (hn : n + (dvs.length - j) = ps.length)
    (hb : ∀ (T : Addr) (kV doc pm : Value) (an : Option Addr) (cdv ct : Value) (us its : List Value), us.length = n → its.length = dvs.length →
      ∃ k, bindArgs (PySem.W.fnOf "__init__" qual (defArgs st) (defBody st) (defScope st) (.ref T) kV doc pm an cdv ct) ⟨us, []⟩ = seqItems? (.ref T) >>= k ∧ k (some its.toArray) = pure (ps.zip (us ++ its.drop j)))
    (len : ∀ vs H Q E, sp vs H Q E → vs.length = ps.length)
    (hbody : ∀ (cdv : Value) (A : Around) (outer : List Env) (s : Shared) (H : Hp) (vs : List V) (Q : VK) (E : XK), Room k (A.deeper (envOfC qual (defScope st) s.heap.objs.size f cdv)) → sp vs H Q E →
      ∃ t, PSs (cxOf CX0 P w K mg base N qual (defScope st) f cdv A outer s H E).nox (defBody st) t ∧ t { nx := fun _ H' => Q .non H', rt := Q } (start N vs) H) : Mak P w K mg base (k + 1) x C sp (dvs.drop j) := by
  obtain ⟨fd, F⟩ := hF
  obtain ⟨ds, hv, hbi⟩ := F.binds1 n j hd hn hb
  refine ⟨f, fd, ps, ds, M, F.ok S len fun cdv A outer s H vs Q E hr hsp => ?_, hm, hbi, hv⟩
  obtain ⟨t, h, q⟩ := hbody cdv A outer s H vs Q E hr hsp
  exact ⟨t, h.nox, q⟩
variable {σ : L2.St} {H H' : Hp} {ta tb te tx : TE} {ts : TA}
/-- o.m(..), a method without effect -/
theorem er_meth {ι : Type} {Ar : ι → List Pr} {Cn : ι → Prop} {R : ι → Pr} {E : XK} {C : Addr} {m : Str} {dvs : List V} {ps : List (Str × Str × Int)} {qs : List Pr} [MXs qs] (i : ι) (ha : EvR ta σ H (RHeap C ps)) (hb : EvA ts σ H qs) (hm : ∀ vp : V, [(("parts" : Str), vp)].lookup m = none)
    (hA : ∀ H v vs, RHeap C ps H v → PP H vs qs → PP H (v :: (vs ++ dvs)) (Ar i)) (hc : Cn i) : EvR (tMeth C m (PSp Ar Cn R) dvs E ta ts) σ H (R i) := fun H1 e Q q =>
  ha H1 e _ fun v H2 e2 r2 => by
    have r2' := r2
    obtain ⟨a, dx, vp, h1, h2, h3⟩ := r2'
    refine ⟨a, dx, _, h1, h2, hm vp, hb H2 (e.trans e2) _ fun vs H3 e3 r3 => ⟨i, hA H3 v vs (MX.mx e3 r2) r3, hc, fun v H4 e4 r4 => q v H4 ((e2.trans e3).trans e4) r4⟩⟩
end
end K43
set_option Elab.async false
set_option linter.all false
set_option maxRecDepth 100000
set_option maxHeartbeats 4000000
/-! # KD3: sorted lists are one; readings of sorted, of a field, of in -/
namespace K43
open PySem PySem.Spec PyProof.Rows L2 K43S
theorem perm_uniq {α : Type} {R : α → α → Prop} (anti : ∀ x y, R x y → R y x → x = y) : ∀ {l m : List α}, l.Perm m → l.Pairwise R → m.Pairwise R → l = m
  | [], m, h, _, _ => (List.Perm.eq_nil h.symm).symm
  | x :: l, [], h, _, _ => absurd h.length_eq (by simp)
  | x :: l, y :: m, h, h1, h2 => by
    rw [List.pairwise_cons] at h1 h2
    have e : x = y := by
      rcases List.mem_cons.mp (h.mem_iff.mp (List.mem_cons_self (a := x) (l := l))) with e | hx
      · exact e
      · rcases List.mem_cons.mp (h.mem_iff.mpr (List.mem_cons_self (a := y) (l := m))) with e | hy
        · exact e.symm
        · exact anti x y (h1.1 y hy) (h2.1 x hx)
    subst e
    rw [perm_uniq anti h.cons_inv h1.2 h2.2]
def pkP (p : Part) : PK := (p.1, .inr p.2)
theorem pkP_inj {p q : Part} (h : pkP p = pkP q) : p = q := by
  have h1 := congrArg Prod.fst h
  have h2 := Sum.inr.inj (congrArg Prod.snd h)
  exact Prod.ext h1 h2
def pkG (p : Str × Int) : PK := (p.1, .inl p.2)
theorem pkG_inj {p q : Str × Int} (h : pkG p = pkG q) : p = q := by
  have h1 := congrArg Prod.fst h
  have h2 := Sum.inl.inj (congrArg Prod.snd h)
  exact Prod.ext h1 h2
/-- sorted, by such a key -/
def srtK {α : Type} (k : α → PK) (l : List α) : List α := l.mergeSort fun a b => !pLt (k b) (k a)
theorem srtK_perm {α : Type} (k : α → PK) (l : List α) : (srtK k l).Perm l := List.mergeSort_perm _ _
theorem srtK_sorted {α : Type} (k : α → PK) (l : List α) : (srtK k l).Pairwise fun a b => pLt (k b) (k a) = false := by
  have h := List.pairwise_mergeSort (le := fun a b => !pLt (k b) (k a)) (fun a b c h1 h2 => by
      simp only [Bool.not_eq_true'] at h1 h2 ⊢
      exact pLt_swo.tr _ _ _ h1 h2) (fun a b => by
      cases h1 : pLt (k b) (k a) with
      | false => rfl
      | true => rw [pLt_swo.asym _ _ h1]; rfl) l
  exact h.imp fun h => by simpa using h
theorem srtK_eq {α : Type} {k : α → PK} (inj : ∀ x y, k x = k y → x = y) {l zs : List α} (h : zs.Perm l) (hs : zs.Pairwise fun a b => pLt (k b) (k a) = false) : zs = srtK k l :=
  perm_uniq (fun x y h1 h2 => inj x y (pLt_tri h2 h1)) (h.trans (srtK_perm k l).symm) hs (srtK_sorted k l)
section
variable {K : PySem.W.Frag} {σ : L2.St} {H H' : Hp} {ta tb te tx : TE} {x : V} {R S : Pr}
theorem pp_refs {α : Type} {RA : α → Pr} {H : Hp} : ∀ {us : List Addr} {zs : List α}, Paired (fun u z => RA z H (.ref u)) us zs → PP H (us.map V.ref) (zs.map RA)
  | _, _, .nil => True.intro
  | _, _, .cons h t => ⟨h, pp_refs t⟩
theorem paired_mono {α β : Type} {F G : α → β → Prop} (w : ∀ a b, F a b → G a b) : ∀ {l : List α} {m : List β}, Paired F l m → Paired G l m
  | _, _, .nil => .nil
  | _, _, .cons h t => .cons (w _ _ h) (paired_mono w t)
theorem paired_map_r {α β γ : Type} {F : α → β → Prop} (f : γ → β) : ∀ {l : List α} {m : List γ}, Paired F l (m.map f) → Paired (fun a c => F a (f c)) l m
  | [], [], _ => .nil
  | _ :: _, _ :: _, .cons h t => .cons h (paired_map_r f t)
  | [], _ :: _, h => by cases h
  | _ :: _, [], h => by cases h
/-- sorted(d), d keyed by parts -/
theorem ev_sortedDT {g : List (Part × Int)} (ha : EvR ta σ H (DcT g)) (hl : g.length ≤ 100000) : EvR (tCB (rSortDT ()) (tCons ta tNil)) σ H (LstOf RPart (srtK pkP (g.map (·.1)))) := fun H1 e Q q =>
  (ea1 ha) H1 e _ fun vs H2 e2 r => by
    obtain ⟨v, rfl, a, rfl, h2⟩ := r.one
    refine ⟨a, encT g, (g.map (·.1)).map pkP, false, rfl, .inl h2, ?_, by unfold encT; rw [List.length_map]; exact hl, ?_, ?_⟩
    · unfold encT
      rw [List.map_map, List.map_map, List.map_map]
      rfl
    · intro k hk
      obtain ⟨p, _, rfl⟩ := List.mem_map.mp hk
      rfl
    · intro us zs p hp hs hpr hn
      -- the keys, as parts
      obtain ⟨ps, rfl⟩ : ∃ ps : List Part, zs = ps.map pkP := by
        have hz : ∀ z ∈ zs, ∃ p, z = pkP p := fun z hz => by
          obtain ⟨p, _, e⟩ := List.mem_map.mp (hp.mem_iff.mp hz)
          exact ⟨p, e.symm⟩
        clear hp hs hpr
        induction zs with
        | nil => exact ⟨[], rfl⟩
        | cons z zs ih =>
          obtain ⟨ps, e⟩ := ih fun y hy => hz y (List.mem_cons_of_mem _ hy)
          obtain ⟨p, e2⟩ := hz z List.mem_cons_self
          exact ⟨p :: ps, by rw [e, e2]; rfl⟩
      have hp2 : ps.Perm (g.map (·.1)) := by
        have h3 := hp.map (fun k : PK => ((k.1, match k.2 with | .inr y => y | .inl _ => ⟨#[]⟩) : Part))
        rw [List.map_map, List.map_map] at h3
        have e3 : ∀ l : List Part, l.map ((fun k : PK => ((k.1, match k.2 with | .inr y => y | .inl _ => ⟨#[]⟩) : Part)) ∘ pkP) = l := fun l => List.map_id'' (fun _ => rfl) l
        rwa [e3, e3] at h3
      have hs2 : ps = srtK pkP (g.map (·.1)) := srtK_eq (fun _ _ => pkP_inj) hp2 (List.pairwise_map.mp hs)
      have hpr2 : Paired (fun u z => H2 u = some (.tup ((encP z).map kV))) us ps := paired_mono (fun a b h => h) (paired_map_r pkP hpr)
      refine q _ _ (e2.trans (Same.new hn)) ⟨p, us.map V.ref, rfl, upd_same, ?_⟩
      rw [← hs2]
      exact MXs.mx (Same.new hn) (pp_refs (RA := RPart) (paired_mono (fun a b h => key_rpart h) hpr2))
abbrev RGi (p : Str × Int) : Pr := TupP [IsS p.1, IsI p.2]
theorem gi_addrs {H : Hp} : ∀ {l : List (Str × Int)} {ws : List V}, PP H ws (l.map RGi) → ∃ ts : List Addr, ws = ts.map V.ref ∧ Paired (fun u (z : Str × Int) => H u = some (.tup [.str z.1, .int z.2])) ts l
  | [], [], _ => ⟨[], rfl, .nil⟩
  | z :: l, _ :: ws, ⟨⟨b, us, rfl, h4, h5⟩, h6⟩ => by
    obtain ⟨ts, e, h7⟩ := gi_addrs h6
    obtain ⟨v1, v2, rfl, r1, r2⟩ := h5.two
    obtain rfl : v1 = V.str z.1 := r1
    obtain rfl : v2 = V.int z.2 := r2
    exact ⟨b :: ts, by rw [e]; rfl, .cons h4 h7⟩
def bkG (k : PK) : Str × Int := (k.1, match k.2 with | .inl i => i | .inr _ => 0)
theorem gi_back {H : Hp} : ∀ {l : List (Str × Int)} {ts : List Addr}, Paired (fun u (z : Str × Int) => H u = some (.tup [.str z.1, .int z.2])) ts l → ts.map (fun t => bkG (pkAt H (.ref t))) = l
  | _, _, .nil => rfl
  | z :: _, t :: _, .cons h r => by
    rw [List.map_cons, gi_back r, pkAt_of (k := .inl z.2) h]
    rfl
theorem gi_mem {H : Hp} : ∀ {l : List (Str × Int)} {ts : List Addr}, Paired (fun u (z : Str × Int) => H u = some (.tup [.str z.1, .int z.2])) ts l → ∀ t ∈ ts, ∃ z, H t = some (.tup [.str z.1, .int z.2]) ∧ pkAt H (.ref t) = pkG z
  | _, _, .nil, t, h => by cases h
  | z :: _, t :: _, .cons h r, u, hu => by
    rcases List.mem_cons.mp hu with rfl | hu
    · exact ⟨z, h, pkAt_of (k := .inl z.2) h⟩
    · exact gi_mem r u hu
/-- sorted(a list of (text, number)) -/
theorem ev_sortedSK {l : List (Str × Int)} (ha : EvR ta σ H (LstOf RGi l)) : EvR (tCB (rSortSK K) (tCons ta tNil)) σ H (LstOf RGi (srtK pkG l)) := fun H1 e Q q =>
  (ea1 ha) H1 e _ fun vs H2 e2 r => by
    obtain ⟨v, rfl, a, ws, rfl, h2, h3⟩ := r.one
    obtain ⟨ts, rfl, hts⟩ := gi_addrs h3
    refine ⟨a, ts, fun t => pkAt H2 (.ref t), true, rfl, SqL.of h2, fun t ht => ?_, fun us p hp hs hn => ?_⟩
    · obtain ⟨z, h4, h5⟩ := gi_mem hts t ht
      dsimp only
      rw [h5]
      exact ⟨h4, rfl⟩
    · have hall : ∀ u ∈ us, ∃ z, H2 u = some (.tup [.str z.1, .int z.2]) ∧ pkAt H2 (.ref u) = pkG z := fun u hu => gi_mem hts u (hp.mem_iff.mp hu)
      have hz : us.map (fun t => bkG (pkAt H2 (.ref t))) = srtK pkG l := by
        refine srtK_eq (fun _ _ => pkG_inj) ?_ ?_
        · have := hp.map (fun t => bkG (pkAt H2 (.ref t)))
          rwa [gi_back hts] at this
        · rw [List.pairwise_map]
          refine List.Pairwise.imp_of_mem (fun {x y} hx hy h => ?_) hs
          obtain ⟨z, _, e1⟩ := hall x hx
          obtain ⟨z', _, e2⟩ := hall y hy
          dsimp only at h
          rw [e1, e2] at h ⊢
          exact h
      refine q _ _ (e2.trans (Same.new hn)) ⟨p, us.map V.ref, rfl, upd_same, ?_⟩
      rw [← hz]
      refine MXs.mx (Same.new hn) (pp_refs (RA := RGi) ?_)
      exact paired_of _ fun u hu => by
        obtain ⟨z, h4, h5⟩ := hall u hu
        rw [h5]
        exact ⟨u, _, rfl, h4, rfl, rfl, True.intro⟩
/-- o.parts -/
theorem er_parts {C : Addr} {ps : List (Str × Str × Int)} (ha : EvR ta σ H (RHeap C ps)) (hc : Cls K C) (hn : NoAttr K C "parts") : EvR (tFld K ta "parts") σ H (TupOf RPrt ps) := fun H1 e Q q =>
  ha H1 e _ fun v H2 e2 ⟨a, dx, vp, h1, h2, h3⟩ => ⟨a, C, dx, _, vp, h1, h2, hc, hn, rfl, q _ _ e2 h3⟩
/-- x in (a, b, ..), plain things -/
theorem er_inTv {us : List V} (ha : EvR ta σ H (IsV x)) (hb : EvR tb σ H (TupP (us.map IsV))) (hx : flatV x = true) (hg : us.all flatV = true) : EvR (tOp (rIn K false) ta tb) σ H (IsB (inV x us)) :=
  er_op ha hb fun v w H1 _ h1 ⟨a, vs, g1, g2, g3⟩ Q q => by
    cases h1
    have e := g3.isv
    subst e
    exact ⟨a, vs, g1, .inr (SqT.of g2), hx, hg, q _ H1 (Same.refl H1) rfl⟩
end
end K43
set_option Elab.async false
set_option linter.all false
set_option maxRecDepth 100000
set_option maxHeartbeats 4000000
/-! # KDD: the heap -/
namespace K43
open PySem PySem.Spec PyProof.Rows L2 K43S
open C8 (Cal Mak Met pe_c pe_mk pe_mt pe_mt0)
section
variable {P : Program} {w : World} {K : PySem.W.Frag} {mg : Str → Option Value} {base : Heap}
abbrev Prt := Str × Str × Int
def kP (e : Prt) : Part := (e.1, e.2.1)
/-- the rows' sums, in the order they came -/
def countUp (rows : List Prt) : List (Part × Int) := rows.foldl (fun g r => ap g (kP r) (gv g (kP r) + r.2.2)) []
/-- .. and as a heap holds them -/
def partsOf (rows : List Prt) : List Prt := (srtK pkP ((countUp rows).map (·.1))).map fun p => (p.1, p.2, gv (countUp rows) p)
theorem countUp_take {rows : List Prt} {i : Nat} {r : Prt} (h : rows[i]? = some r) : countUp (rows.take (i + 1)) = ap (countUp (rows.take i)) (kP r) (gv (countUp (rows.take i)) (kP r) + r.2.2) := by
  unfold countUp
  rw [take_snoc h, List.foldl_append]
  rfl
theorem countUp_len (rows : List Prt) : (countUp rows).length ≤ rows.length := by
  have key : ∀ (l : List Prt) (g : List (Part × Int)), (l.foldl (fun g r => ap g (kP r) (gv g (kP r) + r.2.2)) g).length ≤ g.length + l.length := by
    intro l
    induction l with
    | nil => intro g; exact Nat.le_refl _
    | cons r l ih =>
      intro g
      have := ih (ap g (kP r) (gv g (kP r) + r.2.2))
      have h2 := ap_len g (kP r) (gv g (kP r) + r.2.2)
      rw [List.foldl_cons, List.length_cons]
      omega
  have := key rows []
  rw [List.length_nil, Nat.zero_add] at this
  exact this
-- slots: 0 rows, 1 found, 2 form, 3 shade, 4 many
abbrev N_counted : List Str := ["rows", "found", "form", "shade", "many"]
theorem sc_counted : FnScope N_counted ["rows"] (defScope s_counted) := ⟨rfl, rfl, rfl, by decide +kernel, rfl, by decide +kernel, by decide +kernel⟩
abbrev spCounted : Sp := PSp (ι := List Prt) (fun i => [TupOf RPrt i]) (fun i => i.length ≤ 10000) fun i => DcT (countUp i)
theorem ok_counted (T : Tx w K mg) : Cal P w K mg base 1 "counted" spCounted [] := by
  refine mk_pure T.f_counted T.g_counted sc_counted (fun _ _ _ _ _ _ us hl => match us, hl with | [_], _ => rfl) (fun _ => rfl) (fun cdv A outer s H vs Q E i hr hp hc q => ?_)
  obtain ⟨v0, rfl, h0⟩ := PP.one hp
  have hlen : i.length ≤ 10000 := hc
  refine ⟨_, (pss_cons (ps_set (i := 1) sc_counted.nd rfl (.inl rfl) pe_dnewT)
    (pss_cons (ps_for PassesOwn.never rfl (kx_pi_tup K (pv 0)) (kx_tup K (by rfl) (pgs_cons (pg_name (i := 2) sc_counted.nd rfl (.inl rfl)) (pgs_cons (pg_name (i := 3) sc_counted.nd rfl (.inl rfl)) (pgs_cons (pg_name (i := 4) sc_counted.nd rfl (.inl rfl)) pgs_nil))))
      (pss_one (ps_dput (hu_of hr) (pv 1) (pe_tup (pa_cons (pv 2) (pa_cons (pv 3) pa_nil))) (pe_op op_add (pe_tsetd (hu_of hr) (pv 1) (pe_tup (pa_cons (pv 2) (pa_cons (pv 3) pa_nil))) pe_int ⟨rfl, rfl, rfl, rfl⟩) (pv 4)) rfl)))
    (pss_one (ps_ret (pv 1))))), ?_⟩
  refine fun d hd => ?_
  have e0 := Same.new (o := .dT []) hd
  refine q_for (ei_tup (er_var (MX.mx e0 h0))) (fun j σ' Hc => Same H Hc ∧ (∃ v2 v3 v4, σ' = [some v0, some (.ref d), v2, v3, v4]) ∧ Hc d = some (.dT (encT (countUp (i.take j)))))
    (fun H2 e2 => ⟨e0.trans e2, ⟨_, _, _, rfl⟩, e2 d _ upd_same⟩) ?_ ?_
  · rintro j ⟨form, shade, many⟩ v σ' Hc Hx N hx f ⟨s, ⟨v2, v3, v4, rfl⟩, hdc⟩ sx r n
    refine eg_tup3 r fun u1 u2 u3 r1 r2 r3 => ?_
    obtain rfl : u1 = V.str form := r1
    obtain rfl : u2 = V.str shade := r2
    obtain rfl : u3 = V.int many := r3
    have hjl : (countUp (i.take j)).length ≤ 10000 := Nat.le_trans (countUp_len _) (by rw [List.length_take]; omega)
    have hdx := sx d _ hdc
    have nfx : ∀ o, Hx d = some o → ¬ Fx o := fun o ho z => by rw [hdx] at ho; cases ho; exact z
    refine ⟨.ref d, rfl, d, rfl, .inr ⟨_, .inl hdx⟩, ?_⟩
    refine er_tup (ps := [IsS form, IsS shade]) (ea2 er_v er_v) (by simp) Hx (Same.refl _) _ fun y H3 e3 r3 => ?_
    obtain ⟨b, rfl, hb⟩ := rpart_key (p := (form, shade)) r3
    refine ⟨encT (countUp (i.take j)), encP (form, shade), b, rfl, e3 d _ hdx, hb, by unfold encT; rw [List.length_map, sizeLine_eq]; omega, ?_, ?_⟩
    · intro v hv
      rw [valV_encT] at hv
      cases hg : ag (countUp (i.take j)) (form, shade) with
      | none => rw [hg] at hv; cases hv
      | some c =>
        rw [hg] at hv
        cases hv
        refine ⟨_, rfl, c, many, rfl, rfl, ?_⟩
        refine s_dputT (D := { nx := fun σ H => N σ H, rt := fun _ _ => True, bk := fun _ _ => True, ct := fun _ _ => True }) (tv := tC (.int (c + many))) (g := countUp (i.take j)) (p := (form, shade)) (n := c + many) (e3 d _ hdx) er_c er_v (er_tup (ps := [IsS form, IsS shade]) (ea2 er_v er_v) (by simp)) (by omega) fun H4 e4 => ?_
        refine n _ _ ((Same.fk (e3.trans e4)).trans (FK.upd ((e3.trans e4) d _ hdx) fun z => z)) ⟨((s.trans sx).trans (e3.trans e4)).mut hd, ⟨_, _, _, rfl⟩, ?_⟩
        rw [upd_same, countUp_take hx]
        show some (HO.dT (encT (ap _ (form, shade) (c + many)))) = some (HO.dT (encT (ap _ (form, shade) (gv (countUp (i.take j)) (form, shade) + many))))
        have e5 : gv (countUp (i.take j)) (form, shade) = c := by unfold gv; rw [hg]; rfl
        rw [e5]
    · intro hv
      rw [valV_encT] at hv
      have hg : ag (countUp (i.take j)) (form, shade) = none := by simpa using hv
      rw [show (V.int 0) = V.int (0 : Int) from rfl, putK_encT]
      have hl2 := ap_len (countUp (i.take j)) (form, shade) 0
      refine ⟨_, rfl, 0, many, rfl, rfl, ?_⟩
      refine s_dputT (D := { nx := fun σ H => N σ H, rt := fun _ _ => True, bk := fun _ _ => True, ct := fun _ _ => True }) (tv := tC (.int (0 + many))) (g := ap (countUp (i.take j)) (form, shade) 0) (p := (form, shade)) (n := 0 + many) upd_same er_c er_v (er_tup (ps := [IsS form, IsS shade]) (ea2 er_v er_v) (by simp)) (by omega) fun H4 e4 => ?_
      have f1 : FK H3 (upd H3 d (.dT (encT (ap (countUp (i.take j)) (form, shade) 0)))) := FK.upd (e3 d _ hdx) fun z => z
      have s4 : Same H (upd H4 d (.dT (encT (ap (ap (countUp (i.take j)) (form, shade) 0) (form, shade) (0 + many))))) := (((((s.trans sx).trans e3).mut hd).trans e4).mut hd)
      refine n _ _ (((Same.fk e3).trans f1).trans ((Same.fk e4).trans (FK.upd (e4 d _ upd_same) fun z => z))) ⟨s4, ⟨_, _, _, rfl⟩, ?_⟩
      rw [upd_same, countUp_take hx, ap_ap]
      show some (HO.dT (encT (ap _ (form, shade) (0 + many)))) = some (HO.dT (encT (ap _ (form, shade) (gv (countUp (i.take j)) (form, shade) + many))))
      have e5 : gv (countUp (i.take j)) (form, shade) = 0 := by unfold gv; rw [hg]; rfl
      rw [e5]
  · rintro σ' Hc f ⟨s, ⟨v2, v3, v4, rfl⟩, hdc⟩
    rw [List.take_length] at hdc
    exact s_ret er_v fun v H2 e2 r2 => q v H2 (s.trans e2) (by obtain rfl : v = V.ref d := r2; exact ⟨d, rfl, e2 d _ hdc⟩)
end
end K43
set_option Elab.async false
set_option linter.all false
set_option maxRecDepth 100000
set_option maxHeartbeats 4000000
/-! # KDE: the heap's methods, sums -/
namespace K43
open PySem PySem.Spec PyProof.Rows L2 K43S
open C8 (Cal Mak Met pe_c pe_mk pe_mt pe_mt0)
section
variable {P : Program} {w : World} {K : PySem.W.Frag} {mg : Str → Option Value} {base : Heap}
abbrev CH (K : PySem.W.Frag) : Addr := He.ga K "Heap"
-- slots: 0 self
abbrev N_Heap_rows : List Str := ["self"]
theorem sc_Heap_rows : FnScope N_Heap_rows ["self"] (defScope s_Heap_rows) := ⟨rfl, rfl, rfl, by decide +kernel, rfl, by decide +kernel, by decide +kernel⟩
abbrev spRows (C : Addr) : Sp := PSp (ι := List Prt) (fun i => [RHeap C i]) (fun _ => True) fun i => TupOf RPrt i
theorem Met_rows (T : Tx w K mg) : Met P w K mg base 1 (CH K) "rows" (spRows (CH K)) [] := by
  refine mk_met T.cl T.m_rows T.f_Heap_rows sc_Heap_rows (fun _ _ _ _ _ _ us hl => match us, hl with | [_], _ => rfl) (fun vs H Q E ⟨i, h, _⟩ => h.length) (fun cdv A outer s H vs Q E hr ⟨i, hp, hc, q⟩ => ?_)
  obtain ⟨v0, rfl, h0⟩ := PP.one hp
  refine ⟨_, (pss_one (ps_ret (kx_fld K (pv 0) rfl))), ?_⟩
  exact s_ret (er_parts (er_var h0) T.cl T.nP) q
-- slots: 0 self, 1 form (cell), 2 shade (cell), 3 row
abbrev N_Heap_many : List Str := ["self", "form", "shade", "row"]
theorem sc_Heap_many : FnScope N_Heap_many ["self", "form", "shade"] (defScope s_Heap_many) := ⟨rfl, rfl, rfl, by decide +kernel, rfl, by decide +kernel, by decide +kernel⟩
def vOS : Option Str → V
  | none => .non
  | some s => .str s
def manyP (ps : List Prt) (form : Str) (o : Option Str) : Int := ((ps.filter fun e => decide (e.1 = form) && (decide (o = none) || decide (o = some e.2.1))).map (·.2.2)).sum
abbrev spMany (C : Addr) : Sp := PSp (ι := List Prt × Str × Option Str) (fun i => [RHeap C i.1, IsS i.2.1, IsV (vOS i.2.2)]) (fun i => i.1.length ≤ 10000) fun i => IsI (manyP i.1 i.2.1 i.2.2)
theorem many_body (T : Tx w K mg) (cdv : Value) (A : Around) (outer : List Env) (s : Shared) (H : Hp) (vs : List V) (Q : VK) (E : XK) (hr : Room 0 (A.deeper (envOfC "Heap.many" (defScope s_Heap_many) s.heap.objs.size (He.fAd K ("Heap", some "many")) cdv))) (hsp : spMany (CH K) vs H Q E) :
      ∃ t, PSs (cxOf CX0 P w K mg base N_Heap_many "Heap.many" (defScope s_Heap_many) (He.fAd K ("Heap", some "many")) cdv A outer s H E).nox (defBody s_Heap_many) t ∧ t { nx := fun _ H' => Q .non H', rt := Q } (start N_Heap_many vs) H := by
  obtain ⟨⟨ps, form, o⟩, hp, hc, q⟩ := hsp
  have hc : ps.length ≤ 10000 := hc
  obtain ⟨v0, v1, v2, rfl, h0, h1, h2⟩ := PP.three hp
  dsimp only at h0 h1 h2
  refine ⟨_, (pss_one (ps_ret (pe_callB (id := "sum") (kx_sum K rfl) (by rfl) T.b_sum (by decide +kernel) (pa_cons (pe_lc (own := [("row", 3)]) (g := gName 3) (by rfl) sc_Heap_many.nd (kx_pi_tup K (kx_fld K (pv 0) rfl)) (blkOk_by (N := N_Heap_many) (sc := defScope s_Heap_many) (by decide +kernel)) (fun _ _ _ _ _ => (pg_name (i := 3) sc_Heap_many.nd rfl (.inl rfl))) (fun _ _ _ _ _ => pts_one (PW.pt (pw_and (pt_cmpR op_eq (pe_ix (kx_ixT K) (pv 3) pe_int (fun _ _ => rfl)) (pv 1) (nomark _)) (pw_and1 (pt_cmpR (kx_in K) (pv 2) (pe_tup (pa_cons pe_non (pa_cons (pe_ix (kx_ixT K) (pv 3) pe_int (fun _ _ => rfl)) pa_nil))) (by rfl)))))) (fun _ _ _ _ _ => (pe_ix (kx_ixT K) (pv 3) pe_int (fun _ _ => rfl)))) pa_nil)))), ?_⟩
  obtain rfl : v2 = vOS o := h2
  refine s_ret (er_sum (er_lc (RB := IsI) (fun e : Prt => decide (e.1 = form) && (decide (o = none) || decide (o = some e.2.1))) (fun e => e.2.2) (ei_tup (er_parts (er_var h0) T.cl T.nP)).same (by omega) fun e v H1 he s1 r => eg_name ⟨rfl, ?_, fun _ => er_ixT (er_var r) er_c⟩)) q
  refine eb_and (EvB.is (eb_test (er_eq (x := .str e.1) (y := .str form) (er_ixT (er_var r) er_c) (er_var (MX.mx s1 h1)) rfl)) (by simp)) fun _ => EvB.is (eb_test (er_inTv (us := [.non, .str e.2.1]) er_v (er_tup (ps := [IsN, IsS e.2.1]) (ea2 er_c (er_ixT (er_var r) er_c)) (by simp)) (by cases o <;> rfl) (by rfl))) ?_
  cases o with
  | none => simp [inV, eqV, vOS]
  | some z =>
    simp [inV, eqV, vOS]
    by_cases h : z = e.2.1
    · subst h; simp
    · rw [decide_eq_false h]; exact beq_eq_false_iff_ne.mpr fun z => h z.symm
theorem Met_many (T : Tx w K mg) : Met P w K mg base 1 (CH K) "many" (spMany (CH K)) [] :=
  mk_metD 3 1 T.cl T.m_many T.f_Heap_many sc_Heap_many (by simp) rfl (fun _ _ _ _ _ _ _ us its hl hl2 => match us, hl, its, hl2 with | [_, _, _], _, [_], _ => ⟨_, rfl, rfl⟩) (fun vs H Q E ⟨i, h, _⟩ => h.length) (many_body T)
theorem Met_many1 (T : Tx w K mg) : Met P w K mg base 1 (CH K) "many" (spMany (CH K)) [.non] :=
  mk_metD 2 0 T.cl T.m_many T.f_Heap_many sc_Heap_many (by simp) rfl (fun _ _ _ _ _ _ _ us its hl hl2 => match us, hl, its, hl2 with | [_, _], _, [_], _ => ⟨_, rfl, rfl⟩) (fun vs H Q E ⟨i, h, _⟩ => h.length) (many_body T)
theorem er_many {σ : L2.St} {H : Hp} {ta tb tc : TE} {ps : List Prt} {form shade : Str} (ha : EvR ta σ H (RHeap (CH K) ps)) (hb : EvR tb σ H (IsS form)) (hc : EvR tc σ H (IsS shade)) (hl : ps.length ≤ 10000) :
    EvR (tMeth (CH K) "many" (spMany (CH K)) [] E0 ta (tCons tb (tCons tc tNil))) σ H (IsI (manyP ps form (some shade))) :=
  er_meth (ps := ps) (qs := [IsS form, IsS shade]) (ps, form, some shade) ha (ea2 hb hc) (fun _ => rfl) (fun H v vs h1 h2 => ⟨h1, by obtain ⟨a, b, rfl, h3, h4⟩ := h2.two; exact ⟨h3, h4, True.intro⟩⟩) hl
theorem er_many1 {σ : L2.St} {H : Hp} {ta tb : TE} {ps : List Prt} {form : Str} (ha : EvR ta σ H (RHeap (CH K) ps)) (hb : EvR tb σ H (IsS form)) (hl : ps.length ≤ 10000) :
    EvR (tMeth (CH K) "many" (spMany (CH K)) [.non] E0 ta (tCons tb tNil)) σ H (IsI (manyP ps form none)) :=
  er_meth (ps := ps) (qs := [IsS form]) (ps, form, none) ha (ea1 hb) (fun _ => rfl) (fun H v vs h1 h2 => ⟨h1, by obtain ⟨a, rfl, h3⟩ := h2.one; exact ⟨h3, rfl, True.intro⟩⟩) hl
-- slots: 0 self, 1 other, 2 found, 3 form, 4 shade, 5 many, 6 more
abbrev N_Heap_rows_lacking : List Str := ["self", "other", "found", "form", "shade", "many", "more"]
theorem sc_Heap_rows_lacking : FnScope N_Heap_rows_lacking ["self", "other"] (defScope s_Heap_rows_lacking) := ⟨rfl, rfl, rfl, by decide +kernel, rfl, by decide +kernel, by decide +kernel⟩
def lackOf (ps : List Prt) (e : Prt) : List Prt := if e.2.2 - manyP ps e.1 (some e.2.1) > 0 then [(e.1, e.2.1, e.2.2 - manyP ps e.1 (some e.2.1))] else []
def lacking (ps qs : List Prt) : List Prt := (qs.map (lackOf ps)).flatten
abbrev spLack (C : Addr) : Sp := PSp (ι := List Prt × List Prt) (fun i => [RHeap C i.1, RHeap C i.2]) (fun i => i.1.length ≤ 10000 ∧ i.2.length ≤ 10000) fun i => TupOf RPrt (lacking i.1 i.2)
theorem lack_len (ps qs : List Prt) : (lacking ps qs).length ≤ qs.length := by
  unfold lacking
  induction qs with
  | nil => exact Nat.le_refl _
  | cons e r ih =>
    rw [List.map_cons, List.flatten_cons, List.length_append, List.length_cons]
    have : (lackOf ps e).length ≤ 1 := by unfold lackOf; split <;> simp
    omega
theorem Met_rows_lacking (T : Tx w K mg) : Met P w K mg base 2 (CH K) "rows_lacking" (spLack (CH K)) [] := by
  refine mk_met T.cl T.m_rows_lacking T.f_Heap_rows_lacking sc_Heap_rows_lacking (fun _ _ _ _ _ _ us hl => match us, hl with | [_, _], _ => rfl) (fun vs H Q E ⟨i, h, _⟩ => h.length) (fun cdv A outer s H vs Q E hr ⟨i, hp, hc, q⟩ => ?_)
  obtain ⟨ps, qs⟩ := i
  obtain ⟨v0, v1, rfl, h0, h1⟩ := PP.two hp
  obtain ⟨hl1, hl2⟩ := hc
  dsimp only at h0 h1 hl1 hl2
  refine ⟨_, (pss_cons (ps_set (i := 2) sc_Heap_rows_lacking.nd rfl (.inl rfl) (pe_lst pa_nil))
    (pss_cons (ps_for PassesOwn.never rfl (kx_pi_tup K (kx_fld K (pv 1) rfl)) (kx_tup K (by rfl) (pgs_cons (pg_name (i := 3) sc_Heap_rows_lacking.nd rfl (.inl rfl)) (pgs_cons (pg_name (i := 4) sc_Heap_rows_lacking.nd rfl (.inl rfl)) (pgs_cons (pg_name (i := 5) sc_Heap_rows_lacking.nd rfl (.inl rfl)) pgs_nil))))
      (pss_cons (ps_set (i := 6) sc_Heap_rows_lacking.nd rfl (.inl rfl) (pe_op op_sub (pv 5) (pe_mt (Met_many T) hr (by decide) (pv 0) (pa_cons (pv 3) (pa_cons (pv 4) pa_nil)))))
    (pss_one (ps_if (pt_cmpR op_gt (pv 6) pe_int (nomark _)) (pss_one (ps_expr (kx_bm K PySem.F.plainAttrs_list PySem.F.slot_list_append PySem.F.type_list_append mt_append (pv 2) (pa_cons (pe_tup (pa_cons (pv 3) (pa_cons (pv 4) (pa_cons (pv 6) pa_nil)))) pa_nil)))) pss_nil))))
    (pss_one (ps_ret (pe_callTy (T := "tuple") (kx_tuple K) (by rfl) T.b_tuple (by decide +kernel) (pa_cons (pv 2) pa_nil)))))), ?_⟩
  refine q_nil fun l hl => ?_
  have e0 := Same.new (o := .lst []) hl
  refine q_for (ei_tup (er_parts (er_var (MX.mx e0 h1)) T.cl T.nP)) (fun j σ' Hc => Same H Hc ∧ (∃ v3 v4 v5 v6, σ' = [some v0, some v1, some (.ref l), v3, v4, v5, v6]) ∧ ∃ acc, Hc l = some (.lst acc) ∧ PP Hc acc ((lacking ps (qs.take j)).map RPrt))
    (fun H2 e2 => ⟨e0.trans e2, ⟨_, _, _, _, rfl⟩, [], e2 l _ upd_same, True.intro⟩) ?_ ?_
  · rintro j ⟨form, shade, many⟩ v σ' Hc Hx N hx f ⟨s, ⟨v3, v4, v5, v6, rfl⟩, acc, hla, hacc⟩ sx r n
    have hal : acc.length ≤ 10000 := by
      have h3 := hacc.length
      rw [List.length_map] at h3
      have h4 := lack_len ps (qs.take j)
      rw [List.length_take] at h4
      omega
    refine eg_tup3 r fun u1 u2 u3 r1 r2 r3 => ?_
    refine q_set (er_I0 (er_var r3) (er_many (er_var (MX.mx (s.trans sx) h0)) (er_var r1) (er_var r2) hl1)) fun u6 H2 e2 r6 => ?_
    refine s_when (b := decide (many - manyP ps form (some shade) > 0)) (eb_test (EvR.is (er_I0 (er_var r6) er_c) rfl)) (fun hb H3 e3 => ?_) fun hb H3 e3 => ?_
    · have hb' : many - manyP ps form (some shade) > 0 := of_decide_eq_true hb
      refine s_app ((sx.trans (e2.trans e3)) l _ hla) (er_tup (ps := [IsS form, IsS shade, IsI (many - manyP ps form (some shade))]) (ea_cons (er_var (MX.mx (e2.trans e3) r1)) (ea2 (er_var (MX.mx (e2.trans e3) r2)) (er_var (MX.mx e3 r6)))) (by simp)) (by omega) fun vz H4 e4 r4 => ?_
      have fk : FK H4 (upd H4 l (.lst (acc ++ [vz]))) := FK.upd ((sx.trans ((e2.trans e3).trans e4)) l _ hla) fun z => z
      refine n _ _ ((Same.fk ((e2.trans e3).trans e4)).trans fk) ⟨((s.trans sx).trans ((e2.trans e3).trans e4)).mut hl, ⟨_, _, _, _, rfl⟩, acc ++ [vz], upd_same, ?_⟩
      refine pp_flat (f := lackOf ps) hx (MFs.mf ((Same.fk (sx.trans ((e2.trans e3).trans e4))).trans fk) hacc) ?_
      unfold lackOf
      rw [if_pos hb']
      exact ⟨MF.mf fk r4, True.intro⟩
    · have hb' : ¬ many - manyP ps form (some shade) > 0 := of_decide_eq_false hb
      refine n _ _ (Same.fk (e2.trans e3)) ⟨(s.trans sx).trans (e2.trans e3), ⟨_, _, _, _, rfl⟩, acc, (sx.trans (e2.trans e3)) l _ hla, ?_⟩
      have := pp_flat (f := lackOf ps) (ws := []) hx (MXs.mx (sx.trans (e2.trans e3)) hacc) (by unfold lackOf; rw [if_neg hb']; exact True.intro)
      rwa [List.append_nil] at this
  · rintro σ' Hc f ⟨s, ⟨v3, v4, v5, v6, rfl⟩, acc, hla, hacc⟩
    rw [List.take_length] at hacc
    exact s_ret (ev_tuple (er_var (R := LstOf RPrt (lacking ps qs)) ⟨l, acc, rfl, hla, hacc⟩)) fun v H2 e2 r2 => q v H2 (s.trans e2) r2
-- slots: 0 self, 1 other
abbrev N_Heap_holds : List Str := ["self", "other"]
theorem sc_Heap_holds : FnScope N_Heap_holds ["self", "other"] (defScope s_Heap_holds) := ⟨rfl, rfl, rfl, by decide +kernel, rfl, by decide +kernel, by decide +kernel⟩
abbrev spHolds (C : Addr) : Sp := PSp (ι := List Prt × List Prt) (fun i => [RHeap C i.1, RHeap C i.2]) (fun i => i.1.length ≤ 10000 ∧ i.2.length ≤ 10000) fun i => IsB (lacking i.1 i.2).isEmpty
theorem Met_holds (T : Tx w K mg) : Met P w K mg base 3 (CH K) "holds" (spHolds (CH K)) [] := by
  refine mk_met T.cl T.m_holds T.f_Heap_holds sc_Heap_holds (fun _ _ _ _ _ _ us hl => match us, hl with | [_, _], _ => rfl) (fun vs H Q E ⟨i, h, _⟩ => h.length) (fun cdv A outer s H vs Q E hr ⟨i, hp, hc, q⟩ => ?_)
  obtain ⟨ps, qs⟩ := i
  obtain ⟨v0, v1, rfl, h0, h1⟩ := PP.two hp
  dsimp only at h0 h1 hc
  refine ⟨_, (pss_one (ps_ret (pe_cmpR (kx_eqET K hr.units0) (pe_mt (Met_rows_lacking T) hr (by decide) (pv 0) (pa_cons (pv 1) pa_nil)) (pe_tup pa_nil) (nomark _)))), ?_⟩
  exact s_ret (EvR.is (ev_eqET (er_meth (ps := ps) (qs := [RHeap (CH K) qs]) (ps, qs) (er_var h0) (ea1 (er_var h1)) (fun _ => rfl) (fun H v vs g1 g2 => ⟨g1, by obtain ⟨a, rfl, h3⟩ := g2.one; exact ⟨h3, True.intro⟩⟩) hc) (er_tup ea_nil (by decide))) (by rw [map_isEmpty])) q
end
end K43
set_option Elab.async false
set_option linter.all false
set_option maxRecDepth 100000
set_option maxHeartbeats 4000000
/-! # KDF: Heap(..), sums of gifts, what wants let -/
namespace K43
open PySem PySem.Spec PyProof.Rows L2 K43S
open C8 (Cal Mak Met pe_c pe_mk pe_mt pe_mt0)
section
variable {P : Program} {w : World} {K : PySem.W.Frag} {mg : Str → Option Value} {base : Heap}
-- slots: 0 self, 1 rows, 2 counts (cell), 3 form, 4 shade
abbrev N_Heap_init : List Str := ["self", "rows", "counts", "form", "shade"]
theorem sc_Heap_init : FnScope N_Heap_init ["self", "rows"] (defScope s_Heap_init) := ⟨rfl, rfl, rfl, by decide +kernel, rfl, by decide +kernel, by decide +kernel⟩
def spInit (C : Addr) : Sp := fun vs H Q _ => ∃ (a dx : Addr) (v1 : V) (rows : List Prt), vs = [.ref a, v1] ∧ H a = some (.ins C dx []) ∧ TupOf RPrt rows H v1 ∧ rows.length ≤ 10000 ∧
  ∀ vp H1, Same H H1 → TupOf RPrt (partsOf rows) H1 vp → Q .non (upd H1 a (.ins C dx [("parts", vp)]))
theorem s_fldN {K : PySem.W.Frag} {σ : L2.St} {H : Hp} {ta tv : TE} {D : Ends} {R : Pr} {f : Str} {a C dx : Addr} [MX R] (hv : EvR tv σ H R) (hx : EvR ta σ H (IsV (.ref a))) (ha : H a = some (.ins C dx [])) (hc : Cls K C) (hn : NoAttr K C f) (k : ∀ v H1, Same H H1 → R H1 v → D.nx σ (upd H1 a (.ins C dx [(f, v)]))) : sFld K ta tv f D σ H :=
  hv H (Same.refl H) _ fun v H1 e1 r1 => hx H1 e1 _ fun x H2 e2 r2 => ⟨a, C, dx, [], r2, (e1.trans e2) a _ ha, hc, hn, by decide, k v H2 (e1.trans e2) (MX.mx e2 r1)⟩
theorem PP.heap {α : Type} {R : α → Pr} {H H' : Hp} (w : ∀ x v, R x H v → R x H' v) : ∀ {xs : List α} {vs : List V}, PP H vs (xs.map R) → PP H' vs (xs.map R)
  | [], [], h => h
  | _ :: _, _ :: _, ⟨h1, h2⟩ => ⟨w _ _ h1, PP.heap w h2⟩
theorem srtK_mem {α : Type} {k : α → PK} {l : List α} {x : α} : x ∈ srtK k l ↔ x ∈ l := (srtK_perm k l).mem_iff
theorem Mak_Heap (T : Tx w K mg) : Mak P w K mg base 2 "Heap" (CH K) (spInit (CH K)) [] := by
  refine mk_makD 2 1 T.mkH T.g_Heap T.f_Heap_init sc_Heap_init (by simp) rfl (fun _ _ _ _ _ _ _ us its hl hl2 => match us, hl, its, hl2 with | [_, _], _, [_], _ => ⟨_, rfl, rfl⟩) (fun vs H Q E ⟨_, _, _, _, h, _⟩ => by rw [h]; rfl) (fun cdv A outer s H vs Q E hr ⟨a, dx, v1, rows, hv, ha, h1, hlen, q⟩ => ?_)
  subst hv
  have hfew := countUp_len rows
  refine ⟨_, (pss_cons (ps_set (i := 2) sc_Heap_init.nd rfl (.inr rfl) (pe_c (ok_counted T) hr (by decide) rfl (pa_cons (pe_ifExp (pt_cmp (pc_isN (pv 1))) (pe_tup pa_nil) (pv 1)) pa_nil)))
    (pss_one (ps_fld (pv 0) (pe_callTy (T := "tuple") (kx_tuple K) (by rfl) T.b_tuple (by decide +kernel) (pa_cons (pe_lc (own := [("form", 3), ("shade", 4)]) (g := gTup K 2 (gCons (gName 3) (gCons (gName 4) gNil))) (by rfl) sc_Heap_init.nd (kx_pi_list K (pe_callB (id := "sorted") (kr_sortedDT rfl) (by rfl) T.b_sorted (by decide +kernel) (pa_cons (pv 2) pa_nil))) (blkOk_by (N := N_Heap_init) (sc := defScope s_Heap_init) (by decide +kernel)) (fun _ _ _ _ _ => (kx_tup K (by rfl) (pgs_cons (pg_name (i := 3) sc_Heap_init.nd rfl (.inl rfl)) (pgs_cons (pg_name (i := 4) sc_Heap_init.nd rfl (.inl rfl)) pgs_nil)))) (fun _ _ _ _ _ => pts_nil) (fun _ _ _ _ _ => (pe_tup (pa_cons (pv 3) (pa_cons (pv 4) (pa_cons (pe_dget (hu_of hr) (pv 2) (pe_tup (pa_cons (pv 3) (pa_cons (pv 4) pa_nil))) (fun _ _ => rfl)) pa_nil)))))) pa_nil)) rfl))), ?_⟩
  refine q_set (er_call (ι := List Prt) (A := fun i => [TupOf RPrt i]) (R := fun i => DcT (countUp i)) rows (ea1 (er_if (b := false) (eb_test (er_isNR (R := TupOf RPrt rows) (er_var h1) fun H v ⟨b, _, e, _⟩ => by subst e; rfl)) (fun h => by cases h) fun _ => er_var h1)) hlen) fun vc H1 e1 r1 => ?_
  have hk : ∀ p ∈ srtK pkP ((countUp rows).map (·.1)), ag (countUp rows) p = some (gv (countUp rows) p) := fun p hp => by
    have h2 := ag_isSome.mpr (srtK_mem.mp hp)
    unfold gv
    cases h : ag (countUp rows) p with
    | none => rw [h] at h2; cases h2
    | some c => rfl
  have hl2 : (srtK pkP ((countUp rows).map (·.1))).length ≤ 10000 := by rw [(srtK_perm _ _).length_eq, List.length_map]; omega
  exact s_fldN (ev_tuple (K := K) (er_lcM (RB := RPrt) (fun p : Part => ((p.1, p.2, gv (countUp rows) p) : Prt)) (ei_lstX (ev_sortedDT (er_var r1) (by omega))) (by omega) fun p v H2 hp e2 r => eg_tup2 r fun u1 u2 g1 g2 => ⟨rfl, er_tup (ps := [IsS p.1, IsS p.2, IsI (gv (countUp rows) p)]) (ea_cons (er_var g1) (ea2 (er_var g2) (er_dgetT (er_var (MX.mx e2 r1)) (er_tup (ps := [IsS p.1, IsS p.2]) (ea2 (er_var g1) (er_var g2)) (by simp)) (hk p hp)))) (by simp)⟩)) er_v (e1 a _ ha) T.cl T.nP fun vp H2 e2 r2 => q vp H2 (e1.trans e2) r2
/-- Heap(rows) -/
theorem er_heap {σ : L2.St} {H : Hp} {ta : TE} {rows : List Prt} (ha : EvR ta σ H (TupOf RPrt rows)) (hl : rows.length ≤ 10000) : EvR (tMake (CH K) (spInit (CH K)) [] E0 (tCons ta tNil)) σ H (RHeap (CH K) (partsOf rows)) := fun H1 e Q q =>
  (ea1 ha) H1 e _ fun vs H2 e2 r x dx hx hdx hne => by
    obtain ⟨v1, rfl, r1⟩ := r.one
    have s1 : Same H2 (upd (upd H2 dx (.own x)) x (.ins (CH K) dx [])) := (Same.new hdx).trans (Same.new (by rw [upd_ne (Ne.symm hne)]; exact hx))
    refine ⟨x, dx, v1, rows, rfl, upd_same, MX.mx s1 r1, hl, fun vp H3 e3 r3 => ⟨rfl, ?_⟩⟩
    have hx3 : H3 x = some (.ins (CH K) dx []) := e3 x _ upd_same
    -- x is new: what H2 knew stands
    have s2 : Same H2 (upd H3 x (.ins (CH K) dx [("parts", vp)])) := (s1.trans e3).mut hx
    refine q _ _ (e2.trans s2) ⟨x, dx, vp, rfl, upd_same, ?_⟩
    -- the parts' tuples are no instance
    obtain ⟨b, ws, rfl, h4, h5⟩ := r3
    have ne : ∀ c us, H3 c = some (.tup us) → c ≠ x := fun c us h6 z => by subst z; rw [hx3] at h6; cases h6
    refine ⟨b, ws, rfl, by rw [upd_ne (ne b ws h4)]; exact h4, PP.heap (fun e v ⟨c, us, g1, g2, g3⟩ => ⟨c, us, g1, by rw [upd_ne (ne c us g2)]; exact g2, ?_⟩) h5⟩
    obtain ⟨a1, a2, a3, rfl, k1, k2, k3⟩ := g3.three
    exact ⟨k1, k2, k3, True.intro⟩
-- slots: 0 wants, 1 given, 2 rows, 3 want (cell), 4 gift, 5 shade, 6 many
abbrev N_given_sum : List Str := ["wants", "given", "rows", "want", "gift", "shade", "many"]
theorem sc_given_sum : FnScope N_given_sum ["wants", "given"] (defScope s_given_sum) := ⟨rfl, rfl, rfl, by decide +kernel, rfl, by decide +kernel, by decide +kernel⟩
/-- the rows of what is given -/
def givRows (p : Want × List (Str × Int)) : List Prt := p.2.map fun g => (p.1.form, g.1, g.2)
def givenRows (wants : List Want) (given : List (List (Str × Int))) : List Prt := ((wants.zip given).map givRows).flatten
abbrev RGift (l : List (Str × Int)) : Pr := TupOf RGi l
abbrev RGiven (g : List (List (Str × Int))) : Pr := TupOf RGift g
abbrev spGivenSum (C : Addr) : Sp := PSp (ι := List Want × List (List (Str × Int))) (fun i => [RWay i.1, RGiven i.2]) (fun i => (givenRows i.1 i.2).length ≤ 10000 ∧ ∀ l ∈ i.2, l.length ≤ 10000) fun i => RHeap C (partsOf (givenRows i.1 i.2))
theorem ok_given_sum (T : Tx w K mg) : Cal P w K mg base 4 "given_sum" (spGivenSum (CH K)) [] := by
  refine mk_pure T.f_given_sum T.g_given_sum sc_given_sum (fun _ _ _ _ _ _ us hl => match us, hl with | [_, _], _ => rfl) (fun _ => rfl) (fun cdv A outer s H vs Q E i hr hp hc q => ?_)
  obtain ⟨v0, v1, rfl, h0, h1⟩ := PP.two hp
  obtain ⟨wants, given⟩ := i
  obtain ⟨hlen, hgl⟩ := hc
  dsimp only at hlen hgl h0 h1
  refine ⟨_, (pss_cons (ps_set (i := 2) sc_given_sum.nd rfl (.inl rfl) (pe_lst pa_nil))
    (pss_cons (ps_for PassesOwn.never rfl (kx_pi_zip K rfl T.b_zip (pa_cons (pv 0) (pa_cons (pv 1) pa_nil))) (kx_tup K (by rfl) (pgs_cons (pg_name (i := 3) sc_given_sum.nd rfl (.inr rfl)) (pgs_cons (pg_name (i := 4) sc_given_sum.nd rfl (.inl rfl)) pgs_nil)))
      (pss_one (ps_expr (kx_bm K PySem.F.plainAttrs_list PySem.F.slot_list_extend PySem.F.type_list_extend mt_extend (pv 2) (pa_cons (pe_lc (own := [("shade", 5), ("many", 6)]) (g := gTup K 2 (gCons (gName 5) (gCons (gName 6) gNil))) (by rfl) sc_given_sum.nd (kx_pi_tup K (pv 4)) (blkOk_by (N := N_given_sum) (sc := defScope s_given_sum) (by decide +kernel)) (fun _ _ _ _ _ => (kx_tup K (by rfl) (pgs_cons (pg_name (i := 5) sc_given_sum.nd rfl (.inl rfl)) (pgs_cons (pg_name (i := 6) sc_given_sum.nd rfl (.inl rfl)) pgs_nil)))) (fun _ _ _ _ _ => pts_nil) (fun _ _ _ _ _ => (pe_tup (pa_cons (pe_ix (kx_ixT K) (pv 3) pe_int (fun _ _ => rfl)) (pa_cons (pv 5) (pa_cons (pv 6) pa_nil)))))) pa_nil)))))
    (pss_one (ps_ret (pe_mk (Mak_Heap T) hr (by decide) rfl (pa_cons (pe_callTy (T := "tuple") (kx_tuple K) (by rfl) T.b_tuple (by decide +kernel) (pa_cons (pv 2) pa_nil)) pa_nil)))))), ?_⟩
  refine q_nil fun l hl => ?_
  have e0 := Same.new (o := .lst []) hl
  refine q_for (ei_zipT (ea2 (er_var (MX.mx e0 h0)) (er_var (MX.mx e0 h1)))) (fun j σ' Hc => Same H Hc ∧ (∃ v3 v4 v5 v6, σ' = [some v0, some v1, some (.ref l), v3, v4, v5, v6]) ∧ ∃ acc, Hc l = some (.lst acc) ∧ PP Hc acc ((((wants.zip given).take j).map givRows).flatten.map RPrt))
    (fun H2 e2 => ⟨e0.trans e2, ⟨_, _, _, _, rfl⟩, [], e2 l _ upd_same, True.intro⟩) ?_ ?_
  · rintro j ⟨want, gift⟩ v σ' Hc Hx N hx f ⟨s, ⟨v3, v4, v5, v6, rfl⟩, acc, hla, hacc⟩ sx r n
    have el : (((wants.zip given).take j).map givRows).flatten.length + (givRows (want, gift)).length ≤ (givenRows wants given).length := flatten_at_le (f := givRows) hx
    have hal := hacc.length
    rw [List.length_map] at hal
    have hgm : gift ∈ given := (List.of_mem_zip (List.mem_of_getElem? hx)).2
    refine eg_tup2 r fun u1 u2 r1 r2 => ?_
    refine s_ext (ps := (givRows (want, gift)).map RPrt) (sx l _ hla) (er_lcM (RB := RPrt) (fun g : Str × Int => (want.form, g.1, g.2)) (ei_tup (RA := RGi) (xs := gift) (er_var r2)).same (show gift.length ≤ 100000 by have := hgl _ hgm; omega) fun g v H3 hg e3 r3 => eg_tup2 r3 fun u5 u6 g5 g6 => ⟨rfl, er_tup (ps := [IsS want.form, IsS g.1, IsI g.2]) (ea_cons (er_ixT (er_var (MX.mx e3 r1)) er_c) (ea2 (er_var g5) (er_var g6))) (by simp)⟩) (by rw [List.length_map]; omega) fun ws H3 e3 r3 => ?_
    have fk : FK H3 (upd H3 l (.lst (acc ++ ws))) := FK.upd ((sx.trans e3) l _ hla) fun z => z
    refine n _ _ ((Same.fk e3).trans fk) ⟨((s.trans sx).trans e3).mut hl, ⟨_, _, _, _, rfl⟩, acc ++ ws, upd_same, ?_⟩
    exact pp_flat (f := givRows) hx (MFs.mf ((Same.fk (sx.trans e3)).trans fk) hacc) (MFs.mf fk r3)
  · rintro σ' Hc f ⟨s, ⟨v3, v4, v5, v6, rfl⟩, acc, hla, hacc⟩
    rw [List.take_length] at hacc
    exact s_ret (er_heap (ev_tuple (er_var (R := LstOf RPrt (givenRows wants given)) ⟨l, acc, rfl, hla, hacc⟩)) hlen) fun v H2 e2 r2 => q v H2 (s.trans e2) r2
-- slots: 0 heap, 1 wants, 2 given
abbrev N_serves : List Str := ["heap", "wants", "given"]
theorem sc_serves : FnScope N_serves ["heap", "wants", "given"] (defScope s_serves) := ⟨rfl, rfl, rfl, by decide +kernel, rfl, by decide +kernel, by decide +kernel⟩
abbrev spServes (C : Addr) : Sp := PSp (ι := List Prt × List Want × List (List (Str × Int))) (fun i => [RHeap C i.1, RWay i.2.1, RGiven i.2.2]) (fun i => i.1.length ≤ 10000 ∧ (givenRows i.2.1 i.2.2).length ≤ 10000 ∧ ∀ l ∈ i.2.2, l.length ≤ 10000) fun i => IsB (lacking i.1 (partsOf (givenRows i.2.1 i.2.2))).isEmpty
theorem partsOf_len (rows : List Prt) : (partsOf rows).length ≤ rows.length := by
  unfold partsOf
  rw [List.length_map, (srtK_perm _ _).length_eq, List.length_map]
  exact countUp_len rows
theorem ok_serves (T : Tx w K mg) : Cal P w K mg base 5 "serves" (spServes (CH K)) [] := by
  refine mk_pure T.f_serves T.g_serves sc_serves (fun _ _ _ _ _ _ us hl => match us, hl with | [_, _, _], _ => rfl) (fun _ => rfl) (fun cdv A outer s H vs Q E i hr hp hc q => ?_)
  obtain ⟨v0, v1, v2, rfl, h0, h1, h2⟩ := PP.three hp
  obtain ⟨ps, wants, given⟩ := i
  obtain ⟨hl1, hl2, hl3⟩ := hc
  dsimp only at hl1 hl2 hl3 h0 h1 h2
  refine ⟨_, (pss_one (ps_ret (pe_mt (Met_holds T) hr (by decide) (pv 0) (pa_cons (pe_c (ok_given_sum T) hr (by decide) rfl (pa_cons (pv 1) (pa_cons (pv 2) pa_nil))) pa_nil)))), ?_⟩
  exact s_ret (er_meth (ps := ps) (qs := [RHeap (CH K) (partsOf (givenRows wants given))]) (ps, partsOf (givenRows wants given)) (er_var h0) (ea1 (er_call (wants, given) (ea2 (er_var h1) (er_var h2)) ⟨hl2, hl3⟩)) (fun _ => rfl) (fun H v vs g1 g2 => ⟨g1, by obtain ⟨a, rfl, h3⟩ := g2.one; exact ⟨h3, True.intro⟩⟩) ⟨hl1, Nat.le_trans (partsOf_len _) hl2⟩) q
end
end K43
set_option Elab.async false
set_option linter.all false
set_option maxRecDepth 100000
set_option maxHeartbeats 4000000
/-! # KDG: wanted, there, what is left, what a want lets -/
namespace K43
open PySem PySem.Spec PyProof.Rows L2 K43S
open C8 (Cal Mak Met pe_c pe_mk pe_mt pe_mt0)
section
variable {P : Program} {w : World} {K : PySem.W.Frag} {mg : Str → Option Value} {base : Heap}
theorem inV_str (s : Str) (ss : List Str) : inV (.str s) (ss.map V.str) = ss.contains s := by
  unfold inV
  rw [List.any_map, List.contains_eq_any_beq]
  refine congrArg (fun f => ss.any f) (funext fun x => ?_)
  show (x == s) = (s == x)
  exact BEq.comm
/-- the shades of a want are among these -/
def wSub (S : List Str) (x : Want) : Bool := !x.shades.isEmpty && x.shades.all fun s => S.contains s
def wIn (form : Str) (o : Option (List Str)) (x : Want) : Bool := decide (x.form = form) && (match o with | none => true | some S => wSub S x)
def wantedP (wants : List Want) (form : Str) (o : Option (List Str)) : Int := ((wants.filter (wIn form o)).map (·.many)).sum
abbrev RShades (o : Option (List Str)) : Pr := OptP (fun S => TupOf RStr S) o
theorem rsh_non {o : Option (List Str)} {H : Hp} {v : V} (h : RShades o H v) : decide (v = .non) = o.isNone := by
  cases o with
  | none => obtain rfl : v = .non := h; rfl
  | some S => obtain ⟨a, _, rfl, _⟩ := h; rfl
-- slots: 0 wants, 1 form (cell), 2 shades (cell), 3 some, 4 want, 5 shade
abbrev N_wanted : List Str := ["wants", "form", "shades", "some", "want", "shade"]
theorem sc_wanted : FnScope N_wanted ["wants", "form", "shades"] (defScope s_wanted) := ⟨rfl, rfl, rfl, by decide +kernel, rfl, by decide +kernel, by decide +kernel⟩
abbrev spWanted : Sp := PSp (ι := List Want × Str × Option (List Str)) (fun i => [RWay i.1, IsS i.2.1, RShades i.2.2]) (fun i => i.1.length ≤ 10000 ∧ (∀ x ∈ i.1, x.shades.length ≤ 10000)) fun i => IsI (wantedP i.1 i.2.1 i.2.2)
theorem ok_wanted (T : Tx w K mg) : Cal P w K mg base 1 "wanted" spWanted [] := by
  refine mk_pure T.f_wanted T.g_wanted sc_wanted (fun _ _ _ _ _ _ us hl => match us, hl with | [_, _, _], _ => rfl) (fun _ => rfl) (fun cdv A outer s H vs Q E i hr hp hc q => ?_)
  obtain ⟨v0, v1, v2, rfl, h0, h1, h2⟩ := PP.three hp
  obtain ⟨wants, form, o⟩ := i
  obtain ⟨hl, hsl⟩ := hc
  dsimp only at hl hsl h0 h1 h2
  refine ⟨_, (pss_cons (ps_setLc (i := 3) (own := [("want", 4)]) (g := gName 4) (by rfl) sc_wanted.nd rfl rfl (sw_true rfl rfl rfl (by decide +kernel)) (kx_pi_tup K (pv 0)) (blkOk_by (N := N_wanted) (sc := defScope s_wanted) (by decide +kernel)) (fun _ _ _ _ _ => (pg_name (i := 4) sc_wanted.nd rfl (.inl rfl))) (fun _ _ _ _ _ => pts_one (pt_cmpR op_eq (pe_ix (kx_ixT K) (pv 4) pe_int (fun _ _ => rfl)) (pv 1) (nomark _))) (fun _ _ _ _ _ => (pv 4)))
    (pss_cons (ps_if (pt_cmp (pc_notN (pv 2))) (pss_one (ps_setLc (i := 3) (own := [("want", 4)]) (g := gName 4) (by rfl) sc_wanted.nd rfl rfl (sw_true rfl rfl rfl (by decide +kernel)) (kx_pi_list K (pv 3)) (blkOk_by (N := N_wanted) (sc := defScope s_wanted) (by decide +kernel)) (fun _ _ _ _ _ => (pg_name (i := 4) sc_wanted.nd rfl (.inl rfl))) (fun _ _ _ _ _ => pts_one (PW.pt (pw_and (pt_cmpR (kx_neET K hr.units0) (pe_ix (kx_ixT K) (pv 4) pe_int (fun _ _ => rfl)) (pe_tup pa_nil) (nomark _)) (pw_and1 (pt_val (pe_callB (id := "all") (kx_all K rfl) (by rfl) T.b_all (by decide +kernel) (pa_cons (pe_lc (own := [("shade", 5)]) (g := gName 5) (by rfl) sc_wanted.nd (kx_pi_tup K (pe_ix (kx_ixT K) (pv 4) pe_int (fun _ _ => rfl))) (blkOk_by (by rfl)) (fun _ _ _ _ _ => (pg_name (i := 5) sc_wanted.nd rfl (.inl rfl))) (fun _ _ _ _ _ => pts_nil) (fun _ _ _ _ _ => (pe_cmpR (kx_in K) (pv 5) (pv 2) (by rfl)))) pa_nil))))))) (fun _ _ _ _ _ => (pv 4)))) pss_nil)
    (pss_one (ps_ret (pe_callB (id := "sum") (kx_sum K rfl) (by rfl) T.b_sum (by decide +kernel) (pa_cons (pe_lc (own := [("want", 4)]) (g := gName 4) (by rfl) sc_wanted.nd (kx_pi_list K (pv 3)) (blkOk_by (N := N_wanted) (sc := defScope s_wanted) (by decide +kernel)) (fun _ _ _ _ _ => (pg_name (i := 4) sc_wanted.nd rfl (.inl rfl))) (fun _ _ _ _ _ => pts_nil) (fun _ _ _ _ _ => (pe_ix (kx_ixT K) (pv 4) pe_int (fun _ _ => rfl)))) pa_nil)))))), ?_⟩
  refine q_set (er_lc (RB := RWant) (fun x : Want => decide (x.form = form)) (fun x => x) (ei_tup (er_var h0)).same (by omega) fun x v H1 hx e1 r => eg_name ⟨rfl, EvB.is (eb_test (er_eq (x := .str x.form) (y := .str form) (er_ixT (er_var r) er_c) (er_var (MX.mx e1 h1)) rfl)) (by simp), fun _ => er_var r⟩) fun vs H1 e1 r1 => ?_
  have hf : ((wants.filter fun x => decide (x.form = form)).map fun x => x) = wants.filter fun x => decide (x.form = form) := List.map_id' _
  rw [hf] at r1
  have hfl := List.length_filter_le (fun x : Want => decide (x.form = form)) wants
  refine q_when (eb_test (er_notNR (er_var (MX.mx e1 h2)) fun H v h => rsh_non h)) (fun hb H2 e2 => ?_) fun hb H2 e2 => ?_
  · cases o with
    | none => simp at hb
    | some S =>
      refine s_set (er_lc (RB := RWant) (fun x : Want => wSub S x) (fun x => x) (ei_lstX (er_var (MX.mx e2 r1))) (by omega) fun x v H3 hx e3 r => eg_name ⟨rfl, ?_, fun _ => er_var r⟩) fun vt H3 e3 r3 => ?_
      · have hxs : x.shades.length ≤ 10000 := hsl x (List.mem_filter.mp hx).1
        refine EvB.is (eb_and (a := !x.shades.isEmpty) (eb_test (EvR.is (ev_neET (er_ixT (er_var r) er_c) (er_tup ea_nil (by decide))) (by rw [map_isEmpty]))) fun _ => eb_B (er_all (er_lcM (RB := IsB) (fun s : Str => S.contains s) (ei_tup (RA := RStr) (xs := x.shades) (er_ixT (er_var r) er_c)).same (by omega) fun s v H4 hs e4 r4 => eg_name ⟨rfl, EvR.is (er_inT (g := V.str) (xs := S) (er_var r4) (er_var (MX.mx ((e1.trans e2).trans (e3.trans e4)) h2)) rfl (fun _ => rfl)) (congrArg V.bl (inV_str _ _))⟩))) ?_
        unfold wSub
        rw [List.all_map]
        rfl
      · rw [List.map_id'] at r3
        have hg : ((wants.filter fun x => decide (x.form = form)).filter fun x => wSub S x) = wants.filter (wIn form (some S)) := by
          rw [List.filter_filter]
          refine List.filter_congr fun x _ => ?_
          unfold wIn
          exact Bool.and_comm _ _
        rw [hg] at r3
        have hgl := List.length_filter_le (wIn form (some S)) wants
        exact s_ret (er_sum (er_lcM (RB := IsI) (fun x : Want => x.many) (ei_lstX (er_var r3)) (by omega) fun x v H4 hx e4 r => eg_name ⟨rfl, er_ixT (er_var r) er_c⟩)) fun v H4 e4 r4 => q v H4 (e1.trans (e2.trans (e3.trans e4))) r4
  · cases o with
    | some S => simp at hb
    | none =>
      have hg : (wants.filter fun x => decide (x.form = form)) = wants.filter (wIn form none) := List.filter_congr fun x _ => by unfold wIn; simp
      rw [hg] at r1
      have hgl := List.length_filter_le (wIn form none) wants
      exact s_ret (er_sum (er_lcM (RB := IsI) (fun x : Want => x.many) (ei_lstX (er_var (MX.mx e2 r1))) (by omega) fun x v H4 hx e4 r => eg_name ⟨rfl, er_ixT (er_var r) er_c⟩)) fun v H4 e4 r4 => q v H4 (e1.trans (e2.trans e4)) r4
-- slots: 0 heap (cell), 1 form (cell), 2 shades, 3 shade
abbrev N_there : List Str := ["heap", "form", "shades", "shade"]
theorem sc_there : FnScope N_there ["heap", "form", "shades"] (defScope s_there) := ⟨rfl, rfl, rfl, by decide +kernel, rfl, by decide +kernel, by decide +kernel⟩
def thereP (ps : List Prt) (form : Str) : Option (List Str) → Int
  | none => manyP ps form none
  | some S => (S.map fun s => manyP ps form (some s)).sum
abbrev spThere (C : Addr) : Sp := PSp (ι := List Prt × Str × Option (List Str)) (fun i => [RHeap C i.1, IsS i.2.1, RShades i.2.2]) (fun i => i.1.length ≤ 10000 ∧ (∀ S, i.2.2 = some S → S.length ≤ 10000)) fun i => IsI (thereP i.1 i.2.1 i.2.2)
theorem ok_there (T : Tx w K mg) : Cal P w K mg base 2 "there" (spThere (CH K)) [] := by
  refine mk_pure T.f_there T.g_there sc_there (fun _ _ _ _ _ _ us hl => match us, hl with | [_, _, _], _ => rfl) (fun _ => rfl) (fun cdv A outer s H vs Q E i hr hp hc q => ?_)
  obtain ⟨v0, v1, v2, rfl, h0, h1, h2⟩ := PP.three hp
  obtain ⟨ps, form, o⟩ := i
  obtain ⟨hl, hsl⟩ := hc
  dsimp only at hl hsl h0 h1 h2
  refine ⟨_, (pss_one (ps_ret (pe_ifExp (pt_cmp (pc_isN (pv 2))) (pe_mt (Met_many1 T) hr (by decide) (pv 0) (pa_cons (pv 1) pa_nil)) (pe_callB (id := "sum") (kx_sum K rfl) (by rfl) T.b_sum (by decide +kernel) (pa_cons (pe_lc (own := [("shade", 3)]) (g := gName 3) (by rfl) sc_there.nd (kx_pi_tup K (pv 2)) (blkOk_by (N := N_there) (sc := defScope s_there) (by decide +kernel)) (fun _ _ _ _ _ => (pg_name (i := 3) sc_there.nd rfl (.inl rfl))) (fun _ _ _ _ _ => pts_nil) (fun _ _ _ _ _ => (pe_mt (Met_many T) hr (by decide) (pv 0) (pa_cons (pv 1) (pa_cons (pv 3) pa_nil))))) pa_nil))))), ?_⟩
  refine s_ret (er_if (eb_test (er_isNR (er_var h2) fun H v h => rsh_non h)) (fun hb => ?_) fun hb => ?_) q
  · cases o with
    | some S => simp at hb
    | none => exact er_many1 (er_var h0) (er_var h1) hl
  · cases o with
    | none => simp at hb
    | some S => exact er_sum (er_lcM (RB := IsI) (fun s : Str => manyP ps form (some s)) (ei_tup (RA := RStr) (xs := S) (er_var h2)).same (by have := hsl S rfl; omega) fun s v H1 hs e1 r => eg_name ⟨rfl, er_many (er_var (MX.mx e1 h0)) (er_var (MX.mx e1 h1)) (er_var r) hl⟩)
def leftOf (ps : List Prt) : List (Part × Int) := ps.foldl (fun g e => ap g (kP e) e.2.2) []
theorem leftOf_take {rows : List Prt} {i : Nat} {r : Prt} (h : rows[i]? = some r) : leftOf (rows.take (i + 1)) = ap (leftOf (rows.take i)) (kP r) r.2.2 := by
  unfold leftOf
  rw [take_snoc h, List.foldl_append]
  rfl
theorem leftOf_len (rows : List Prt) : (leftOf rows).length ≤ rows.length := by
  have key : ∀ (l : List Prt) (g : List (Part × Int)), (l.foldl (fun g e => ap g (kP e) e.2.2) g).length ≤ g.length + l.length := by
    intro l
    induction l with
    | nil => intro g; exact Nat.le_refl _
    | cons r l ih =>
      intro g
      have := ih (ap g (kP r) r.2.2)
      have h2 := ap_len g (kP r) r.2.2
      rw [List.foldl_cons, List.length_cons]
      omega
  have := key rows []
  rw [List.length_nil, Nat.zero_add] at this
  exact this
theorem er_rows {σ : L2.St} {H : Hp} {ta : TE} {ps : List Prt} (ha : EvR ta σ H (RHeap (CH K) ps)) : EvR (tMeth (CH K) "rows" (spRows (CH K)) [] E0 ta tNil) σ H (TupOf RPrt ps) :=
  er_meth (ps := ps) (qs := []) ps ha ea_nil (fun _ => rfl) (fun H v vs h1 h2 => ⟨h1, by rw [h2.nil]; exact True.intro⟩) True.intro
-- slots: 0 heap, 1 want (cell), 2 shade, 3 form, 4 many
abbrev N_lets : List Str := ["heap", "want", "shade", "form", "many"]
theorem sc_lets : FnScope N_lets ["heap", "want"] (defScope s_lets) := ⟨rfl, rfl, rfl, by decide +kernel, rfl, by decide +kernel, by decide +kernel⟩
def letsP (ps : List Prt) (x : Want) : List Part := if x.shades.isEmpty then (ps.filter fun e => decide (e.1 = x.form)).map kP else x.shades.map fun s => (x.form, s)
abbrev spLets (C : Addr) : Sp := PSp (ι := List Prt × Want) (fun i => [RHeap C i.1, RWant i.2]) (fun i => i.1.length ≤ 10000 ∧ i.2.shades.length ≤ 10000) fun i => LstOf RPart (letsP i.1 i.2)
theorem ok_lets (T : Tx w K mg) : Cal P w K mg base 2 "lets" (spLets (CH K)) [] := by
  refine mk_pure T.f_lets T.g_lets sc_lets (fun _ _ _ _ _ _ us hl => match us, hl with | [_, _], _ => rfl) (fun _ => rfl) (fun cdv A outer s H vs Q E i hr hp hc q => ?_)
  obtain ⟨v0, v1, rfl, h0, h1⟩ := PP.two hp
  obtain ⟨ps, x⟩ := i
  obtain ⟨hl, hsl⟩ := hc
  dsimp only at hl hsl h0 h1
  refine ⟨_, (pss_cons (ps_if (pt_cmpR (kx_neET K hr.units0) (pe_ix (kx_ixT K) (pv 1) pe_int (fun _ _ => rfl)) (pe_tup pa_nil) (nomark _)) (pss_one (ps_ret (pe_lc (own := [("shade", 2)]) (g := gName 2) (by rfl) sc_lets.nd (kx_pi_tup K (pe_ix (kx_ixT K) (pv 1) pe_int (fun _ _ => rfl))) (blkOk_by (N := N_lets) (sc := defScope s_lets) (by decide +kernel)) (fun _ _ _ _ _ => (pg_name (i := 2) sc_lets.nd rfl (.inl rfl))) (fun _ _ _ _ _ => pts_nil) (fun _ _ _ _ _ => (pe_tup (pa_cons (pe_ix (kx_ixT K) (pv 1) pe_int (fun _ _ => rfl)) (pa_cons (pv 2) pa_nil))))))) pss_nil)
    (pss_one (ps_ret (pe_lc (own := [("form", 3), ("shade", 2), ("many", 4)]) (g := gTup K 3 (gCons (gName 3) (gCons (gName 2) (gCons (gName 4) gNil)))) (by rfl) sc_lets.nd (kx_pi_tup K (pe_mt0 (Met_rows T) hr (by decide) (pv 0))) (blkOk_by (N := N_lets) (sc := defScope s_lets) (by decide +kernel)) (fun _ _ _ _ _ => (kx_tup K (by rfl) (pgs_cons (pg_name (i := 3) sc_lets.nd rfl (.inl rfl)) (pgs_cons (pg_name (i := 2) sc_lets.nd rfl (.inl rfl)) (pgs_cons (pg_name (i := 4) sc_lets.nd rfl (.inl rfl)) pgs_nil))))) (fun _ _ _ _ _ => pts_one (pt_cmpR op_eq (pv 3) (pe_ix (kx_ixT K) (pv 1) pe_int (fun _ _ => rfl)) (nomark _))) (fun _ _ _ _ _ => (pe_tup (pa_cons (pv 3) (pa_cons (pv 2) pa_nil)))))))), ?_⟩
  refine q_when (b := !x.shades.isEmpty) (eb_test (EvR.is (ev_neET (er_ixT (er_var h1) er_c) (er_tup ea_nil (by decide))) (by rw [map_isEmpty]))) (fun hb H1 e1 => ?_) fun hb H1 e1 => ?_
  · have he : x.shades.isEmpty = false := by simpa using hb
    refine s_ret (er_lcM (RB := RPart) (fun s : Str => ((x.form, s) : Part)) (ei_tup (RA := RStr) (xs := x.shades) (er_ixT (er_var (MX.mx e1 h1)) er_c)).same (by omega) fun s v H2 hs e2 r => eg_name ⟨rfl, er_tup (ps := [IsS x.form, IsS s]) (ea2 (er_ixT (er_var (MX.mx (e1.trans e2) h1)) er_c) (er_var r)) (by simp)⟩) fun v H2 e2 r2 => q v H2 (e1.trans e2) (by unfold letsP; simp only [he, Bool.false_eq_true, if_false]; exact r2)
  · have he : x.shades.isEmpty = true := by simpa using hb
    refine s_ret (er_lc (RB := RPart) (fun e : Prt => decide (e.1 = x.form)) kP (ei_tup (er_rows (er_var (MX.mx e1 h0)))).same (by omega) fun e v H2 hs e2 r => eg_tup3 r fun u1 u2 u3 r1 r2 r3 => ⟨rfl, EvB.is (eb_test (er_eq (x := .str e.1) (y := .str x.form) (er_var r1) (er_ixT (er_var (MX.mx (e1.trans e2) h1)) er_c) rfl)) (by simp), fun _ => er_tup (ps := [IsS e.1, IsS e.2.1]) (ea2 (er_var r1) (er_var r2)) (by simp)⟩) fun v H2 e2 r2 => q v H2 (e1.trans e2) (by unfold letsP; simp only [he, if_true]; exact r2)
end
end K43
set_option Elab.async false
set_option linter.all false
set_option maxRecDepth 100000
set_option maxHeartbeats 4000000
/-! # KB6: what is new; lists of new things -/
namespace K43
open PySem PySem.Spec PyProof.Rows L2
/-- not known to H -/
def NewTo (H : Hp) (v : V) : Prop := ∀ a, v = .ref a → H a = none
theorem NewTo.back {H H1 : Hp} {v : V} (e : Same H H1) (h : NewTo H1 v) : NewTo H v := fun a ha => by
  cases q : H a with
  | none => rfl
  | some o => have := e a o q; rw [h a ha] at this; cases this
/-- a promise without effect, its answer new -/
def PSpN {ι : Type} (A : ι → List Pr) (C : ι → Prop) (R : ι → Pr) : Sp := fun vs H Q _ => ∃ i, PP H vs (A i) ∧ C i ∧ ∀ v H', Same H H' → R i H' v → NewTo H v → Q v H'
section
variable {K : PySem.W.Frag} {σ : L2.St} {H H' : Hp} {ta tb te tx : TE} {t u : TT} {R S : Pr} {x y : V}
/-- with the answer new -/
def EvN (te : TE) (σ : L2.St) (H : Hp) (R : Pr) : Prop := ∀ H1, Same H H1 → ∀ Q : VK, (∀ v H2, Same H1 H2 → R H2 v → NewTo H1 v → Q v H2) → te σ H1 Q
theorem EvN.ev (h : EvN te σ H R) : EvR te σ H R := fun H1 e Q q => h H1 e Q fun v H2 e2 r _ => q v H2 e2 r
theorem EvN.mono (h : EvN te σ H R) (e : Same H H') : EvN te σ H' R := fun H1 a Q q => h H1 (e.trans a) Q q
theorem en_call {ι : Type} {A : ι → List Pr} {C : ι → Prop} {R : ι → Pr} {E : XK} {ts : TA} (i : ι) (ha : EvA ts σ H (A i)) (hc : C i) : EvN (tCall (PSpN A C R) [] E ts) σ H (R i) := fun H1 e Q q =>
  ha H1 e _ fun vs H2 e2 r => ⟨i, by rw [List.append_nil]; exact r, hc, fun v H3 e3 r3 nw => q v H3 (e2.trans e3) r3 (nw.back e2)⟩
theorem en_dnewT : EvN tDNewT σ H (At (.dT [])) := fun H1 e Q q p hp => q _ _ (Same.new hp) ⟨p, rfl, upd_same⟩ (fun a ha => by cases ha; exact hp)
theorem en_lc {α β : Type} {RA : α → Pr} {RB : β → Pr} [∀ y, MF (RB y)] {wi : TI} {g : TG} {vs : List Nat} {xs : List α} (c : α → Bool) (f : α → β) (hi : EvI Same wi σ H xs RA) (hz : xs.length ≤ 100000)
    (hb : ∀ x v H1, x ∈ xs → Same H H1 → RA x H1 v → EvG g v (wipe σ vs) H1 fun σ2 => wipe σ2 vs = wipe σ vs ∧ EvB t σ2 H1 (c x) ∧ (c x = true → EvR te σ2 H1 (RB (f x)))) :
    EvN (tLc wi g t te vs) σ H (LstOf RB ((xs.filter c).map f)) := fun H0 e0 Q q => hi H0 e0 _ fun J H1 G Y e1 w hG hY => fun D hD => by
  refine lc_it w (fun i Hc => Same H1 Hc ∧ ∃ acc, Hc D = some (.lst acc) ∧ acc.length ≤ i ∧ PP Hc acc ((((xs.take i).filter c).map f).map RB)) ⟨Same.new hD, [], upd_same, Nat.le_refl _, True.intro⟩ (fun i Hc _ p => hG Hc p.1) ?_ ?_
  · rintro i v Hc Hx hlt ⟨s1, acc, hD1, hl, ha⟩ hy
    have hx : xs[i]? = some xs[i] := List.getElem?_eq_getElem hlt
    obtain ⟨s2, r⟩ := hY i _ Hc v Hx hx s1 hy
    refine hb xs[i] v Hx (List.getElem_mem hlt) (e0.trans (e1.trans (s1.trans s2))) r _ fun σ2 ⟨hw, hbt, hbe⟩ => ⟨hw, ?_⟩
    refine hbt Hx (Same.refl _) _ fun H3 s3 => ?_
    have ht := take_snoc hx
    cases hc : c xs[i] with
    | true =>
      refine hbe hc H3 s3 _ fun y H4 s4 r4 => ⟨acc, s4 D _ (s3 D _ (s2 D _ hD1)), by rw [sizeLine_eq]; omega, (s1.trans (s2.trans (s3.trans s4))).mut hD, acc ++ [y], upd_same, by rw [List.length_append]; exact Nat.succ_le_succ hl, ?_⟩
      have fk : FK H4 (upd H4 D (.lst (acc ++ [y]))) := FK.upd (s4 D _ (s3 D _ (s2 D _ hD1))) fun z => z
      rw [ht, List.filter_append, List.map_append, List.map_append, List.filter_cons, if_pos hc]
      refine PP.append ?_ ⟨MF.mf fk r4, True.intro⟩
      exact MFs.mf fk (MFs.mf (Same.fk (s2.trans (s3.trans s4))) ha)
    | false =>
      refine ⟨s1.trans (s2.trans s3), acc, s3 D _ (s2 D _ hD1), by omega, ?_⟩
      rw [ht, List.filter_append, List.filter_cons, if_neg (by rw [hc]; decide), List.filter_nil, List.append_nil]
      exact MFs.mf (Same.fk (s2.trans s3)) ha
  · rintro Hc ⟨s1, acc, hD1, hl, ha⟩
    refine q _ Hc (e1.trans s1) ⟨D, acc, rfl, hD1, ?_⟩ (fun a hd => by
      cases hd
      cases z : H0 D with
      | none => rfl
      | some o => have := e1 D o z; rw [hD] at this; cases this)
    rw [List.take_of_length_le (Nat.le_refl _)] at ha
    exact ha
theorem en_lcM {α β : Type} {RA : α → Pr} {RB : β → Pr} [∀ y, MF (RB y)] {wi : TI} {g : TG} {vs : List Nat} {xs : List α} (f : α → β) (hi : EvI Same wi σ H xs RA) (hz : xs.length ≤ 100000)
    (hb : ∀ x v H1, x ∈ xs → Same H H1 → RA x H1 v → EvG g v (wipe σ vs) H1 fun σ2 => wipe σ2 vs = wipe σ vs ∧ EvR te σ2 H1 (RB (f x))) :
    EvN (tLc wi g tYes te vs) σ H (LstOf RB (xs.map f)) := by
  have h := en_lc (t := tYes) (fun _ => true) f hi hz fun x v H1 hx e r Q q => hb x v H1 hx e r Q fun σ2 ⟨h1, h2⟩ => q σ2 ⟨h1, eb_yes, fun _ => h2⟩
  rw [List.filter_eq_self.mpr (fun _ _ => rfl)] at h
  exact h
/-- a list of new things, one for each -/
def NewsP {α : Type} (H0 : Hp) (φ : α → HO) (xs : List α) : Pr := fun H v => ∃ (D : Addr) (as : List Addr), v = .ref D ∧ H D = some (.lst (as.map V.ref)) ∧ H0 D = none ∧ D ∉ as ∧ as.Nodup ∧ as.length = xs.length ∧ (∀ a ∈ as, H0 a = none) ∧ ∀ (i : Nat) a x, as[i]? = some a → xs[i]? = some x → H a = some (φ x)
theorem en_lcAt {α : Type} {RA : α → Pr} {φ : α → HO} {wi : TI} {g : TG} {vs : List Nat} {xs : List α} (hi : EvI Same wi σ H xs RA) (hz : xs.length ≤ 100000)
    (hb : ∀ x v H1, x ∈ xs → Same H H1 → RA x H1 v → EvG g v (wipe σ vs) H1 fun σ2 => wipe σ2 vs = wipe σ vs ∧ EvN te σ2 H1 (At (φ x))) :
    ∀ Q : VK, (∀ v H2, Same H H2 → NewsP H φ xs H2 v → Q v H2) → tLc wi g tYes te vs σ H Q := fun Q q => hi H (Same.refl H) _ fun J H1 G Y e1 w hG hY => fun D hD => by
  have back : ∀ a, H1 a = none → H a = none := fun a ha => by
    cases z : H a with
    | none => rfl
    | some o => have := e1 a o z; rw [ha] at this; cases this
  refine lc_it w (fun i Hc => Same H1 Hc ∧ ∃ as : List Addr, Hc D = some (.lst (as.map V.ref)) ∧ D ∉ as ∧ as.Nodup ∧ as.length = i ∧ (∀ a ∈ as, H1 a = none) ∧ ∀ (j : Nat) a x, as[j]? = some a → xs[j]? = some x → Hc a = some (φ x)) ⟨Same.new hD, [], upd_same, by simp, by simp, rfl, by simp, by simp⟩ (fun i Hc _ p => hG Hc p.1) ?_ ?_
  · rintro i v Hc Hx hlt ⟨s1, as, hD1, hDa, nd, hl, hn, ha⟩ hy
    have hx : xs[i]? = some xs[i] := List.getElem?_eq_getElem hlt
    obtain ⟨s2, r⟩ := hY i _ Hc v Hx hx s1 hy
    refine hb xs[i] v Hx (List.getElem_mem hlt) (e1.trans (s1.trans s2)) r _ fun σ2 ⟨hw, hbe⟩ => ⟨hw, ?_⟩
    show te σ2 Hx _
    refine hbe Hx (Same.refl _) _ fun y H4 s4 ⟨b, hy, hb4⟩ nw => ?_
    subst hy
    have hbn : Hx b = none := nw b rfl
    have hbD : b ≠ D := fun z => by subst z; have h5 := s2 b _ hD1; rw [hbn] at h5; cases h5
    have hbas : b ∉ as := fun z => by
      obtain ⟨j, hj⟩ := List.mem_iff_getElem?.mp z
      have hjl : j < as.length := (List.getElem?_eq_some_iff.mp hj).1
      have h5 := s2 b _ (ha j b _ hj (List.getElem?_eq_getElem (show j < xs.length by omega)))
      rw [hbn] at h5
      cases h5
    refine ⟨as.map V.ref, s4 D _ (s2 D _ hD1), by rw [List.length_map, sizeLine_eq]; omega, (s1.trans (s2.trans s4)).mut hD, as ++ [b], by rw [upd_same, List.map_append]; rfl, ?_, ?_, by rw [List.length_append, hl]; rfl, ?_, ?_⟩
    · rw [List.mem_append, List.mem_singleton, not_or]
      exact ⟨hDa, fun z => hbD z.symm⟩
    · rw [List.nodup_append]
      refine ⟨nd, by simp, fun a h1 c h2 e => ?_⟩
      rw [List.mem_singleton.mp h2] at e
      exact hbas (e ▸ h1)
    · intro a h1
      rcases List.mem_append.mp h1 with h1 | h1
      · exact hn a h1
      · rw [List.mem_singleton.mp h1]
        cases z : H1 b with
        | none => rfl
        | some o => have := s2 b o (s1 b o z); rw [hbn] at this; cases this
    · intro j a x h1 h2
      have hjl : j < (as ++ [b]).length := (List.getElem?_eq_some_iff.mp h1).1
      rw [List.length_append, List.length_singleton] at hjl
      by_cases hj : j < as.length
      · rw [List.getElem?_append_left hj] at h1
        have haD : a ≠ D := fun z => hDa (z ▸ List.mem_of_getElem? h1)
        rw [upd_ne haD]
        exact s4 a _ (s2 a _ (ha j a x h1 h2))
      · have hj2 : j = as.length := by omega
        subst hj2
        rw [List.getElem?_append_right (Nat.le_refl _)] at h1
        have h1' : b = a := by simpa using h1
        subst h1'
        rw [upd_ne hbD]
        rw [hl, hx] at h2
        cases h2
        exact hb4
  · rintro Hc ⟨s1, as, hD1, hDa, nd, hl, hn, ha⟩
    exact q _ Hc (e1.trans s1) ⟨D, as, rfl, hD1, back D hD, hDa, nd, hl, fun a h => back a (hn a h), ha⟩
/-! a for over a new list that stands while the loop goes -/
variable {D : Ends} {tu tz : TS} {g : TG}
theorem s_forN {α : Type} {RA : α → Pr} {xs : List α} [∀ x, MF (RA x)] (h : EvN ta σ H (LstOf RA xs)) (Pv : Addr → List V → Nat → L2.St → Hp → Prop)
    (h0 : ∀ a vs H1, Same H H1 → H a = none → H1 a = some (.lst vs) → PP H1 vs (xs.map RA) → Pv a vs 0 σ H1) (hl : ∀ a vs i σ' Hc, i ≤ xs.length → Pv a vs i σ' Hc → Hc a = some (.lst vs))
    (hs : ∀ a vs i x v σ' Hc (N : L2.St → Hp → Prop), xs[i]? = some x → FK H Hc → Pv a vs i σ' Hc → RA x Hc v → (∀ σ3 H3, FK Hc H3 → Pv a vs (i + 1) σ3 H3 → N σ3 H3) → EvG g v σ' Hc fun σ2 => tu { D with nx := N, ct := N, bk := D.nx } σ2 Hc)
    (hd : ∀ a vs σ' Hc, FK H Hc → Pv a vs xs.length σ' Hc → D.nx σ' Hc) : tFor (iList K ta) g tu D σ H := h H (Same.refl H) _ fun v H1 e1 ⟨a, vs, h1, h2, h3⟩ nw => ⟨a, h1, ⟨vs, SqL.of h2⟩, by
  have l : xs.length = vs.length := by rw [h3.length, List.length_map]
  refine for_it (l ▸ walk_list (K := K) (a := a) (xs := vs)) (fun i σ' Hc => FK H1 Hc ∧ Pv a vs i σ' Hc) ⟨FK.refl _, h0 a vs H1 e1 (nw a h1) h2 h3⟩ (fun i σ' Hc hi p => SqL.of (hl a vs i σ' Hc hi p.2)) ?_ ?_
  · rintro i w σ' Hc Hx hlt ⟨f1, p⟩ ⟨rfl, hw⟩
    have hx : xs[i]? = some xs[i] := List.getElem?_eq_getElem hlt
    obtain ⟨w', g1, g2⟩ := h3.get (map_get hx)
    rw [g1] at hw
    cases hw
    exact hs a vs i xs[i] _ σ' Hx _ hx ((Same.fk e1).trans f1) p (MF.mf f1 g2) (fun σ3 H3 f3 p3 => ⟨f1.trans f3, p3⟩) _ fun σ2 q => q
  · rintro σ' Hc ⟨f1, p⟩
    exact hd a vs σ' Hc ((Same.fk e1).trans f1) p⟩
theorem q_forN {α : Type} {RA : α → Pr} {xs : List α} [∀ x, MF (RA x)] (h : EvN ta σ H (LstOf RA xs)) (Pv : Addr → List V → Nat → L2.St → Hp → Prop)
    (h0 : ∀ a vs H1, Same H H1 → H a = none → H1 a = some (.lst vs) → PP H1 vs (xs.map RA) → Pv a vs 0 σ H1) (hl : ∀ a vs i σ' Hc, i ≤ xs.length → Pv a vs i σ' Hc → Hc a = some (.lst vs))
    (hs : ∀ a vs i x v σ' Hc (N : L2.St → Hp → Prop), xs[i]? = some x → FK H Hc → Pv a vs i σ' Hc → RA x Hc v → (∀ σ3 H3, FK Hc H3 → Pv a vs (i + 1) σ3 H3 → N σ3 H3) → EvG g v σ' Hc fun σ2 => tu { D with nx := N, ct := N, bk := tz D } σ2 Hc)
    (hd : ∀ a vs σ' Hc, FK H Hc → Pv a vs xs.length σ' Hc → tz D σ' Hc) : tSeq (tFor (iList K ta) g tu) tz D σ H := s_forN (D := { D with nx := tz D }) h Pv h0 hl hs hd
end
end K43
set_option Elab.async false
set_option linter.all false
set_option maxRecDepth 100000
set_option maxHeartbeats 4000000
/-! # KS0: what a search for a part keeps -/
namespace K43
open PySem PySem.Spec PyProof.Rows L2
theorem nodup_len : ∀ (n : Nat) (l : List Nat), l.Nodup → (∀ x ∈ l, x < n) → l.length ≤ n
  | 0, [], _, _ => Nat.le_refl _
  | 0, x :: _, _, h => absurd (h x List.mem_cons_self) (Nat.not_lt_zero _)
  | n + 1, l, nd, h => by
    have h1 := nodup_len n (l.erase n) (nd.erase n) (fun x hx => by
      have h2 := h x (List.mem_of_mem_erase hx)
      have h3 : x ≠ n := fun e => by subst e; exact absurd hx (List.Nodup.not_mem_erase nd)
      omega)
    by_cases hm : n ∈ l
    · rw [List.length_erase_of_mem hm] at h1
      omega
    · rw [List.erase_of_not_mem hm] at h1
      omega
def dW : Want := ⟨⟨#[]⟩, [], 0⟩
abbrev keysH (hs : List (Nat × Option Part)) : List Nat := hs.map (·.1)
structure SpB (ps : List Prt) (wants : List Want) (G : List (List (Part × Int))) (k : Nat) (pt : List (Part × Int)) (hs : List (Nat × Option Part)) : Prop where
  hd : ∃ t, hs = (k, none) :: t
  nd : (keysH hs).Nodup
  lt : ∀ i ∈ keysH hs, i < wants.length
  pv : ∀ p c, ag pt p = some c → ∃ i : Nat, c = (i : Int) ∧ i ∈ keysH hs ∧ p ∈ letsP ps (wants.getD i dW)
  hv : ∀ (j i : Nat) (p : Part), hs[j]? = some (i, some p) → ∃ (j' i' : Nat), j' < j ∧ (keysH hs)[j']? = some i' ∧ ag pt p = some (i' : Int) ∧ gv (G.getD i []) p > 0
  hn : ∀ (j i : Nat), hs[j]? = some (i, none) → j = 0
def Done (ps : List Prt) (wants : List Want) (a : Nat) (pt : List (Part × Int)) (hs : List (Nat × Option Part)) : Prop := ∀ i ∈ (keysH hs).take a, ∀ p ∈ letsP ps (wants.getD i dW), (ag pt p).isSome = true
/-- the part is spent, and all that hold it are known -/
def CleanP (wants : List Want) (G : List (List (Part × Int))) (L : List (Part × Int)) (hs : List (Nat × Option Part)) (p : Part) : Prop := gv L p ≤ 0 ∧ ∀ o, o < wants.length → gv (G.getD o []) p > 0 → o ∈ keysH hs
def Clean (wants : List Want) (G : List (List (Part × Int))) (L : List (Part × Int)) (pt : List (Part × Int)) (hs : List (Nat × Option Part)) : Prop := ∀ p, (ag pt p).isSome = true → CleanP wants G L hs p
section
variable {ps : List Prt} {wants : List Want} {G : List (List (Part × Int))} {L pt : List (Part × Int)} {hs : List (Nat × Option Part)} {k i o a : Nat} {p : Part}
theorem SpB.start (hk : k < wants.length) : SpB ps wants G k [] [(k, none)] where
  hd := ⟨[], rfl⟩
  nd := by simp
  lt := fun i hi => by have : i = k := by simpa using hi
                       omega
  pv := fun p c h => by cases h
  hv := fun j i p h => by
    cases j with
    | zero => simp at h
    | succ j => simp at h
  hn := fun j i h => by
    cases j with
    | zero => rfl
    | succ j => simp at h
theorem SpB.put (b : SpB ps wants G k pt hs) (hi : i ∈ keysH hs) (hp : p ∈ letsP ps (wants.getD i dW)) (hc : ag pt p = none ∨ ag pt p = some (i : Int)) : SpB ps wants G k (ap pt p (i : Int)) hs where
  hd := b.hd
  nd := b.nd
  lt := b.lt
  pv := fun q c h => by
    rw [ag_ap] at h
    by_cases e : q = p
    · rw [if_pos e] at h
      cases h
      subst e
      exact ⟨i, rfl, hi, hp⟩
    · rw [if_neg e] at h
      exact b.pv q c h
  hv := fun j i2 q h => by
    obtain ⟨j', i', h1, h2, h3, h4⟩ := b.hv j i2 q h
    refine ⟨j', i', h1, h2, ?_, h4⟩
    rw [ag_ap]
    by_cases e : q = p
    · rw [if_pos e]
      subst e
      rcases hc with hc | hc
      · rw [hc] at h3; cases h3
      · rw [hc] at h3; exact h3
    · rw [if_neg e]; exact h3
  hn := b.hn
theorem ap_new {β : Type} {hs : List (Nat × β)} {o : Nat} {v : β} (h : o ∉ hs.map (·.1)) : ap hs o v = hs ++ [(o, v)] := by
  unfold ap
  rw [if_neg (fun z => h (any_iff.mp z))]
theorem SpB.add (b : SpB ps wants G k pt hs) (ho : o ∉ keysH hs) (hl : o < wants.length) {i : Nat} (hi : i ∈ keysH hs) (hp : ag pt p = some (i : Int)) (hg : gv (G.getD o []) p > 0) : SpB ps wants G k pt (hs ++ [(o, some p)]) where
  hd := by
    obtain ⟨t, e⟩ := b.hd
    exact ⟨t ++ [(o, some p)], by rw [e]; rfl⟩
  nd := by
    show ((hs ++ [(o, some p)]).map (·.1)).Nodup
    rw [List.map_append, List.nodup_append]
    refine ⟨b.nd, by simp, fun x hx y hy e => ?_⟩
    have : y = o := by simpa using hy
    subst this
    exact ho (e ▸ hx)
  lt := fun x hx => by
    have hx' : x ∈ hs.map (·.1) ++ [o] := by
      have e : (hs ++ [(o, some p)]).map (·.1) = hs.map (·.1) ++ [o] := by rw [List.map_append]; rfl
      rw [← e]; exact hx
    rcases List.mem_append.mp hx' with h | h
    · exact b.lt x h
    · rw [List.mem_singleton.mp h]; exact hl
  pv := fun q c h => by
    obtain ⟨i, h1, h2, h3⟩ := b.pv q c h
    exact ⟨i, h1, by show i ∈ (hs ++ [(o, some p)]).map (·.1); rw [List.map_append]; exact List.mem_append_left _ h2, h3⟩
  hv := fun j i2 q h => by
    have ek : keysH (hs ++ [(o, some p)]) = keysH hs ++ [o] := by show (hs ++ [(o, some p)]).map (·.1) = _; rw [List.map_append]; rfl
    by_cases hj : j < hs.length
    · rw [List.getElem?_append_left hj] at h
      obtain ⟨j', i', h1, h2, h3, h4⟩ := b.hv j i2 q h
      refine ⟨j', i', h1, ?_, h3, h4⟩
      rw [ek, List.getElem?_append_left (by rw [List.length_map]; omega)]
      exact h2
    · have hj2 : j < (hs ++ [(o, some p)]).length := (List.getElem?_eq_some_iff.mp h).1
      rw [List.length_append, List.length_singleton] at hj2
      have hj3 : j = hs.length := by omega
      subst hj3
      rw [List.getElem?_append_right (Nat.le_refl _)] at h
      have h' : (o, some p) = (i2, some q) := by simpa using h
      cases h'
      obtain ⟨j', hj'⟩ := List.mem_iff_getElem?.mp hi
      have hj'l : j' < hs.length := by
        have := (List.getElem?_eq_some_iff.mp hj').1
        rwa [List.length_map] at this
      refine ⟨j', i, hj'l, ?_, hp, hg⟩
      rw [ek, List.getElem?_append_left (by rw [List.length_map]; omega)]
      exact hj'
  hn := fun j i2 h => by
    by_cases hj : j < hs.length
    · rw [List.getElem?_append_left hj] at h
      exact b.hn j i2 h
    · have hj2 : j < (hs ++ [(o, some p)]).length := (List.getElem?_eq_some_iff.mp h).1
      rw [List.length_append, List.length_singleton] at hj2
      have hj3 : j = hs.length := by omega
      subst hj3
      rw [List.getElem?_append_right (Nat.le_refl _)] at h
      simp at h
theorem SpB.len (b : SpB ps wants G k pt hs) : hs.length ≤ wants.length := by
  have := nodup_len _ _ b.nd b.lt
  rwa [List.length_map] at this
theorem keysH_snoc : keysH (hs ++ [(o, some p)]) = keysH hs ++ [o] := by show (hs ++ [(o, some p)]).map (·.1) = _; rw [List.map_append]; rfl
theorem Done.put {c : Int} (h : Done ps wants a pt hs) : Done ps wants a (ap pt p c) hs := fun i hi q hq => by
  rw [ag_ap]
  split
  · rfl
  · exact h i hi q hq
theorem Done.add (h : Done ps wants a pt hs) (ha : a ≤ hs.length) : Done ps wants a pt (hs ++ [(o, some p)]) := fun i hi q hq => by
  rw [keysH_snoc, List.take_append_of_le_length (by rw [List.length_map]; exact ha)] at hi
  exact h i hi q hq
theorem CleanP.add (h : CleanP wants G L hs p) {q : Part} : CleanP wants G L (hs ++ [(o, some q)]) p := ⟨h.1, fun x hx hg => by
  rw [keysH_snoc]
  exact List.mem_append_left _ (h.2 x hx hg)⟩
end
/-- what a search gives -/
structure SpR (ps : List Prt) (wants : List Want) (G : List (List (Part × Int))) (L : List (Part × Int)) (k : Nat) (pt : List (Part × Int)) (hs : List (Nat × Option Part)) (part : Option Part) : Prop where
  b : SpB ps wants G k pt hs
  yes : ∀ p, part = some p → (ag pt p).isSome = true ∧ gv L p > 0
  no : part = none → ∀ i ∈ keysH hs, ∀ p ∈ letsP ps (wants.getD i dW), CleanP wants G L hs p
/-! the heap while it goes -/
structure HpI (H Hc : Hp) (dp dh fr : Addr) (pt : List (Part × Int)) (hs : List (Nat × Option Part)) : Prop where
  s : Same H Hc
  np : H dp = none
  nh : H dh = none
  nf : H fr = none
  p : Hc dp = some (.dT (encT pt))
  h : ∃ kvs, Hc dh = some (.dK kvs) ∧ HK Hc kvs hs
  f : Hc fr = some (.lst (hs.map fun e => V.int (e.1 : Int)))
section
variable {H Hc H' : Hp} {dp dh fr : Addr} {pt : List (Part × Int)} {hs : List (Nat × Option Part)}
theorem HpI.mono (x : HpI H Hc dp dh fr pt hs) (e : Same Hc H') : HpI H H' dp dh fr pt hs :=
  ⟨x.s.trans e, x.np, x.nh, x.nf, e _ _ x.p, let ⟨kvs, h1, h2⟩ := x.h; ⟨kvs, e _ _ h1, h2.fk (Same.fk e)⟩, e _ _ x.f⟩
theorem HpI.putp (x : HpI H Hc dp dh fr pt hs) (pt' : List (Part × Int)) : HpI H (upd Hc dp (.dT (encT pt'))) dp dh fr pt' hs := by
  obtain ⟨kvs, h1, h2⟩ := x.h
  have n1 : dh ≠ dp := ne_of h1 x.p (fun z => by cases z)
  have n2 : fr ≠ dp := ne_of x.f x.p (fun z => by cases z)
  exact ⟨x.s.mut x.np, x.np, x.nh, x.nf, upd_same, ⟨kvs, by rw [upd_ne n1]; exact h1, h2.fk (FK.upd x.p fun z => z)⟩, by rw [upd_ne n2]; exact x.f⟩
theorem HpI.fkp (x : HpI H Hc dp dh fr pt hs) (o : HO) : FK Hc (upd Hc dp o) := FK.upd x.p fun z => z
theorem pp_self {α : Type} {f : α → V} {H : Hp} : ∀ {xs : List α}, PP H (xs.map f) (xs.map fun x => IsV (f x))
  | [] => True.intro
  | _ :: _ => ⟨rfl, pp_self⟩
theorem HpI.front (x : HpI H Hc dp dh fr pt hs) : LstOf (fun (e : Nat × Option Part) => IsI (e.1 : Int)) hs Hc (.ref fr) := ⟨fr, _, rfl, x.f, pp_self⟩
theorem HpI.hold (x : HpI H Hc dp dh fr pt hs) : HdP hs Hc (.ref dh) := let ⟨kvs, h1, h2⟩ := x.h; ⟨dh, kvs, rfl, h1, h2⟩
theorem HpI.part (x : HpI H Hc dp dh fr pt hs) : DcT pt Hc (.ref dp) := ⟨dp, rfl, x.p⟩
theorem HpI.kvl (x : HpI H Hc dp dh fr pt hs) {kvs : List (Key × V)} (h : Hc dh = some (.dK kvs)) : kvs.length = hs.length ∧ HK Hc kvs hs := by
  obtain ⟨kvs', h1, h2⟩ := x.h
  rw [h] at h1
  cases h1
  exact ⟨h2.len, h2⟩
end
end K43
set_option Elab.async false
set_option linter.all false
set_option maxRecDepth 100000
set_option maxHeartbeats 4000000
/-! # KSP: spread -/
namespace K43
open PySem PySem.Spec PyProof.Rows L2
open C8 (Cal Mak Met pe_c pe_mk pe_mt pe_mt0)
section
variable {P : Program} {w : World} {K : PySem.W.Frag} {mg : Str → Option Value} {base : Heap}
structure SpIn where
  ps : List Prt
  wants : List Want
  G : List (List (Part × Int))
  L : List (Part × Int)
  k : Nat
  H0 : Hp
structure SpC (i : SpIn) : Prop where
  ps : i.ps.length ≤ 100
  ws : i.wants.length ≤ 60
  sh : ∀ x ∈ i.wants, x.shades.length ≤ 100
  g : i.G.length = i.wants.length
  gl : ∀ g ∈ i.G, g.length ≤ 50000
  ll : i.L.length ≤ 50000
  k : i.k < i.wants.length
/-- a heap object, and what stood before -/
def RHs (C : Addr) (ps : List Prt) (H0 : Hp) : Pr := fun H v => RHeap C ps H v ∧ Same H0 H
instance {C : Addr} {ps : List Prt} {H0 : Hp} : MX (RHs C ps H0) := ⟨fun e h => ⟨MX.mx e h.1, h.2.trans e⟩⟩
/-- holders, a new dict -/
def HdN (hs : List (Nat × Option Part)) (H0 : Hp) : Pr := fun H v => HdP hs H v ∧ NewTo H0 v
instance {hs : List (Nat × Option Part)} {H0 : Hp} : MX (HdN hs H0) := ⟨fun e h => ⟨MX.mx e h.1, h.2⟩⟩
def RSpread (i : SpIn) : Pr := fun H v => ∃ pt hs part, SpR i.ps i.wants i.G i.L i.k pt hs part ∧ TupP [DcT pt, HdN hs i.H0, OptP RPart part] H v
-- slots: 0 heap, 1 wants, 2 gifts, 3 left, 4 k, 5 parts (cell), 6 holders, 7 front, 8 at, 9 part, 10 other
abbrev N_spread : List Str := ["heap", "wants", "gifts", "left", "k", "parts", "holders", "front", "at", "part", "other"]
theorem sc_spread : FnScope N_spread ["heap", "wants", "gifts", "left", "k"] (defScope s_spread) := ⟨rfl, rfl, rfl, by decide +kernel, rfl, by decide +kernel, by decide +kernel⟩
abbrev spSpread (C : Addr) : Sp := PSp (ι := SpIn) (fun i => [RHs C i.ps i.H0, RWay i.wants, LstOf DcT i.G, DcT i.L, RNat i.k]) SpC RSpread
theorem q_lst1 {i : Nat} {σ : L2.St} {H : Hp} {te : TE} {D : Ends} {tz : TS} {R : Pr} (h : EvR te σ H R) (k : ∀ v H1 l, Same H H1 → R H1 v → H1 l = none → tz D (σ.set i (some (.ref l))) (upd H1 l (.lst [v]))) : tSeq (tAsg (tLst (tCons te tNil)) (gName i)) tz D σ H :=
  h H (Same.refl H) _ fun v H1 e r => ⟨by show 1 ≤ sizeLine; decide, fun p hp => k v H1 p e r hp⟩
theorem ok_spread (T : Tx w K mg) : Cal P w K mg base 3 "spread" (spSpread (CH K)) [] := by
  refine mk_pure T.f_spread T.g_spread sc_spread (fun _ _ _ _ _ _ us hl => match us, hl with | [_, _, _, _, _], _ => rfl) (fun _ => rfl) (fun cdv A outer s H vs Q E i hr hp hc q => ?_)
  obtain ⟨v0, v1, v2, v3, v4, rfl, h0, h1, h2, h3, h4⟩ := PP.five hp
  obtain ⟨ps, wants, G, L, k, H0⟩ := i
  have cc := hc
  obtain ⟨hps, hws, hsh, hgl, hgll, hll, hk⟩ := hc
  dsimp only at hps hws hsh hgl hgll hll hk h0 h1 h2 h3 h4
  obtain rfl : v4 = V.int k := h4
  have hs0 := h0.2
  replace h0 := h0.1
  have new0 : ∀ a, H a = none → NewTo H0 (.ref a) := fun a ha b hb => by
    cases hb
    cases z : H0 a with
    | none => rfl
    | some o => have := hs0 a o z; rw [ha] at this; cases this
  have hwl : ∀ i, i < wants.length → (letsP ps (wants.getD i dW)).length ≤ 100 := fun i hi => by
    unfold letsP
    split
    · rw [List.length_map]
      exact Nat.le_trans (List.length_filter_le _ _) hps
    · rw [List.length_map]
      have := hsh _ (List.mem_of_getElem? (getD_of (d := dW) hi))
      omega
  refine ⟨_, (pss_cons (ps_set (i := 5) sc_spread.nd rfl (.inr rfl) pe_dnewT)
    (pss_cons (ps_set (i := 6) sc_spread.nd rfl (.inl rfl) (pe_disp (pps_cons (pv 4) pe_non pps_nil) (by rfl) (by rfl) (fun z => by cases z) (by decide)))
    (pss_cons (ps_set (i := 7) sc_spread.nd rfl (.inl rfl) (pe_lst (pa_cons (pv 4) pa_nil)))
    (pss_cons (ps_set (i := 8) sc_spread.nd rfl (.inl rfl) pe_int)
    (pss_cons (ps_while PassesOwn.never (pt_cmpR op_lt (pv 8) (pe_callB (id := "len") (kx_len K) (by rfl) T.b_len (by decide +kernel) (pa_cons (pv 7) pa_nil)) (nomark _))
      (pss_cons (ps_for PassesOwn.never rfl (kx_pi_list K (pe_lc (own := [("part", 9)]) (g := gName 9) (by rfl) sc_spread.nd (kx_pi_list K (pe_c (ok_lets T) hr (by decide) rfl (pa_cons (pv 0) (pa_cons (pe_ix (kx_ixT K) (pv 1) (pe_ix (kx_ixL K) (pv 7) (pv 8) (fun _ _ => rfl)) (fun _ _ => rfl)) pa_nil)))) (blkOk_by (N := N_spread) (sc := defScope s_spread) (by decide +kernel)) (fun _ _ _ _ _ => (pg_name (i := 9) sc_spread.nd rfl (.inl rfl))) (fun _ _ _ _ _ => pts_one (pt_cmp (pc_dnotin (hu_of hr) (pv 9) (pv 5)))) (fun _ _ _ _ _ => (pv 9)))) (pg_name (i := 9) sc_spread.nd rfl (.inl rfl))
      (pss_cons (ps_dput (hu_of hr) (pv 5) (pv 9) (pe_ix (kx_ixL K) (pv 7) (pv 8) (fun _ _ => rfl)) rfl)
    (pss_cons (ps_if (pt_cmpR op_gt (pe_dget2 (hu_of hr) (pv 3) (pv 9) pe_int ⟨rfl, rfl, rfl, rfl⟩) pe_int (nomark _)) (pss_one (ps_ret (pe_tup (pa_cons (pv 5) (pa_cons (pv 6) (pa_cons (pv 9) pa_nil)))))) pss_nil)
    (pss_one (ps_for PassesOwn.never rfl (pi_range1 rfl T.b_range (pa_cons (pe_callB (id := "len") (kx_len K) (by rfl) T.b_len (by decide +kernel) (pa_cons (pv 1) pa_nil)) pa_nil)) (pg_name (i := 10) sc_spread.nd rfl (.inl rfl))
      (pss_one (ps_if (PW.pt (pw_and (pt_cmp (pc_dnotin (hu_of hr) (pv 10) (pv 6))) (pw_and1 (pt_cmpR op_gt (pe_dget2 (hu_of hr) (pe_ix (kx_ixL K) (pv 2) (pv 10) (fun _ _ => rfl)) (pv 9) pe_int ⟨rfl, rfl, rfl, rfl⟩) pe_int (nomark _))))) (pss_cons (ps_dput (hu_of hr) (pv 6) (pv 10) (pv 9) rfl)
    (pss_one (ps_expr (kx_bm K PySem.F.plainAttrs_list PySem.F.slot_list_append PySem.F.type_list_append mt_append (pv 7) (pa_cons (pv 10) pa_nil))))) pss_nil)))))))
    (pss_one (ps_set (i := 8) sc_spread.nd rfl (.inl rfl) (pe_op op_add (pv 8) pe_int)))))
    (pss_one (ps_ret (pe_tup (pa_cons (pv 5) (pa_cons (pv 6) (pa_cons pe_non pa_nil))))))))))), ?_⟩
  -- the three new things
  refine fun dp hdp => ?_
  have e0 := Same.new (o := .dT []) hdp
  refine fun dh hdh => ⟨_, rfl, ?_⟩
  have e1 := Same.new (o := .dK []) hdh
  refine ⟨upd_same, [(.inl (k : Int), .non)], rfl, by simp, ?_⟩
  rw [upd_upd]
  have nhp : dp ≠ dh := fun z => by subst z; rw [upd_same] at hdh; cases hdh
  have hdh' : H dh = none := by rwa [upd_ne (Ne.symm nhp)] at hdh
  have e1' := Same.new (o := .dK (mergeK [] [((.inl (k : Int) : Key), V.non)])) hdh
  refine q_lst1 (er_v) fun vk H1 fr ek rk hfr => ?_
  obtain rfl : vk = V.int k := rk
  have e2 := Same.new (o := .lst [V.int k]) hfr
  have hfrH : H fr = none := by
    cases z : H fr with
    | none => rfl
    | some o => have := ek fr o (e1' fr o (e0 fr o z)); rw [hfr] at this; cases this
  have hp0 : HpI H (upd H1 fr (.lst [V.int k])) dp dh fr [] [(k, none)] := by
    refine ⟨e0.trans (e1'.trans (ek.trans e2)), hdp, hdh', hfrH, ?_, ⟨[(.inl (k : Int), .non)], ?_, ⟨rfl, rfl, True.intro⟩⟩, upd_same⟩
    · exact e2 dp _ (ek dp _ (e1' dp _ upd_same))
    · exact e2 dh _ (ek dh _ upd_same)
  refine q_set er_c fun va H2 e3 r3 => ?_
  obtain rfl : va = V.int 0 := r3
  refine q_while (fun m σ' Hc => ∃ a : Nat, ∃ pt hs v9 v10, m = wants.length + 1 - a ∧ σ' = [some v0, some v1, some v2, some v3, some (.int k), some (.ref dp), some (.ref dh), some (.ref fr), some (.int a), v9, v10] ∧ a ≤ hs.length ∧ SpB ps wants G k pt hs ∧ Done ps wants a pt hs ∧ Clean wants G L pt hs ∧ HpI H Hc dp dh fr pt hs ∧ pt.length ≤ a * 100)
    (wants.length + 1) ⟨0, [], [(k, none)], _, _, rfl, rfl, Nat.zero_le _, SpB.start hk, (fun i hi => by simp at hi), (fun p hp => by cases hp), hp0.mono e3, Nat.le_refl _⟩ ?_
  rintro m σ' Hc ⟨a, pt, hs, v9, v10, rfl, rfl, hal, hb, hdn, hcl, hI, hpl0⟩
  have hsl := hb.len
  refine ⟨decide (a < hs.length), eb_test (EvR.is (er_I0 er_v (ev_lenLO (er_var hI.front))) (by simp)), fun hlt H3 e4 N n => ?_, fun hlt H3 e4 => ?_⟩
  · have ha : a < hs.length := of_decide_eq_true hlt
    have hI := hI.mono e4
    obtain ⟨fa, hfa⟩ : ∃ fa, (keysH hs)[a]? = some fa := ⟨(keysH hs)[a]'(by rw [List.length_map]; exact ha), List.getElem?_eq_getElem _⟩
    have hfak : fa ∈ keysH hs := List.mem_of_getElem? hfa
    have hfal : fa < wants.length := hb.lt fa hfak
    have hhs : ∃ x, hs[a]? = some x ∧ x.1 = fa := by
      rw [List.getElem?_map] at hfa
      cases z : hs[a]? with
      | none => rw [z] at hfa; cases hfa
      | some x => rw [z] at hfa; exact ⟨x, rfl, Option.some.inj hfa⟩
    -- front[at], at any time while the prefix stands
    have hll2 := hwl fa hfal
    have hfl := List.length_filter_le (fun p : Part => !(ag pt p).isSome) (letsP ps (wants.getD fa dW))
    refine q_forN (RA := RPart) (xs := ((letsP ps (wants.getD fa dW)).filter fun p => !(ag pt p).isSome).map fun p => p) (en_lc (fun p : Part => !(ag pt p).isSome) (fun p => p) (ei_lstX (er_call (ps, wants.getD fa dW) (ea2 (er_var (MX.mx hI.s h0)) (er_ixTO (er_var (MX.mx hI.s h1)) (EvR.is (er_ixLO (R := fun e : Nat × Option Part => IsI (e.1 : Int)) (er_var hI.front) er_v (by omega) (by simpa using hhs.choose_spec.1)) (by rw [hhs.choose_spec.2])) (by omega) (by simpa using getD_of hfal))) ⟨by show ps.length ≤ 10000; omega, by have := hsh _ (List.mem_of_getElem? (getD_of (d := dW) hfal)); show (wants.getD fa dW).shades.length ≤ 10000; omega⟩)) (by show (letsP ps (wants.getD fa dW)).length ≤ 100000; omega) fun p v H4 hp e5 r => eg_name ⟨rfl, eb_test (er_dnotinT (er_var r) (er_var (MX.mx e5 hI.part))), fun _ => er_var r⟩)
      (fun a0 vs0 i σ' Hc => ∃ pt' hs' v9 v10, σ' = [some v0, some v1, some v2, some v3, some (.int k), some (.ref dp), some (.ref dh), some (.ref fr), some (.int a), v9, v10] ∧ SpB ps wants G k pt' hs' ∧ Done ps wants a pt' hs' ∧ Clean wants G L pt' hs' ∧ HpI H Hc dp dh fr pt' hs' ∧ Hc a0 = some (.lst vs0) ∧ a0 ≠ fr ∧
        (∀ (j : Nat) p, j < i → (((letsP ps (wants.getD fa dW)).filter fun p => !(ag pt p).isSome).map fun p => p)[j]? = some p → (ag pt' p).isSome = true) ∧ (∀ p ∈ ((letsP ps (wants.getD fa dW)).filter fun p => !(ag pt p).isSome), ag pt' p = none ∨ ag pt' p = some (fa : Int)) ∧ pt'.length ≤ a * 100 + i ∧ (keysH hs')[a]? = some fa ∧ (∀ p, (ag pt p).isSome = true → (ag pt' p).isSome = true) ∧ (∃ x, hs'[a]? = some x ∧ x.1 = fa))
      (fun a0 vs0 H4 e5 hn h5 _ => ⟨pt, hs, _, _, rfl, hb, hdn, hcl, hI.mono e5, h5, (fun z => by subst z; rw [hI.f] at hn; cases hn), (fun j p hj => absurd hj (Nat.not_lt_zero _)), (fun p hp => .inl (by have := (List.mem_filter.mp hp).2; cases z : ag pt p with | none => rfl | some c => rw [z] at this; cases this)), hpl0, hfa, fun p h => h, hhs⟩)
      (fun a0 vs0 i σ' Hc hi ⟨pt', hs', v9, v10, _, _, _, _, _, h5, _⟩ => h5) ?_ ?_
    · rintro a0 vs0 i p vp σ' Hc N2 hx f ⟨pt', hs', v9, v10, rfl, hb', hdn', hcl', hI', ha0, hna0, hdone, hor, hpl2, hfa', hmono, hhs'⟩ rp n2
      have hpm : p ∈ (letsP ps (wants.getD fa dW)).filter fun p => !(ag pt p).isSome := by simpa using List.mem_of_getElem? hx
      have hpl : p ∈ letsP ps (wants.getD fa dW) := (List.mem_filter.mp hpm).1
      have hfak' : fa ∈ keysH hs' := List.mem_of_getElem? hfa'
      have hil : i < 100 := by
        have h9 := (List.getElem?_eq_some_iff.mp hx).1
        rw [List.length_map] at h9
        omega
      have hptl : pt'.length < 100000 := by omega
      have hptn := ap_len pt' p (fa : Int)
      have ha0p : a0 ≠ dp := ne_of ha0 hI'.p (fun z => by cases z)
      refine eg_name (q_dputT (p := p) (n := (fa : Int)) hI'.p (EvR.is (er_ixLO (R := fun e : Nat × Option Part => IsI (e.1 : Int)) (er_var hI'.front) er_v (by omega) (by simpa using hhs'.choose_spec.1)) (by rw [hhs'.choose_spec.2])) er_v (er_var rp) hptl fun H4 e5 => ?_)
      have hb2 := hb'.put hfak' hpl (hor p hpm)
      have hI2 := (hI'.mono e5).putp (ap pt' p (fa : Int))
      have f2 : FK Hc (upd H4 dp (.dT (encT (ap pt' p (fa : Int))))) := (Same.fk e5).trans ((hI'.mono e5).fkp _)
      have hap : ag (ap pt' p (fa : Int)) p = some (fa : Int) := by rw [ag_ap, if_pos rfl]
      have rp2 := MF.mf f2 rp
      have s2 := hI2.s
      refine q_when (b := decide (gv L p > 0)) (eb_test (EvR.is (er_I0 (er_dget2T (g := L) (p := p) (er_var (MX.mx s2 h3)) (er_var rp2) er_c) er_c) rfl)) (fun hgt H5 e6 => ?_) fun hgt H5 e6 => ?_
      · refine s_ret (R := RSpread ⟨ps, wants, G, L, k, H0⟩) (EvR.to (er_tup (ps := [DcT (ap pt' p (fa : Int)), HdN hs' H0, OptP RPart (some p)]) (ea_cons (er_var (MX.mx e6 hI2.part)) (ea2 (er_var (R := HdN hs' H0) ⟨MX.mx e6 hI2.hold, new0 _ hI2.nh⟩) (er_var (R := RPart p) (MX.mx e6 rp2)))) (by simp)) fun H v h => ⟨_, _, some p, ⟨hb2, fun q hq => by cases hq; exact ⟨by rw [hap]; rfl, of_decide_eq_true hgt⟩, fun z => by cases z⟩, h⟩) fun v H6 e7 r7 => q v H6 ((s2.trans e6).trans e7) r7
      · have hle : gv L p ≤ 0 := by have := of_decide_eq_false hgt; omega
        have hI3 := hI2.mono e6
        refine s_for (ei_rng (ea1 (ev_lenTO (er_var (MX.mx hI3.s h1)))) (by omega) (by omega)) (fun o σ' Hd => ∃ hs'' v10, σ' = [some v0, some v1, some v2, some v3, some (.int k), some (.ref dp), some (.ref dh), some (.ref fr), some (.int a), some vp, v10] ∧ SpB ps wants G k (ap pt' p (fa : Int)) hs'' ∧ Done ps wants a (ap pt' p (fa : Int)) hs'' ∧ (∀ q, q ≠ p → (ag (ap pt' p (fa : Int)) q).isSome = true → CleanP wants G L hs'' q) ∧ HpI H Hd dp dh fr (ap pt' p (fa : Int)) hs'' ∧ Hd a0 = some (.lst vs0) ∧
            (keysH hs'')[a]? = some fa ∧ (∃ x, hs''[a]? = some x ∧ x.1 = fa) ∧ (∀ o', o' < o → gv (G.getD o' []) p > 0 → o' ∈ keysH hs''))
          (fun H6 e7 => ⟨hs', _, rfl, hb2, hdn'.put, (fun q hq h => hcl' q (by rw [ag_ap, if_neg hq] at h; exact h)), hI3.mono e7, ?_, hfa', hhs', fun o' h => absurd h (Nat.not_lt_zero _)⟩) ?_ ?_
        · refine e7 a0 _ (e6 a0 _ ?_)
          rw [upd_ne ha0p]
          exact e5 a0 _ ha0
        · rintro o o2 vo σ' Hd Hx N3 hox f3 ⟨hs'', v10, rfl, hb3, hdn3, hcl3, hI4, ha4, hfa4, hhs4, hoo⟩ sx ro n3
          obtain ⟨hol, rfl⟩ : o < wants.length ∧ o2 = o := by
            obtain ⟨h5, h6⟩ := List.getElem?_eq_some_iff.mp hox
            simp at h5 h6
            exact ⟨h5, h6.symm⟩
          have hI5 := hI4.mono sx
          have rp3 : RPart p Hx vp := MF.mf (((Same.fk e6).trans f3).trans (Same.fk sx)) rp2
          have hgo : G[o2]? = some (G.getD o2 []) := getD_of (by rw [hgl]; exact hol)
          refine eg_name (s_when (b := !(ag hs'' o2).isSome && decide (gv (G.getD o2 []) p > 0)) (eb_and (eb_test (er_dnotinK (er_var ro) (er_var hI5.hold))) fun _ => eb_test (EvR.is (er_I0 (er_dget2T (g := G.getD o2 []) (p := p) (er_ixLO (R := DcT) (er_var (MX.mx hI5.s h2)) (er_var ro) (by omega) (by simpa using hgo)) (er_var rp3) er_c) er_c) rfl)) (fun hb5 H7 e8 => ?_) fun hb5 H7 e8 => ?_)
          · rw [Bool.and_eq_true] at hb5
            have hno : o2 ∉ keysH hs'' := by
              have h6 := hb5.1
              cases z : ag hs'' o2 with
              | none => exact ag_none.mp z
              | some y => rw [z] at h6; cases h6
            have hgp : gv (G.getD o2 []) p > 0 := of_decide_eq_true hb5.2
            have hI6 := hI5.mono e8
            obtain ⟨kvs, hk1, hk2⟩ := hI6.h
            have hkl := hk2.len
            have hl3 := hb3.len
            refine q_dputK (R := RPart p) hk1 (er_var (MX.mx e8 rp3)) er_v (er_var (MX.mx e8 ro)) (by omega) fun vq H8 e9 rq => ?_
            have hb6 := hb3.add hno hol (List.mem_of_getElem? hfa4) hap hgp
            have hI7 := hI6.mono e9
            have n1 : dp ≠ dh := ne_of hI7.p (e9 _ _ hk1) (fun z => by cases z)
            have n2 : fr ≠ dh := ne_of hI7.f (e9 _ _ hk1) (fun z => by cases z)
            have n3' : a0 ≠ dh := ne_of (e9 _ _ (e8 _ _ (sx _ _ ha4))) (e9 _ _ hk1) (fun z => by cases z)
            have fk8 : FK H8 (upd H8 dh (.dK (putK kvs (.inl (o2 : Int)) vq))) := FK.upd (e9 _ _ hk1) fun z => z
            have hfr8 : (upd H8 dh (.dK (putK kvs (.inl (o2 : Int)) vq))) fr = some (.lst (hs''.map fun e => V.int (e.1 : Int))) := by rw [upd_ne n2]; exact hI7.f
            refine s_app hfr8 (er_var (R := IsI (o2 : Int)) ro) (by rw [List.length_map]; omega) fun vz H9 e10 rz => ?_
            obtain rfl : vz = V.int o2 := rz
            have n4 : dp ≠ fr := ne_of hI7.p hI7.f (fun z => by cases z)
            refine n3 _ _ ?_ ⟨hs'' ++ [(o2, some p)], _, rfl, hb6, hdn3.add (by have := (List.getElem?_eq_some_iff.mp hfa4).1; rw [List.length_map] at this; omega), (fun q hq h => (hcl3 q hq h).add), ?_, ?_, ?_, ?_, ?_⟩
            · exact ((Same.fk (e8.trans e9)).trans fk8).trans ((Same.fk e10).trans (FK.upd (e10 _ _ hfr8) fun z => z))
            · refine ⟨(((hI7.s.mut hI7.nh).trans e10).mut hI7.nf), hI7.np, hI7.nh, hI7.nf, ?_, ⟨putK kvs (.inl (o2 : Int)) vq, ?_, ?_⟩, ?_⟩
              · rw [upd_ne n4]
                exact e10 _ _ (by rw [upd_ne n1]; exact hI7.p)
              · rw [upd_ne n2.symm]
                exact e10 _ _ upd_same
              · rw [← ap_new (v := some p) hno]
                refine HK.fk ((Same.fk e10).trans (FK.upd (e10 _ _ hfr8) fun z => z)) (HK.fk fk8 ?_ |>.put (MF.mf fk8 rq))
                exact hk2.fk (Same.fk e9)
              · rw [upd_same, List.map_append]
                rfl
            · rw [upd_ne hna0]
              exact e10 _ _ (by rw [upd_ne n3']; exact e9 _ _ (e8 _ _ (sx _ _ ha4)))
            · rw [keysH_snoc, List.getElem?_append_left (List.getElem?_eq_some_iff.mp hfa4).1]
              exact hfa4
            · obtain ⟨x, h6, h7⟩ := hhs4
              exact ⟨x, by rw [List.getElem?_append_left (List.getElem?_eq_some_iff.mp h6).1]; exact h6, h7⟩
            · intro o' ho' hg'
              rw [keysH_snoc]
              rcases Nat.lt_succ_iff_lt_or_eq.mp ho' with h | rfl
              · exact List.mem_append_left _ (hoo o' h hg')
              · exact List.mem_append_right _ (List.mem_singleton.mpr rfl)
          · refine n3 _ _ (Same.fk e8) ⟨hs'', _, rfl, hb3, hdn3, hcl3, hI5.mono e8, e8 _ _ (sx _ _ ha4), hfa4, hhs4, fun o' ho' hg' => ?_⟩
            rcases Nat.lt_succ_iff_lt_or_eq.mp ho' with h | rfl
            · exact hoo o' h hg'
            · rw [decide_eq_true hg', Bool.and_true] at hb5
              exact ag_isSome.mp (by simpa using hb5)
        · rintro σ' Hd f3 ⟨hs'', v10, rfl, hb3, hdn3, hcl3, hI4, ha4, hfa4, hhs4, hoo⟩
          have el : (List.range ((wants.length : Int)).toNat).length = wants.length := by simp
          rw [el] at hoo
          refine n2 _ _ (f2.trans ((Same.fk e6).trans f3)) ⟨_, hs'', _, _, rfl, hb3, hdn3, ?_, hI4, ha4, hna0, ?_, ?_, by omega, hfa4, ?_, hhs4⟩
          · intro q hq
            by_cases e : q = p
            · subst e
              exact ⟨hle, hoo⟩
            · exact hcl3 q e hq
          · intro j q hj hjq
            rw [ag_ap]
            split
            · rfl
            · rcases Nat.lt_succ_iff_lt_or_eq.mp hj with h | rfl
              · exact hdone j q h hjq
              · rename_i hne
                rw [hx] at hjq
                cases hjq
                exact absurd rfl hne
          · intro q hq
            rw [ag_ap]
            split
            · exact .inr rfl
            · exact hor q hq
          · intro q hq
            rw [ag_ap]
            split
            · rfl
            · exact hmono q hq
    · rintro a0 vs0 σ' Hc f ⟨pt', hs', v9, v10, rfl, hb', hdn', hcl', hI', ha0, hna0, hdone, hor, hpl2, hfa', hmono, hhs'⟩
      refine s_set (EvR.is (er_I0 er_v er_c) rfl) fun vx H4 e5 r5 => ?_
      obtain rfl : vx = V.int ((a : Int) + 1) := r5
      have hal' : a < hs'.length := by have := (List.getElem?_eq_some_iff.mp hfa').1; rwa [List.length_map] at this
      have hsl' := hb'.len
      refine n (wants.length + 1 - (a + 1)) _ _ (by omega) ⟨a + 1, pt', hs', v9, v10, rfl, ?_, hal', hb', ?_, hcl', hI'.mono e5, by rw [List.length_map] at hpl2; omega⟩
      · have e : ((a : Int) + 1) = ((a + 1 : Nat) : Int) := by omega
        rw [← e]
        rfl
      · intro i hi p hp
        rw [List.take_add_one, hfa', List.mem_append] at hi
        rcases hi with hi | hi
        · exact hdn' i hi p hp
        · have hi' : i = fa := by simpa using hi
          subst hi'
          cases z : ag pt p with
          | some c => exact hmono p (by rw [z]; rfl)
          | none =>
            have hm : p ∈ (((letsP ps (wants.getD i dW)).filter fun p => !(ag pt p).isSome).map fun p => p) := by
              rw [List.map_id']
              exact List.mem_filter.mpr ⟨hp, by rw [z]; rfl⟩
            obtain ⟨j, hj⟩ := List.mem_iff_getElem?.mp hm
            exact hdone j p (List.getElem?_eq_some_iff.mp hj).1 hj
  · have ha : a = hs.length := by have := of_decide_eq_false hlt; omega
    have hI := hI.mono e4
    refine s_ret (R := RSpread ⟨ps, wants, G, L, k, H0⟩) (EvR.to (er_tup (ps := [DcT pt, HdN hs H0, OptP RPart none]) (ea_cons (er_var hI.part) (ea2 (er_var (R := HdN hs H0) ⟨hI.hold, new0 _ hI.nh⟩) er_c)) (by simp)) fun H v h => ⟨pt, hs, none, ⟨hb, (fun p z => by cases z), fun _ i hi p hp => ?_⟩, h⟩) fun v H6 e7 r7 => q v H6 (hI.s.trans e7) r7
    refine hcl p (hdn i ?_ p hp)
    rw [ha, List.take_of_length_le (by rw [List.length_map]; exact Nat.le_refl _)]
    exact hi
end
end K43
set_option Elab.async false
set_option linter.all false
set_option maxRecDepth 100000
set_option maxHeartbeats 4000000
/-! # KS1: way_of -/
namespace K43
open PySem PySem.Spec PyProof.Rows L2
open C8 (Cal Mak Met pe_c pe_mk pe_mt pe_mt0)
abbrev Step := Nat × Part × Option Part
abbrev RStep (s : Step) : Pr := TupP [RNat s.1, RPart s.2.1, OptP RPart s.2.2]
/-- a way back: the ranks fall -/
def WayB (pt : List (Part × Int)) (hs : List (Nat × Option Part)) : Nat → Option Part → List Step → Prop
  | _, none, [] => True
  | b, some p, (one, p', o) :: r => p' = p ∧ ∃ j, j < b ∧ hs[j]? = some (one, o) ∧ ag pt p = some (one : Int) ∧ WayB pt hs j o r
  | _, _, _ => False
theorem WayB.len {pt : List (Part × Int)} {hs : List (Nat × Option Part)} : ∀ {F : List Step} {b : Nat} {o : Option Part}, WayB pt hs b o F → F.length ≤ b
  | [], _, _, _ => Nat.zero_le _
  | (one, p', o') :: r, b, some p, ⟨_, j, hj, _, _, h⟩ => by
    have := WayB.len h
    rw [List.length_cons]
    omega
  | (_, _, _) :: _, _, none, h => h.elim
/-- where a search can stand -/
def AtB (pt : List (Part × Int)) (hs : List (Nat × Option Part)) : Nat → Option Part → Prop
  | _, none => True
  | b, some p => ∃ (j i : Nat), j < b ∧ (keysH hs)[j]? = some i ∧ ag pt p = some (i : Int)
structure WyC (i : List (Part × Int) × List (Nat × Option Part) × Option Part) : Prop where
  nd : (keysH i.2.1).Nodup
  hv : ∀ (j k : Nat) (p : Part), i.2.1[j]? = some (k, some p) → ∃ (j' i' : Nat), j' < j ∧ (keysH i.2.1)[j']? = some i' ∧ ag i.1 p = some (i' : Int)
  at_ : AtB i.1 i.2.1 i.2.1.length i.2.2
  few : i.2.1.length ≤ 1000
def RWay2 (i : List (Part × Int) × List (Nat × Option Part) × Option Part) : Pr := fun H v => ∃ F, WayB i.1 i.2.1 i.2.1.length i.2.2 F ∧ LstOf RStep F H v
section
variable {P : Program} {w : World} {K : PySem.W.Frag} {mg : Str → Option Value} {base : Heap}
-- slots: 0 parts, 1 holders, 2 part, 3 found, 4 one
abbrev N_way_of : List Str := ["parts", "holders", "part", "found", "one"]
theorem sc_way_of : FnScope N_way_of ["parts", "holders", "part"] (defScope s_way_of) := ⟨rfl, rfl, rfl, by decide +kernel, rfl, by decide +kernel, by decide +kernel⟩
abbrev spWayOf : Sp := PSp (ι := List (Part × Int) × List (Nat × Option Part) × Option Part) (fun i => [DcT i.1, HdP i.2.1, OptP RPart i.2.2]) WyC RWay2
theorem opt_non {o : Option Part} {H : Hp} {v : V} (h : OptP RPart o H v) : decide (v = .non) = o.isNone := by
  cases o with
  | none => obtain rfl : v = .non := h; rfl
  | some S => obtain ⟨a, _, rfl, _⟩ := h; rfl
theorem ok_way_of (T : Tx w K mg) : Cal P w K mg base 1 "way_of" spWayOf [] := by
  refine mk_pure T.f_way_of T.g_way_of sc_way_of (fun _ _ _ _ _ _ us hl => match us, hl with | [_, _, _], _ => rfl) (fun _ => rfl) (fun cdv A outer s H vs Q E i hr hp hc q => ?_)
  obtain ⟨v0, v1, v2, rfl, h0, h1, h2⟩ := PP.three hp
  obtain ⟨pt, hs, part⟩ := i
  obtain ⟨hnd, hhv, hat, hfew⟩ := hc
  dsimp only at hnd hhv hat hfew h0 h1 h2
  refine ⟨_, (pss_cons (ps_set (i := 3) sc_way_of.nd rfl (.inl rfl) (pe_lst pa_nil))
    (pss_cons (ps_while PassesOwn.never (pt_cmp (pc_notN (pv 2)))
      (pss_cons (ps_set (i := 4) sc_way_of.nd rfl (.inl rfl) (pe_dget (hu_of hr) (pv 0) (pv 2) (fun _ _ => rfl)))
    (pss_cons (ps_expr (kx_bm K PySem.F.plainAttrs_list PySem.F.slot_list_append PySem.F.type_list_append mt_append (pv 3) (pa_cons (pe_tup (pa_cons (pv 4) (pa_cons (pv 2) (pa_cons (pe_dget (hu_of hr) (pv 1) (pv 4) (fun _ _ => rfl)) pa_nil)))) pa_nil)))
    (pss_one (ps_set (i := 2) sc_way_of.nd rfl (.inl rfl) (pe_dget (hu_of hr) (pv 1) (pv 4) (fun _ _ => rfl)))))))
    (pss_one (ps_ret (pv 3))))), ?_⟩
  refine q_nil fun l hl => ?_
  have e0 := Same.new (o := .lst []) hl
  refine q_while (fun m σ' Hc => ∃ vp : V, ∃ v4 : Option V, ∃ part' : Option Part, ∃ acc : List Step, σ' = [some v0, some v1, some vp, some (.ref l), v4] ∧ Same H Hc ∧ OptP RPart part' Hc vp ∧ AtB pt hs m part' ∧ m ≤ hs.length ∧ ∃ vs, Hc l = some (.lst vs) ∧ PP Hc vs (acc.map RStep) ∧ acc.length + m ≤ hs.length ∧ ∀ r, WayB pt hs m part' r → WayB pt hs hs.length part (acc ++ r))
    hs.length ⟨v2, none, part, [], rfl, e0, MX.mx e0 h2, hat, Nat.le_refl _, [], upd_same, True.intro, by simp, fun r h => h⟩ ?_
  rintro m σ' Hc ⟨vp, v4, part', acc, rfl, s, hp', ha', hm, vs, hla, hacc, hal, hwy⟩
  refine ⟨!part'.isNone, eb_test (er_notNR (er_var hp') fun H v h => opt_non h), fun hb H3 e3 N n => ?_, fun hb H3 e3 => ?_⟩
  · cases part' with
    | none => simp at hb
    | some p =>
      obtain ⟨j, i, hj, hki, hgi⟩ := ha'
      have hs3 := s.trans e3
      obtain ⟨o, ho⟩ : ∃ o, hs[j]? = some (i, o) := by
        rw [List.getElem?_map] at hki
        cases z : hs[j]? with
        | none => rw [z] at hki; cases hki
        | some x =>
          rw [z] at hki
          have : x.1 = i := Option.some.inj hki
          exact ⟨x.2, by rw [← this]⟩
      have hago : ag hs i = some o := ag_mem hnd (List.mem_of_getElem? ho)
      refine q_set (er_dgetT (er_var (MX.mx hs3 h0)) (er_var (R := RPart p) (MX.mx e3 hp')) hgi) fun v5 H4 e4 r4 => ?_
      have h41 := MX.mx (hs3.trans e4) h1
      have hl4 := e4 l _ (e3 l _ hla)
      have hvl := hacc.length
      rw [List.length_map] at hvl
      refine q_app hl4 (er_tup (ps := [RNat i, RPart p, OptP RPart o]) (ea_cons (er_var r4) (ea2 (er_var (R := RPart p) (MX.mx (e3.trans e4) hp')) (er_dgetK (er_var h41) (er_var r4) hago))) (by simp)) (by omega) fun vz H5 e5 rz => ?_
      have s6 : Same H (upd H5 l (.lst (vs ++ [vz]))) := ((hs3.trans e4).trans e5).mut hl
      have fk : FK H5 (upd H5 l (.lst (vs ++ [vz]))) := FK.upd (e5 l _ hl4) fun z => z
      have fk2 : FK Hc (upd H5 l (.lst (vs ++ [vz]))) := (Same.fk ((e3.trans e4).trans e5)).trans fk
      refine s_set (er_dgetK (er_var (MX.mx s6 h1)) (er_var (R := RNat i) (MF.mf ((Same.fk e5).trans fk) r4)) hago) fun vo H6 e6 r6 => ?_
      refine n j _ _ hj ⟨vo, _, o, acc ++ [(i, p, o)], rfl, s6.trans e6, r6, ?_, by omega, vs ++ [vz], e6 l _ upd_same, ?_, ?_, ?_⟩
      · cases o with
        | none => exact True.intro
        | some p2 =>
          obtain ⟨j', i', h5, h6, h7⟩ := hhv j i p2 ho
          exact ⟨j', i', h5, h6, h7⟩
      · rw [List.map_append]
        exact (MFs.mf (fk2.trans (Same.fk e6)) hacc).append ⟨MF.mf (fk.trans (Same.fk e6)) rz, True.intro⟩
      · rw [List.length_append, List.length_singleton]
        omega
      · intro r hr2
        rw [List.append_assoc]
        exact hwy _ ⟨rfl, j, hj, ho, hgi, hr2⟩
  · cases part' with
    | some p => simp at hb
    | none =>
      refine s_ret (er_var (R := LstOf RStep acc) (MX.mx e3 ⟨l, vs, rfl, hla, hacc⟩)) fun v H4 e4 r4 => q v H4 ((s.trans e3).trans e4) ⟨acc, ?_, r4⟩
      have := hwy [] True.intro
      rwa [List.append_nil] at this
end
end K43
set_option Elab.async false
set_option linter.all false
set_option maxRecDepth 100000
set_option maxHeartbeats 4000000
/-! # KS2: lead -/
namespace K43
open PySem PySem.Spec PyProof.Rows L2
open C8 (Cal Mak Met pe_c pe_mk pe_mt pe_mt0)
abbrev Gifts := List (List (Part × Int))
def stepG (m : Int) (G : Gifts) (s : Step) : Gifts :=
  let g1 := ap (G.getD s.1 []) s.2.1 (gv (G.getD s.1 []) s.2.1 + m)
  G.set s.1 (match s.2.2 with | none => g1 | some u => ap g1 u (gv g1 u - m))
theorem sub_len {α : Type} [DecidableEq α] : ∀ {l m : List α}, l.Nodup → (∀ x ∈ l, x ∈ m) → l.length ≤ m.length
  | [], _, _, _ => Nat.zero_le _
  | x :: l, m, nd, h => by
    rw [List.nodup_cons] at nd
    have hx := h x List.mem_cons_self
    have := sub_len (m := m.erase x) nd.2 (fun y hy => (List.mem_erase_of_ne (fun e => by subst e; exact nd.1 hy)).mpr (h y (List.mem_cons_of_mem _ hy)))
    have hl := List.length_erase_of_mem hx
    have hp : 0 < m.length := List.length_pos_of_mem hx
    rw [List.length_cons]
    omega
theorem nodup_inj {α : Type} {l : List α} (nd : l.Nodup) {i j : Nat} (hi : i < l.length) (hj : j < l.length) (e : l[i] = l[j]) : i = j := by
  rcases Nat.lt_trichotomy i j with h | h | h
  · exact absurd e (List.pairwise_iff_getElem.mp nd i j hi hj h)
  · exact h
  · exact absurd e.symm (List.pairwise_iff_getElem.mp nd j i hj hi h)
/-- the tables' keys: each once, let by their wants -/
structure GK (ps : List Prt) (wants : List Want) (G : Gifts) : Prop where
  ln : G.length = wants.length
  nd : ∀ i, ((G.getD i []).map (·.1)).Nodup
  sub : ∀ i, i < wants.length → ∀ p ∈ (G.getD i []).map (·.1), p ∈ letsP ps (wants.getD i dW)
theorem getD_set {α : Type} (G : List α) (i j : Nat) (g d : α) : (G.set i g).getD j d = if j = i ∧ i < G.length then g else G.getD j d := by
  simp only [List.getD_eq_getElem?_getD, List.getElem?_set]
  by_cases h : i = j
  · subst h
    by_cases h2 : i < G.length
    · simp [h2]
    · simp [h2]
  · rw [if_neg h, if_neg (fun z => h z.1.symm)]
theorem stepG_at (m : Int) (G : Gifts) (s : Step) (h : s.1 < G.length) (j : Nat) : (stepG m G s).getD j [] = if j = s.1 then (match s.2.2 with | none => ap (G.getD s.1 []) s.2.1 (gv (G.getD s.1 []) s.2.1 + m) | some u => ap (ap (G.getD s.1 []) s.2.1 (gv (G.getD s.1 []) s.2.1 + m)) u (gv (ap (G.getD s.1 []) s.2.1 (gv (G.getD s.1 []) s.2.1 + m)) u - m)) else G.getD j [] := by
  unfold stepG
  rw [getD_set]
  by_cases e : j = s.1
  · rw [if_pos ⟨e, h⟩, if_pos e]
  · rw [if_neg (fun z => e z.1), if_neg e]
theorem stepG_len (m : Int) (G : Gifts) (s : Step) : (stepG m G s).length = G.length := by
  unfold stepG
  rw [List.length_set]
section
variable {ps : List Prt} {wants : List Want} {G : Gifts}
theorem GK.few (g : GK ps wants G) (i : Nat) (hl : ∀ i, i < wants.length → (letsP ps (wants.getD i dW)).length ≤ 100) : (G.getD i []).length ≤ 100 := by
  by_cases h : i < wants.length
  · have := sub_len (g.nd i) (g.sub i h)
    rw [List.length_map] at this
    exact Nat.le_trans this (hl i h)
  · have : G.getD i [] = [] := by rw [List.getD_eq_getElem?_getD, List.getElem?_eq_none (by rw [g.ln]; omega)]; rfl
    rw [this]
    exact Nat.zero_le _
theorem GK.step (g : GK ps wants G) {m : Int} {s : Step} (h1 : s.1 < wants.length) (h2 : s.2.1 ∈ letsP ps (wants.getD s.1 dW)) (h3 : ∀ u, s.2.2 = some u → (ag (G.getD s.1 []) u).isSome = true) : GK ps wants (stepG m G s) where
  ln := by rw [stepG_len]; exact g.ln
  nd := fun i => by
    rw [stepG_at m G s (by rw [g.ln]; exact h1)]
    by_cases e : i = s.1
    · rw [if_pos e]
      cases hs : s.2.2 with
      | none => exact ap_nodup (g.nd _)
      | some u => exact ap_nodup (ap_nodup (g.nd _))
    · rw [if_neg e]; exact g.nd i
  sub := fun i hi p hp => by
    rw [stepG_at m G s (by rw [g.ln]; exact h1)] at hp
    by_cases e : i = s.1
    · rw [if_pos e] at hp
      rw [e]
      have hk : ∀ q, q ∈ (ap (G.getD s.1 []) s.2.1 (gv (G.getD s.1 []) s.2.1 + m)).map (·.1) → q ∈ letsP ps (wants.getD s.1 dW) := fun q hq => by
        rcases ap_mem_keys.mp hq with rfl | h
        · exact h2
        · exact g.sub _ h1 q h
      cases hs : s.2.2 with
      | none => rw [hs] at hp; exact hk p hp
      | some u =>
        rw [hs] at hp
        rcases ap_mem_keys.mp hp with rfl | h
        · exact g.sub _ h1 _ (ag_isSome.mp (h3 _ hs))
        · exact hk p h
    · rw [if_neg e] at hp; exact g.sub i hi p hp
theorem stepG_more {m : Int} {s : Step} {j : Nat} {p : Part} (hl : s.1 < G.length) (h : (ag (G.getD j []) p).isSome = true) : (ag ((stepG m G s).getD j []) p).isSome = true := by
  rw [ag_isSome] at h ⊢
  rw [stepG_at m G s hl]
  by_cases e : j = s.1
  · rw [if_pos e]
    subst e
    cases hs : s.2.2 with
    | none => exact ap_mem_keys.mpr (.inr h)
    | some u => exact ap_mem_keys.mpr (.inr (ap_mem_keys.mpr (.inr h)))
  · rw [if_neg e]; exact h
end
/-- the steps of a way, each by itself -/
theorem WayB.each {pt : List (Part × Int)} {hs : List (Nat × Option Part)} : ∀ {F : List Step} {b : Nat} {o : Option Part}, WayB pt hs b o F → ∀ s ∈ F, ∃ j, j < b ∧ hs[j]? = some (s.1, s.2.2) ∧ ag pt s.2.1 = some (s.1 : Int)
  | [], _, _, _, s, h => by cases h
  | (one, p', o') :: r, b, some p, ⟨hp, j, hj, h1, h2, h⟩, s, hm => by
    rcases List.mem_cons.mp hm with rfl | hm
    · exact ⟨j, hj, h1, by rw [show (one, p', o').2.1 = p from hp]; exact h2⟩
    · obtain ⟨j', h3, h4, h5⟩ := WayB.each h s hm
      exact ⟨j', by omega, h4, h5⟩
  | (_, _, _) :: _, _, none, h, _, _ => h.elim
/-! the tables in the heap -/
structure Gs (H : Hp) (ga la : Addr) (das : List Addr) (G : Gifts) (L : List (Part × Int)) : Prop where
  g : H ga = some (.lst (das.map V.ref))
  ld : das.length = G.length
  d : ∀ (i : Nat) a, das[i]? = some a → H a = some (.dT (encT (G.getD i [])))
  l : H la = some (.dT (encT L))
  nd : das.Nodup
  ln : la ∉ das
section
variable {H H' : Hp} {ga la : Addr} {das : List Addr} {G : Gifts} {L : List (Part × Int)}
theorem Gs.mono (x : Gs H ga la das G L) (e : Same H H') : Gs H' ga la das G L := ⟨e _ _ x.g, x.ld, fun i a h => e _ _ (x.d i a h), e _ _ x.l, x.nd, x.ln⟩
theorem Gs.lst (x : Gs H ga la das G L) : LstOf DcT G H (.ref ga) := by
  refine ⟨ga, _, rfl, x.g, ?_⟩
  have key : ∀ (ds : List Addr) (gs : Gifts), ds.length = gs.length → (∀ (i : Nat) a, ds[i]? = some a → H a = some (.dT (encT (gs.getD i [])))) → PP H (ds.map V.ref) (gs.map DcT) := by
    intro ds
    induction ds with
    | nil => intro gs hl _; cases gs with
      | nil => exact True.intro
      | cons _ _ => simp at hl
    | cons a ds ih =>
      intro gs hl h
      cases gs with
      | nil => simp at hl
      | cons g gs =>
        exact ⟨⟨a, rfl, h 0 a rfl⟩, ih gs (by simpa using hl) fun i b hb => by have := h (i + 1) b (by simpa using hb); simpa using this⟩
  exact key das G x.ld x.d
theorem Gs.adr (x : Gs H ga la das G L) : LstOf (fun a => IsV (.ref a)) das H (.ref ga) := ⟨ga, _, rfl, x.g, pp_self⟩
theorem Gs.left (x : Gs H ga la das G L) (L' : List (Part × Int)) : Gs (upd H la (.dT (encT L'))) ga la das G L' where
  g := by rw [upd_ne (ne_of x.g x.l (fun z => by cases z))]; exact x.g
  ld := x.ld
  d := fun i a h => by
    have hne : a ≠ la := fun z => by subst z; exact x.ln (List.mem_of_getElem? h)
    rw [upd_ne hne]; exact x.d i a h
  l := upd_same
  nd := x.nd
  ln := x.ln
theorem Gs.set (x : Gs H ga la das G L) {i : Nat} {a : Addr} (h : das[i]? = some a) (g : List (Part × Int)) : Gs (upd H a (.dT (encT g))) ga la das (G.set i g) L where
  g := by rw [upd_ne (ne_of x.g (x.d i a h) (fun z => by cases z))]; exact x.g
  ld := by rw [List.length_set]; exact x.ld
  d := fun j b hb => by
    have hi : i < das.length := (List.getElem?_eq_some_iff.mp h).1
    rw [getD_set]
    by_cases e : j = i
    · subst e
      rw [h] at hb
      cases hb
      rw [if_pos ⟨rfl, by rw [← x.ld]; exact hi⟩, upd_same]
    · rw [if_neg (fun z => e z.1), upd_ne (fun z => e ?_)]
      · exact x.d j b hb
      · subst z
        obtain ⟨h1, h2⟩ := List.getElem?_eq_some_iff.mp h
        obtain ⟨h3, h4⟩ := List.getElem?_eq_some_iff.mp hb
        exact nodup_inj x.nd h3 h1 (h4.trans h2.symm)
  l := by
    have hne : la ≠ a := fun z => by subst z; exact x.ln (List.mem_of_getElem? h)
    rw [upd_ne hne]; exact x.l
  nd := x.nd
  ln := x.ln
end
structure LdIn where
  ps : List Prt
  wants : List Want
  G : Gifts
  L : List (Part × Int)
  k : Nat
  most : Int
/-- what one lead does -/
def LeadR (i : LdIn) (m : Int) (G' : Gifts) (L' : List (Part × Int)) : Prop :=
  (∃ pt hs, SpR i.ps i.wants i.G i.L i.k pt hs none ∧ m = 0 ∧ G' = i.G ∧ L' = i.L) ∨
  (∃ pt hs p F, SpR i.ps i.wants i.G i.L i.k pt hs (some p) ∧ WayB pt hs hs.length (some p) F ∧ 0 < m ∧ m ≤ i.most ∧ m ≤ gv i.L p ∧ (∀ s ∈ F, ∀ u, s.2.2 = some u → m ≤ gv (i.G.getD s.1 []) u) ∧ L' = ap i.L p (gv i.L p - m) ∧ G' = F.foldl (stepG m) i.G)
section
variable {P : Program} {w : World} {K : PySem.W.Frag} {mg : Str → Option Value} {base : Heap}
def spLead (C : Addr) : Sp := fun vs H Q _ => ∃ (i : LdIn) (v0 v1 : V) (ga la : Addr) (das : List Addr) (H0 : Hp), vs = [v0, v1, .ref ga, .ref la, .int i.k, .int i.most] ∧ Same H0 H ∧ RHeap C i.ps H0 v0 ∧ RWay i.wants H0 v1 ∧ (∀ a ∈ das, H0 a = none) ∧ H0 la = none ∧
  Gs H ga la das i.G i.L ∧ SpC ⟨i.ps, i.wants, i.G, i.L, i.k, fun _ => none⟩ ∧ GK i.ps i.wants i.G ∧ 0 < i.most ∧ ∀ v H' m G' L', Same H0 H' → Gs H' ga la das G' L' → LeadR i m G' L' → TupP [IsI m, AnyP] H' v → Q v H'
theorem er_min {σ : L2.St} {H : Hp} {ta : TE} {ns : List Int} (ha : EvR ta σ H (LstOf IsI ns)) (h0 : 0 < ns.length) : EvR (tCB (rMin K) (tCons ta tNil)) σ H (fun _ v => ∃ m, v = .int m ∧ m ∈ ns ∧ ∀ y ∈ ns, m ≤ y) := fun H1 e Q q =>
  (ea1 ha) H1 e _ fun vs H2 e2 r => by
    obtain ⟨v, rfl, a, ws, rfl, h2, h3⟩ := r.one
    exact ⟨a, ns, rfl, SqL.of (by rw [h2, pp_ints h3]), h0, fun m hm hy => q _ _ e2 ⟨m, rfl, hm, hy⟩⟩
theorem lets_len {ps : List Prt} {wants : List Want} (hps : ps.length ≤ 100) (hsh : ∀ x ∈ wants, x.shades.length ≤ 100) : ∀ i, i < wants.length → (letsP ps (wants.getD i dW)).length ≤ 100 := fun i hi => by
  unfold letsP
  split
  · rw [List.length_map]
    exact Nat.le_trans (List.length_filter_le _ _) hps
  · rw [List.length_map]
    exact hsh _ (List.mem_of_getElem? (getD_of (d := dW) hi))
-- slots: 0 heap, 1 wants, 2 gifts (cell), 3 left, 4 k, 5 most, 6 way, 7 many, 8 parts, 9 holders, 10 part, 11 one, 12 got, 13 given_up
abbrev N_lead : List Str := ["heap", "wants", "gifts", "left", "k", "most", "way", "many", "parts", "holders", "part", "one", "got", "given_up"]
theorem sc_lead : FnScope N_lead ["heap", "wants", "gifts", "left", "k", "most"] (defScope s_lead) := ⟨rfl, rfl, rfl, by decide +kernel, rfl, by decide +kernel, by decide +kernel⟩
theorem ok_lead (T : Tx w K mg) : Cal P w K mg base 4 "lead" (spLead (CH K)) [] := by
  refine mk_cal T.f_lead T.g_lead sc_lead (fun _ _ _ _ _ _ us hl => match us, hl with | [_, _, _, _, _, _], _ => rfl) ?len (fun cdv A outer s H vs Q E hr h => ?_)
  case len => exact fun vs H Q E ⟨i, v0, v1, ga, la, das, H0, h, _⟩ => by rw [h]; rfl
  obtain ⟨⟨ps, wants, G, L, k, most⟩, v0, v1, ga, la, das, H0, hv, s0, h0, h1, hda, hla, hG, hsp, hgk, hmost, q⟩ := h
  subst hv
  dsimp only at h0 h1 hG hsp hgk hmost q
  have hlet := lets_len hsp.ps hsp.sh
  refine ⟨_, (pss_cons (ps_asg (pe_c (ok_spread T) hr (by decide) rfl (pa_cons (pv 0) (pa_cons (pv 1) (pa_cons (pv 2) (pa_cons (pv 3) (pa_cons (pv 4) pa_nil)))))) (kx_tup K (by rfl) (pgs_cons (pg_name (i := 8) sc_lead.nd rfl (.inl rfl)) (pgs_cons (pg_name (i := 9) sc_lead.nd rfl (.inl rfl)) (pgs_cons (pg_name (i := 10) sc_lead.nd rfl (.inl rfl)) pgs_nil)))))
    (pss_cons (ps_if (pt_cmp (pc_isN (pv 10))) (pss_one (ps_ret (pe_tup (pa_cons pe_int (pa_cons (pv 9) pa_nil))))) pss_nil)
    (pss_cons (ps_set (i := 6) sc_lead.nd rfl (.inl rfl) (pe_c (ok_way_of T) hr (by decide) rfl (pa_cons (pv 8) (pa_cons (pv 9) (pa_cons (pv 10) pa_nil)))))
    (pss_cons (ps_set (i := 7) sc_lead.nd rfl (.inl rfl) (pe_callB (id := "min") (kx_min K rfl) (by rfl) T.b_min (by decide +kernel) (pa_cons (pe_op op_cat (pe_lst (pa_cons (pv 5) (pa_cons (pe_dget (hu_of hr) (pv 3) (pv 10) (fun _ _ => rfl)) pa_nil))) (pe_lc (own := [("one", 11), ("got", 12), ("given_up", 13)]) (g := gTup K 3 (gCons (gName 11) (gCons (gName 12) (gCons (gName 13) gNil)))) (by rfl) sc_lead.nd (kx_pi_list K (pv 6)) (blkOk_by (N := N_lead) (sc := defScope s_lead) (by decide +kernel)) (fun _ _ _ _ _ => (kx_tup K (by rfl) (pgs_cons (pg_name (i := 11) sc_lead.nd rfl (.inl rfl)) (pgs_cons (pg_name (i := 12) sc_lead.nd rfl (.inl rfl)) (pgs_cons (pg_name (i := 13) sc_lead.nd rfl (.inl rfl)) pgs_nil))))) (fun _ _ _ _ _ => pts_one (pt_cmp (pc_notN (pv 13)))) (fun _ _ _ _ _ => (pe_dget (hu_of hr) (pe_ix (kx_ixL K) (pv 2) (pv 11) (fun _ _ => rfl)) (pv 13) (fun _ _ => rfl))))) pa_nil)))
    (pss_cons (ps_dput (hu_of hr) (pv 3) (pv 10) (pe_op op_sub (pe_dget (hu_of hr) (pv 3) (pv 10) (fun _ _ => rfl)) (pv 7)) rfl)
    (pss_cons (ps_for PassesOwn.never rfl (kx_pi_list K (pv 6)) (kx_tup K (by rfl) (pgs_cons (pg_name (i := 11) sc_lead.nd rfl (.inl rfl)) (pgs_cons (pg_name (i := 12) sc_lead.nd rfl (.inl rfl)) (pgs_cons (pg_name (i := 13) sc_lead.nd rfl (.inl rfl)) pgs_nil))))
      (pss_cons (ps_dput (hu_of hr) (pe_ix (kx_ixL K) (pv 2) (pv 11) (fun _ _ => rfl)) (pv 12) (pe_op op_add (pe_dget2 (hu_of hr) (pe_ix (kx_ixL K) (pv 2) (pv 11) (fun _ _ => rfl)) (pv 12) pe_int ⟨rfl, rfl, rfl, rfl⟩) (pv 7)) rfl)
    (pss_one (ps_if (pt_cmp (pc_notN (pv 13))) (pss_one (ps_dput (hu_of hr) (pe_ix (kx_ixL K) (pv 2) (pv 11) (fun _ _ => rfl)) (pv 13) (pe_op op_sub (pe_dget (hu_of hr) (pe_ix (kx_ixL K) (pv 2) (pv 11) (fun _ _ => rfl)) (pv 13) (fun _ _ => rfl)) (pv 7)) rfl)) pss_nil))))
    (pss_one (ps_ret (pe_tup (pa_cons (pv 7) (pa_cons (pv 9) pa_nil))))))))))), ?_⟩
  refine q_asg (er_call (⟨ps, wants, G, L, k, fun _ => none⟩ : SpIn) (ea_cons (er_var (R := RHs (CH K) ps fun _ => none) ⟨MX.mx s0 h0, fun _ _ z => by cases z⟩) (ea_cons (er_var (MX.mx s0 h1)) (ea_cons (er_var hG.lst) (ea2 (er_var (R := DcT L) ⟨la, rfl, hG.l⟩) er_v)))) hsp) fun v1' H1 e1 ⟨pt, hs, part, hR, r1⟩ => ?_
  have hG1 := hG.mono e1
  have s1 := s0.trans e1
  refine eg_tup3 r1 fun vp vh vq rp rh0 rq => ?_
  have rh := rh0.1
  refine q_when (eb_test (er_isNR (er_var rq) fun H v h => opt_non h)) (fun hb H2 e2 => ?_) fun hb H2 e2 => ?_
  · cases part with
    | some p => simp at hb
    | none => exact s_ret (er_tup (ps := [IsI 0, AnyP]) (ea2 er_c (er_any (er_var (MX.mx e2 rh)))) (by simp)) fun v H3 e3 r3 => q v H3 0 G L ((s1.trans e2).trans e3) ((hG1.mono e2).mono e3) (.inl ⟨pt, hs, hR, rfl, rfl, rfl⟩) r3
  · cases part with
    | none => simp at hb
    | some p =>
      have hb0 := hR.b
      have hsl : hs.length ≤ wants.length := hb0.len
      obtain ⟨hpk, hLp⟩ := hR.yes p rfl
      have hwl : wants.length ≤ 60 := hsp.ws
      have hat : AtB pt hs hs.length (some p) := by
        cases hz : ag pt p with
        | none => rw [hz] at hpk; cases hpk
        | some c =>
          obtain ⟨i, rfl, hi, _⟩ := hb0.pv p c hz
          obtain ⟨j, hj⟩ := List.mem_iff_getElem?.mp hi
          exact ⟨j, i, by have := (List.getElem?_eq_some_iff.mp hj).1; rwa [List.length_map] at this, hj, hz⟩
      refine q_set (er_call (pt, hs, some p) (ea_cons (er_var (MX.mx e2 rp)) (ea2 (er_var (MX.mx e2 rh)) (er_var (MX.mx e2 rq)))) ⟨hb0.nd, fun j k p h => let ⟨j', i', a, b, c, _⟩ := hb0.hv j k p h; ⟨j', i', a, b, c⟩, hat, by show hs.length ≤ 1000; omega⟩) fun vw H3 e3 ⟨F, hF, rw3⟩ => ?_
      dsimp only at hF
      have hFl := hF.len
      have hFe : ∀ s ∈ F, s.1 < wants.length ∧ s.2.1 ∈ letsP ps (wants.getD s.1 dW) ∧ ∀ u, s.2.2 = some u → gv (G.getD s.1 []) u > 0 := fun s hs' => by
        obtain ⟨j, h5, h6, h7⟩ := hF.each s hs'
        obtain ⟨i, h8, h9, h10⟩ := hb0.pv _ _ h7
        have hi : i = s.1 := by omega
        subst hi
        refine ⟨hb0.lt _ h9, h10, fun u hu => ?_⟩
        rw [hu] at h6
        obtain ⟨_, _, _, _, _, h11⟩ := hb0.hv j s.1 u h6
        exact h11
      have hG3 := (hG1.mono e2).mono e3
      have hsome : ∀ {g : List (Part × Int)} {u : Part}, gv g u > 0 → ag g u = some (gv g u) := fun {g u} h => by
        unfold gv at h ⊢
        cases z : ag g u with
        | none => rw [z] at h; exact absurd h (by decide)
        | some c => rfl
      refine q_set (er_min (ns := [most, gv L p] ++ ((F.filter fun s => !s.2.2.isNone).map fun s => gv (G.getD s.1 []) (s.2.2.getD (⟨#[]⟩, ⟨#[]⟩)))) (er_catLO (R := IsI) (xs := [most, gv L p]) (er_lst (ps := [IsI most, IsI (gv L p)]) (ea2 er_v (er_dgetT (g := L) (er_var ⟨la, rfl, hG3.l⟩) (er_var (R := RPart p) (MX.mx (e2.trans e3) rq)) (hsome hLp))) (by simp)) (er_lc (RB := IsI) (fun s : Step => !s.2.2.isNone) (fun s : Step => gv (G.getD s.1 []) (s.2.2.getD (⟨#[]⟩, ⟨#[]⟩))) (ei_lstX (er_var rw3)) (by omega) fun s v H4 hs4 e4 r => eg_tup3 r fun u1 u2 u3 g1 g2 g3 => ⟨rfl, eb_test (er_notNR (er_var g3) fun H v h => opt_non h), fun hc => ?_⟩) ?_) (by simp)) fun vm H4 e4 ⟨m, hvm, hm1, hm2⟩ => ?_
      · obtain ⟨h5, h6, h7⟩ := hFe s hs4
        have hgs : G[s.1]? = some (G.getD s.1 []) := getD_of (by rw [hgk.ln]; exact h5)
        cases hu : s.2.2 with
        | none => rw [hu] at hc; simp at hc
        | some u =>
          rw [hu] at g3
          exact er_dgetT (g := G.getD s.1 []) (p := u) (er_ixLO (R := DcT) (er_var (hG3.mono e4).lst) (er_var g1) (by omega) (by simpa using hgs)) (er_var g3) (hsome (h7 u hu))
      · have := List.length_filter_le (fun s : Step => !s.2.2.isNone) F
        simp only [List.length_map, List.length_cons, List.length_nil]
        omega
      · subst hvm
        have hm0 : m ≤ most := hm2 _ (by simp)
        have hmL : m ≤ gv L p := hm2 _ (by simp)
        have hmF : ∀ s ∈ F, ∀ u, s.2.2 = some u → m ≤ gv (G.getD s.1 []) u := fun s hs' u hu => hm2 _ (List.mem_append_right _ (List.mem_map.mpr ⟨s, List.mem_filter.mpr ⟨hs', by rw [hu]; rfl⟩, by rw [hu]; rfl⟩))
        have hmp : 0 < m := by
          rcases List.mem_append.mp hm1 with h | h
          · rcases List.mem_cons.mp h with rfl | h
            · exact hmost
            · rw [List.mem_singleton.mp h]; exact hLp
          · obtain ⟨s, h5, rfl⟩ := List.mem_map.mp h
            obtain ⟨h6, h7⟩ := List.mem_filter.mp h5
            cases hu : s.2.2 with
            | none => rw [hu] at h7; simp at h7
            | some u => exact (hFe s h6).2.2 u hu
        have hG4 := hG3.mono e4
        have s4 : Same H0 H4 := ((s1.trans e2).trans e3).trans e4
        have rw4 := MX.mx e4 rw3
        have rq4 := MX.mx ((e2.trans e3).trans e4) rq
        have hll : L.length ≤ 50000 := hsp.ll
        refine q_dputT (g := L) (p := p) (n := gv L p - m) hG4.l (er_I0 (er_dgetT (g := L) (er_var ⟨la, rfl, hG4.l⟩) (er_var (R := RPart p) rq4) (hsome hLp)) er_v) er_v (er_var (R := RPart p) rq4) (by omega) fun H5 e5 => ?_
        have hG5 := (hG4.mono e5).left (ap L p (gv L p - m))
        have s5 : Same H0 (upd H5 la (.dT (encT (ap L p (gv L p - m))))) := (s4.trans e5).mut hla
        have f5 : FK H4 (upd H5 la (.dT (encT (ap L p (gv L p - m))))) := (Same.fk e5).trans (FK.upd (hG4.mono e5).l fun z => z)
        obtain ⟨wa, wvs, rfl, hwa, hwvs⟩ := MX.mx e5 rw4
        have nwl : wa ≠ la := ne_of hwa (hG4.mono e5).l (fun z => by cases z)
        have fu5 : FK H5 (upd H5 la (.dT (encT (ap L p (gv L p - m))))) := FK.upd (hG4.mono e5).l fun z => z
        refine q_forA (RA := RStep) (a := wa) (vs := wvs) (xs := F) er_v (by rw [upd_ne nwl]; exact hwa) (MFs.mf fu5 hwvs) (fun i σ' Hc => (∃ v11 v12 v13, σ' = [some v0, some v1, some (.ref ga), some (.ref la), some (.int k), some (.int most), some (.ref wa), some (.int m), some vp, some vh, some vq, v11, v12, v13]) ∧ Same H0 Hc ∧ Gs Hc ga la das ((F.take i).foldl (stepG m) G) (ap L p (gv L p - m)) ∧ GK ps wants ((F.take i).foldl (stepG m) G) ∧ (∀ j u, (ag (G.getD j []) u).isSome = true → (ag (((F.take i).foldl (stepG m) G).getD j []) u).isSome = true) ∧ Hc wa = some (.lst wvs))
          (fun H6 e6 => ⟨⟨_, _, _, rfl⟩, s5.trans e6, hG5.mono e6, hgk, fun j u h => h, e6 _ _ (by rw [upd_ne nwl]; exact hwa)⟩) (fun i σ' Hc _ ⟨_, _, _, _, _, h⟩ => h) ?_ ?_
        · rintro i ⟨one, got, up⟩ v σ' Hc N hx f ⟨⟨v11, v12, v13, rfl⟩, s6, hG6, hgk6, hmore, hwa6⟩ r n
          obtain ⟨h5, h6, h7⟩ := hFe _ (List.mem_of_getElem? hx)
          dsimp only at h5 h6 h7
          generalize hGi : (F.take i).foldl (stepG m) G = Gi at hG6 hgk6 hmore
          have hGi2 : (F.take (i + 1)).foldl (stepG m) G = stepG m Gi (one, got, up) := by rw [take_snoc hx, List.foldl_append, hGi]; rfl
          have hone : one < Gi.length := by rw [hgk6.ln]; exact h5
          obtain ⟨a, ha⟩ : ∃ a, das[one]? = some a := ⟨das[one]'(by rw [hG6.ld]; exact hone), List.getElem?_eq_getElem _⟩
          have hga : Gi[one]? = some (Gi.getD one []) := getD_of hone
          have hda1 := hG6.d one a ha
          have hgl := hgk6.few one hlet
          have nwa : wa ≠ a := ne_of hwa6 hda1 (fun z => by cases z)
          have h0a : H0 a = none := hda a (List.mem_of_getElem? ha)
          refine eg_tup3 r fun u1 u2 u3 g1 g2 g3 => ?_
          refine q_dputT (g := Gi.getD one []) (p := got) (n := gv (Gi.getD one []) got + m) hda1 (er_I0 (er_dget2T (g := Gi.getD one []) (p := got) (er_ixLO (R := DcT) (er_var hG6.lst) (er_var g1) (by omega) (by simpa using hga)) (er_var g2) er_c) er_v) (er_ixLO (R := fun a => IsV (.ref a)) (er_var hG6.adr) (er_var g1) (by omega) (by simpa using ha)) (er_var g2) (by omega) fun H7 e7 => ?_
          have hG7 := (hG6.mono e7).set ha (ap (Gi.getD one []) got (gv (Gi.getD one []) got + m))
          have fk7 : FK Hc (upd H7 a (.dT (encT (ap (Gi.getD one []) got (gv (Gi.getD one []) got + m))))) := (Same.fk e7).trans (FK.upd (e7 _ _ hda1) fun z => z)
          have s7 : Same H0 (upd H7 a (.dT (encT (ap (Gi.getD one []) got (gv (Gi.getD one []) got + m))))) := (s6.trans e7).mut h0a
          have hwa7 : (upd H7 a (.dT (encT (ap (Gi.getD one []) got (gv (Gi.getD one []) got + m))))) wa = some (.lst wvs) := by rw [upd_ne nwa]; exact e7 _ _ hwa6
          have hgk8 : GK ps wants (stepG m Gi (one, got, up)) := hgk6.step h5 h6 (fun u hu => hmore one u (by rw [hsome (h7 u hu)]; rfl))
          have hmore8 : ∀ j u, (ag (G.getD j []) u).isSome = true → (ag ((stepG m Gi (one, got, up)).getD j []) u).isSome = true := fun j u h => stepG_more hone (hmore j u h)
          refine s_when (eb_test (er_notNR (R := OptP RPart up) (er_var (MF.mf fk7 g3)) fun H v h => opt_non h)) (fun hb H8 e8 => ?_) fun hb H8 e8 => ?_
          · cases up with
            | none => simp at hb
            | some u =>
              have hpu : (ag (ap (Gi.getD one []) got (gv (Gi.getD one []) got + m)) u).isSome = true := by
                have h8 := hmore one u (by rw [hsome (h7 u rfl)]; rfl)
                rw [ag_isSome] at h8 ⊢
                exact ap_mem_keys.mpr (.inr h8)
              have hpu2 : ag (ap (Gi.getD one []) got (gv (Gi.getD one []) got + m)) u = some (gv (ap (Gi.getD one []) got (gv (Gi.getD one []) got + m)) u) := by
                unfold gv
                cases z : ag (ap (Gi.getD one []) got ((ag (Gi.getD one []) got).getD 0 + m)) u with
                | none => unfold gv at hpu; rw [z] at hpu; cases hpu
                | some c => rfl
              have hG8 := hG7.mono e8
              have hda8 := hG8.d one a ha
              have hset : (Gi.set one (ap (Gi.getD one []) got (gv (Gi.getD one []) got + m))).getD one [] = ap (Gi.getD one []) got (gv (Gi.getD one []) got + m) := by rw [getD_set, if_pos ⟨rfl, hone⟩]
              rw [hset] at hda8
              have hga8 : (Gi.set one (ap (Gi.getD one []) got (gv (Gi.getD one []) got + m)))[one]? = some (ap (Gi.getD one []) got (gv (Gi.getD one []) got + m)) := by rw [List.getElem?_set_self hone]
              have g38 : RPart u H8 u3 := MF.mf (fk7.trans (Same.fk e8)) g3
              have g18 : RNat one H8 u1 := g1
              have hal := ap_len (Gi.getD one []) got (gv (Gi.getD one []) got + m)
              refine s_dputT (g := ap (Gi.getD one []) got (gv (Gi.getD one []) got + m)) (p := u) (n := gv (ap (Gi.getD one []) got (gv (Gi.getD one []) got + m)) u - m) hda8 (er_I0 (er_dgetT (er_ixLO (R := DcT) (er_var hG8.lst) (er_var g18) (by omega) (by simpa using hga8)) (er_var g38) hpu2) er_v) (er_ixLO (R := fun a => IsV (.ref a)) (er_var hG8.adr) (er_var g18) (by omega) (by simpa using ha)) (er_var g38) (by omega) fun H9 e9 => ?_
              have hG9 := (hG8.mono e9).set ha (ap (ap (Gi.getD one []) got (gv (Gi.getD one []) got + m)) u (gv (ap (Gi.getD one []) got (gv (Gi.getD one []) got + m)) u - m))
              rw [List.set_set] at hG9
              refine n _ _ (fk7.trans ((Same.fk (e8.trans e9)).trans (FK.upd (e9 _ _ hda8) fun z => z))) ?_
              rw [hGi2]
              exact ⟨⟨_, _, _, rfl⟩, ((s7.trans e8).trans e9).mut h0a, hG9, hgk8, hmore8, by rw [upd_ne nwa]; exact e9 _ _ (e8 _ _ hwa7)⟩
          · cases up with
            | some u => simp at hb
            | none =>
              refine n _ _ (fk7.trans (Same.fk e8)) ?_
              rw [hGi2]
              exact ⟨⟨_, _, _, rfl⟩, s7.trans e8, hG7.mono e8, hgk8, hmore8, e8 _ _ hwa7⟩
        · rintro σ' Hc f ⟨⟨v11, v12, v13, rfl⟩, s6, hG6, hgk6, hmore, hwa6⟩
          rw [List.take_length] at hG6
          refine s_ret (er_tup (ps := [IsI m, AnyP]) (ea2 er_v (er_var (R := AnyP) True.intro)) (by simp)) fun v H7 e7 r7 => q v H7 m _ _ (s6.trans e7) (hG6.mono e7) (.inr ⟨pt, hs, p, F, hR, hF, hmp, hm0, hmL, hmF, rfl, rfl⟩) r7
end
end K43
set_option Elab.async false
set_option linter.all false
/-! # KM3: what leading keeps -/
namespace K43
open PySem
def gsum (n : Nat) (G : Gifts) (p : Part) : Int := ((List.range n).map fun i => gv (G.getD i []) p).sum
def closedIn (ps : List Prt) (wants : List Want) (G : Gifts) (L : List (Part × Int)) (R : Nat → Prop) : Prop := ∀ i, R i → i < wants.length → ∀ p ∈ letsP ps (wants.getD i dW), gv L p ≤ 0 ∧ ∀ o, o < wants.length → gv (G.getD o []) p > 0 → R o
def Stuck (ps : List Prt) (wants : List Want) (G : Gifts) (L : List (Part × Int)) (k : Nat) : Prop := ∃ R : Nat → Prop, closedIn ps wants G L R ∧ R k
structure StOk (ps : List Prt) (wants : List Want) (G : Gifts) (L : List (Part × Int)) (ls : List Int) : Prop where
  gk : GK ps wants G
  pos : ∀ i p, 0 ≤ gv (G.getD i []) p
  lk : L.map (·.1) = (leftOf ps).map (·.1)
  lpos : ∀ p, 0 ≤ gv L p
  bal : ∀ p, gv L p + gsum wants.length G p = gv (leftOf ps) p
  ll : ls.length = wants.length
  lac : ∀ i, i < wants.length → vsum (G.getD i []) + ls.getD i 0 = (wants.getD i dW).many
  lnn : ∀ i, 0 ≤ ls.getD i 0
theorem lets_form {ps : List Prt} {x : Want} {p : Part} (h : p ∈ letsP ps x) : p.1 = x.form := by
  unfold letsP at h
  split at h
  · obtain ⟨e, h1, rfl⟩ := List.mem_map.mp h
    exact of_decide_eq_true (List.mem_filter.mp h1).2
  · obtain ⟨s, _, rfl⟩ := List.mem_map.mp h
    rfl
theorem sum_upd {n k : Nat} {f g : Nat → Int} {d : Int} (hk : k < n) (h1 : g k = f k + d) (h2 : ∀ i, i ≠ k → g i = f i) : ((List.range n).map g).sum = ((List.range n).map f).sum + d := by
  induction n with
  | zero => omega
  | succ n ih =>
    rw [List.range_succ, List.map_append, List.map_append, List.sum_append, List.sum_append]
    simp only [List.map_cons, List.map_nil, List.sum_cons, List.sum_nil]
    by_cases e : k = n
    · subst e
      have : (List.range k).map g = (List.range k).map f := List.map_congr_left fun i hi => h2 i (by have := List.mem_range.mp hi; omega)
      rw [this, h1]
      omega
    · rw [ih (by omega), h2 n (fun z => e z.symm)]
      omega
section
variable {ps : List Prt} {wants : List Want} {G : Gifts} {L pt : List (Part × Int)} {hs : List (Nat × Option Part)} {k : Nat} {m : Int} {ls : List Int}
theorem gv_step (s : Step) (h : s.1 < G.length) (j : Nat) (q : Part) : gv ((stepG m G s).getD j []) q = gv (G.getD j []) q + (if j = s.1 ∧ q = s.2.1 then m else 0) - (if j = s.1 ∧ s.2.2 = some q then m else 0) := by
  rw [stepG_at m G s h]
  by_cases e : j = s.1
  · subst e
    rw [if_pos rfl]
    cases hu : s.2.2 with
    | none =>
      dsimp only
      rw [gv_ap]
      by_cases e2 : q = s.2.1
      · subst e2; simp
      · simp [e2]
    | some u =>
      dsimp only
      rw [gv_ap, gv_ap, gv_ap]
      by_cases e2 : q = u
      · subst e2
        by_cases e3 : q = s.2.1
        · subst e3; simp
        · simp [e3]
      · have e4 : ¬ u = q := fun z => e2 z.symm
        by_cases e3 : q = s.2.1
        · subst e3; simp [e2, e4]
        · simp [e2, e3, e4]
  · simp [e]
theorem gsum_step (s : Step) (h : s.1 < G.length) (hn : s.1 < wants.length) (q : Part) : gsum wants.length (stepG m G s) q = gsum wants.length G q + (if q = s.2.1 then m else 0) - (if s.2.2 = some q then m else 0) := by
  unfold gsum
  rw [sum_upd (f := fun i => gv (G.getD i []) q) (d := (if q = s.2.1 then m else 0) - (if s.2.2 = some q then m else 0)) hn]
  · omega
  · rw [gv_step s h]
    simp
    omega
  · intro i hi
    rw [gv_step s h]
    simp [hi]
theorem vsum_step (s : Step) (h : s.1 < G.length) (nd : ((G.getD s.1 []).map (·.1)).Nodup) (j : Nat) : vsum ((stepG m G s).getD j []) = vsum (G.getD j []) + (if j = s.1 ∧ s.2.2 = none then m else 0) := by
  rw [stepG_at m G s h]
  by_cases e : j = s.1
  · subst e
    rw [if_pos rfl]
    cases hu : s.2.2 with
    | none =>
      dsimp only
      rw [vsum_ap nd]
      simp
      omega
    | some u =>
      dsimp only
      rw [vsum_ap (ap_nodup nd), vsum_ap nd]
      simp
      omega
  · simp [e]
theorem foldl_len {F : List Step} : (F.foldl (stepG m) G).length = G.length := by
  induction F generalizing G with
  | nil => rfl
  | cons s F ih => rw [List.foldl_cons, ih, stepG_len]
/-- a way's facts, in the search's own words -/
structure WF (ps : List Prt) (wants : List Want) (G : Gifts) (hs : List (Nat × Option Part)) (k : Nat) (b : Nat) (s : Step) : Prop where
  lt : s.1 < wants.length
  got : s.2.1 ∈ letsP ps (wants.getD s.1 dW)
  up : ∀ u, s.2.2 = some u → gv (G.getD s.1 []) u > 0
  non : s.2.2 = none → s.1 = k
  rk : ∃ j, j < b ∧ (keysH hs)[j]? = some s.1
theorem way_facts (hb : SpB ps wants G k pt hs) {b : Nat} {o : Option Part} {F : List Step} (h : WayB pt hs b o F) : ∀ s ∈ F, WF ps wants G hs k b s := fun s hs' => by
  obtain ⟨j, h5, h6, h7⟩ := h.each s hs'
  obtain ⟨i, h8, h9, h10⟩ := hb.pv _ _ h7
  have hi : i = s.1 := by omega
  subst hi
  have hk : (keysH hs)[j]? = some s.1 := by rw [List.getElem?_map, h6]; rfl
  refine ⟨hb.lt _ h9, h10, fun u hu => ?_, fun hn => ?_, ⟨j, h5, hk⟩⟩
  · rw [hu] at h6
    obtain ⟨_, _, _, _, _, h11⟩ := hb.hv j s.1 u h6
    exact h11
  · rw [hn] at h6
    have := hb.hn j s.1 h6
    subst this
    obtain ⟨t, e⟩ := hb.hd
    rw [e] at h6
    have h6' : (k, none) = (s.1, (none : Option Part)) := by simpa using h6
    exact (congrArg Prod.fst h6').symm
/-- the sums over all gifts -/
theorem way_gsum (hn : G.length = wants.length) : ∀ {F : List Step} {b : Nat} {o : Option Part}, WayB pt hs b o F → (∀ s ∈ F, s.1 < wants.length) → ∀ {G : Gifts}, G.length = wants.length → ∀ q, gsum wants.length (F.foldl (stepG m) G) q = gsum wants.length G q + (if o = some q then m else 0)
  | [], b, none, _, _, G, _, q => by simp
  | [], b, some p, h, _, _, _, _ => h.elim
  | (one, p', o') :: r, b, some p, ⟨hp, j, hj, h1, h2, h⟩, hl, G, hG, q => by
    subst hp
    have ih := way_gsum hn h (fun s hs => hl s (List.mem_cons_of_mem _ hs)) (G := stepG m G (one, p', o')) (by rw [stepG_len]; exact hG) q
    have h0 := hl _ List.mem_cons_self
    rw [List.foldl_cons, ih, gsum_step (wants := wants) (one, p', o') (by rw [hG]; exact h0) h0]
    dsimp only
    by_cases e : p' = q
    · subst e; simp
    · have e' : ¬ q = p' := fun z => e z.symm
      simp [e, e']
  | (_, _, _) :: _, _, none, h, _, _, _, _ => h.elim
/-- the keys, step by step -/
theorem way_gk : ∀ {F : List Step}, (∀ s ∈ F, s.1 < wants.length ∧ s.2.1 ∈ letsP ps (wants.getD s.1 dW)) → ∀ {G : Gifts}, GK ps wants G → (∀ s ∈ F, ∀ u, s.2.2 = some u → (ag (G.getD s.1 []) u).isSome = true) → GK ps wants (F.foldl (stepG m) G)
  | [], _, G, g, _ => g
  | s :: r, hl, G, g, hu => by
    obtain ⟨h1, h2⟩ := hl s List.mem_cons_self
    rw [List.foldl_cons]
    exact way_gk (fun s' hs => hl s' (List.mem_cons_of_mem _ hs)) (g.step h1 h2 (hu s List.mem_cons_self)) fun s' hs u h => stepG_more (by rw [g.ln]; exact h1) (hu s' (List.mem_cons_of_mem _ hs) u h)
theorem isSome_pos {g : List (Part × Int)} {u : Part} (h : gv g u > 0) : (ag g u).isSome = true := by
  unfold gv at h
  cases z : ag g u with
  | none => rw [z] at h; exact absurd h (by decide)
  | some c => rfl
/-- each gift's sum: the searcher's grows -/
theorem way_vsum : ∀ {F : List Step} {b : Nat} {o : Option Part}, WayB pt hs b o F → (∀ s ∈ F, s.1 < wants.length ∧ s.2.1 ∈ letsP ps (wants.getD s.1 dW) ∧ (s.2.2 = none → s.1 = k)) → ∀ {G : Gifts}, GK ps wants G → (∀ s ∈ F, ∀ u, s.2.2 = some u → (ag (G.getD s.1 []) u).isSome = true) → ∀ j, vsum ((F.foldl (stepG m) G).getD j []) = vsum (G.getD j []) + (if o ≠ none ∧ j = k then m else 0)
  | [], b, none, _, _, G, _, _, j => by simp
  | [], b, some p, h, _, _, _, _, _ => h.elim
  | (one, p', o') :: r, b, some p, ⟨hp, jj, hj, h1, h2, h⟩, hl, G, g, hu, j => by
    subst hp
    obtain ⟨k1, k2, k3⟩ := hl _ List.mem_cons_self
    have ih := way_vsum h (fun s hs => hl s (List.mem_cons_of_mem _ hs)) (g.step (m := m) k1 k2 (hu _ List.mem_cons_self)) (fun s' hs u h => stepG_more (m := m) (by rw [g.ln]; exact k1) (hu s' (List.mem_cons_of_mem _ hs) u h)) j
    rw [List.foldl_cons, ih, vsum_step (m := m) (one, p', o') (by rw [g.ln]; exact k1) (g.nd _)]
    dsimp only at k3 ⊢
    cases o' with
    | none =>
      have := k3 rfl
      subst this
      simp
    | some u => simp
  | (_, _, _) :: _, _, none, h, _, _, _, _, _ => h.elim
/-- nothing falls below nothing -/
theorem way_pos (hnd : (keysH hs).Nodup) (hm : 0 ≤ m) : ∀ {F : List Step} {b : Nat} {o : Option Part}, WayB pt hs b o F → (∀ s ∈ F, s.1 < wants.length) → ∀ {G : Gifts}, G.length = wants.length → (∀ s ∈ F, ∀ u, s.2.2 = some u → m ≤ gv (G.getD s.1 []) u) → (∀ j q, 0 ≤ gv (G.getD j []) q) → ∀ j q, 0 ≤ gv ((F.foldl (stepG m) G).getD j []) q
  | [], b, o, _, _, G, _, _, hp, j, q => hp j q
  | (one, p', o') :: r, b, some p, ⟨hp', jj, hj, h1, h2, h⟩, hl, G, hG, hu, hp, j, q => by
    subst hp'
    have k1 := hl _ List.mem_cons_self
    dsimp only at k1
    rw [List.foldl_cons]
    refine way_pos hnd hm h (fun s hs => hl s (List.mem_cons_of_mem _ hs)) (by rw [stepG_len]; exact hG) (fun s hs' u hu2 => ?_) (fun j q => ?_) j q
    · obtain ⟨j2, h5, h6, _⟩ := h.each s hs'
      have hne : s.1 ≠ one := fun e => by
        have e1 : (keysH hs)[j2]? = some s.1 := by rw [List.getElem?_map, h6]; rfl
        have e2 : (keysH hs)[jj]? = some one := by rw [List.getElem?_map, h1]; rfl
        obtain ⟨a1, a2⟩ := List.getElem?_eq_some_iff.mp e1
        obtain ⟨b1, b2⟩ := List.getElem?_eq_some_iff.mp e2
        have := nodup_inj hnd a1 b1 (by rw [a2, b2, e])
        omega
      rw [stepG_at m G _ (by rw [hG]; exact k1), if_neg hne]
      exact hu s (List.mem_cons_of_mem _ hs') u hu2
    · rw [gv_step (one, p', o') (by rw [hG]; exact k1)]
      dsimp only
      have h0 := hp j q
      by_cases e : j = one ∧ o' = some q
      · have h8 := hu _ List.mem_cons_self q e.2
        dsimp only at h8
        rw [if_pos e, e.1]
        by_cases e2 : one = one ∧ q = p'
        · rw [if_pos e2]; omega
        · rw [if_neg e2]; omega
      · rw [if_neg e]
        split <;> omega
  | (_, _, _) :: _, _, none, h, _, _, _, _, _, _, _ => h.elim
/-- what a way does not touch -/
theorem way_off {F : List Step} {q : Part} : (∀ s ∈ F, s.2.1 ≠ q ∧ s.2.2 ≠ some q) → (∀ s ∈ F, s.1 < wants.length) → ∀ {G : Gifts}, G.length = wants.length → ∀ j, gv ((F.foldl (stepG m) G).getD j []) q = gv (G.getD j []) q := by
  induction F with
  | nil => intro _ _ G _ j; rfl
  | cons s r ih =>
    intro h hl G hG j
    rw [List.foldl_cons, ih (fun s' hs => h s' (List.mem_cons_of_mem _ hs)) (fun s' hs => hl s' (List.mem_cons_of_mem _ hs)) (by rw [stepG_len]; exact hG)]
    obtain ⟨h1, h2⟩ := h s List.mem_cons_self
    rw [gv_step s (by rw [hG]; exact hl s List.mem_cons_self), if_neg (fun z => h1 z.2.symm), if_neg (fun z => h2 z.2)]
    omega
/-- a way keeps clear of what is closed -/
theorem way_clear {R : Nat → Prop} (hR : closedIn ps wants G L R) : ∀ {F : List Step} {b : Nat} {o : Option Part}, WayB pt hs b o F → (∀ s ∈ F, s.1 < wants.length ∧ s.2.1 ∈ letsP ps (wants.getD s.1 dW) ∧ ∀ u, s.2.2 = some u → gv (G.getD s.1 []) u > 0) →
    (∀ p, o = some p → ¬ ∃ i, R i ∧ i < wants.length ∧ p ∈ letsP ps (wants.getD i dW)) → ∀ s ∈ F, ∀ q, (∃ i, R i ∧ i < wants.length ∧ q ∈ letsP ps (wants.getD i dW)) → s.2.1 ≠ q ∧ s.2.2 ≠ some q
  | [], _, _, _, _, _, s, hs, _, _ => by cases hs
  | (one, p', o') :: r, b, some p, ⟨hp, jj, hj, h1, h2, h⟩, hl, ho, s, hs, q, hq => by
    subst hp
    obtain ⟨k1, k2, k3⟩ := hl _ List.mem_cons_self
    dsimp only at k1 k2 k3
    have n1 : ¬ R one := fun z => ho p' rfl ⟨one, z, k1, k2⟩
    have n2 : ∀ u, o' = some u → ¬ ∃ i, R i ∧ i < wants.length ∧ u ∈ letsP ps (wants.getD i dW) := fun u hu ⟨i, g1, g2, g3⟩ => n1 ((hR i g1 g2 u g3).2 one k1 (k3 u hu))
    rcases List.mem_cons.mp hs with rfl | hs
    · exact ⟨fun z => ho p' rfl (by dsimp only at z; rw [z]; exact hq), fun z => n2 q z hq⟩
    · exact way_clear hR h (fun s hs => hl s (List.mem_cons_of_mem _ hs)) n2 s hs q hq
  | (_, _, _) :: _, _, none, h, _, _, _, _, _, _ => h.elim
theorem ap_keys_in {g : List (Part × Int)} {p : Part} {v : Int} (h : p ∈ g.map (·.1)) : (ap g p v).map (·.1) = g.map (·.1) := by rw [ap_keys, if_pos h]
/-- one lead: all stands well after it -/
theorem lead_ok {k : Nat} {most : Int} {G' : Gifts} {L' : List (Part × Int)} (st : StOk ps wants G L ls) (hk : k < wants.length) (hm : most ≤ ls.getD k 0) (h : LeadR ⟨ps, wants, G, L, k, most⟩ m G' L') :
    StOk ps wants G' L' (ls.set k (ls.getD k 0 - m)) ∧ (∀ R, closedIn ps wants G L R → closedIn ps wants G' L' R) ∧ 0 ≤ m ∧ (m = 0 → Stuck ps wants G' L' k) := by
  have hset : ∀ (x : Int) i, (ls.set k x).getD i 0 = if i = k then x else ls.getD i 0 := fun x i => by
    rw [getD_set]
    by_cases e : i = k
    · rw [if_pos ⟨e, by rw [st.ll]; exact hk⟩, if_pos e]
    · rw [if_neg (fun z => e z.1), if_neg e]
  rcases h with ⟨pt, hs, hR, rfl, rfl, rfl⟩ | ⟨pt, hs, p, F, hR, hF, h0, h1, h2, h3, rfl, rfl⟩
  · dsimp only at hR ⊢
    refine ⟨⟨st.gk, st.pos, st.lk, st.lpos, st.bal, by rw [List.length_set]; exact st.ll, fun i hi => ?_, fun i => ?_⟩, fun R h => h, Int.le_refl _, fun _ => ⟨fun i => i ∈ keysH hs, ?_, ?_⟩⟩
    · rw [hset]
      have := st.lac i hi
      split
      · rename_i e; subst e; omega
      · exact this
    · rw [hset]
      have := st.lnn i
      split
      · rename_i e; subst e; omega
      · exact this
    · intro i hi _ q hq
      have := hR.no rfl i hi q hq
      exact ⟨this.1, fun o ho hg => this.2 o ho hg⟩
    · obtain ⟨t, e⟩ := hR.b.hd
      rw [e]
      exact List.mem_cons_self
  · dsimp only at hR h1 h2 h3 ⊢
    have wf := way_facts hR.b hF
    have hlt : ∀ s ∈ F, s.1 < wants.length := fun s hs' => (wf s hs').lt
    have hsome : ∀ s ∈ F, ∀ u, s.2.2 = some u → (ag (G.getD s.1 []) u).isSome = true := fun s hs' u hu => isSome_pos ((wf s hs').up u hu)
    have hLp : gv L p > 0 := (hR.yes p rfl).2
    have hLk : p ∈ L.map (·.1) := ag_isSome.mp (isSome_pos hLp)
    have e1 : ∀ q, gv (ap L p (gv L p - m)) q = gv L q - (if q = p then m else 0) := fun q => by
      rw [gv_ap]
      by_cases e : q = p
      · subst e; simp
      · simp [e]
    refine ⟨⟨way_gk (fun s hs' => ⟨(wf s hs').lt, (wf s hs').got⟩) st.gk hsome, way_pos hR.b.nd (by omega) hF hlt st.gk.ln h3 st.pos, by rw [ap_keys_in hLk]; exact st.lk, fun q => ?_, fun q => ?_, by rw [List.length_set]; exact st.ll, fun i hi => ?_, fun i => ?_⟩, fun R hcl => ?_, by omega, fun z => by omega⟩
    · rw [e1]
      have := st.lpos q
      split
      · rename_i e; subst e; omega
      · omega
    · rw [e1, way_gsum (wants := wants) st.gk.ln hF hlt st.gk.ln q]
      have := st.bal q
      by_cases e : q = p
      · subst e; simp; omega
      · have e' : ¬ p = q := fun z => e z.symm
        simp [e, e']
        omega
    · rw [hset, way_vsum hF (fun s hs' => ⟨(wf s hs').lt, (wf s hs').got, (wf s hs').non⟩) st.gk hsome i]
      have := st.lac i hi
      by_cases e : i = k
      · subst e
        rw [if_pos ⟨by simp, rfl⟩, if_pos rfl]
        omega
      · rw [if_neg (fun z => e z.2), if_neg e]
        omega
    · rw [hset]
      have := st.lnn i
      split
      · omega
      · exact this
    · intro i hi hil q hq
      obtain ⟨c1, c2⟩ := hcl i hi hil q hq
      have hne : q ≠ p := fun z => by subst z; omega
      have hoff := way_clear hcl hF (fun s hs' => ⟨(wf s hs').lt, (wf s hs').got, (wf s hs').up⟩) (fun p' hp' ⟨i2, a1, a2, a3⟩ => by
        cases hp'
        have := (hcl i2 a1 a2 p a3).1
        omega)
      refine ⟨by rw [e1, if_neg hne]; omega, fun o ho hg => ?_⟩
      rw [way_off (wants := wants) (fun s hs' => hoff s hs' q ⟨i, hi, hil, hq⟩) hlt st.gk.ln o] at hg
      exact c2 o ho hg
/-- who is stuck finds nothing, and all that is reached has the searcher's form -/
theorem stuck_no {part : Option Part} (hs0 : Stuck ps wants G L k) (h : SpR ps wants G L k pt hs part) : part = none := by
  obtain ⟨R, hR, hk⟩ := hs0
  have key : ∀ (j i : Nat), (keysH hs)[j]? = some i → R i := by
    intro j
    induction j using Nat.strongRecOn with
    | _ j ih =>
      intro i hi
      have hil := h.b.lt i (List.mem_of_getElem? hi)
      rw [List.getElem?_map] at hi
      cases hz : hs[j]? with
      | none => rw [hz] at hi; cases hi
      | some x =>
        rw [hz] at hi
        obtain rfl : x.1 = i := Option.some.inj hi
        obtain ⟨i, o⟩ := x
        cases o with
        | none =>
          have := h.b.hn j i hz
          subst this
          obtain ⟨t, e⟩ := h.b.hd
          rw [e] at hz
          have hz' : (k, none) = (i, (none : Option Part)) := by simpa using hz
          have := congrArg Prod.fst hz'
          dsimp only at this
          rw [← this]
          exact hk
        | some p =>
          obtain ⟨j', i', h1, h2, h3, h4⟩ := h.b.hv j i p hz
          have hi' := ih j' h1 i' h2
          obtain ⟨i2, h5, h6, h7⟩ := h.b.pv p _ h3
          have : i2 = i' := by omega
          subst this
          exact (hR i2 hi' (h.b.lt i2 h6) p h7).2 i hil h4
  cases part with
  | none => rfl
  | some p =>
    obtain ⟨h1, h2⟩ := h.yes p rfl
    cases hz : ag pt p with
    | none => rw [hz] at h1; cases h1
    | some c =>
      obtain ⟨i, _, h3, h4⟩ := h.b.pv p c hz
      obtain ⟨j, hj⟩ := List.mem_iff_getElem?.mp h3
      have := (hR i (key j i hj) (h.b.lt i h3) p h4).1
      omega
theorem reach_form (g : GK ps wants G) (h : SpB ps wants G k pt hs) : ∀ i ∈ keysH hs, (wants.getD i dW).form = (wants.getD k dW).form := by
  have key : ∀ (j i : Nat), (keysH hs)[j]? = some i → (wants.getD i dW).form = (wants.getD k dW).form := by
    intro j
    induction j using Nat.strongRecOn with
    | _ j ih =>
      intro i hi
      have hil := h.lt i (List.mem_of_getElem? hi)
      rw [List.getElem?_map] at hi
      cases hz : hs[j]? with
      | none => rw [hz] at hi; cases hi
      | some x =>
        rw [hz] at hi
        obtain rfl : x.1 = i := Option.some.inj hi
        obtain ⟨i, o⟩ := x
        cases o with
        | none =>
          have := h.hn j i hz
          subst this
          obtain ⟨t, e⟩ := h.hd
          rw [e] at hz
          have hz' : (k, none) = (i, (none : Option Part)) := by simpa using hz
          have := congrArg Prod.fst hz'
          dsimp only at this
          rw [← this]
        | some p =>
          obtain ⟨j', i', h1, h2, h3, h4⟩ := h.hv j i p hz
          have hi' := ih j' h1 i' h2
          obtain ⟨i2, h5, h6, h7⟩ := h.pv p _ h3
          have : i2 = i' := by omega
          subst this
          have f1 := lets_form h7
          have f2 := lets_form (g.sub i hil p (ag_isSome.mp (isSome_pos h4)))
          exact f2.symm.trans (f1.trans hi')
  intro i hi
  obtain ⟨j, hj⟩ := List.mem_iff_getElem?.mp hi
  exact key j i hj
end
end K43
set_option Elab.async false
set_option linter.all false
set_option maxRecDepth 100000
set_option maxHeartbeats 4000000
/-! # KS3: what is left; led -/
namespace K43
open PySem PySem.Spec PyProof.Rows L2
open C8 (Cal Mak Met pe_c pe_mk pe_mt pe_mt0)
section
variable {P : Program} {w : World} {K : PySem.W.Frag} {mg : Str → Option Value} {base : Heap}
-- slots: 0 heap, 1 found, 2 form, 3 shade, 4 many
abbrev N_parts_left : List Str := ["heap", "found", "form", "shade", "many"]
theorem sc_parts_left : FnScope N_parts_left ["heap"] (defScope s_parts_left) := ⟨rfl, rfl, rfl, by decide +kernel, rfl, by decide +kernel, by decide +kernel⟩
abbrev spPartsLeft (C : Addr) : Sp := PSpN (ι := List Prt) (fun i => [RHeap C i]) (fun i => i.length ≤ 10000) fun i => DcT (leftOf i)
theorem ok_parts_left (T : Tx w K mg) : Cal P w K mg base 2 "parts_left" (spPartsLeft (CH K)) [] := by
  refine mk_cal T.f_parts_left T.g_parts_left sc_parts_left (fun _ _ _ _ _ _ us hl => match us, hl with | [_], _ => rfl) ?len (fun cdv A outer s H vs Q E hr h => ?_)
  case len => exact fun vs H Q E ⟨i, h, _⟩ => h.length
  obtain ⟨i, hp, hc, q⟩ := h
  obtain ⟨v0, rfl, h0⟩ := PP.one hp
  have hlen : i.length ≤ 10000 := hc
  refine ⟨_, (pss_cons (ps_set (i := 1) sc_parts_left.nd rfl (.inl rfl) pe_dnewT)
    (pss_cons (ps_for PassesOwn.never rfl (kx_pi_tup K (pe_mt0 (Met_rows T) hr (by decide) (pv 0))) (kx_tup K (by rfl) (pgs_cons (pg_name (i := 2) sc_parts_left.nd rfl (.inl rfl)) (pgs_cons (pg_name (i := 3) sc_parts_left.nd rfl (.inl rfl)) (pgs_cons (pg_name (i := 4) sc_parts_left.nd rfl (.inl rfl)) pgs_nil))))
      (pss_one (ps_dput (hu_of hr) (pv 1) (pe_tup (pa_cons (pv 2) (pa_cons (pv 3) pa_nil))) (pv 4) rfl)))
    (pss_one (ps_ret (pv 1))))), ?_⟩
  refine fun d hd => ?_
  have e0 := Same.new (o := .dT []) hd
  refine q_for (ei_tup (er_rows (er_var (MX.mx e0 h0)))) (fun j σ' Hc => Same H Hc ∧ (∃ v2 v3 v4, σ' = [some v0, some (.ref d), v2, v3, v4]) ∧ Hc d = some (.dT (encT (leftOf (i.take j)))))
    (fun H2 e2 => ⟨e0.trans e2, ⟨_, _, _, rfl⟩, e2 d _ upd_same⟩) ?_ ?_
  · rintro j ⟨form, shade, many⟩ v σ' Hc Hx N hx f ⟨s, ⟨v2, v3, v4, rfl⟩, hdc⟩ sx r n
    refine eg_tup3 r fun u1 u2 u3 r1 r2 r3 => ?_
    have hjl : (leftOf (i.take j)).length ≤ 10000 := Nat.le_trans (leftOf_len _) (by rw [List.length_take]; omega)
    refine s_dputT (p := (form, shade)) (n := many) (sx d _ hdc) (er_var r3) er_v (er_tup (ps := [IsS form, IsS shade]) (ea2 (er_var r1) (er_var r2)) (by simp)) (by omega) fun H4 e4 => ?_
    refine n _ _ ((Same.fk e4).trans (FK.upd ((sx.trans e4) d _ hdc) fun z => z)) ⟨((s.trans sx).trans e4).mut hd, ⟨_, _, _, rfl⟩, ?_⟩
    rw [upd_same, leftOf_take hx]
    rfl
  · rintro σ' Hc f ⟨s, ⟨v2, v3, v4, rfl⟩, hdc⟩
    rw [List.take_length] at hdc
    exact s_ret er_v fun v H2 e2 r2 => q v H2 (s.trans e2) (by obtain rfl : v = V.ref d := r2; exact ⟨d, rfl, e2 d _ hdc⟩) (by obtain rfl : v = V.ref d := r2; exact fun a ha => by cases ha; exact hd)
/-! keys of a merged dict -/
def addAll (rs ks : List Nat) : List Nat := ks.foldl (fun acc k => if k ∈ acc then acc else acc ++ [k]) rs
theorem mem_addAll {x : Nat} : ∀ {ks rs : List Nat}, x ∈ addAll rs ks ↔ x ∈ rs ∨ x ∈ ks
  | [], rs => by simp [addAll]
  | k :: ks, rs => by
    have ih := mem_addAll (x := x) (ks := ks) (rs := if k ∈ rs then rs else rs ++ [k])
    show x ∈ addAll (if k ∈ rs then rs else rs ++ [k]) ks ↔ _
    rw [ih]
    by_cases h : k ∈ rs
    · rw [if_pos h, List.mem_cons]
      constructor
      · rintro (h1 | h1)
        · exact .inl h1
        · exact .inr (.inr h1)
      · rintro (h1 | rfl | h1)
        · exact .inl h1
        · exact .inl h
        · exact .inr h1
    · rw [if_neg h, List.mem_append, List.mem_singleton, List.mem_cons, or_assoc]
theorem nodup_addAll : ∀ {ks rs : List Nat}, rs.Nodup → (addAll rs ks).Nodup
  | [], rs, h => h
  | k :: ks, rs, h => by
    show (addAll (if k ∈ rs then rs else rs ++ [k]) ks).Nodup
    refine nodup_addAll ?_
    by_cases hk : k ∈ rs
    · rw [if_pos hk]; exact h
    · rw [if_neg hk, List.nodup_append]
      refine ⟨h, by simp, fun a ha b hb e => ?_⟩
      rw [List.mem_singleton.mp hb] at e
      exact hk (e ▸ ha)
def kI (i : Nat) : Key := .inl (i : Int)
theorem kI_inj {i j : Nat} (h : kI i = kI j) : i = j := by
  have := Sum.inl.inj h
  omega
theorem putK_keys {kvs : List (Key × V)} {rs : List Nat} (h : kvs.map (·.1) = rs.map kI) (k : Nat) (v : V) : (putK kvs (kI k) v).map (·.1) = (if k ∈ rs then rs else rs ++ [k]).map kI := by
  have e : (kvs.any fun kv => decide (kv.1 = kI k)) = decide (k ∈ rs) := by
    have e1 : (kvs.any fun kv => decide (kv.1 = kI k)) = (kvs.map (·.1)).any fun x => decide (x = kI k) := by rw [List.any_map]; rfl
    rw [e1, h, List.any_map]
    by_cases hk : k ∈ rs
    · rw [decide_eq_true hk, List.any_eq_true]
      exact ⟨k, hk, by simp⟩
    · rw [decide_eq_false hk, List.any_eq_false]
      intro x hx z
      have : kI x = kI k := by simpa using z
      have hxk := kI_inj this
      subst hxk
      exact hk hx
  unfold putK
  rw [e]
  by_cases hk : k ∈ rs
  · rw [if_pos (by rw [decide_eq_true hk]), if_pos hk, List.map_map, ← h]
    refine List.map_congr_left fun x _ => ?_
    simp only [Function.comp]
    split <;> rfl
  · rw [if_neg (by rw [decide_eq_false hk]; decide), if_neg hk, List.map_append, List.map_append, h]
    rfl
theorem mergeK_keys : ∀ {more : List (Key × V)} {ks : List Nat} {kvs : List (Key × V)} {rs : List Nat}, kvs.map (·.1) = rs.map kI → more.map (·.1) = ks.map kI → (mergeK kvs more).map (·.1) = (addAll rs ks).map kI
  | [], [], _, _, h, _ => h
  | (k, v) :: more, i :: ks, kvs, rs, h, h2 => by
    rw [List.map_cons, List.map_cons] at h2
    injection h2 with h3 h4
    have h3 : k = kI i := h3
    subst h3
    exact mergeK_keys (more := more) (ks := ks) (putK_keys h i v) h4
  | [], _ :: _, _, _, _, h => by simp at h
  | _ :: _, [], _, _, _, h => by simp at h
end
end K43
set_option Elab.async false
set_option linter.all false
set_option maxRecDepth 100000
set_option maxHeartbeats 4000000
/-! # KS4: led -/
namespace K43
open PySem PySem.Spec PyProof.Rows L2
open C8 (Cal Mak Met pe_c pe_mk pe_mt pe_mt0)
structure HeapOk (ps : List Prt) : Prop where
  few : ps.length ≤ 100
  nd : (ps.map kP).Nodup
  pos : ∀ e ∈ ps, 0 ≤ e.2.2
structure WantsOk (wants : List Want) : Prop where
  few : wants.length ≤ 60
  sh : ∀ x ∈ wants, x.shades.length ≤ 50
  pos : ∀ x ∈ wants, 0 ≤ x.many
theorem WantsOk.sh100 {wants : List Want} (h : WantsOk wants) : ∀ x ∈ wants, x.shades.length ≤ 100 := fun x hx => Nat.le_trans (h.sh x hx) (by decide)
structure LedR (ps : List Prt) (wants : List Want) (G : Gifts) (L : List (Part × Int)) (ls : List Int) (rs : List Nat) : Prop where
  st : StOk ps wants G L ls
  all : ∀ j, j < wants.length → 0 < ls.getD j 0 → j ∈ rs
  cl : closedIn ps wants G L fun i => i ∈ rs
  fm : ∀ i ∈ rs, i < wants.length ∧ ∃ j ∈ rs, 0 < ls.getD j 0 ∧ (wants.getD i dW).form = (wants.getD j dW).form
  nd : rs.Nodup
theorem leftOf_pos {ps : List Prt} (h : ∀ e ∈ ps, 0 ≤ e.2.2) (p : Part) : 0 ≤ gv (leftOf ps) p := by
  have key : ∀ (l : List Prt) (g : List (Part × Int)), (∀ e ∈ l, 0 ≤ e.2.2) → (∀ p, 0 ≤ gv g p) → ∀ p, 0 ≤ gv (l.foldl (fun g e => ap g (kP e) e.2.2) g) p := by
    intro l
    induction l with
    | nil => intro g _ h; exact h
    | cons e l ih =>
      intro g h1 h2
      refine ih _ (fun e he => h1 e (List.mem_cons_of_mem _ he)) fun p => ?_
      rw [gv_ap]
      split
      · exact h1 e List.mem_cons_self
      · exact h2 p
  exact key ps [] h (fun p => Int.le_refl _) p
theorem rep_getD {α : Type} (n i : Nat) (d : α) : (List.replicate n d).getD i d = d := by
  rw [List.getD_eq_getElem?_getD, List.getElem?_replicate]
  split <;> rfl
theorem st_init {ps : List Prt} {wants : List Want} (hp : HeapOk ps) (hw : WantsOk wants) : StOk ps wants (wants.map fun _ => []) (leftOf ps) (wants.map (·.many)) := by
  have e0 : ∀ i, (wants.map fun _ => ([] : List (Part × Int))).getD i [] = [] := fun i => by
    rw [List.getD_eq_getElem?_getD, List.getElem?_map]
    cases wants[i]? <;> rfl
  refine ⟨⟨by rw [List.length_map], fun i => by rw [e0]; exact List.nodup_nil, fun i hi p hp => by rw [e0] at hp; cases hp⟩, fun i p => by rw [e0]; exact Int.le_refl _, rfl, leftOf_pos hp.pos, fun p => ?_, by rw [List.length_map], fun i hi => ?_, fun i => ?_⟩
  · have : gsum wants.length (wants.map fun _ => ([] : List (Part × Int))) p = 0 := by
      unfold gsum
      have : (List.range wants.length).map (fun i => gv ((wants.map fun _ => ([] : List (Part × Int))).getD i []) p) = (List.range wants.length).map fun _ => 0 := List.map_congr_left fun i _ => by rw [e0]; rfl
      rw [this]
      generalize List.range wants.length = l
      induction l with
      | nil => rfl
      | cons a l ih => rw [List.map_cons, List.sum_cons, ih]; rfl
    omega
  · rw [e0]
    show 0 + (wants.map (·.many)).getD i 0 = _
    rw [Int.zero_add, List.getD_eq_getElem?_getD, List.getElem?_map, List.getD_eq_getElem?_getD, List.getElem?_eq_getElem hi]
    rfl
  · rw [List.getD_eq_getElem?_getD, List.getElem?_map]
    cases h : wants[i]? with
    | none => exact Int.le_refl _
    | some x => exact hw.pos x (List.mem_of_getElem? h)
section
variable {P : Program} {w : World} {K : PySem.W.Frag} {mg : Str → Option Value} {base : Heap}
def RLed (i : List Prt × List Want) : Pr := fun H v => ∃ G L ls rs, LedR i.1 i.2 G L ls rs ∧ TupP [LstOf DcT G, AnyP, AnyP, LstOf RNat rs] H v
abbrev spLed (C : Addr) : Sp := PSp (ι := List Prt × List Want) (fun i => [RHeap C i.1, RWay i.2]) (fun i => HeapOk i.1 ∧ WantsOk i.2) RLed
section
variable {σ : L2.St} {H : Hp} {te ta : TE} {D : Ends} {tz : TS} {R : Pr}
theorem q_setN {i : Nat} (h : EvN te σ H R) (k : ∀ v H1, Same H H1 → R H1 v → NewTo H v → tz D (σ.set i (some v)) H1) : tSeq (tAsg te (gName i)) tz D σ H := h H (Same.refl H) _ k
theorem q_news {α : Type} {φ : α → HO} {xs : List α} {i : Nat} (h : ∀ Q : VK, (∀ v H2, Same H H2 → NewsP H φ xs H2 v → Q v H2) → te σ H Q) (k : ∀ v H1, Same H H1 → NewsP H φ xs H1 v → tz D (σ.set i (some v)) H1) : tSeq (tAsg te (gName i)) tz D σ H := h _ k
theorem q_asgC {sp : Sp} {dvs : List V} {E : XK} {ts : TA} {g : TG} (us : List V) (ha : EvA ts σ H (us.map IsV)) (k : ∀ H1, Same H H1 → sp (us ++ dvs) H1 (fun v H2 => g v σ H2 fun σ2 H3 => tz D σ2 H3) E) : tSeq (tAsg (tCall sp dvs E ts) g) tz D σ H :=
  ha H (Same.refl H) _ fun vs H1 e r => by
    have := r.isv
    subst this
    exact k H1 e
theorem rix_tup {ps : List Pr} {i : Nat} {p : Pr} {v : V} {Q : VK} (r : TupP ps H v) (h : ps[i]? = some p) (q : ∀ z, p H z → Q z H) : rIxT K v (.int (i : Int)) H Q := by
  obtain ⟨a, vs, h1, h2, h3⟩ := r
  obtain ⟨z, g1, g2⟩ := PP.get h3 h
  exact ⟨a, vs, (i : Int), z, h1, rfl, SqT.of h2, atI_of (by omega) (by simpa using g1), q z g2⟩
theorem ev_sortedDI {rs : List Nat} {r : List V → Hp → VK → Prop} (hr : ∀ (a : Addr) (kvs : List (Key × V)) (ks : List Int) H (Q : VK), H a = some (.dK kvs) → kvs.map (·.1) = ks.map Sum.inl → ks.length < 64 → (∀ (ys : List Int) (p : Addr), ys.Perm ks → H p = none → Q (.ref p) (upd H p (.lst (ys.map V.int)))) → r [.ref a] H Q)
    (ha : EvR ta σ H (fun H v => ∃ a kvs, v = .ref a ∧ H a = some (.dK kvs) ∧ kvs.map (·.1) = rs.map kI)) (hl : rs.length < 64) : EvR (tCB r (tCons ta tNil)) σ H (fun H v => ∃ rs' : List Nat, rs'.Perm rs ∧ LstOf RNat rs' H v) := fun H1 e Q q =>
  ha H1 e _ fun v H2 e2 ⟨a, kvs, h1, h2, h3⟩ => by
    subst h1
    refine hr a kvs (rs.map fun i : Nat => (i : Int)) H2 Q h2 (by rw [h3, List.map_map]; rfl) (by rw [List.length_map]; exact hl) fun ys p hp hn => ?_
    have hy : ys = (ys.map Int.toNat).map fun i : Nat => (i : Int) := by
      rw [List.map_map]
      refine ((List.map_congr_left fun y hy => ?_).trans (List.map_id _)).symm
      obtain ⟨i, _, rfl⟩ := List.mem_map.mp (hp.mem_iff.mp hy)
      rfl
    have hp2 : (ys.map Int.toNat).Perm rs := by
      have := hp.map Int.toNat
      rw [List.map_map] at this
      have e3 : rs.map (Int.toNat ∘ fun (i : Nat) => (i : Int)) = rs := List.map_id'' (fun _ => rfl) rs
      rwa [e3] at this
    refine q _ _ (e2.trans (Same.new hn)) ⟨ys.map Int.toNat, hp2, p, ys.map V.int, rfl, upd_same, ?_⟩
    have e4 : ys.map V.int = (ys.map Int.toNat).map fun i : Nat => V.int (i : Int) := by
      conv => lhs; rw [hy]
      rw [List.map_map]
      rfl
    rw [e4]
    exact pp_self
end
-- slots: 0 heap, 1 wants, 2 gifts, 3 left, 4 lacks, 5 k, 6 reached, 7 many, 8 holders, 9 want
abbrev N_led : List Str := ["heap", "wants", "gifts", "left", "lacks", "k", "reached", "many", "holders", "want"]
theorem sc_led : FnScope N_led ["heap", "wants"] (defScope s_led) := ⟨rfl, rfl, rfl, by decide +kernel, rfl, by decide +kernel, by decide +kernel⟩
theorem ok_led (T : Tx w K mg) : Cal P w K mg base 5 "led" (spLed (CH K)) [] := by
  refine mk_pure T.f_led T.g_led sc_led (fun _ _ _ _ _ _ us hl => match us, hl with | [_, _], _ => rfl) (fun _ => rfl) (fun cdv A outer s H vs Q E i hr hp hc q => ?_)
  obtain ⟨v0, v1, rfl, h0, h1⟩ := PP.two hp
  obtain ⟨ps, wants⟩ := i
  obtain ⟨hpo, hwo⟩ := hc
  dsimp only at hpo hwo h0 h1
  have hwl := hwo.few
  have hpl := hpo.few
  refine ⟨_, (pss_cons (ps_setLc (i := 2) (own := [("want", 9)]) (g := gName 9) (by rfl) sc_led.nd rfl rfl (sw_true rfl rfl rfl (by decide +kernel)) (kx_pi_tup K (pv 1)) (blkOk_by (N := N_led) (sc := defScope s_led) (by decide +kernel)) (fun _ _ _ _ _ => (pg_name (i := 9) sc_led.nd rfl (.inl rfl))) (fun _ _ _ _ _ => pts_nil) (fun _ _ _ _ _ => pe_dnewT))
    (pss_cons (ps_set (i := 3) sc_led.nd rfl (.inl rfl) (pe_c (ok_parts_left T) hr (by decide) rfl (pa_cons (pv 0) pa_nil)))
    (pss_cons (ps_setLc (i := 4) (own := [("want", 9)]) (g := gName 9) (by rfl) sc_led.nd rfl rfl (sw_true rfl rfl rfl (by decide +kernel)) (kx_pi_tup K (pv 1)) (blkOk_by (N := N_led) (sc := defScope s_led) (by decide +kernel)) (fun _ _ _ _ _ => (pg_name (i := 9) sc_led.nd rfl (.inl rfl))) (fun _ _ _ _ _ => pts_nil) (fun _ _ _ _ _ => (pe_ix (kx_ixT K) (pv 9) pe_int (fun _ _ => rfl))))
    (pss_cons (ps_for PassesOwn.never rfl (pi_range1 rfl T.b_range (pa_cons (pe_callB (id := "len") (kx_len K) (by rfl) T.b_len (by decide +kernel) (pa_cons (pv 1) pa_nil)) pa_nil)) (pg_name (i := 5) sc_led.nd rfl (.inl rfl))
      (pss_cons (ps_set (i := 7) sc_led.nd rfl (.inl rfl) pe_int)
    (pss_one (ps_while PassesOwn.never (PW.pt (pw_and (pt_cmpR op_gt (pe_ix (kx_ixL K) (pv 4) (pv 5) (fun _ _ => rfl)) pe_int (nomark _)) (pw_and1 (pt_cmpR op_gt (pv 7) pe_int (nomark _)))))
      (pss_cons (ps_asg (pe_c (ok_lead T) hr (by decide) rfl (pa_cons (pv 0) (pa_cons (pv 1) (pa_cons (pv 2) (pa_cons (pv 3) (pa_cons (pv 5) (pa_cons (pe_ix (kx_ixL K) (pv 4) (pv 5) (fun _ _ => rfl)) pa_nil))))))) (kx_tup K (by rfl) (pgs_cons (pg_name (i := 7) sc_led.nd rfl (.inl rfl)) (pgs_cons (pg_name (i := 8) sc_led.nd rfl (.inl rfl)) pgs_nil))))
    (pss_one (ps_asg (pe_op op_sub (pe_ix (kx_ixL K) (pv 4) (pv 5) (fun _ _ => rfl)) (pv 7)) (pg_sub (pv 4) (pv 5) set_list))))))))
    (pss_cons (ps_set (i := 6) sc_led.nd rfl (.inl rfl) pe_dnewK)
    (pss_cons (ps_for PassesOwn.never rfl (pi_range1 rfl T.b_range (pa_cons (pe_callB (id := "len") (kx_len K) (by rfl) T.b_len (by decide +kernel) (pa_cons (pv 1) pa_nil)) pa_nil)) (pg_name (i := 5) sc_led.nd rfl (.inl rfl))
      (pss_one (ps_if (pt_cmpR op_gt (pe_ix (kx_ixL K) (pv 4) (pv 5) (fun _ _ => rfl)) pe_int (nomark _)) (pss_one (ps_expr (kx_bm K PySem.F.plainAttrs_dict PySem.F.slot_dict_update PySem.F.type_dict_update mt_update (pv 6) (pa_cons (pe_ix (kx_ixT K) (pe_c (ok_spread T) hr (by decide) rfl (pa_cons (pv 0) (pa_cons (pv 1) (pa_cons (pv 2) (pa_cons (pv 3) (pa_cons (pv 5) pa_nil)))))) pe_int (fun _ _ => rfl)) pa_nil)))) pss_nil)))
    (pss_one (ps_ret (pe_tup (pa_cons (pv 2) (pa_cons (pv 3) (pa_cons (pv 4) (pa_cons (pe_callB (id := "sorted") (call_sortedDI rfl) (by rfl) T.b_sorted (by decide +kernel) (pa_cons (pv 6) pa_nil)) pa_nil))))))))))))), ?_⟩
  refine q_news (xs := wants) (φ := fun _ => .dT []) (en_lcAt (ei_tup (er_var h1)).same (by omega) fun x v H1 hx e1 r => eg_name ⟨rfl, en_dnewT⟩) fun vg H1 e1 hN => ?_
  obtain ⟨ga, das, rfl, hga, hgan, hgad, hdnd, hdl, hdn, hdat⟩ := hN
  refine q_setN (en_call ps (ea1 (er_var (MX.mx e1 h0))) (by show ps.length ≤ 10000; omega)) fun vl H2 e2 r2 nw2 => ?_
  obtain ⟨la, rfl, hla⟩ := r2
  have hlan1 : H1 la = none := nw2 la rfl
  refine q_setN (en_lcM (RB := IsI) (fun x : Want => x.many) (ei_tup (er_var (MX.mx (e1.trans e2) h1))).same (by omega) fun x v H3 hx e3 r => eg_name ⟨rfl, er_ixT (er_var r) er_c⟩) fun vk H3 e3 r3 nw3 => ?_
  obtain ⟨lk, lvs, rfl, hlk, hlv⟩ := r3
  have hlkn : H2 lk = none := nw3 lk rfl
  have hlnd : la ∉ das := fun z => by
    obtain ⟨j, hj⟩ := List.mem_iff_getElem?.mp z
    have hjl := (List.getElem?_eq_some_iff.mp hj).1
    have := hdat j la _ hj (List.getElem?_eq_getElem (show j < wants.length by omega))
    rw [hlan1] at this
    cases this
  have s3 : Same H H3 := (e1.trans e2).trans e3
  have back : ∀ a, H1 a = none → H a = none := fun a ha => by
    cases z : H a with
    | none => rfl
    | some o => have := e1 a o z; rw [ha] at this; cases this
  have back2 : ∀ a, H2 a = none → H a = none := fun a ha => back a (by
    cases z : H1 a with
    | none => rfl
    | some o => have := e2 a o z; rw [ha] at this; cases this)
  have hlaH : H la = none := back la hlan1
  have hlkH : H lk = none := back2 lk hlkn
  have hG0 : Gs H3 ga la das (wants.map fun _ => []) (leftOf ps) := by
    refine ⟨e3 _ _ (e2 _ _ hga), by rw [hdl, List.length_map], fun i a h => ?_, e3 _ _ hla, hdnd, hlnd⟩
    have hil := (List.getElem?_eq_some_iff.mp h).1
    have := hdat i a _ h (List.getElem?_eq_getElem (show i < wants.length by omega))
    have e0 : (wants.map fun _ => ([] : List (Part × Int))).getD i [] = [] := by
      rw [List.getD_eq_getElem?_getD, List.getElem?_map]
      cases wants[i]? <;> rfl
    rw [e0]
    exact e3 _ _ (e2 _ _ this)
  have hlv2 : lvs = (wants.map (·.many)).map V.int := pp_ints hlv
  subst hlv2
  -- lead keeps all but the tables
  refine q_for (ei_rng (ea1 (ev_lenTO (er_var (MX.mx s3 h1)))) (by omega) (by omega)) (fun k σ' Hc => ∃ G L ls v5 v7 v8 v9, σ' = [some v0, some v1, some (.ref ga), some (.ref la), some (.ref lk), v5, none, v7, v8, v9] ∧ Same H Hc ∧ Gs Hc ga la das G L ∧ Hc lk = some (.lst (ls.map V.int)) ∧ StOk ps wants G L ls ∧ ∀ j, j < k → 0 < ls.getD j 0 → Stuck ps wants G L j)
    (fun H4 e4 => ⟨_, _, _, _, _, _, _, rfl, s3.trans e4, hG0.mono e4, e4 _ _ hlk, st_init hpo hwo, fun j hj => absurd hj (Nat.not_lt_zero _)⟩) ?_ ?_
  · rintro k k2 vk' σ' Hc Hx N hx f ⟨G, L, ls, v5, v7, v8, v9, rfl, s, hG, hls, st, hst⟩ sx rk n
    obtain ⟨hkl, rfl⟩ : k < wants.length ∧ k2 = k := by
      obtain ⟨h5, h6⟩ := List.getElem?_eq_some_iff.mp hx
      simp at h5 h6
      exact ⟨h5, h6.symm⟩
    obtain rfl : vk' = V.int k2 := rk
    refine eg_name (q_set er_c fun v1' H4 e4 r4 => ?_)
    obtain rfl : v1' = V.int 1 := r4
    refine s_while (fun m σ' Hd => ∃ G L ls many v8 v9, m = (if many > 0 then (ls.getD k2 0).toNat + 1 else 0) ∧ σ' = [some v0, some v1, some (.ref ga), some (.ref la), some (.ref lk), some (.int k2), none, some (.int many), v8, v9] ∧ FK Hx Hd ∧ Same H Hd ∧ Gs Hd ga la das G L ∧ Hd lk = some (.lst (ls.map V.int)) ∧ StOk ps wants G L ls ∧ (∀ j, j < k2 → 0 < ls.getD j 0 → Stuck ps wants G L j) ∧ 0 ≤ many ∧ (many = 0 → Stuck ps wants G L k2))
      ((ls.getD k2 0).toNat + 1) ⟨G, L, ls, 1, _, _, rfl, rfl, Same.fk e4, (s.trans sx).trans e4, (hG.mono sx).mono e4, e4 _ _ (sx _ _ hls), st, hst, by decide, fun z => by cases z⟩ ?_
    rintro m σ' Hd ⟨G, L, ls, many, v8, v9, rfl, rfl, f4, s4, hG4, hls4, st4, hst4, hm0, hmS⟩
    have hlsl : ls.length = wants.length := st4.ll
    have hlk4 : ls[k2]? = some (ls.getD k2 0) := getD_of (by omega)
    have hlP : LstOf IsI ls Hd (.ref lk) := ⟨lk, _, rfl, hls4, pp_self⟩
    refine ⟨decide (ls.getD k2 0 > 0) && decide (many > 0), eb_and (eb_test (EvR.is (er_I0 (er_ixLO (R := IsI) (er_var hlP) er_v (by omega) (by simpa using hlk4)) er_c) rfl)) fun _ => eb_test (EvR.is (er_I0 er_v er_c) rfl), fun hb H5 e5 N2 n2 => ?_, fun hb H5 e5 => ?_⟩
    · rw [Bool.and_eq_true] at hb
      have hl0 : ls.getD k2 0 > 0 := of_decide_eq_true hb.1
      have hmp : many > 0 := of_decide_eq_true hb.2
      have hG5 := hG4.mono e5
      have s5 := s4.trans e5
      have hls5 := e5 _ _ hls4
      have hlP5 : LstOf IsI ls H5 (.ref lk) := ⟨lk, _, rfl, hls5, pp_self⟩
      -- the call
      refine q_asgC [v0, v1, V.ref ga, V.ref la, V.int (k2 : Int), V.int (ls.getD k2 0)] (ea_cons er_v (ea_cons er_v (ea_cons er_v (ea_cons er_v (ea2 er_v (er_ixLO (R := IsI) (er_var hlP5) er_v (by omega) (by simpa using hlk4))))))) fun H6 e6 => ?_
      have hG6 := hG5.mono e6
      have s6 := s5.trans e6
      have hls6 := e6 _ _ hls5
      have hdH : ∀ a ∈ das, H a = none := hdn
      let H0 : Hp := fun b => if b = la ∨ b ∈ das then none else H6 b
      have hH0 : ∀ b o, H0 b = some o → ¬ (b = la ∨ b ∈ das) ∧ H6 b = some o := fun b o hb => by
        by_cases z : b = la ∨ b ∈ das
        · have : H0 b = none := if_pos z
          rw [this] at hb; cases hb
        · have : H0 b = H6 b := if_neg z
          exact ⟨z, by rw [← this]; exact hb⟩
      have hHH0 : Same H H0 := fun b o hb => by
        have z : ¬ (b = la ∨ b ∈ das) := fun z => by
          rcases z with rfl | z
          · rw [hlaH] at hb; cases hb
          · rw [hdH b z] at hb; cases hb
        show (if b = la ∨ b ∈ das then none else H6 b) = some o
        rw [if_neg z]
        exact s6 b o hb
      have hlk0 : H0 lk = some (.lst (ls.map V.int)) := by
        have z : ¬ (lk = la ∨ lk ∈ das) := fun z => by
          rcases z with z | z
          · exact absurd (z ▸ hls6 : H6 la = _) (by rw [hG6.l]; intro h; cases h)
          · obtain ⟨j, hj⟩ := List.mem_iff_getElem?.mp z
            have h9 := hG6.d j lk hj
            rw [hls6] at h9
            cases h9
        show (if lk = la ∨ lk ∈ das then none else H6 lk) = _
        rw [if_neg z]
        exact hls6
      refine ⟨⟨ps, wants, G, L, k2, ls.getD k2 0⟩, v0, v1, ga, la, das, H0, rfl, fun b o hb => (hH0 b o hb).2, MX.mx hHH0 h0, MX.mx hHH0 h1, fun a ha => if_pos (.inr ha), if_pos (.inl rfl), hG6, ?_, st4.gk, hl0, fun v H7 m' G' L' s7 hG7 hR r7 => ?_⟩
      · refine ⟨hpl, hwl, hwo.sh100, st4.gk.ln, fun g hg => ?_, ?_, hkl⟩
        · obtain ⟨j, hj⟩ := List.mem_iff_getElem?.mp hg
          have h9 := st4.gk.few j (lets_len hpl hwo.sh100)
          have h10 : G.getD j [] = g := by rw [List.getD_eq_getElem?_getD, hj]; rfl
          rw [h10] at h9
          exact Nat.le_trans h9 (by decide)
        · have h9 := congrArg List.length st4.lk
          rw [List.length_map, List.length_map] at h9
          have h10 := leftOf_len ps
          show L.length ≤ 50000
          omega
      · obtain ⟨st7, hcl7, hm7, hS7⟩ := lead_ok st4 hkl (Int.le_refl _) hR
        have s7' : Same H H7 := hHH0.trans s7
        have hls7 : H7 lk = some (.lst (ls.map V.int)) := s7 _ _ hlk0
        have hlP7 : LstOf IsI ls H7 (.ref lk) := ⟨lk, _, rfl, hls7, pp_self⟩
        have fk67 : FK H6 H7 := fun b o fx hb => by
          refine s7 b o ?_
          have z : ¬ (b = la ∨ b ∈ das) := fun z => by
            rcases z with rfl | z
            · rw [hG6.l] at hb; cases hb; exact fx
            · obtain ⟨j, hj⟩ := List.mem_iff_getElem?.mp z
              rw [hG6.d j b hj] at hb; cases hb; exact fx
          show (if b = la ∨ b ∈ das then none else H6 b) = some o
          rw [if_neg z]
          exact hb
        refine eg_tup2 r7 (P := fun σ2 => _) (fun u7 u8 g7 g8 => ?_) _ fun σ2 q2 => q2
        obtain rfl : u7 = V.int m' := g7
        refine s_setL (xs := ls.map V.int) (j := (k2 : Int)) hls7 (er_I0 (er_ixLO (R := IsI) (er_var hlP7) er_v (by omega) (by simpa using hlk4)) er_v) er_v er_v (by omega) (by rw [List.length_map]; omega) fun vz H8 e8 rz => ?_
        obtain rfl : vz = V.int (ls.getD k2 0 - m') := rz
        have hnl : lk ≠ la := ne_of hls7 hG7.l (fun z => by cases z)
        have hnd : lk ∉ das := fun z => by
          obtain ⟨j, hj⟩ := List.mem_iff_getElem?.mp z
          have h9 := hG7.d j lk hj
          rw [hls7] at h9
          cases h9
        have hng : ga ≠ lk := fun z => by
          have h9 : H3 ga = some (.lst (das.map V.ref)) := e3 _ _ (e2 _ _ hga)
          have h10 := e2 _ _ hga
          rw [z, hlkn] at h10
          cases h10
        have hG8 : Gs (upd H8 lk (.lst ((ls.map V.int).set ((k2 : Int)).toNat (V.int (ls.getD k2 0 - m'))))) ga la das G' L' := by
          have h9 := hG7.mono e8
          exact ⟨by rw [upd_ne hng]; exact h9.g, h9.ld, fun i a h => by
            have hne : a ≠ lk := fun z => by subst z; exact hnd (List.mem_of_getElem? h)
            rw [upd_ne hne]; exact h9.d i a h, by rw [upd_ne (Ne.symm hnl)]; exact h9.l, h9.nd, h9.ln⟩
        have hsetk : (ls.set k2 (ls.getD k2 0 - m')).getD k2 0 = ls.getD k2 0 - m' := by rw [getD_set, if_pos ⟨rfl, by omega⟩]
        refine n2 (if m' > 0 then ((ls.set k2 (ls.getD k2 0 - m')).getD k2 0).toNat + 1 else 0) _ _ ?_ ⟨G', L', ls.set k2 (ls.getD k2 0 - m'), m', _, _, rfl, rfl, ?_, (s7'.trans e8).mut hlkH, hG8, ?_, st7, ?_, hm7, hS7⟩
        · rw [if_pos hmp, hsetk]
          have := st7.lnn k2
          rw [hsetk] at this
          split <;> omega
        · exact (f4.trans (Same.fk (e5.trans e6))).trans ((fk67.trans (Same.fk e8)).trans (FK.upd (e8 _ _ hls7) fun z => z))
        · rw [upd_same, List.map_set]
          rfl
        · intro j hj hlj
          have hne : j ≠ k2 := by omega
          rw [getD_set, if_neg (fun z => hne z.1)] at hlj
          obtain ⟨R, h9, h10⟩ := hst4 j hj hlj
          exact ⟨R, hcl7 R h9, h10⟩
    · refine n _ _ (f4.trans (Same.fk e5)) ⟨G, L, ls, _, _, _, _, rfl, s4.trans e5, hG4.mono e5, e5 _ _ hls4, st4, fun j hj hlj => ?_⟩
      rcases Nat.lt_succ_iff_lt_or_eq.mp hj with h | rfl
      · exact hst4 j h hlj
      · refine hmS ?_
        rw [Bool.and_eq_false_iff] at hb
        rcases hb with hb | hb
        · exact absurd hlj (of_decide_eq_false hb)
        · have := of_decide_eq_false hb
          omega
  · rintro σ' Hc f ⟨G, L, ls, v5, v7, v8, v9, rfl, s, hG, hls, st, hst⟩
    have el : (List.range ((wants.length : Int)).toNat).length = wants.length := by simp
    rw [el] at hst
    have hlsl : ls.length = wants.length := st.ll
    refine fun rd hrd => ?_
    have e5 := Same.new (o := .dK []) hrd
    have hrdH : H rd = none := by
      cases z : H rd with
      | none => rfl
      | some o => have := s rd o z; rw [hrd] at this; cases this
    have hspc : ∀ k H0, k < wants.length → SpC ⟨ps, wants, G, L, k, H0⟩ := fun k H0 hk => by
      refine ⟨hpl, hwl, hwo.sh100, st.gk.ln, fun g hg => ?_, ?_, hk⟩
      · obtain ⟨j, hj⟩ := List.mem_iff_getElem?.mp hg
        have h9 := st.gk.few j (lets_len hpl hwo.sh100)
        have h10 : G.getD j [] = g := by rw [List.getD_eq_getElem?_getD, hj]; rfl
        rw [h10] at h9
        exact Nat.le_trans h9 (by decide)
      · have h9 := congrArg List.length st.lk
        rw [List.length_map, List.length_map] at h9
        have h10 := leftOf_len ps
        show L.length ≤ 50000
        omega
    refine q_for (ei_rng (ea1 (ev_lenTO (er_var (MX.mx (s.trans e5) h1)))) (by omega) (by omega)) (fun k σ' Hd => ∃ kvs rs v5, σ' = [some v0, some v1, some (.ref ga), some (.ref la), some (.ref lk), v5, some (.ref rd), v7, v8, v9] ∧ Same H Hd ∧ Gs Hd ga la das G L ∧ Hd lk = some (.lst (ls.map V.int)) ∧ Hd rd = some (.dK kvs) ∧ kvs.map (·.1) = rs.map kI ∧ rs.Nodup ∧ (∀ j, j < k → 0 < ls.getD j 0 → j ∈ rs) ∧ closedIn ps wants G L (fun i => i ∈ rs) ∧ ∀ i ∈ rs, i < wants.length ∧ ∃ j ∈ rs, 0 < ls.getD j 0 ∧ (wants.getD i dW).form = (wants.getD j dW).form)
      (fun H6 e6 => ⟨[], [], _, rfl, (s.trans e5).trans e6, (hG.mono e5).mono e6, e6 _ _ (e5 _ _ hls), e6 _ _ upd_same, rfl, List.nodup_nil, (fun j hj => absurd hj (Nat.not_lt_zero _)), (fun i hi => by cases hi), fun i hi => by cases hi⟩) ?_ ?_
    · rintro k k2 vk' σ' Hd Hx N hx f2 ⟨kvs, rs, v5', rfl, s6, hG6, hls6, hrd6, hkv, hnd, hall, hcl, hfm⟩ sx rk n
      obtain ⟨hkl, rfl⟩ : k < wants.length ∧ k2 = k := by
        obtain ⟨h5, h6⟩ := List.getElem?_eq_some_iff.mp hx
        simp at h5 h6
        exact ⟨h5, h6.symm⟩
      obtain rfl : vk' = V.int k2 := rk
      have hlk4 : ls[k2]? = some (ls.getD k2 0) := getD_of (by omega)
      have hlP : LstOf IsI ls Hx (.ref lk) := ⟨lk, _, rfl, sx _ _ hls6, pp_self⟩
      refine eg_name (s_when (b := decide (ls.getD k2 0 > 0)) (eb_test (EvR.is (er_I0 (er_ixLO (R := IsI) (er_var hlP) er_v (by omega) (by simpa using hlk4)) er_c) rfl)) (fun hb H7 e7 => ?_) fun hb H7 e7 => ?_)
      · have hl0 : 0 < ls.getD k2 0 := of_decide_eq_true hb
        have s7 := (s6.trans sx).trans e7
        have hG7 := (hG6.mono sx).mono e7
        have hrd7 := e7 _ _ (sx _ _ hrd6)
        refine ⟨_, rfl, .inr (.inr (.inl ⟨rfl, .inl ⟨_, hrd7⟩⟩)), ?_⟩
        refine er_call (⟨ps, wants, G, L, k2, H7⟩ : SpIn) (ea_cons (er_var (R := RHs (CH K) ps H7) ⟨MX.mx s7 h0, Same.refl _⟩) (ea_cons (er_var (MX.mx s7 h1)) (ea_cons (er_var hG7.lst) (ea2 (er_var (R := DcT L) ⟨la, rfl, hG7.l⟩) er_v)))) (hspc k2 H7 hkl) H7 (Same.refl _) _ fun v H8 e8 ⟨pt, hs, part, hR, r8⟩ => ?_
        dsimp only at hR
        have hpn := stuck_no (hst k2 hkl hl0) hR
        subst hpn
        refine rix_tup (i := 1) r8 rfl fun z hz => ?_
        obtain ⟨⟨b, more, rfl, hb8, hHK⟩, hnew⟩ := hz
        have hbn : H7 b = none := hnew b rfl
        have hne : rd ≠ b := ne_of_none hrd7 hbn
        have hkl2 := hHK.len
        have hsl : hs.length ≤ wants.length := hR.b.len
        have hrl : kvs.length = rs.length := by
          have := congrArg List.length hkv
          rwa [List.length_map, List.length_map] at this
        have hrl2 : rs.length ≤ wants.length := nodup_len _ _ hnd fun i hi => (hfm i hi).1
        refine ⟨rd, b, kvs, more, rfl, rfl, e8 _ _ hrd7, hb8, hne, by omega, ?_⟩
        have hkm : more.map (·.1) = (keysH hs).map kI := by rw [hHK.keys, List.map_map]; rfl
        have fk8 : FK H8 (upd H8 rd (.dK (mergeK kvs more))) := FK.upd (e8 _ _ hrd7) fun z => z
        have hG9 : Gs (upd H8 rd (.dK (mergeK kvs more))) ga la das G L := by
          have h9 := hG7.mono e8
          have hr8 := e8 _ _ hrd7
          exact ⟨by rw [upd_ne (ne_of h9.g hr8 (fun z => by cases z))]; exact h9.g, h9.ld, fun i a h => by rw [upd_ne (ne_of (h9.d i a h) hr8 (fun z => by cases z))]; exact h9.d i a h, by rw [upd_ne (ne_of h9.l hr8 (fun z => by cases z))]; exact h9.l, h9.nd, h9.ln⟩
        have hls8 : H8 lk = some (.lst (ls.map V.int)) := e8 _ _ (e7 _ _ (sx _ _ hls6))
        refine n _ _ ((Same.fk (e7.trans e8)).trans fk8) ⟨mergeK kvs more, addAll rs (keysH hs), _, rfl, (s7.trans e8).mut hrdH, hG9, by rw [upd_ne (ne_of hls8 (e8 _ _ hrd7) (fun z => by cases z))]; exact hls8, upd_same, mergeK_keys hkv hkm, nodup_addAll hnd, fun j hj hlj => ?_, fun i hi hil p hp => ?_, fun i hi => ?_⟩
        · rw [mem_addAll]
          rcases Nat.lt_succ_iff_lt_or_eq.mp hj with h | rfl
          · exact .inl (hall j h hlj)
          · obtain ⟨t, e⟩ := hR.b.hd
            refine .inr ?_
            rw [e]
            exact List.mem_cons_self
        · rcases mem_addAll.mp hi with h | h
          · obtain ⟨a1, a2⟩ := hcl i h hil p hp
            exact ⟨a1, fun o ho hg => mem_addAll.mpr (.inl (a2 o ho hg))⟩
          · obtain ⟨a1, a2⟩ := hR.no rfl i h p hp
            exact ⟨a1, fun o ho hg => mem_addAll.mpr (.inr (a2 o ho hg))⟩
        · rcases mem_addAll.mp hi with h | h
          · obtain ⟨a1, j, a2, a3, a4⟩ := hfm i h
            exact ⟨a1, j, mem_addAll.mpr (.inl a2), a3, a4⟩
          · refine ⟨hR.b.lt i h, k2, mem_addAll.mpr (.inr ?_), hl0, reach_form st.gk hR.b i h⟩
            obtain ⟨t, e⟩ := hR.b.hd
            rw [e]
            exact List.mem_cons_self
      · refine n _ _ (Same.fk e7) ⟨kvs, rs, _, rfl, (s6.trans sx).trans e7, (hG6.mono sx).mono e7, e7 _ _ (sx _ _ hls6), e7 _ _ (sx _ _ hrd6), hkv, hnd, fun j hj hlj => ?_, hcl, hfm⟩
        rcases Nat.lt_succ_iff_lt_or_eq.mp hj with h | rfl
        · exact hall j h hlj
        · exact absurd hlj (of_decide_eq_false hb)
    · rintro σ' Hd f2 ⟨kvs, rs, v5', rfl, s6, hG6, hls6, hrd6, hkv, hnd, hall, hcl, hfm⟩
      rw [el] at hall
      have hrl2 : rs.length ≤ wants.length := nodup_len _ _ hnd fun i hi => (hfm i hi).1
      haveI : MX (fun (H : Hp) (v : V) => ∃ rs' : List Nat, rs'.Perm rs ∧ LstOf RNat rs' H v) := ⟨fun e ⟨rs', h1, h2⟩ => ⟨rs', h1, MX.mx e h2⟩⟩
      haveI : MX (fun (H : Hp) (v : V) => ∃ a kvs, v = V.ref a ∧ H a = some (.dK kvs) ∧ kvs.map (·.1) = rs.map kI) := ⟨fun e ⟨a, kvs, h1, h2, h3⟩ => ⟨a, kvs, h1, e _ _ h2, h3⟩⟩
      refine s_ret (R := RLed (ps, wants)) (EvR.to (er_tup (ps := [LstOf DcT G, AnyP, AnyP, fun (H : Hp) (v : V) => ∃ rs' : List Nat, rs'.Perm rs ∧ LstOf RNat rs' H v]) (ea_cons (er_var hG6.lst) (ea_cons (er_var (R := AnyP) True.intro) (ea2 (er_var (R := AnyP) True.intro) (ev_sortedDI (fun a kvs ks H Q h1 h2 h3 h4 => ⟨a, kvs, ks, rfl, .inl h1, h2, h3, fun ys p hp _ hn => h4 ys p hp hn⟩) (er_var (R := fun (H : Hp) (v : V) => ∃ a kvs, v = V.ref a ∧ H a = some (.dK kvs) ∧ kvs.map (·.1) = rs.map kI) ⟨rd, kvs, rfl, hrd6, hkv⟩) (by omega))))) (by simp)) fun H v h => ?_) fun v H7 e7 r7 => q v H7 (s6.trans e7) r7
      obtain ⟨a, vs, h5, h6, h7⟩ := h
      obtain ⟨u1, u2, u3, u4, rfl, g1, g2, g3, rs', hp', g4⟩ := h7.four
      refine ⟨G, L, ls, rs', ⟨st, fun j hj hlj => hp'.mem_iff.mpr (hall j hj hlj), fun i hi hil p hp => ?_, fun i hi => ?_, hp'.nodup_iff.mpr hnd⟩, a, _, h5, h6, g1, g2, g3, g4, True.intro⟩
      · obtain ⟨a1, a2⟩ := hcl i (hp'.mem_iff.mp hi) hil p hp
        exact ⟨a1, fun o ho hg => hp'.mem_iff.mpr (a2 o ho hg)⟩
      · obtain ⟨a1, j, a2, a3, a4⟩ := hfm i (hp'.mem_iff.mp hi)
        exact ⟨a1, j, hp'.mem_iff.mpr a2, a3, a4⟩
end
end K43
set_option Elab.async false
set_option linter.all false
set_option maxRecDepth 100000
set_option maxHeartbeats 4000000
/-! # KS5: as_gift, shades_of -/
namespace K43
open PySem PySem.Spec PyProof.Rows L2 K43S
open C8 (Cal Mak Met pe_c pe_mk pe_mt pe_mt0)
section
variable {P : Program} {w : World} {K : PySem.W.Frag} {mg : Str → Option Value} {base : Heap}
section
variable {σ : L2.St} {H : Hp} {te ta td ty : TE} {R : Pr} {g : List (Part × Int)} {d : Addr}
theorem er_lockT {α : Type} {RB : α → Pr} {xs : List α} [∀ x, MF (RB x)] (hd : H d = some (.dT (encT g))) (h : ∀ H2 od, H2 d = some (.frz od (.dT (encT g))) → EvR te σ H2 (LstOf RB xs)) : EvR (tLockE te) σ H (LstOf RB xs) := fun H1 e Q q => by
  have hd1 := e _ _ hd
  refine ⟨d, .dT (encT g), hd1, True.intro, fun od => ?_⟩
  refine h (upd H1 d (.frz od (.dT (encT g)))) od upd_same _ (Same.refl _) _ fun v H3 e3 r3 => ?_
  have hd3 := e3 d _ upd_same
  refine ⟨hd3, q v _ (fun a o ha => ?_) ?_⟩
  · by_cases z : a = d
    · subst z; rw [hd1] at ha; cases ha; exact upd_same
    · rw [upd_ne z]
      exact e3 a o (by rw [upd_ne z]; exact ha)
  · obtain ⟨b, vs, rfl, h1, h2⟩ := r3
    exact ⟨b, vs, rfl, by rw [upd_ne (ne_of h1 hd3 (fun z => by cases z))]; exact h1, MFs.mf (FK.upd hd3 fun z => z) h2⟩
theorem ei_keysT {od : Obj} (ha : EvR ta σ H (IsV (.ref d))) (hd : H d = some (.frz od (.dT (encT g)))) : EvI Same (iKeys ta) σ H g (fun e => RPart e.1) := fun H1 e Rk q =>
  ha H1 e _ fun v H2 e2 r2 => ⟨d, od, r2, .inr ⟨encT g, (e.trans e2) d _ hd, by
    have l : g.length = (encT g).length := by unfold encT; rw [List.length_map]
    refine q _ H2 _ _ e2 (l ▸ walk_keysT) (fun Hx f => f d _ ((e.trans e2) d _ hd)) fun i x Hx v H' hx f ⟨y1, k, u, b, y2, y3, y4⟩ => ?_
    subst y1 y3
    unfold encT at y2
    rw [List.getElem?_map, hx] at y2
    have := Option.some.inj y2
    have hk : encP x.1 = k := congrArg Prod.fst this
    exact ⟨Same.refl _, key_rpart (by rw [hk]; exact y4)⟩⟩⟩
theorem er_dgetTF {od : Obj} {p : Part} {n : Int} (hd : H d = some (.frz od (.dT (encT g)))) (ha : EvR td σ H (IsV (.ref d))) (hb : EvR ty σ H (RPart p)) (h : ag g p = some n) : EvR (tDGet td ty) σ H (IsI n) := fun H1 e Q q =>
  ha H1 e _ fun x H2 e2 r2 => hb H2 (e.trans e2) _ fun y H3 e3 r3 => by
    obtain ⟨b, rfl, h2⟩ := rpart_key r3
    refine ⟨d, .int n, r2, .inr ⟨encT g, encP p, b, .inr ⟨od, ((e.trans e2).trans e3) d _ hd⟩, rfl, h2, ?_⟩, q _ _ (e2.trans e3) rfl⟩
    rw [valV_encT, h]
    rfl
end
/-- a gift as it is written: shades and numbers, in order -/
def giftOf (g : List (Part × Int)) : List (Str × Int) := srtK pkG ((g.filter fun e => decide (e.2 > 0)).map fun e => (e.1.2, e.2))
-- slots: 0 some (cell), 1 part
abbrev N_as_gift : List Str := ["some", "part"]
theorem sc_as_gift : FnScope N_as_gift ["some"] (defScope s_as_gift) := ⟨rfl, rfl, rfl, by decide +kernel, rfl, by decide +kernel, by decide +kernel⟩
abbrev spAsGift : Sp := PSp (ι := List (Part × Int)) (fun i => [DcT i]) (fun i => (i.map (·.1)).Nodup ∧ i.length ≤ 10000) fun i => RGift (giftOf i)
theorem ok_as_gift (T : Tx w K mg) : Cal P w K mg base 1 "as_gift" spAsGift [] := by
  refine mk_pure T.f_as_gift T.g_as_gift sc_as_gift (fun _ _ _ _ _ _ us hl => match us, hl with | [_], _ => rfl) (fun _ => rfl) (fun cdv A outer s H vs Q E i hr hp hc q => ?_)
  obtain ⟨v0, rfl, h0⟩ := PP.one hp
  obtain ⟨hnd, hl⟩ := hc
  obtain ⟨d, rfl, hd⟩ := h0
  refine ⟨_, (pss_one (ps_ret (pe_callTy (T := "tuple") (kx_tuple K) (by rfl) T.b_tuple (by decide +kernel) (pa_cons (pe_callB (id := "sorted") (kr_sortedSK K) (by rfl) T.b_sorted (by decide +kernel) (pa_cons (pe_lock (pe_lc (own := [("part", 1)]) (g := gName 1) (by rfl) sc_as_gift.nd (pi_keys (pv 0)) (blkOk_by (N := N_as_gift) (sc := defScope s_as_gift) (by decide +kernel)) (fun _ _ _ _ _ => (pg_name (i := 1) sc_as_gift.nd rfl (.inl rfl))) (fun _ _ _ _ _ => pts_one (pt_cmpR op_gt (pe_dget (hu_of hr) (pv 0) (pv 1) (fun _ _ => rfl)) pe_int (nomark _))) (fun _ _ _ _ _ => (pe_tup (pa_cons (pe_ix (kx_ixT K) (pv 1) pe_int (fun _ _ => rfl)) (pa_cons (pe_dget (hu_of hr) (pv 0) (pv 1) (fun _ _ => rfl)) pa_nil)))))) pa_nil)) pa_nil)))), ?_⟩
  refine s_ret (ev_tuple (ev_sortedSK (er_lockT (RB := RGi) (g := i) hd fun H2 od hd2 => er_lc (RB := RGi) (fun e : Part × Int => decide (e.2 > 0)) (fun e => (e.1.2, e.2)) (ei_keysT er_v hd2) (by omega) fun e v H3 he e3 r => eg_name ⟨rfl, ?_, fun _ => ?_⟩))) q
  · exact eb_test (EvR.is (er_I0 (er_dgetTF (e3 _ _ hd2) er_v (er_var r) (ag_mem hnd he)) er_c) rfl)
  · exact er_tup (ps := [IsS e.1.2, IsI e.2]) (ea2 (er_ixT (ps := [IsS e.1.1, IsS e.1.2]) (er_var r) er_c) (er_dgetTF (e3 _ _ hd2) er_v (er_var r) (ag_mem hnd he))) (by simp)
-- slots: 0 wants, 1 some, 2 found, 3 k
abbrev N_shades_of : List Str := ["wants", "some", "found", "k"]
theorem sc_shades_of : FnScope N_shades_of ["wants", "some"] (defScope s_shades_of) := ⟨rfl, rfl, rfl, by decide +kernel, rfl, by decide +kernel, by decide +kernel⟩
/-- the shades of some wants -/
def shadesIn (wants : List Want) (some : List Nat) : List Str := (some.map fun k => (wants.getD k dW).shades).flatten
def RSh (ss : List Str) : Pr := fun H v => ∃ ys : List Str, ys.Pairwise (fun x y => sLt x y = true) ∧ (∀ s, s ∈ ys ↔ s ∈ ss) ∧ TupOf RStr ys H v
instance {ss : List Str} : MX (RSh ss) := ⟨fun e ⟨ys, h1, h2, h3⟩ => ⟨ys, h1, h2, MX.mx e h3⟩⟩
abbrev spShadesOf : Sp := PSp (ι := List Want × List Nat) (fun i => [RWay i.1, LstOf RNat i.2]) (fun i => (∀ k ∈ i.2, k < i.1.length) ∧ (shadesIn i.1 i.2).length < 4000) fun i => RSh (shadesIn i.1 i.2)
theorem ok_shades_of (T : Tx w K mg) : Cal P w K mg base 1 "shades_of" spShadesOf [] := by
  refine mk_pure T.f_shades_of T.g_shades_of sc_shades_of (fun _ _ _ _ _ _ us hl => match us, hl with | [_, _], _ => rfl) (fun _ => rfl) (fun cdv A outer s H vs Q E i hr hp hc q => ?_)
  obtain ⟨v0, v1, rfl, h0, h1⟩ := PP.two hp
  obtain ⟨wants, ks⟩ := i
  obtain ⟨hk, hl⟩ := hc
  dsimp only at hk hl h0 h1
  refine ⟨_, (pss_cons (ps_set (i := 2) sc_shades_of.nd rfl (.inl rfl) (pe_lst pa_nil))
    (pss_cons (ps_for PassesOwn.never rfl (kx_pi_list K (pv 1)) (pg_name (i := 3) sc_shades_of.nd rfl (.inl rfl))
      (pss_one (ps_expr (kx_bm K PySem.F.plainAttrs_list PySem.F.slot_list_extend PySem.F.type_list_extend (kx_extendT K) (pv 2) (pa_cons (pe_ix (kx_ixT K) (pe_ix (kx_ixT K) (pv 0) (pv 3) (fun _ _ => rfl)) pe_int (fun _ _ => rfl)) pa_nil)))))
    (pss_one (ps_ret (pe_callTy (T := "tuple") (kx_tuple K) (by rfl) T.b_tuple (by decide +kernel) (pa_cons (pe_callB (id := "sorted") (kr_sortedS rfl) (by rfl) T.b_sorted (by decide +kernel) (pa_cons (pe_callTy (T := "set") (kr_setS rfl) (by rfl) T.b_set (by decide +kernel) (pa_cons (pv 2) pa_nil)) pa_nil)) pa_nil)))))), ?_⟩
  refine q_nil fun l hln => ?_
  have e0 := Same.new (o := .lst []) hln
  obtain ⟨la, lvs, rfl, hla, hlvs⟩ := h1
  refine q_forA (RA := RNat) (a := la) (vs := lvs) (xs := ks) er_v (e0 _ _ hla) (MXs.mx e0 hlvs) (fun j σ' Hc => Same H Hc ∧ (∃ v3, σ' = [some v0, some (.ref la), some (.ref l), v3]) ∧ Hc l = some (.lst ((shadesIn wants (ks.take j)).map V.str)))
    (fun H2 e2 => ⟨e0.trans e2, ⟨_, rfl⟩, e2 _ _ upd_same⟩) (fun j σ' Hc _ ⟨s, _, _⟩ => s _ _ hla) ?_ ?_
  · rintro j k v σ' Hc N hx f ⟨s, ⟨v3, rfl⟩, hlc⟩ r n
    have hkl := hk k (List.mem_of_getElem? hx)
    have el : (shadesIn wants (ks.take j)).length + (wants.getD k dW).shades.length ≤ (shadesIn wants ks).length := flatten_at_le (f := fun k => (wants.getD k dW).shades) hx
    refine eg_name ⟨_, rfl, .inl ⟨rfl, _, .inl (.inl hlc)⟩, ?_⟩
    refine ea1 (er_ixT (ps := [IsS (wants.getD k dW).form, TupOf RStr (wants.getD k dW).shades, IsI (wants.getD k dW).many]) (er_ixTO (R := RWant) (x := wants.getD k dW) (er_var (MX.mx s h0)) (er_var r) (by omega) (by simpa using getD_of hkl)) er_c) Hc (Same.refl _) _ fun vs H3 e3 r3 => ?_
    obtain ⟨vz, rfl, b, zs, rfl, hb, hzs⟩ := r3.one
    have hz : zs = (wants.getD k dW).shades.map V.str := pp_of (g := V.str) hzs
    subst hz
    refine ⟨l, b, _, _, rfl, rfl, e3 _ _ hlc, hb, by rw [List.length_map, List.length_map]; omega, ?_⟩
    refine n _ _ ((Same.fk e3).trans (FK.upd (e3 _ _ hlc) fun z => z)) ⟨(s.trans e3).mut hln, ⟨_, rfl⟩, ?_⟩
    rw [upd_same, ← List.map_append]
    have e : shadesIn wants (ks.take (j + 1)) = shadesIn wants (ks.take j) ++ (wants.getD k dW).shades := take_map_flatten (f := fun k => (wants.getD k dW).shades) hx
    rw [e]
  · rintro σ' Hc f ⟨s, ⟨v3, rfl⟩, hlc⟩
    rw [List.take_length] at hlc
    -- tuple(sorted(set(found)))
    refine ⟨_, rfl, ?_⟩
    refine ⟨l, shadesIn wants ks, rfl, hlc, hl, fun a c ha hc => ?_⟩
    refine ⟨a, _, c, rfl, upd_same, fun ys p hs hm hp => ?_⟩
    refine ⟨p, ys.map V.str, rfl, .inl ⟨SqL.of upd_same, fun t ht => ?_⟩⟩
    have s1 := Same.new (o := SetSO w a (fun j => decide (j ∈ shadesIn wants ks)) c) ha
    have s2 := Same.new (o := .lst (ys.map V.str)) hp
    have s3 := Same.new (o := .tup (ys.map V.str)) ht
    exact q _ _ (s.trans (s1.trans (s2.trans s3))) ⟨ys, hs, fun x => by rw [hm x]; simp, t, _, rfl, upd_same, pp_self⟩
end
end K43
set_option Elab.async false
set_option linter.all false
/-! # KM4: what is dealt is right, a bar bars -/
namespace K43
open PySem K43S
/-! ### sums -/
theorem sum_comm {α : Type} (l : List α) (n : Nat) (f : α → Nat → Int) : (l.map fun a => ((List.range n).map (f a)).sum).sum = ((List.range n).map fun i => (l.map fun a => f a i).sum).sum := by
  induction l with
  | nil =>
    have : (List.range n).map (fun i => (([] : List α).map fun a => f a i).sum) = (List.range n).map fun _ => 0 := List.map_congr_left fun _ _ => rfl
    rw [this]
    generalize List.range n = r
    induction r with
    | nil => rfl
    | cons a r ih => rw [List.map_cons, List.sum_cons, ← ih]; rfl
  | cons a l ih =>
    rw [List.map_cons, List.sum_cons, ih]
    generalize List.range n = r
    induction r with
    | nil => rfl
    | cons i r ih2 =>
      simp only [List.map_cons, List.sum_cons] at ih2 ⊢
      omega
theorem sum_add {α : Type} (l : List α) (f g : α → Int) : (l.map fun a => f a + g a).sum = (l.map f).sum + (l.map g).sum := by
  induction l with
  | nil => rfl
  | cons a l ih => simp only [List.map_cons, List.sum_cons]; omega
theorem sum_le {α : Type} {l : List α} {f g : α → Int} (h : ∀ a ∈ l, f a ≤ g a) : (l.map f).sum ≤ (l.map g).sum := by
  induction l with
  | nil => exact Int.le_refl _
  | cons a l ih =>
    have h1 := h a List.mem_cons_self
    have h2 := ih fun b hb => h b (List.mem_cons_of_mem _ hb)
    simp only [List.map_cons, List.sum_cons]
    omega
theorem sum_lt {α : Type} {l : List α} {f g : α → Int} (h : ∀ a ∈ l, f a ≤ g a) {x : α} (hx : x ∈ l) (hlt : f x < g x) : (l.map f).sum < (l.map g).sum := by
  induction l with
  | nil => cases hx
  | cons a l ih =>
    simp only [List.map_cons, List.sum_cons]
    rcases List.mem_cons.mp hx with rfl | hx
    · have h2 := sum_le fun b hb => h b (List.mem_cons_of_mem _ hb)
      omega
    · have h1 := h a List.mem_cons_self
      have h2 := ih (fun b hb => h b (List.mem_cons_of_mem _ hb)) hx
      omega
theorem sum_congr {α : Type} {l : List α} {f g : α → Int} (h : ∀ a ∈ l, f a = g a) : (l.map f).sum = (l.map g).sum := by
  rw [List.map_congr_left h]
theorem sum_filter {α : Type} (l : List α) (c : α → Bool) (f : α → Int) : ((l.filter c).map f).sum = (l.map fun a => if c a = true then f a else 0).sum := by
  induction l with
  | nil => rfl
  | cons a l ih =>
    rw [List.map_cons, List.sum_cons, ← ih]
    by_cases h : c a = true
    · rw [List.filter_cons_of_pos h, List.map_cons, List.sum_cons, if_pos h]
    · rw [List.filter_cons_of_neg h, if_neg h]
      omega
theorem sum_range {α : Type} (l : List α) (d : α) (f : α → Int) : (l.map f).sum = ((List.range l.length).map fun i => f (l.getD i d)).sum := by
  have : l.map f = (List.range l.length).map fun i => f (l.getD i d) := by
    apply List.ext_getElem
    · simp
    · intro i h1 h2
      simp [List.getElem_map, List.getElem_range, List.getD_eq_getElem?_getD, List.getElem?_eq_getElem (show i < l.length by simpa using h1)]
  rw [this]
/-! ### a heap's rows -/
theorem leftOf_map {ps : List Prt} (nd : (ps.map kP).Nodup) : leftOf ps = ps.map fun e => (kP e, e.2.2) := by
  have key : ∀ (l : List Prt) (g : List (Part × Int)), (g.map (·.1) ++ l.map kP).Nodup → l.foldl (fun g e => ap g (kP e) e.2.2) g = g ++ l.map fun e => (kP e, e.2.2) := by
    intro l
    induction l with
    | nil => intro g _; simp
    | cons e l ih =>
      intro g h
      have hn : kP e ∉ g.map (·.1) := fun z => by
        rw [List.nodup_append] at h
        exact h.2.2 _ z _ List.mem_cons_self rfl
      have e1 : ap g (kP e) e.2.2 = g ++ [(kP e, e.2.2)] := by
        unfold ap
        rw [if_neg (fun z => hn (any_iff.mp z))]
      rw [List.foldl_cons, e1, ih, List.append_assoc]
      · rfl
      · rw [List.map_append, List.append_assoc]
        exact h
  have := key ps [] (by simpa using nd)
  simpa [leftOf] using this
theorem leftOf_keys {ps : List Prt} (nd : (ps.map kP).Nodup) : (leftOf ps).map (·.1) = ps.map kP := by
  rw [leftOf_map nd, List.map_map]
  rfl
theorem left_mem {ps : List Prt} (nd : (ps.map kP).Nodup) {e : Prt} (h : e ∈ ps) : gv (leftOf ps) (kP e) = e.2.2 := by
  have : ag (leftOf ps) (kP e) = some e.2.2 := ag_mem (by rw [leftOf_keys nd]; exact nd) (by rw [leftOf_map nd]; exact List.mem_map.mpr ⟨e, h, rfl⟩)
  unfold gv
  rw [this]
  rfl
theorem left_key {ps : List Prt} (nd : (ps.map kP).Nodup) {p : Part} (h : gv (leftOf ps) p ≠ 0) : p ∈ ps.map kP := by
  rw [← leftOf_keys nd]
  refine ag_isSome.mp ?_
  unfold gv at h
  cases z : ag (leftOf ps) p with
  | none => rw [z] at h; exact absurd rfl h
  | some c => rfl
theorem many_one {ps : List Prt} (nd : (ps.map kP).Nodup) (form s : Str) : manyP ps form (some s) = gv (leftOf ps) (form, s) := by
  rw [leftOf_map nd]
  unfold manyP
  induction ps with
  | nil => rfl
  | cons e l ih =>
    rw [List.map_cons, List.nodup_cons] at nd
    have ih := ih nd.2
    by_cases h : kP e = (form, s)
    · have h1 : e.1 = form := congrArg Prod.fst h
      have h2 : e.2.1 = s := congrArg Prod.snd h
      have hz : (l.filter fun e => decide (e.1 = form) && (decide ((some s : Option Str) = none) || decide (some s = some e.2.1))) = [] := by
        rw [List.filter_eq_nil_iff]
        intro x hx hc
        simp only [Bool.and_eq_true, Bool.or_eq_true, decide_eq_true_eq] at hc
        have h3 : s = x.2.1 := by
          rcases hc.2 with z | z
          · cases z
          · exact Option.some.inj z
        exact nd.1 (List.mem_map.mpr ⟨x, hx, by rw [h]; show (x.1, x.2.1) = _; rw [hc.1, ← h3]⟩)
      have eg : gv ((e :: l).map fun e => (kP e, e.2.2)) (form, s) = e.2.2 := by
        unfold gv
        rw [List.map_cons, ag_pos (p := (kP e, e.2.2)) h]
        rfl
      rw [eg, List.filter_cons_of_pos (by simp [h1, h2]), hz]
      simp
    · have hc : ¬ ((decide (e.1 = form) && (decide ((some s : Option Str) = none) || decide (some s = some e.2.1))) = true) := fun hc => by
        simp only [Bool.and_eq_true, Bool.or_eq_true, decide_eq_true_eq] at hc
        have h3 : s = e.2.1 := by
          rcases hc.2 with z | z
          · cases z
          · exact Option.some.inj z
        exact h (by show (e.1, e.2.1) = _; rw [hc.1, ← h3])
      have eg : gv ((e :: l).map fun e => (kP e, e.2.2)) (form, s) = gv (l.map fun e => (kP e, e.2.2)) (form, s) := by
        unfold gv
        rw [List.map_cons, ag_neg (p := (kP e, e.2.2)) h]
      rw [eg, ← ih, List.filter_cons, if_neg hc]
theorem many_all {ps : List Prt} (nd : (ps.map kP).Nodup) (form : Str) : manyP ps form none = (((ps.filter fun e => decide (e.1 = form)).map kP).map (gv (leftOf ps))).sum := by
  unfold manyP
  have e1 : (ps.filter fun e => decide (e.1 = form) && (decide ((none : Option Str) = none) || decide ((none : Option Str) = some e.2.1))) = ps.filter fun e => decide (e.1 = form) := List.filter_congr fun x _ => by simp
  rw [e1, List.map_map]
  exact sum_congr fun e he => (left_mem nd (List.mem_filter.mp he).1).symm
/-! ### the bar -/
section
variable {ps : List Prt} {wants : List Want} {G : Gifts} {L : List (Part × Int)} {ls : List Int} {rs : List Nat}
/-- parts P of one form that those in R all let or spend: the wants are more -/
theorem bar_core (hh : HeapOk ps) (hw : WantsOk wants) (h : LedR ps wants G L ls rs) {form : Str} (o : Option (List Str)) {P : List Part} (np : P.Nodup)
    (hP : ∀ p ∈ P, ∃ k ∈ rs, (wants.getD k dW).form = form ∧ p ∈ letsP ps (wants.getD k dW))
    (hR : ∀ i ∈ rs, (wants.getD i dW).form = form → wIn form o (wants.getD i dW) = true ∧ ∀ p, gv (G.getD i []) p > 0 → p ∈ P)
    (h0 : ∃ k ∈ rs, (wants.getD k dW).form = form) : (P.map (gv (leftOf ps))).sum < wantedP wants form o := by
  have st := h.st
  have e1 : (P.map (gv (leftOf ps))).sum = ((List.range wants.length).map fun i => (P.map (gv (G.getD i []))).sum).sum := by
    rw [← sum_comm P wants.length fun p i => gv (G.getD i []) p]
    refine sum_congr fun p hp => ?_
    obtain ⟨k, hk, hf, hl⟩ := hP p hp
    have := (h.cl k hk (h.fm k hk).1 p hl).1
    have h2 := st.lpos p
    have h3 := st.bal p
    unfold gsum at h3
    omega
  have e2 : wantedP wants form o = ((List.range wants.length).map fun i => if wIn form o (wants.getD i dW) = true then (wants.getD i dW).many else 0).sum := by
    unfold wantedP
    rw [sum_filter, sum_range wants dW]
  rw [e1, e2]
  have hle : ∀ i ∈ List.range wants.length, (P.map (gv (G.getD i []))).sum ≤ if wIn form o (wants.getD i dW) = true then (wants.getD i dW).many else 0 := fun i hi => by
    have hil := List.mem_range.mp hi
    have hmp : 0 ≤ (wants.getD i dW).many := hw.pos _ (List.mem_of_getElem? (getD_of (d := dW) hil))
    by_cases hm : i ∈ rs ∧ (wants.getD i dW).form = form
    · obtain ⟨h1, h2⟩ := hR i hm.1 hm.2
      rw [if_pos h1, vsum_over (st.gk.nd i) np fun p hp => h2 p (by have := st.pos i p; omega)]
      have := st.lac i hil
      have := st.lnn i
      omega
    · have hz : (P.map (gv (G.getD i []))).sum = (P.map fun _ => (0 : Int)).sum := sum_congr fun p hp => by
        obtain ⟨k, hk, hf, hl⟩ := hP p hp
        have h3 := (h.cl k hk (h.fm k hk).1 p hl).2 i hil
        have h4 := st.pos i p
        rcases Int.lt_or_le 0 (gv (G.getD i []) p) with h5 | h5
        · exfalso
          refine hm ⟨h3 h5, ?_⟩
          have f1 := lets_form hl
          have f2 := lets_form (st.gk.sub i hil p (ag_isSome.mp (isSome_pos h5)))
          rw [← f2, f1, hf]
        · omega
      have hz2 : (P.map fun _ => (0 : Int)).sum = 0 := by
        clear hz e1 np hP hR
        induction P with
        | nil => rfl
        | cons a P ih => rw [List.map_cons, List.sum_cons, ih]; rfl
      rw [hz, hz2]
      split <;> omega
  obtain ⟨k0, hk0, hf0⟩ := h0
  obtain ⟨hk0l, j, hj, hlj, hfj⟩ := h.fm k0 hk0
  have hjl := (h.fm j hj).1
  refine sum_lt hle (x := j) (List.mem_range.mpr hjl) ?_
  obtain ⟨h1, h2⟩ := hR j hj (by rw [← hfj, hf0])
  rw [if_pos h1, vsum_over (st.gk.nd j) np fun p hp => h2 p (by have := st.pos j p; omega)]
  have := st.lac j hjl
  omega
theorem bar_none (hh : HeapOk ps) (hw : WantsOk wants) (h : LedR ps wants G L ls rs) {form : Str} {k : Nat} (hk : k ∈ rs) (hf : (wants.getD k dW).form = form) (he : (wants.getD k dW).shades.isEmpty = true) : thereP ps form none < wantedP wants form none := by
  unfold thereP
  rw [many_all hh.nd]
  have hlets : letsP ps (wants.getD k dW) = (ps.filter fun e => decide (e.1 = form)).map kP := by
    unfold letsP
    rw [if_pos he, hf]
  refine bar_core hh hw h none ?_ (fun p hp => ⟨k, hk, hf, by rw [hlets]; exact hp⟩) (fun i hi hfi => ⟨by unfold wIn; simp only [decide_eq_true hfi, Bool.and_self], fun p hp => ?_⟩) ⟨k, hk, hf⟩
  · exact List.Nodup.sublist ((List.filter_sublist).map kP) hh.nd
  · have hil := (h.fm i hi).1
    have h1 := lets_form (h.st.gk.sub i hil p (ag_isSome.mp (isSome_pos hp)))
    have hc : gv (leftOf ps) p ≠ 0 := by
      have h2 := h.st.bal p
      have h3 := h.st.lpos p
      have h4 : gv (G.getD i []) p ≤ gsum wants.length G p := by
        unfold gsum
        have : (0 : Int) < ((List.range wants.length).map fun i => gv (G.getD i []) p).sum ∨ True := .inr True.intro
        clear this
        have key : ∀ l : List Nat, i ∈ l → gv (G.getD i []) p ≤ (l.map fun i => gv (G.getD i []) p).sum := by
          intro l
          induction l with
          | nil => intro z; cases z
          | cons a l ih =>
            intro hm
            rw [List.map_cons, List.sum_cons]
            have hn : ∀ r : List Nat, 0 ≤ (r.map fun i => gv (G.getD i []) p).sum := by
              intro r
              induction r with
              | nil => exact Int.le_refl _
              | cons b r ih => rw [List.map_cons, List.sum_cons]; have := h.st.pos b p; omega
            rcases List.mem_cons.mp hm with rfl | hm
            · have := hn l; omega
            · have := ih hm; have := h.st.pos a p; omega
        exact key _ (List.mem_range.mpr hil)
      omega
    obtain ⟨e, he', hpe⟩ := List.mem_map.mp (left_key hh.nd hc)
    refine List.mem_map.mpr ⟨e, List.mem_filter.mpr ⟨he', decide_eq_true ?_⟩, hpe⟩
    have : e.1 = p.1 := congrArg Prod.fst hpe
    rw [this, h1, hfi]
theorem bar_some (hh : HeapOk ps) (hw : WantsOk wants) (h : LedR ps wants G L ls rs) {form : Str} {S : List Str} (hS : S.Nodup) {some_ : List Nat} (hs : ∀ i, i ∈ some_ ↔ i ∈ rs ∧ (wants.getD i dW).form = form) (hne : ∀ i ∈ some_, (wants.getD i dW).shades.isEmpty = false)
    (hm : ∀ s, s ∈ S ↔ s ∈ shadesIn wants some_) (h0 : ∃ k ∈ rs, (wants.getD k dW).form = form) : thereP ps form (some S) < wantedP wants form (some S) := by
  have e1 : thereP ps form (some S) = ((S.map fun s => ((form, s) : Part)).map (gv (leftOf ps))).sum := by
    unfold thereP
    rw [List.map_map]
    exact sum_congr fun s _ => many_one hh.nd form s
  have hin : ∀ s, s ∈ S ↔ ∃ k ∈ some_, s ∈ (wants.getD k dW).shades := fun s => by
    rw [hm]
    unfold shadesIn
    simp only [List.mem_flatten, List.mem_map]
    constructor
    · rintro ⟨l, ⟨k, hk, rfl⟩, h⟩
      exact ⟨k, hk, h⟩
    · rintro ⟨k, hk, h⟩
      exact ⟨_, ⟨k, hk, rfl⟩, h⟩
  have hlets : ∀ k ∈ some_, letsP ps (wants.getD k dW) = (wants.getD k dW).shades.map fun s => (form, s) := fun k hk => by
    unfold letsP
    rw [if_neg (by rw [hne k hk]; decide), ((hs k).mp hk).2]
  rw [e1]
  refine bar_core hh hw h (some S) ?_ (fun p hp => ?_) (fun i hi hfi => ⟨?_, fun p hp => ?_⟩) h0
  · rw [List.nodup_iff_pairwise_ne, List.pairwise_map]
    exact hS.imp fun h z => h (congrArg Prod.snd z)
  · obtain ⟨s, hs', rfl⟩ := List.mem_map.mp hp
    obtain ⟨k, hk, hsk⟩ := (hin s).mp hs'
    obtain ⟨hkr, hf⟩ := (hs k).mp hk
    exact ⟨k, hkr, hf, by rw [hlets k hk]; exact List.mem_map.mpr ⟨s, hsk, rfl⟩⟩
  · have hi2 := (hs i).mpr ⟨hi, hfi⟩
    unfold wIn wSub
    rw [hne i hi2, decide_eq_true hfi]
    simp only [Bool.not_false, Bool.true_and, List.all_eq_true]
    intro s hs'
    exact List.elem_eq_true_of_mem ((hin s).mpr ⟨i, hi2, hs'⟩)
  · have hi2 := (hs i).mpr ⟨hi, hfi⟩
    have hil := (h.fm i hi).1
    have h1 := h.st.gk.sub i hil p (ag_isSome.mp (isSome_pos hp))
    rw [hlets i hi2] at h1
    obtain ⟨s, hs', rfl⟩ := List.mem_map.mp h1
    exact List.mem_map.mpr ⟨s, (hin s).mpr ⟨i, hi2, hs'⟩, rfl⟩
end
/-! ### what is dealt -/
def cntG (l : List (Str × Int)) (s : Str) : Int := ((l.filter fun e => decide (e.1 = s)).map (·.2)).sum
structure GiftOk (x : Want) (l : List (Str × Int)) : Prop where
  rise : l.Pairwise fun a b => sLt a.1 b.1 = true
  pos : ∀ e ∈ l, 0 < e.2
  sum : (l.map (·.2)).sum = x.many
  right : x.shades.isEmpty = true ∨ ∀ e ∈ l, e.1 ∈ x.shades
structure DealtR (ps : List Prt) (wants : List Want) (given : List (List (Str × Int))) : Prop where
  ln : given.length = wants.length
  gift : ∀ i, i < wants.length → GiftOk (wants.getD i dW) (given.getD i [])
  sum : ∀ form s, ((List.range wants.length).map fun i => if (wants.getD i dW).form = form then cntG (given.getD i []) s else 0).sum ≤ manyP ps form (some s)
  known : ∀ i, i < wants.length → ∀ e ∈ given.getD i [], ((wants.getD i dW).form, e.1) ∈ ps.map kP
theorem perm_sum {α : Type} {l m : List α} (h : l.Perm m) (f : α → Int) : (l.map f).sum = (m.map f).sum := by
  induction h with
  | nil => rfl
  | cons x _ ih => simp only [List.map_cons, List.sum_cons, ih]
  | swap x y l => simp only [List.map_cons, List.sum_cons]; omega
  | trans _ _ ih1 ih2 => rw [ih1, ih2]
section
variable {ps : List Prt} {wants : List Want} {G : Gifts} {L : List (Part × Int)} {ls : List Int}
theorem giftOf_mem {g : List (Part × Int)} {e : Str × Int} : e ∈ giftOf g ↔ ∃ x ∈ g, 0 < x.2 ∧ (x.1.2, x.2) = e := by
  unfold giftOf
  rw [srtK_mem, List.mem_map]
  constructor
  · rintro ⟨x, hx, rfl⟩
    obtain ⟨h1, h2⟩ := List.mem_filter.mp hx
    exact ⟨x, h1, of_decide_eq_true h2, rfl⟩
  · rintro ⟨x, h1, h2, rfl⟩
    exact ⟨x, List.mem_filter.mpr ⟨h1, decide_eq_true h2⟩, rfl⟩
theorem giftOf_nd {g : List (Part × Int)} {form : Str} (nd : (g.map (·.1)).Nodup) (hf : ∀ p ∈ g.map (·.1), p.1 = form) : ((giftOf g).map (·.1)).Nodup := by
  unfold giftOf
  refine (((srtK_perm pkG _).map (·.1)).nodup_iff).mpr ?_
  rw [List.map_map]
  have h1 : ((g.filter fun e => decide (e.2 > 0)).map fun x : Part × Int => x.1).Nodup := List.Nodup.sublist (List.Sublist.map (fun x : Part × Int => x.1) List.filter_sublist) nd
  rw [List.nodup_iff_pairwise_ne, List.pairwise_map] at h1 ⊢
  refine List.Pairwise.imp_of_mem (fun {a b} ha hb h => ?_) h1
  intro z
  have ha' := hf a.1 (List.mem_map.mpr ⟨a, (List.mem_filter.mp ha).1, rfl⟩)
  have hb' := hf b.1 (List.mem_map.mpr ⟨b, (List.mem_filter.mp hb).1, rfl⟩)
  exact h (Prod.ext (ha'.trans hb'.symm) z)
theorem giftOf_rise {g : List (Part × Int)} {form : Str} (nd : (g.map (·.1)).Nodup) (hf : ∀ p ∈ g.map (·.1), p.1 = form) : (giftOf g).Pairwise fun a b => sLt a.1 b.1 = true := by
  have h1 := giftOf_nd nd hf
  have h2 : (giftOf g).Pairwise fun a b => pLt (pkG b) (pkG a) = false := srtK_sorted pkG _
  rw [List.nodup_iff_pairwise_ne, List.pairwise_map] at h1
  refine (List.Pairwise.and h2 h1).imp fun {a b} ⟨h3, h4⟩ => ?_
  unfold pLt at h3
  rw [if_neg (fun z => h4 (z.symm : a.1 = b.1))] at h3
  cases q : sLt a.1 b.1 with
  | true => rfl
  | false => exact absurd (sLt_tri q h3) h4
theorem sum_pos_filter {α : Type} (g : List α) (f : α → Int) (h : ∀ a ∈ g, 0 ≤ f a) : ((g.filter fun a => decide (f a > 0)).map f).sum = (g.map f).sum := by
  rw [sum_filter]
  refine sum_congr fun a ha => ?_
  have := h a ha
  by_cases z : f a > 0
  · rw [if_pos (decide_eq_true z)]
  · rw [if_neg (by rw [decide_eq_false z]; decide)]
    omega
theorem giftOf_sum {g : List (Part × Int)} (h : ∀ e ∈ g, 0 ≤ e.2) : ((giftOf g).map (·.2)).sum = vsum g := by
  unfold giftOf vsum
  rw [perm_sum (srtK_perm pkG _), List.map_map]
  exact sum_pos_filter g (·.2) h
theorem giftOf_cnt {g : List (Part × Int)} {form : Str} (nd : (g.map (·.1)).Nodup) (hf : ∀ p ∈ g.map (·.1), p.1 = form) (h : ∀ p, 0 ≤ gv g p) (s : Str) : cntG (giftOf g) s = gv g (form, s) := by
  have hnn : ∀ e ∈ g, 0 ≤ e.2 := fun e he => by
    have := h e.1
    unfold gv at this
    rw [ag_mem nd (v := e.2) he] at this
    exact this
  unfold cntG giftOf
  rw [perm_sum ((srtK_perm pkG _).filter _), List.filter_map, List.map_map, List.filter_filter]
  have e1 : ((g.filter fun a => ((fun e : Str × Int => decide (e.1 = s)) ∘ fun e : Part × Int => (e.1.2, e.2)) a && decide (a.2 > 0)).map ((fun x : Str × Int => x.2) ∘ fun e : Part × Int => (e.1.2, e.2))).sum = (g.map fun a => if a.1 = (form, s) then a.2 else 0).sum := by
    rw [sum_filter]
    refine sum_congr fun a ha => ?_
    have h1 := hf a.1 (List.mem_map.mpr ⟨a, ha, rfl⟩)
    have h2 := hnn a ha
    simp only [Function.comp, Bool.and_eq_true, decide_eq_true_eq]
    by_cases z : a.1 = (form, s)
    · rw [if_pos z]
      have h3 : a.1.2 = s := congrArg Prod.snd z
      by_cases z2 : a.2 > 0
      · rw [if_pos ⟨h3, z2⟩]
      · rw [if_neg (fun x => z2 x.2)]
        omega
    · rw [if_neg z, if_neg (fun x => z (Prod.ext h1 x.1))]
  rw [e1]
  clear e1 h hf hnn
  induction g with
  | nil => rfl
  | cons a g ih =>
    rw [List.map_cons, List.nodup_cons] at nd
    rw [List.map_cons, List.sum_cons, ih nd.2]
    by_cases z : a.1 = (form, s)
    · have hn : ag g (form, s) = none := ag_none.mpr (by rw [← z]; exact nd.1)
      rw [if_pos z]
      unfold gv
      rw [hn, ag_pos z]
      simp
    · rw [if_neg z]
      unfold gv
      rw [ag_neg z]
      omega
theorem dealt_ok (hh : HeapOk ps) (h : LedR ps wants G L ls []) : DealtR ps wants (G.map giftOf) := by
  have st := h.st
  have hz : ∀ i, i < wants.length → ls.getD i 0 = 0 := fun i hi => by
    have h1 := st.lnn i
    rcases Int.lt_or_le 0 (ls.getD i 0) with h2 | h2
    · exact absurd (h.all i hi h2) (by simp)
    · omega
  have hg : ∀ i, i < wants.length → (G.map giftOf).getD i [] = giftOf (G.getD i []) := fun i hi => by
    have hi2 : i < G.length := by rw [st.gk.ln]; exact hi
    simp [List.getD_eq_getElem?_getD, List.getElem?_eq_getElem hi2]
  have hf : ∀ i, i < wants.length → ∀ p ∈ (G.getD i []).map (·.1), p.1 = (wants.getD i dW).form := fun i hi p hp => lets_form (st.gk.sub i hi p hp)
  have hnn : ∀ i, ∀ e ∈ G.getD i [], 0 ≤ e.2 := fun i e he => by
    have := st.pos i e.1
    unfold gv at this
    rw [ag_mem (st.gk.nd i) (v := e.2) he] at this
    exact this
  refine ⟨by rw [List.length_map]; exact st.gk.ln, fun i hi => ?_, fun form s => ?_, fun i hi e he => ?_⟩
  · rw [hg i hi]
    refine ⟨giftOf_rise (st.gk.nd i) (hf i hi), fun e he => ?_, ?_, ?_⟩
    · obtain ⟨x, _, h2, rfl⟩ := giftOf_mem.mp he
      exact h2
    · rw [giftOf_sum (hnn i)]
      have h1 := st.lac i hi
      have h2 := hz i hi
      omega
    · cases he : (wants.getD i dW).shades.isEmpty with
      | true => exact .inl rfl
      | false =>
        refine .inr fun e hm => ?_
        obtain ⟨x, h1, h2, rfl⟩ := giftOf_mem.mp hm
        have h3 := st.gk.sub i hi x.1 (List.mem_map.mpr ⟨x, h1, rfl⟩)
        unfold letsP at h3
        rw [if_neg (by rw [he]; decide)] at h3
        obtain ⟨s, h4, h5⟩ := List.mem_map.mp h3
        rw [← h5]
        exact h4
  · rw [many_one hh.nd, ← st.bal (form, s)]
    have h1 := st.lpos (form, s)
    have h2 : ((List.range wants.length).map fun i => if (wants.getD i dW).form = form then cntG ((G.map giftOf).getD i []) s else 0).sum ≤ gsum wants.length G (form, s) := by
      unfold gsum
      refine sum_le fun i hi => ?_
      have hil := List.mem_range.mp hi
      by_cases z : (wants.getD i dW).form = form
      · rw [if_pos z, hg i hil, giftOf_cnt (st.gk.nd i) (form := form) (fun p hp => (hf i hil p hp).trans z) (st.pos i)]
        exact Int.le_refl _
      · rw [if_neg z]
        exact st.pos i _
    omega
  · rw [hg i hi] at he
    obtain ⟨x, h1, h2, rfl⟩ := giftOf_mem.mp he
    have hxk : x.1 ∈ (G.getD i []).map (·.1) := List.mem_map.mpr ⟨x, h1, rfl⟩
    have h3 := hf i hi x.1 hxk
    have hgv : gv (G.getD i []) x.1 = x.2 := by unfold gv; rw [ag_mem (st.gk.nd i) (v := x.2) h1]; rfl
    have e1 : ((wants.getD i dW).form, x.1.2) = x.1 := Prod.ext h3.symm rfl
    show ((wants.getD i dW).form, x.1.2) ∈ _
    rw [e1]
    refine left_key hh.nd ?_
    have h4 := st.bal x.1
    have h5 := st.lpos x.1
    have h6 : gv (G.getD i []) x.1 ≤ gsum wants.length G x.1 := by
      unfold gsum
      have key : ∀ l : List Nat, i ∈ l → gv (G.getD i []) x.1 ≤ (l.map fun i => gv (G.getD i []) x.1).sum := by
        intro l
        induction l with
        | nil => intro z; cases z
        | cons a l ih =>
          intro hm
          rw [List.map_cons, List.sum_cons]
          have hn : ∀ r : List Nat, 0 ≤ (r.map fun i => gv (G.getD i []) x.1).sum := by
            intro r
            induction r with
            | nil => exact Int.le_refl _
            | cons b r ih => rw [List.map_cons, List.sum_cons]; have := st.pos b x.1; omega
          rcases List.mem_cons.mp hm with rfl | hm
          · have := hn l; omega
          · have := ih hm; have := st.pos a x.1; omega
      exact key _ (List.mem_range.mpr hi)
    omega
end
end K43
set_option Elab.async false
set_option linter.all false
set_option maxRecDepth 100000
set_option maxHeartbeats 4000000
/-! # KS6: deal -/
namespace K43
open PySem PySem.Spec PyProof.Rows L2 K43S
open C8 (Cal Mak Met pe_c pe_mk pe_mt pe_mt0)
structure BarP (ps : List Prt) (wants : List Want) (form : Str) (o : Option (List Str)) : Prop where
  lt : thereP ps form o < wantedP wants form o
  sh : ∀ S, o = some S → S.Pairwise (fun x y => sLt x y = true) ∧ S ≠ [] ∧ ∀ s ∈ S, ∃ x ∈ wants, s ∈ x.shades
  form : ∃ x ∈ wants, x.form = form
def RDeal (i : List Prt × List Want) : Pr := fun H v => (∃ given, DealtR i.1 i.2 given ∧ TupP [IsS "dealt", RGiven given] H v) ∨ (∃ form o, BarP i.1 i.2 form o ∧ TupP [IsS "bar", TupP [IsS form, RShades o]] H v)
section
variable {P : Program} {w : World} {K : PySem.W.Frag} {mg : Str → Option Value} {base : Heap}
-- slots: 0 heap, 1 wants (cell), 2 form (cell), 3 some, 4 gifts, 5 left, 6 lacks, 7 reached, 8 k
abbrev N_deal : List Str := ["heap", "wants", "form", "some", "gifts", "left", "lacks", "reached", "k"]
theorem sc_deal : FnScope N_deal ["heap", "wants"] (defScope s_deal) := ⟨rfl, rfl, rfl, by decide +kernel, rfl, by decide +kernel, by decide +kernel⟩
abbrev spDeal (C : Addr) : Sp := PSp (ι := List Prt × List Want) (fun i => [RHeap C i.1, RWay i.2]) (fun i => HeapOk i.1 ∧ WantsOk i.2) RDeal
theorem ok_deal (T : Tx w K mg) : Cal P w K mg base 6 "deal" (spDeal (CH K)) [] := by
  refine mk_pure T.f_deal T.g_deal sc_deal (fun _ _ _ _ _ _ us hl => match us, hl with | [_, _], _ => rfl) (fun _ => rfl) (fun cdv A outer s H vs Q E i hr hp hc q => ?_)
  obtain ⟨v0, v1, rfl, h0, h1⟩ := PP.two hp
  obtain ⟨ps, wants⟩ := i
  obtain ⟨hpo, hwo⟩ := hc
  dsimp only at hpo hwo h0 h1
  have hwl := hwo.few
  refine ⟨_, (pss_cons (ps_asg (pe_c (ok_led T) hr (by decide) rfl (pa_cons (pv 0) (pa_cons (pv 1) pa_nil))) (kx_tup K (by rfl) (pgs_cons (pg_name (i := 4) sc_deal.nd rfl (.inl rfl)) (pgs_cons (pg_name (i := 5) sc_deal.nd rfl (.inl rfl)) (pgs_cons (pg_name (i := 6) sc_deal.nd rfl (.inl rfl)) (pgs_cons (pg_name (i := 7) sc_deal.nd rfl (.inl rfl)) pgs_nil))))))
    (pss_cons (ps_if (pt_cmpR (kx_eqEL K hr.units0) (pv 7) (pe_lst pa_nil) (nomark _)) (pss_one (ps_ret (pe_tup (pa_cons pe_str (pa_cons (pe_callTy (T := "tuple") (kx_tuple K) (by rfl) T.b_tuple (by decide +kernel) (pa_cons (pe_lc (own := [("some", 3)]) (g := gName 3) (by rfl) sc_deal.nd (kx_pi_list K (pv 4)) (blkOk_by (N := N_deal) (sc := defScope s_deal) (by decide +kernel)) (fun _ _ _ _ _ => (pg_name (i := 3) sc_deal.nd rfl (.inl rfl))) (fun _ _ _ _ _ => pts_nil) (fun _ _ _ _ _ => (pe_c (ok_as_gift T) hr (by decide) rfl (pa_cons (pv 3) pa_nil)))) pa_nil)) pa_nil))))) pss_nil)
    (pss_cons (ps_set (i := 2) sc_deal.nd rfl (.inr rfl) (pe_ix (kx_ixT K) (pe_ix (kx_ixT K) (pv 1) (pe_ix (kx_ixL K) (pv 7) pe_int (fun _ _ => rfl)) (fun _ _ => rfl)) pe_int (fun _ _ => rfl)))
    (pss_cons (ps_setLc (i := 3) (own := [("k", 8)]) (g := gName 8) (by rfl) sc_deal.nd rfl rfl (sw_true rfl rfl rfl (by decide +kernel)) (kx_pi_list K (pv 7)) (blkOk_by (N := N_deal) (sc := defScope s_deal) (by decide +kernel)) (fun _ _ _ _ _ => (pg_name (i := 8) sc_deal.nd rfl (.inl rfl))) (fun _ _ _ _ _ => pts_one (pt_cmpR op_eq (pe_ix (kx_ixT K) (pe_ix (kx_ixT K) (pv 1) (pv 8) (fun _ _ => rfl)) pe_int (fun _ _ => rfl)) (pv 2) (nomark _))) (fun _ _ _ _ _ => (pv 8)))
    (pss_cons (ps_if (pt_cmpR (kx_neEL K hr.units0) (pe_lc (own := [("k", 8)]) (g := gName 8) (by rfl) sc_deal.nd (kx_pi_list K (pv 3)) (blkOk_by (N := N_deal) (sc := defScope s_deal) (by decide +kernel)) (fun _ _ _ _ _ => (pg_name (i := 8) sc_deal.nd rfl (.inl rfl))) (fun _ _ _ _ _ => pts_one (pt_cmpR (kx_eqET K hr.units0) (pe_ix (kx_ixT K) (pe_ix (kx_ixT K) (pv 1) (pv 8) (fun _ _ => rfl)) pe_int (fun _ _ => rfl)) (pe_tup pa_nil) (nomark _))) (fun _ _ _ _ _ => (pv 8))) (pe_lst pa_nil) (nomark _)) (pss_one (ps_ret (pe_tup (pa_cons pe_str (pa_cons (pe_tup (pa_cons (pv 2) (pa_cons pe_non pa_nil))) pa_nil))))) pss_nil)
    (pss_one (ps_ret (pe_tup (pa_cons pe_str (pa_cons (pe_tup (pa_cons (pv 2) (pa_cons (pe_c (ok_shades_of T) hr (by decide) rfl (pa_cons (pv 1) (pa_cons (pv 3) pa_nil))) pa_nil))) pa_nil)))))))))), ?_⟩
  refine q_asg (er_call (ps, wants) (ea2 (er_var h0) (er_var h1)) ⟨hpo, hwo⟩) fun v1' H1 e1 ⟨G, L, ls, rs, hR, r1⟩ => ?_
  dsimp only at hR
  have hrl : rs.length ≤ wants.length := nodup_len _ _ hR.nd fun i hi => (hR.fm i hi).1
  refine eg_tup4 r1 fun u4 u5 u6 u7 g4 g5 g6 g7 => ?_
  have h11 := MX.mx e1 h1
  refine q_when (b := rs.isEmpty) (eb_test (EvR.is (ev_eqEL (er_var g7) (er_lst (ps := []) ea_nil (by decide))) (by rw [map_isEmpty]))) (fun hb H2 e2 => ?_) fun hb H2 e2 => ?_
  · have hr0 : rs = [] := by cases rs with | nil => rfl | cons _ _ => cases hb
    subst hr0
    have hgl : G.length = wants.length := hR.st.gk.ln
    refine s_ret (R := RDeal (ps, wants)) (EvR.to (er_tup (ps := [IsS "dealt", RGiven (G.map giftOf)]) (ea2 er_c (ev_tuple (er_lcM (RB := RGift) giftOf (ei_lstX (er_var (MX.mx e2 g4))) (by omega) fun g v H3 hg e3 r => eg_name ⟨rfl, er_call g (ea1 (er_var r)) ?_⟩))) (by simp)) fun H v h => .inl ⟨_, dealt_ok hpo hR, h⟩) fun v H3 e3 r3 => q v H3 ((e1.trans e2).trans e3) r3
    obtain ⟨j, hj⟩ := List.mem_iff_getElem?.mp hg
    have hgj : G.getD j [] = g := by rw [List.getD_eq_getElem?_getD, hj]; rfl
    have h9 := hR.st.gk.nd j
    have h10 := hR.st.gk.few j (lets_len hpo.few hwo.sh100)
    rw [hgj] at h9 h10
    exact ⟨h9, by omega⟩
  · obtain ⟨r0, rt, hrs⟩ : ∃ r0 rt, rs = r0 :: rt := by cases rs with | nil => cases hb | cons a b => exact ⟨a, b, rfl⟩
    have hr0 : r0 ∈ rs := by rw [hrs]; exact List.mem_cons_self
    have hr0l := (hR.fm r0 hr0).1
    have h12 := MX.mx e2 h11
    have g72 := MX.mx e2 g7
    refine q_set (er_ixT (ps := [IsS (wants.getD r0 dW).form, TupOf RStr (wants.getD r0 dW).shades, IsI (wants.getD r0 dW).many]) (er_ixTO (R := RWant) (x := wants.getD r0 dW) (er_var h12) (er_ixLO (R := RNat) (xs := rs) (x := r0) (er_var g72) er_c (by decide) (by rw [hrs]; rfl)) (by omega) (by simpa using getD_of hr0l)) er_c) fun vf H3 e3 r3 => ?_
    have hwk : ∀ k ∈ rs, k < wants.length := fun k hk => (hR.fm k hk).1
    refine q_set (er_lc (RB := RNat) (fun k : Nat => decide ((wants.getD k dW).form = (wants.getD r0 dW).form)) (fun k => k) (ei_lstX (er_var (MX.mx e3 g72))) (by omega) fun k v H4 hk e4 r => eg_name ⟨rfl, EvB.is (eb_test (er_eq (x := .str (wants.getD k dW).form) (y := .str (wants.getD r0 dW).form) (er_ixT (ps := [IsS (wants.getD k dW).form, TupOf RStr (wants.getD k dW).shades, IsI (wants.getD k dW).many]) (er_ixTO (R := RWant) (x := wants.getD k dW) (er_var (MX.mx (e3.trans e4) h12)) (er_var r) (by omega) (by simpa using getD_of (hwk k hk))) er_c) (er_var (MX.mx e4 r3)) rfl)) (by simp), fun _ => er_var r⟩) fun vs H4 e4 r4 => ?_
    rw [List.map_id'] at r4
    generalize hsm : (rs.filter fun k => decide ((wants.getD k dW).form = (wants.getD r0 dW).form)) = sm at r4
    have hmem : ∀ i, i ∈ sm ↔ i ∈ rs ∧ (wants.getD i dW).form = (wants.getD r0 dW).form := fun i => by
      rw [← hsm, List.mem_filter, decide_eq_true_eq]
    have hsml : sm.length ≤ 60 := by rw [← hsm]; exact Nat.le_trans (List.length_filter_le _ _) (by omega)
    have s4 := ((e1.trans e2).trans e3).trans e4
    have h14 := MX.mx (e3.trans e4) h12
    have hfx : ∃ x ∈ wants, x.form = (wants.getD r0 dW).form := ⟨_, List.mem_of_getElem? (getD_of (d := dW) hr0l), rfl⟩
    refine q_when (b := !(sm.filter fun k => (wants.getD k dW).shades.isEmpty).isEmpty) (eb_test (EvR.is (ev_neEL (er_lc (RB := RNat) (fun k : Nat => (wants.getD k dW).shades.isEmpty) (fun k => k) (ei_lstX (er_var r4)) (by omega) fun k v H5 hk e5 r => eg_name ⟨rfl, eb_test (EvR.is (ev_eqET (er_ixT (ps := [IsS (wants.getD k dW).form, TupOf RStr (wants.getD k dW).shades, IsI (wants.getD k dW).many]) (er_ixTO (R := RWant) (x := wants.getD k dW) (er_var (MX.mx e5 h14)) (er_var r) (by omega) (by simpa using getD_of (hwk k ((hmem k).mp hk).1))) er_c) (er_tup ea_nil (by decide))) (by rw [map_isEmpty])), fun _ => er_var r⟩) (er_lst (ps := []) ea_nil (by decide))) (by rw [map_isEmpty, map_isEmpty]))) (fun hb2 H5 e5 => ?_) fun hb2 H5 e5 => ?_
    · obtain ⟨k, hk⟩ : ∃ k, k ∈ sm.filter fun k => (wants.getD k dW).shades.isEmpty := by
        cases hz : sm.filter fun k => (wants.getD k dW).shades.isEmpty with
        | nil => rw [hz] at hb2; cases hb2
        | cons a b => exact ⟨a, List.mem_cons_self⟩
      obtain ⟨hk1, hk2⟩ := List.mem_filter.mp hk
      obtain ⟨hk3, hk4⟩ := (hmem k).mp hk1
      refine s_ret (R := RDeal (ps, wants)) (EvR.to (er_tup (ps := [IsS "bar", TupP [IsS (wants.getD r0 dW).form, RShades none]]) (ea2 er_c (er_tup (ps := [IsS (wants.getD r0 dW).form, RShades none]) (ea2 (er_var (MX.mx (e4.trans e5) r3)) er_c) (by simp))) (by simp)) fun H v h => .inr ⟨_, none, ⟨bar_none hpo hwo hR hk3 hk4 hk2, (fun S z => by cases z), hfx⟩, h⟩) fun v H6 e6 r6 => q v H6 ((s4.trans e5).trans e6) r6
    · have hne : ∀ i ∈ sm, (wants.getD i dW).shades.isEmpty = false := fun i hi => by
        cases hz : (wants.getD i dW).shades.isEmpty with
        | false => rfl
        | true =>
          have : i ∈ sm.filter fun k => (wants.getD k dW).shades.isEmpty := List.mem_filter.mpr ⟨hi, hz⟩
          cases hz2 : sm.filter fun k => (wants.getD k dW).shades.isEmpty with
          | nil => rw [hz2] at this; cases this
          | cons a b => rw [hz2] at hb2; cases hb2
      have hshl : (shadesIn wants sm).length < 4000 := by
        have key : ∀ l : List Nat, (∀ k ∈ l, k < wants.length) → (shadesIn wants l).length ≤ l.length * 50 := by
          intro l
          induction l with
          | nil => intro _; exact Nat.zero_le _
          | cons a l ih =>
            intro h
            have h1 := ih fun k hk => h k (List.mem_cons_of_mem _ hk)
            have h2 := hwo.sh _ (List.mem_of_getElem? (getD_of (d := dW) (h a List.mem_cons_self)))
            show ((wants.getD a dW).shades ++ shadesIn wants l).length ≤ _
            rw [List.length_append, List.length_cons]
            omega
        have := key sm fun k hk => hwk k ((hmem k).mp hk).1
        omega
      haveI : MX (TupP [IsS (wants.getD r0 dW).form, RSh (shadesIn wants sm)]) := inferInstance
      refine s_ret (R := RDeal (ps, wants)) (EvR.to (er_tup (ps := [IsS "bar", TupP [IsS (wants.getD r0 dW).form, RSh (shadesIn wants sm)]]) (ea2 er_c (er_tup (ps := [IsS (wants.getD r0 dW).form, RSh (shadesIn wants sm)]) (ea2 (er_var (MX.mx (e4.trans e5) r3)) (er_call (wants, sm) (ea2 (er_var (MX.mx e5 h14)) (er_var (MX.mx e5 r4))) ⟨fun k hk => hwk k ((hmem k).mp hk).1, ?_⟩)) (by simp))) (by simp)) fun H v h => ?_) fun v H6 e6 r6 => q v H6 ((s4.trans e5).trans e6) r6
      · exact hshl
      · obtain ⟨a, vs, h5, h6, h7⟩ := h
        obtain ⟨u1, u2, rfl, g1, a2, vs2, rfl, k1, k2⟩ := h7.two
        obtain ⟨u3, u4, rfl, g3, ys, hy1, hy2, g4'⟩ := k2.two
        have hynd : ys.Nodup := by
          rw [List.nodup_iff_pairwise_ne]
          refine hy1.imp fun {x y} h z => ?_
          subst z
          rw [sLt_irr] at h
          cases h
        have hin : ∀ s, s ∈ ys ↔ ∃ k ∈ sm, s ∈ (wants.getD k dW).shades := fun s => by
          rw [hy2]
          unfold shadesIn
          simp only [List.mem_flatten, List.mem_map]
          constructor
          · rintro ⟨l, ⟨k, hk, rfl⟩, h⟩
            exact ⟨k, hk, h⟩
          · rintro ⟨k, hk, h⟩
            exact ⟨_, ⟨k, hk, rfl⟩, h⟩
        refine .inr ⟨(wants.getD r0 dW).form, some ys, ⟨bar_some hpo hwo hR hynd hmem hne hy2 ⟨r0, hr0, rfl⟩, fun S z => ?_, hfx⟩, a, _, h5, h6, g1, ⟨a2, _, rfl, k1, g3, g4', True.intro⟩, True.intro⟩
        cases z
        refine ⟨hy1, fun z => ?_, fun s hs => ?_⟩
        · subst z
          have h8 := hne r0 ((hmem r0).mpr ⟨hr0, rfl⟩)
          cases hz : (wants.getD r0 dW).shades with
          | nil => rw [hz] at h8; cases h8
          | cons x l =>
            have := (hin x).mpr ⟨r0, (hmem r0).mpr ⟨hr0, rfl⟩, by rw [hz]; exact List.mem_cons_self⟩
            cases this
        · obtain ⟨k, hk, h⟩ := (hin s).mp hs
          exact ⟨_, List.mem_of_getElem? (getD_of (d := dW) (hwk k ((hmem k).mp hk).1)), h⟩
end
end K43
set_option Elab.async false
set_option linter.all false
set_option maxRecDepth 100000
set_option maxHeartbeats 4000000
/-! # KC1: the checkers' small tests -/
namespace K43
open PySem PySem.Spec PyProof.Rows L2 K43S
open C8 (Cal Mak Met pe_c pe_mk pe_mt pe_mt0)
def letS : Str := "abcdefghijklmnopqrstuvwxyz"
structure WordOk (s : Str) : Prop where
  lo : 1 ≤ s.length
  hi : s.length ≤ 8
  all : ∀ c ∈ s.cps.toList, c ∈ letS.cps.toList
section
variable {P : Program} {w : World} {K : PySem.W.Frag} {mg : Str → Option Value} {base : Heap}
section
variable {σ : L2.St} {H : Hp} {ta tb te : TE} {D : Ends} {tu tz : TS} {t : TT}
/-- a guard that does not strike -/
theorem q_pass (h : EvB t σ H false) (k : ∀ H1, Same H H1 → tz D σ H1) : tSeq (tIfS t tu tNext) tz D σ H := q_when h (fun z => by cases z) fun _ H1 e => k H1 e
theorem eb_of {b c : Bool} (h : EvB t σ H b) (e : b = c) : EvB t σ H c := e ▸ h
theorem er_lenS {s : Str} {r : List V → Hp → VK → Prop} (hr : ∀ H (Q : VK), Q (.int (s.length : Int)) H → r [.str s] H Q) (ha : EvR ta σ H (IsS s)) : EvR (tCB r (tCons ta tNil)) σ H (IsI (s.length : Int)) := fun H1 e Q q =>
  ha H1 e _ fun v H2 e2 r2 => by
    obtain rfl : v = V.str s := r2
    exact hr H2 Q (q _ _ e2 rfl)
theorem er_isT {ps : List Pr} [MXs ps] (ha : EvR ta σ H (TupP ps)) (hb : EvR tb σ H (IsV (.ty "tuple"))) : EvR (tCB (rIsi K) (tCons ta (tCons tb tNil))) σ H (IsB true) := er_isi ha hb (.ty "tuple") (fun H v ⟨a, vs, h1, h2, _⟩ => by subst h1; exact .base (.tup h2)) (by rfl)
end
-- slots: 0 thing, 1 sign
abbrev N_is_word : List Str := ["thing", "sign"]
theorem sc_is_word : FnScope N_is_word ["thing"] (defScope s_is_word) := ⟨rfl, rfl, rfl, by decide +kernel, rfl, by decide +kernel, by decide +kernel⟩
abbrev spIsWord : Sp := PSp (ι := Str) (fun i => [IsS i]) WordOk fun _ => IsB true
theorem ok_is_word (T : Tx w K mg) : Cal P w K mg base 1 "is_word" spIsWord [] := by
  refine mk_pure T.f_is_word T.g_is_word sc_is_word (fun _ _ _ _ _ _ us hl => match us, hl with | [_], _ => rfl) (fun _ => rfl) (fun cdv A outer s H vs Q E i hr hp hc q => ?_)
  obtain ⟨v0, rfl, h0⟩ := PP.one hp
  obtain ⟨hlo, hhi, hall⟩ := hc
  obtain rfl : v0 = V.str i := h0
  refine ⟨_, (pss_cons (ps_if (PW.pt (pw_or (pt_not (pt_val (pe_callB (id := "isinstance") (kx_isi K) (by rfl) T.b_isinstance (by decide +kernel) (pa_cons (pv 0) (pa_cons (pe_bltn (v := .ty "str") rfl T.b_str (by decide +kernel) rfl) pa_nil))))) (pw_or1 (pt_not (pt_chain op_le op_le pe_int (pe_callB (id := "len") call_len_str (by rfl) T.b_len (by decide +kernel) (pa_cons (pv 0) pa_nil)) (pe_glob (v := V.int 8) rfl T.mostl.choose_spec ⟨_, rfl⟩)))))) (pss_one (ps_ret pe_bl)) pss_nil)
    (pss_one (ps_ret (pe_callB (id := "all") (kx_all K rfl) (by rfl) T.b_all (by decide +kernel) (pa_cons (pe_lc (own := [("sign", 1)]) (g := gName 1) (by rfl) sc_is_word.nd (pi_str (pv 0)) (blkOk_by (N := N_is_word) (sc := defScope s_is_word) (by decide +kernel)) (fun _ _ _ _ _ => (pg_name (i := 1) sc_is_word.nd rfl (.inl rfl))) (fun _ _ _ _ _ => pts_nil) (fun _ _ _ _ _ => (pe_cmpR op_in_sign (pv 1) (pe_glob (v := V.str letS) rfl T.letters.choose_spec ⟨_, rfl⟩) (by rfl)))) pa_nil))))), ?_⟩
  have hsz : i.cps.toList.length ≤ 8 := by rw [Array.length_toList]; exact hhi
  refine q_pass (eb_or (a := false) (b := false) (eb_not (a := true) (eb_B (er_isi er_v er_c (.ty "str") (fun H v h => by cases h; exact .base (.str _)) (by rfl)))) fun _ => eb_not (a := true) (eb_test (EvR.is (er_chain (a := true) (b := true) er_c (er_lenS (s := i) (fun H Q q => ⟨i, rfl, by rw [sizeLine_eq]; omega, q⟩) er_v) (fun v w H1 _ g1 g2 Q q => r_I0 (congrArg V.bl (decide_eq_true (by omega))) g1 g2 q) (fun _ => er_c) (fun _ v w H1 _ g1 g2 Q q => r_I0 (congrArg V.bl (decide_eq_true (by omega))) g1 g2 q)) (by rfl)))) fun H1 e1 => ?_
  refine s_ret (EvR.is (er_all (er_lcM (RB := IsB) (fun _ : Nat => true) (ei_str er_v) (by omega) fun c v H2 hc2 e2 r => eg_name ⟨rfl, fun H3 e3 Q q3 => ?_⟩)) (by simp)) fun v H2 e2 r2 => q v H2 (e1.trans e2) r2
  obtain rfl : v = V.str ⟨#[c]⟩ := r
  exact ⟨_, rfl, c, letS, rfl, rfl, q3 _ _ (Same.refl _) (by show V.bl (decide (c ∈ letS.cps.toList)) = V.bl true; rw [decide_eq_true (hall c hc2)])⟩
theorem zip_tail_pairwise {α : Type} {R : α → α → Prop} : ∀ {l : List α}, l.Pairwise R → ∀ p ∈ l.zip (l.drop 1), R p.1 p.2
  | [], _, p, h => by cases h
  | [x], _, p, h => by cases h
  | x :: y :: l, h, p, hp => by
    rw [List.pairwise_cons] at h
    have hp' : p ∈ (x, y) :: (y :: l).zip ((y :: l).drop 1) := hp
    rcases List.mem_cons.mp hp' with rfl | hp'
    · exact h.1 y List.mem_cons_self
    · exact zip_tail_pairwise h.2 p hp'
theorem all_true {α : Type} (l : List α) : ((l.map fun _ => true).all id) = true := by induction l with
  | nil => rfl
  | cons a l ih => simpa using ih
section
variable {σ : L2.St} {H : Hp} {ta : TE} {tl th : TO}
theorem er_slTO {α : Type} {R : α → Pr} [∀ x, MX (R x)] {xs : List α} {n : Nat} (ha : EvR ta σ H (TupOf R xs)) (hl : EvO tl σ H (some (n : Int))) (hh : EvO th σ H none) (hn : n ≤ xs.length) : EvR (tSl (rSlA K) ta tl th) σ H (TupOf R (xs.drop n)) := by
  have := er_slT (K := K) ha hl hh
  rw [cutP_from (by rw [List.length_map]; exact hn), ← List.map_drop] at this
  exact this
end
-- slots: 0 some, 1 one, 2 other
abbrev N_is_rising : List Str := ["some", "one", "other"]
theorem sc_is_rising : FnScope N_is_rising ["some"] (defScope s_is_rising) := ⟨rfl, rfl, rfl, by decide +kernel, rfl, by decide +kernel, by decide +kernel⟩
structure RiseOk (S : List Str) : Prop where
  word : ∀ s ∈ S, WordOk s
  rise : S.Pairwise fun x y => sLt x y = true
  few : S.length ≤ 1000
abbrev spIsRising : Sp := PSp (ι := List Str) (fun i => [TupOf RStr i]) RiseOk fun _ => IsB true
theorem er_drop1 {σ : L2.St} {H : Hp} {ta t1 : TE} {α : Type} {R : α → Pr} [∀ x, MX (R x)] {xs : List α} (ha : EvR ta σ H (TupOf R xs)) (h1 : EvR t1 σ H (IsI 1)) : EvR (tSl (rSlA K) ta (tPart t1) tNoPart) σ H (TupOf R (xs.drop 1)) := by
  have := er_slT (K := K) ha (eo_some h1) eo_none
  have e : cutP (xs.map R) (some 1) none = (xs.drop 1).map R := by
    by_cases h : 1 ≤ xs.length
    · rw [show (1 : Int) = ((1 : Nat) : Int) from rfl, cutP_from (by rw [List.length_map]; exact h), List.map_drop]
    · have : xs = [] := List.eq_nil_of_length_eq_zero (by omega)
      subst this
      rfl
  rw [e] at this
  exact this
theorem ok_is_rising (T : Tx w K mg) : Cal P w K mg base 2 "is_rising" spIsRising [] := by
  refine mk_pure T.f_is_rising T.g_is_rising sc_is_rising (fun _ _ _ _ _ _ us hl => match us, hl with | [_], _ => rfl) (fun _ => rfl) (fun cdv A outer s H vs Q E i hr hp hc q => ?_)
  obtain ⟨v0, rfl, h0⟩ := PP.one hp
  obtain ⟨hw, hri, hf⟩ := hc
  refine ⟨_, (pss_cons (ps_if (pt_not (pt_val (pe_callB (id := "all") (kx_all K rfl) (by rfl) T.b_all (by decide +kernel) (pa_cons (pe_lc (own := [("one", 1)]) (g := gName 1) (by rfl) sc_is_rising.nd (kx_pi_tup K (pv 0)) (blkOk_by (N := N_is_rising) (sc := defScope s_is_rising) (by decide +kernel)) (fun _ _ _ _ _ => (pg_name (i := 1) sc_is_rising.nd rfl (.inl rfl))) (fun _ _ _ _ _ => pts_nil) (fun _ _ _ _ _ => (pe_c (ok_is_word T) hr (by decide) rfl (pa_cons (pv 1) pa_nil)))) pa_nil)))) (pss_one (ps_ret pe_bl)) pss_nil)
    (pss_one (ps_ret (pe_callB (id := "all") (kx_all K rfl) (by rfl) T.b_all (by decide +kernel) (pa_cons (pe_lc (own := [("one", 1), ("other", 2)]) (g := gTup K 2 (gCons (gName 1) (gCons (gName 2) gNil))) (by rfl) sc_is_rising.nd (kx_pi_zip K rfl T.b_zip (pa_cons (pv 0) (pa_cons (pe_slice (kx_slT K) (pv 0) (po_some pe_int) po_none) pa_nil))) (blkOk_by (N := N_is_rising) (sc := defScope s_is_rising) (by decide +kernel)) (fun _ _ _ _ _ => (kx_tup K (by rfl) (pgs_cons (pg_name (i := 1) sc_is_rising.nd rfl (.inl rfl)) (pgs_cons (pg_name (i := 2) sc_is_rising.nd rfl (.inl rfl)) pgs_nil)))) (fun _ _ _ _ _ => pts_nil) (fun _ _ _ _ _ => (pe_cmpR op_lt_str (pv 1) (pv 2) (nomark _)))) pa_nil))))), ?_⟩
  refine q_pass (eb_not (a := true) (eb_B (EvR.is (er_all (er_lcM (RB := IsB) (fun _ : Str => true) (ei_tup (RA := RStr) (xs := i) (er_var h0)).same (by omega) fun s v H2 hs e2 r => eg_name ⟨rfl, er_call s (ea1 (er_var r)) (hw s hs)⟩)) (congrArg V.bl (all_true i))))) fun H1 e1 => ?_
  have h01 := MX.mx e1 h0
  refine s_ret (EvR.is (er_all (er_lcM (RB := IsB) (fun _ : Str × Str => true) (ei_zipT (RA := RStr) (RB := RStr) (xs := i) (ys := i.drop 1) (ea2 (er_var h01) (er_drop1 (er_var h01) er_c))).same (by rw [List.length_zip]; omega) fun p v H2 hp e2 r => eg_tup2 r fun u1 u2 g1 g2 => ⟨rfl, EvR.is (er_ltS (er_var g1) (er_var g2)) (congrArg V.bl (zip_tail_pairwise hri p hp))⟩)) (congrArg V.bl (all_true _))) fun v H2 e2 r2 => q v H2 (e1.trans e2) r2
-- slots: 0 thing
abbrev N_is_shaped : List Str := ["thing"]
theorem sc_is_shaped : FnScope N_is_shaped ["thing"] (defScope s_is_shaped) := ⟨rfl, rfl, rfl, by decide +kernel, rfl, by decide +kernel, by decide +kernel⟩
abbrev RThing (i : Str × Option (List Str)) : Pr := TupP [IsS i.1, RShades i.2]
structure ShOk (i : Str × Option (List Str)) : Prop where
  word : WordOk i.1
  ne : ∀ S, i.2 = some S → S ≠ []
abbrev spIsShaped : Sp := PSp (ι := Str × Option (List Str)) (fun i => [RThing i]) ShOk fun _ => IsB true
theorem ok_is_shaped (T : Tx w K mg) : Cal P w K mg base 2 "is_shaped" spIsShaped [] := by
  refine mk_pure T.f_is_shaped T.g_is_shaped sc_is_shaped (fun _ _ _ _ _ _ us hl => match us, hl with | [_], _ => rfl) (fun _ => rfl) (fun cdv A outer s H vs Q E i hr hp hc q => ?_)
  obtain ⟨v0, rfl, h0⟩ := PP.one hp
  obtain ⟨form, o⟩ := i
  obtain ⟨hw, hne⟩ := hc
  dsimp only at hw hne h0
  refine ⟨_, (pss_cons (ps_if (PW.pt (pw_or (pt_not (pt_val (pe_callB (id := "isinstance") (kx_isi K) (by rfl) T.b_isinstance (by decide +kernel) (pa_cons (pv 0) (pa_cons (pe_bltn (v := .ty "tuple") rfl T.b_tuple (by decide +kernel) rfl) pa_nil))))) (pw_or (pt_cmpR op_ne (pe_callB (id := "len") (kx_len K) (by rfl) T.b_len (by decide +kernel) (pa_cons (pv 0) pa_nil)) pe_int (nomark _)) (pw_or1 (pt_not (pt_val (pe_c (ok_is_word T) hr (by decide) rfl (pa_cons (pe_ix (kx_ixT K) (pv 0) pe_int (fun _ _ => rfl)) pa_nil)))))))) (pss_one (ps_ret pe_bl)) pss_nil)
    (pss_one (ps_ret (pe_or (pe_cmp (pc_isN (pe_ix (kx_ixT K) (pv 0) pe_int (fun _ _ => rfl)))) (pe_one (pe_and (pe_callB (id := "isinstance") (kx_isi K) (by rfl) T.b_isinstance (by decide +kernel) (pa_cons (pe_ix (kx_ixT K) (pv 0) pe_int (fun _ _ => rfl)) (pa_cons (pe_bltn (v := .ty "tuple") rfl T.b_tuple (by decide +kernel) rfl) pa_nil))) (pe_one (pe_cmpR op_gt (pe_callB (id := "len") (kx_len K) (by rfl) T.b_len (by decide +kernel) (pa_cons (pe_ix (kx_ixT K) (pv 0) pe_int (fun _ _ => rfl)) pa_nil)) pe_int (nomark _))))))))), ?_⟩
  refine q_pass (eb_or (a := false) (b := false) (eb_not (a := true) (eb_B (er_isT (er_var h0) er_c))) fun _ => eb_or (a := false) (b := false) (eb_test (EvR.is (er_ne (ev_lenT (er_var h0)) er_c rfl) (by rfl))) fun _ => eb_not (a := true) (eb_B (er_call form (ea1 (er_ixT (ps := [IsS form, RShades o]) (er_var h0) er_c)) hw))) fun H1 e1 => ?_
  have h01 := MX.mx e1 h0
  refine s_ret ?_ fun v H2 e2 r2 => q v H2 (e1.trans e2) r2
  cases o with
  | none => exact EvR.is (er_or (a := true) (b := true) (er_isN (er_ixT (ps := [IsS form, RShades none]) (p := IsN) (er_var h01) er_c)) fun z => by cases z) rfl
  | some S =>
    refine EvR.is (er_or (a := false) (b := true) (EvR.to (er_isNR (R := RShades (some S)) (er_ixT (ps := [IsS form, RShades (some S)]) (er_var h01) er_c) fun H v h => rsh_non h) fun _ _ h => h) fun _ => er_and (a := true) (b := true) (er_isT (er_ixT (ps := [IsS form, RShades (some S)]) (p := TupOf RStr S) (er_var h01) er_c) er_c) fun _ => EvR.is (er_I0 (ev_lenTO (R := RStr) (xs := S) (er_ixT (ps := [IsS form, RShades (some S)]) (p := TupOf RStr S) (er_var h01) er_c)) er_c) ?_) rfl
    have := hne S rfl
    cases S with
    | nil => exact absurd rfl this
    | cons a b => simp
-- slots: 0 heap, 1 wants, 2 thing
abbrev N_is_bar : List Str := ["heap", "wants", "thing"]
theorem sc_is_bar : FnScope N_is_bar ["heap", "wants", "thing"] (defScope s_is_bar) := ⟨rfl, rfl, rfl, by decide +kernel, rfl, by decide +kernel, by decide +kernel⟩
structure IbOk (i : List Prt × List Want × Str × Option (List Str)) : Prop where
  sh : ShOk i.2.2
  ri : ∀ S, i.2.2.2 = some S → RiseOk S
  bar : thereP i.1 i.2.2.1 i.2.2.2 < wantedP i.2.1 i.2.2.1 i.2.2.2
  ps : i.1.length ≤ 10000
  ws : i.2.1.length ≤ 10000
  sl : ∀ x ∈ i.2.1, x.shades.length ≤ 10000
abbrev spIsBar (C : Addr) : Sp := PSp (ι := List Prt × List Want × Str × Option (List Str)) (fun i => [RHeap C i.1, RWay i.2.1, RThing i.2.2]) IbOk fun _ => IsB true
theorem ok_is_bar (T : Tx w K mg) : Cal P w K mg base 3 "is_bar" (spIsBar (CH K)) [] := by
  refine mk_pure T.f_is_bar T.g_is_bar sc_is_bar (fun _ _ _ _ _ _ us hl => match us, hl with | [_, _, _], _ => rfl) (fun _ => rfl) (fun cdv A outer s H vs Q E i hr hp hc q => ?_)
  obtain ⟨v0, v1, v2, rfl, h0, h1, h2⟩ := PP.three hp
  obtain ⟨ps, wants, form, o⟩ := i
  obtain ⟨hsh, hri, hbar, hps, hws, hsl⟩ := hc
  dsimp only at hsh hri hbar hps hws hsl h0 h1 h2
  refine ⟨_, (pss_cons (ps_if (PW.pt (pw_or (pt_not (pt_val (pe_c (ok_is_shaped T) hr (by decide) rfl (pa_cons (pv 2) pa_nil)))) (pw_or1 (PW.pt (pw_and (pt_cmp (pc_notN (pe_ix (kx_ixT K) (pv 2) pe_int (fun _ _ => rfl)))) (pw_and1 (pt_not (pt_val (pe_c (ok_is_rising T) hr (by decide) rfl (pa_cons (pe_ix (kx_ixT K) (pv 2) pe_int (fun _ _ => rfl)) pa_nil)))))))))) (pss_one (ps_ret pe_bl)) pss_nil)
    (pss_one (ps_ret (pe_cmpR op_gt (pe_c (ok_wanted T) hr (by decide) rfl (pa_cons (pv 1) (pa_cons (pe_ix (kx_ixT K) (pv 2) pe_int (fun _ _ => rfl)) (pa_cons (pe_ix (kx_ixT K) (pv 2) pe_int (fun _ _ => rfl)) pa_nil)))) (pe_c (ok_there T) hr (by decide) rfl (pa_cons (pv 0) (pa_cons (pe_ix (kx_ixT K) (pv 2) pe_int (fun _ _ => rfl)) (pa_cons (pe_ix (kx_ixT K) (pv 2) pe_int (fun _ _ => rfl)) pa_nil)))) (nomark _))))), ?_⟩
  refine q_pass (eb_or (a := false) (b := false) (eb_not (a := true) (eb_B (er_call (form, o) (ea1 (er_var h2)) hsh))) fun _ => ?_) fun H1 e1 => ?_
  · cases o with
    | none => exact eb_of (eb_and (a := false) (b := false) (eb_test (EvR.is (er_notN (er_ixT (ps := [IsS form, RShades none]) (p := IsN) (er_var h2) er_c)) rfl)) fun z => by cases z) rfl
    | some S => exact eb_of (eb_and (a := true) (b := false) (eb_test (EvR.is (er_notNR (R := RShades (some S)) (er_ixT (ps := [IsS form, RShades (some S)]) (er_var h2) er_c) fun H v h => rsh_non h) rfl)) fun _ => eb_not (a := true) (eb_B (er_call S (ea1 (er_ixT (ps := [IsS form, RShades (some S)]) (p := TupOf RStr S) (er_var h2) er_c)) (hri S rfl)))) rfl
  · have h21 := MX.mx e1 h2
    refine s_ret (EvR.is (er_I0 (er_call (wants, form, o) (ea_cons (er_var (MX.mx e1 h1)) (ea2 (er_ixT (ps := [IsS form, RShades o]) (er_var h21) er_c) (er_ixT (ps := [IsS form, RShades o]) (er_var h21) er_c))) ⟨hws, hsl⟩) (er_call (ps, form, o) (ea_cons (er_var (MX.mx e1 h0)) (ea2 (er_ixT (ps := [IsS form, RShades o]) (er_var h21) er_c) (er_ixT (ps := [IsS form, RShades o]) (er_var h21) er_c))) ⟨hps, fun S hS => Nat.le_trans (hri S hS).few (by decide)⟩)) ?_) fun v H2 e2 r2 => q v H2 (e1.trans e2) r2
    show V.bl (decide _) = V.bl true
    rw [decide_eq_true]
    exact hbar
-- slots: 0 heap, 1 wants, 2 thing, 3 k, 4 shade
abbrev N_lets_bar : List Str := ["heap", "wants", "thing", "k", "shade"]
theorem sc_lets_bar : FnScope N_lets_bar ["heap", "wants", "thing"] (defScope s_lets_bar) := ⟨rfl, rfl, rfl, by decide +kernel, rfl, by decide +kernel, by decide +kernel⟩
theorem ok_lets_bar (T : Tx w K mg) : Cal P w K mg base 4 "lets_bar" (spIsBar (CH K)) [] := by
  refine mk_pure T.f_lets_bar T.g_lets_bar sc_lets_bar (fun _ _ _ _ _ _ us hl => match us, hl with | [_, _, _], _ => rfl) (fun _ => rfl) (fun cdv A outer s H vs Q E i hr hp hc q => ?_)
  obtain ⟨v0, v1, v2, rfl, h0, h1, h2⟩ := PP.three hp
  have hcc := hc
  obtain ⟨ps, wants, form, o⟩ := i
  obtain ⟨hsh, hri, hbar, hps, hws, hsl⟩ := hc
  dsimp only at hsh hri hbar hps hws hsl h0 h1 h2
  refine ⟨_, (pss_cons (ps_expr (pe_c (ok_need T) hr (by decide) rfl (pa_cons (pe_c (ok_is_shaped T) hr (by decide) rfl (pa_cons (pv 2) pa_nil)) (pa_cons pe_str (pa_cons (pe_un un_neg pe_int) pa_nil)))))
    (pss_cons (ps_if (pt_cmp (pc_notN (pe_ix (kx_ixT K) (pv 2) pe_int (fun _ _ => rfl)))) (pss_one (ps_for PassesOwn.never rfl (kx_pi_enumT K rfl T.b_enumerate (pa_cons (pe_ix (kx_ixT K) (pv 2) pe_int (fun _ _ => rfl)) pa_nil)) (kx_tup K (by rfl) (pgs_cons (pg_name (i := 3) sc_lets_bar.nd rfl (.inl rfl)) (pgs_cons (pg_name (i := 4) sc_lets_bar.nd rfl (.inl rfl)) pgs_nil)))
      (pss_one (ps_expr (pe_c (ok_need T) hr (by decide) rfl (pa_cons (pe_c (ok_is_rising T) hr (by decide) rfl (pa_cons (pe_slice (kx_slT K) (pe_ix (kx_ixT K) (pv 2) pe_int (fun _ _ => rfl)) (po_some (pe_callB (id := "max") (call_max2 rfl) (by rfl) T.b_max (by decide +kernel) (pa_cons pe_int (pa_cons (pe_op op_sub (pv 3) pe_int) pa_nil)))) (po_some (pe_op op_add (pv 3) pe_int))) pa_nil)) (pa_cons pe_str (pa_cons (pv 3) pa_nil)))))))) pss_nil)
    (pss_cons (ps_expr (pe_c (ok_need T) hr (by decide) rfl (pa_cons (pe_c (ok_is_bar T) hr (by decide) rfl (pa_cons (pv 0) (pa_cons (pv 1) (pa_cons (pv 2) pa_nil)))) (pa_cons pe_str (pa_cons (pe_un un_neg pe_int) pa_nil)))))
    (pss_one (ps_ret pe_bl))))), ?_⟩
  refine q_drop (er_call () (ea_cons (er_call (form, o) (ea1 (er_var h2)) hsh) (ea2 (er_any er_c) (er_any (er_un er_c)))) True.intro) fun H1 e1 => ?_
  have h21 := MX.mx e1 h2
  cases o with
  | none =>
    refine q_pass (eb_test (EvR.is (er_notN (er_ixT (ps := [IsS form, RShades none]) (p := IsN) (er_var h21) er_c)) rfl)) fun H2 e2 => ?_
    have s2 := e1.trans e2
    refine q_drop (er_call () (ea_cons (er_call (ps, wants, form, none) (ea_cons (er_var (MX.mx s2 h0)) (ea2 (er_var (MX.mx s2 h1)) (er_var (MX.mx s2 h2)))) hcc) (ea2 (er_any er_c) (er_any (er_un er_c)))) True.intro) fun H3 e3 => ?_
    exact s_ret er_c fun v H4 e4 r4 => q v H4 ((s2.trans e3).trans e4) r4
  | some S =>
    obtain ⟨hw, hrs, hfw⟩ := hri S rfl
    refine q_if (b := true) (eb_test (EvR.is (er_notNR (R := RShades (some S)) (er_ixT (ps := [IsS form, RShades (some S)]) (er_var h21) er_c) fun H v h => rsh_non h) rfl)) (fun _ H2 e2 => ?_) fun z => by cases z
    have h22 := MX.mx e2 h21
    have s2 := e1.trans e2
    refine s_forS (ei_enumT (RA := RStr) (xs := S) (ea1 (er_ixT (ps := [IsS form, RShades (some S)]) (p := TupOf RStr S) (er_var h22) er_c))).same (fun j σ' Hc => ∃ v3 v4, σ' = [some v0, some v1, some v2, v3, v4])
      (fun H3 e3 => ⟨_, _, rfl⟩) ?_ ?_
    · rintro j ⟨s, k⟩ v σ' Hc Hx N hx sc ⟨v3, v4, rfl⟩ sx r n
      have hkS : k < S.length ∧ k = j := by
        rw [List.getElem?_zipIdx] at hx
        cases z : S[j]? with
        | none => rw [z] at hx; cases hx
        | some y =>
          rw [z] at hx
          simp at hx
          have := (List.getElem?_eq_some_iff.mp z).1
          omega
      refine eg_tup2 r fun u3 u4 g3 g4 => ?_
      have h2x : RThing (form, some S) Hx v2 := MX.mx (sc.trans sx) h22
      have s3 := (s2.trans sc).trans sx
      have hlo : (if (k : Int) - 1 > 0 then (k : Int) - 1 else 0) = ((k - 1 : Nat) : Int) := by split <;> omega
      have hsub : cutP (S.map RStr) (some ((k - 1 : Nat) : Int)) (some ((k + 1 : Nat) : Int)) = ((S.drop (k - 1)).take (k + 1 - (k - 1))).map RStr := by
        unfold cutP
        rw [HT.sIx_nat, HT.sIx_nat, List.length_map, Nat.min_eq_left (by omega), Nat.min_eq_left (by omega), ← List.map_drop, ← List.map_take]
      have hsl2 : RiseOk ((S.drop (k - 1)).take (k + 1 - (k - 1))) := ⟨fun s hs => hw s (List.mem_of_mem_drop (List.mem_of_mem_take hs)), (hrs.sublist (List.drop_sublist _ _)).sublist (List.take_sublist _ _), by rw [List.length_take, List.length_drop]; omega⟩
      have hmax : EvR (tCB (fun xs H Q => ∃ i j, xs = [V.int i, V.int j] ∧ Q (V.int (if j > i then j else i)) H) (tCons (tC (V.int 0)) (tCons (tOp (rI0 fun i j => V.int (i - j)) (tVar 3) (tC (V.int 1))) tNil))) [some v0, some v1, some v2, some u3, some u4] Hx (IsI ((k - 1 : Nat) : Int)) := fun H4 e4 Q q4 => (ea2 (p := IsI 0) (q := IsI ((k : Int) - 1)) er_c (er_I0 (er_var g3) er_c)) H4 e4 _ fun vs H5 e5 r5 => by
        obtain ⟨w1, w2, rfl, x1, x2⟩ := r5.two
        obtain rfl : w1 = V.int 0 := x1
        obtain rfl : w2 = V.int ((k : Int) - 1) := x2
        exact ⟨0, (k : Int) - 1, rfl, q4 _ _ e5 (by rw [hlo]; rfl)⟩
      have hsl3 := er_slT (K := K) (ps := S.map RStr) (lo := some ((k - 1 : Nat) : Int)) (hi := some ((k + 1 : Nat) : Int)) (er_ixT (K := K) (ta := tVar 2) (tb := tC (V.int 1)) (ps := [IsS form, RShades (some S)]) (p := TupOf RStr S) (er_var h2x) er_c) (eo_some hmax) (eo_some (EvR.is (er_I0 (ta := tVar 3) (tb := tC (V.int 1)) (g := fun i j => V.int (i + j)) (er_var g3) er_c) (by show V.int ((k : Int) + 1) = _; congr 1)))
      rw [hsub] at hsl3
      exact s_drop (er_call () (ea_cons (er_call _ (ea1 hsl3) hsl2) (ea2 (er_any er_c) (er_any (er_var g3)))) True.intro) fun H4 e4 => n _ _ e4 ⟨_, _, rfl⟩
    · rintro σ' Hc sc ⟨v3, v4, rfl⟩
      have s3 := s2.trans sc
      dsimp only
      refine q_drop (er_call () (ea_cons (er_call (ps, wants, form, some S) (ea_cons (er_var (MX.mx s3 h0)) (ea2 (er_var (MX.mx s3 h1)) (er_var (MX.mx s3 h2)))) hcc) (ea2 (er_any er_c) (er_any (er_un er_c)))) True.intro) fun H3 e3 => ?_
      exact s_ret er_c fun v H4 e4 r4 => q v H4 ((s3.trans e3).trans e4) r4
-- slots: 0 heap, 1 wants, 2 thing
abbrev N_is_barred : List Str := ["heap", "wants", "thing"]
theorem sc_is_barred : FnScope N_is_barred ["heap", "wants", "thing"] (defScope s_is_barred) := ⟨rfl, rfl, rfl, by decide +kernel, rfl, by decide +kernel, by decide +kernel⟩
/-- a bar's node -/
abbrev RBarN (i : Str × Option (List Str)) : Pr := TupP [IsS "bar", IsS i.1, RShades i.2]
abbrev spIsBarred (C : Addr) : Sp := PSp (ι := List Prt × List Want × Str × Option (List Str)) (fun i => [RHeap C i.1, RWay i.2.1, RBarN i.2.2]) IbOk fun _ => IsB true
theorem ok_is_barred (T : Tx w K mg) : Cal P w K mg base 5 "is_barred" (spIsBarred (CH K)) [] := by
  refine mk_pure T.f_is_barred T.g_is_barred sc_is_barred (fun _ _ _ _ _ _ us hl => match us, hl with | [_, _, _], _ => rfl) (fun _ => rfl) (fun cdv A outer s H vs Q E i hr hp hc q => ?_)
  obtain ⟨v0, v1, v2, rfl, h0, h1, h2⟩ := PP.three hp
  obtain ⟨ps, wants, form, o⟩ := i
  dsimp only at h0 h1 h2
  refine ⟨_, (pss_one (ps_try_thru0 (pss_one (ps_ret (pe_c (ok_lets_bar T) hr (by decide) rfl (pa_cons (pv 0) (pa_cons (pv 1) (pa_cons (pe_tup (pa_cons (pe_ix (kx_ixT K) (pv 2) pe_int (fun _ _ => rfl)) (pa_cons (pe_ix (kx_ixT K) (pv 2) pe_int (fun _ _ => rfl)) pa_nil))) pa_nil)))))))), ?_⟩
  exact s_ret (er_call (ps, wants, form, o) (ea_cons (er_var h0) (ea2 (er_var h1) (er_tup (ps := [IsS form, RShades o]) (ea2 (er_ixT (ps := [IsS "bar", IsS form, RShades o]) (er_var h2) er_c) (er_ixT (ps := [IsS "bar", IsS form, RShades o]) (er_var h2) er_c)) (by simp)))) hc) q
end
end K43
set_option Elab.async false
set_option linter.all false
set_option maxRecDepth 100000
set_option maxHeartbeats 4000000
/-! # KC2: the checkers of a dealing -/
namespace K43
open PySem PySem.Spec PyProof.Rows L2 K43S
open C8 (Cal Mak Met pe_c pe_mk pe_mt pe_mt0)
section
variable {P : Program} {w : World} {K : PySem.W.Frag} {mg : Str → Option Value} {base : Heap}
-- slots: 0 many, 1 thing, 2 one, 3 other
abbrev N_is_gift : List Str := ["many", "thing", "one", "other"]
theorem sc_is_gift : FnScope N_is_gift ["many", "thing"] (defScope s_is_gift) := ⟨rfl, rfl, rfl, by decide +kernel, rfl, by decide +kernel, by decide +kernel⟩
structure IsGi (i : Int × List (Str × Int)) : Prop where
  word : ∀ e ∈ i.2, WordOk e.1
  pos : ∀ e ∈ i.2, 0 < e.2
  rise : i.2.Pairwise fun a b => sLt a.1 b.1 = true
  sum : (i.2.map (·.2)).sum = i.1
  few : i.2.length ≤ 1000
abbrev spIsGift : Sp := PSp (ι := Int × List (Str × Int)) (fun i => [IsI i.1, RGift i.2]) IsGi fun _ => IsB true
theorem ok_is_gift (T : Tx w K mg) : Cal P w K mg base 2 "is_gift" spIsGift [] := by
  refine mk_pure T.f_is_gift T.g_is_gift sc_is_gift (fun _ _ _ _ _ _ us hl => match us, hl with | [_, _], _ => rfl) (fun _ => rfl) (fun cdv A outer s H vs Q E i hr hp hc q => ?_)
  obtain ⟨v0, v1, rfl, h0, h1⟩ := PP.two hp
  obtain ⟨many, l⟩ := i
  obtain ⟨hw, hp, hri, hs, hf⟩ := hc
  dsimp only at hw hp hri hs hf h0 h1
  refine ⟨_, (pss_cons (ps_if (PW.pt (pw_or (pt_not (pt_val (pe_callB (id := "isinstance") (kx_isi K) (by rfl) T.b_isinstance (by decide +kernel) (pa_cons (pv 1) (pa_cons (pe_bltn (v := .ty "tuple") rfl T.b_tuple (by decide +kernel) rfl) pa_nil))))) (pw_or1 (pt_not (pt_val (pe_callB (id := "all") (kx_all K rfl) (by rfl) T.b_all (by decide +kernel) (pa_cons (pe_lc (own := [("one", 2)]) (g := gName 2) (by rfl) sc_is_gift.nd (kx_pi_tup K (pv 1)) (blkOk_by (N := N_is_gift) (sc := defScope s_is_gift) (by decide +kernel)) (fun _ _ _ _ _ => (pg_name (i := 2) sc_is_gift.nd rfl (.inl rfl))) (fun _ _ _ _ _ => pts_nil) (fun _ _ _ _ _ => (pe_and (pe_callB (id := "isinstance") (kx_isi K) (by rfl) T.b_isinstance (by decide +kernel) (pa_cons (pv 2) (pa_cons (pe_bltn (v := .ty "tuple") rfl T.b_tuple (by decide +kernel) rfl) pa_nil))) (pe_one (pe_cmpR op_eq (pe_callB (id := "len") (kx_len K) (by rfl) T.b_len (by decide +kernel) (pa_cons (pv 2) pa_nil)) pe_int (nomark _)))))) pa_nil))))))) (pss_one (ps_ret pe_bl)) pss_nil)
    (pss_cons (ps_if (pt_not (pt_val (pe_callB (id := "all") (kx_all K rfl) (by rfl) T.b_all (by decide +kernel) (pa_cons (pe_lc (own := [("one", 2)]) (g := gName 2) (by rfl) sc_is_gift.nd (kx_pi_tup K (pv 1)) (blkOk_by (N := N_is_gift) (sc := defScope s_is_gift) (by decide +kernel)) (fun _ _ _ _ _ => (pg_name (i := 2) sc_is_gift.nd rfl (.inl rfl))) (fun _ _ _ _ _ => pts_nil) (fun _ _ _ _ _ => (pe_and (pe_c (ok_is_word T) hr (by decide) rfl (pa_cons (pe_ix (kx_ixT K) (pv 2) pe_int (fun _ _ => rfl)) pa_nil)) (pe_and (pe_c (ok_is_number T) hr (by decide) rfl (pa_cons (pe_ix (kx_ixT K) (pv 2) pe_int (fun _ _ => rfl)) pa_nil)) (pe_one (pe_cmpR op_gt (pe_ix (kx_ixT K) (pv 2) pe_int (fun _ _ => rfl)) pe_int (nomark _))))))) pa_nil)))) (pss_one (ps_ret pe_bl)) pss_nil)
    (pss_cons (ps_if (pt_not (pt_val (pe_callB (id := "all") (kx_all K rfl) (by rfl) T.b_all (by decide +kernel) (pa_cons (pe_lc (own := [("one", 2), ("other", 3)]) (g := gTup K 2 (gCons (gName 2) (gCons (gName 3) gNil))) (by rfl) sc_is_gift.nd (kx_pi_zip K rfl T.b_zip (pa_cons (pv 1) (pa_cons (pe_slice (kx_slT K) (pv 1) (po_some pe_int) po_none) pa_nil))) (blkOk_by (N := N_is_gift) (sc := defScope s_is_gift) (by decide +kernel)) (fun _ _ _ _ _ => (kx_tup K (by rfl) (pgs_cons (pg_name (i := 2) sc_is_gift.nd rfl (.inl rfl)) (pgs_cons (pg_name (i := 3) sc_is_gift.nd rfl (.inl rfl)) pgs_nil)))) (fun _ _ _ _ _ => pts_nil) (fun _ _ _ _ _ => (pe_cmpR op_lt_str (pe_ix (kx_ixT K) (pv 2) pe_int (fun _ _ => rfl)) (pe_ix (kx_ixT K) (pv 3) pe_int (fun _ _ => rfl)) (nomark _)))) pa_nil)))) (pss_one (ps_ret pe_bl)) pss_nil)
    (pss_one (ps_ret (pe_cmpR op_eq (pe_callB (id := "sum") (kx_sum K rfl) (by rfl) T.b_sum (by decide +kernel) (pa_cons (pe_lc (own := [("one", 2)]) (g := gName 2) (by rfl) sc_is_gift.nd (kx_pi_tup K (pv 1)) (blkOk_by (N := N_is_gift) (sc := defScope s_is_gift) (by decide +kernel)) (fun _ _ _ _ _ => (pg_name (i := 2) sc_is_gift.nd rfl (.inl rfl))) (fun _ _ _ _ _ => pts_nil) (fun _ _ _ _ _ => (pe_ix (kx_ixT K) (pv 2) pe_int (fun _ _ => rfl)))) pa_nil)) (pv 0) (nomark _))))))), ?_⟩
  refine q_pass (eb_or (a := false) (b := false) (eb_not (a := true) (eb_B (er_isT (er_var h1) er_c))) fun _ => eb_not (a := true) (eb_B (EvR.is (er_all (er_lcM (RB := IsB) (fun _ : Str × Int => true) (ei_tup (RA := RGi) (xs := l) (er_var h1)).same (by omega) fun e v H2 he e2 r => eg_name ⟨rfl, EvR.is (er_and (a := true) (b := true) (er_isT (er_var r) er_c) fun _ => EvR.is (er_eq (ev_lenT (er_var r)) er_c rfl) (by rfl)) rfl⟩)) (congrArg V.bl (all_true l))))) fun H1 e1 => ?_
  have h11 := MX.mx e1 h1
  refine q_pass (eb_not (a := true) (eb_B (EvR.is (er_all (er_lcM (RB := IsB) (fun _ : Str × Int => true) (ei_tup (RA := RGi) (xs := l) (er_var h11)).same (by omega) fun e v H2 he e2 r => eg_name ⟨rfl, EvR.is (er_and (a := true) (b := true) (er_call e.1 (ea1 (er_ixT (ps := [IsS e.1, IsI e.2]) (er_var r) er_c)) (hw e he)) fun _ => er_and (a := true) (b := true) (er_call e.2 (ea1 (er_ixT (ps := [IsS e.1, IsI e.2]) (er_var r) er_c)) True.intro) fun _ => EvR.is (er_I0 (er_ixT (ps := [IsS e.1, IsI e.2]) (er_var r) er_c) er_c) (congrArg V.bl (decide_eq_true (hp e he)))) rfl⟩)) (congrArg V.bl (all_true l))))) fun H2 e2 => ?_
  have h12 := MX.mx e2 h11
  refine q_pass (eb_not (a := true) (eb_B (EvR.is (er_all (er_lcM (RB := IsB) (fun _ : (Str × Int) × (Str × Int) => true) (ei_zipT (RA := RGi) (RB := RGi) (xs := l) (ys := l.drop 1) (ea2 (er_var h12) (er_drop1 (er_var h12) er_c))).same (by rw [List.length_zip]; omega) fun p v H2 hp e2 r => eg_tup2 r fun u1 u2 g1 g2 => ⟨rfl, EvR.is (er_ltS (er_ixT (ps := [IsS p.1.1, IsI p.1.2]) (er_var g1) er_c) (er_ixT (ps := [IsS p.2.1, IsI p.2.2]) (er_var g2) er_c)) (congrArg V.bl (zip_tail_pairwise hri p hp))⟩)) (congrArg V.bl (all_true _))))) fun H3 e3 => ?_
  have h13 := MX.mx e3 h12
  have s3 := (e1.trans e2).trans e3
  refine s_ret (EvR.is (er_eq (x := .int (l.map fun e => e.2).sum) (y := .int many) (er_sum (er_lcM (RB := IsI) (fun e : Str × Int => e.2) (ei_tup (RA := RGi) (xs := l) (er_var h13)).same (by omega) fun e v H2 he e2 r => eg_name ⟨rfl, er_ixT (ps := [IsS e.1, IsI e.2]) (er_var r) er_c⟩)) (er_var (MX.mx s3 h0)) rfl) (by rw [show (l.map fun e => e.2).sum = many from hs]; simp)) fun v H4 e4 r4 => q v H4 (s3.trans e4) r4
-- slots: 0 want (cell), 1 gift, 2 shade, 3 many
abbrev N_is_right : List Str := ["want", "gift", "shade", "many"]
theorem sc_is_right : FnScope N_is_right ["want", "gift"] (defScope s_is_right) := ⟨rfl, rfl, rfl, by decide +kernel, rfl, by decide +kernel, by decide +kernel⟩
abbrev spIsRight : Sp := PSp (ι := Want × List (Str × Int)) (fun i => [RWant i.1, RGift i.2]) (fun i => (i.1.shades.isEmpty = true ∨ ∀ e ∈ i.2, e.1 ∈ i.1.shades) ∧ i.2.length ≤ 1000) fun _ => IsB true
theorem ok_is_right (T : Tx w K mg) : Cal P w K mg base 1 "is_right" spIsRight [] := by
  refine mk_pure T.f_is_right T.g_is_right sc_is_right (fun _ _ _ _ _ _ us hl => match us, hl with | [_, _], _ => rfl) (fun _ => rfl) (fun cdv A outer s H vs Q E i hr hp hc q => ?_)
  obtain ⟨v0, v1, rfl, h0, h1⟩ := PP.two hp
  obtain ⟨x, l⟩ := i
  obtain ⟨hr1, hf⟩ := hc
  dsimp only at hr1 hf h0 h1
  refine ⟨_, (pss_one (ps_ret (pe_or (pe_cmpR (kx_eqET K hr.units0) (pe_ix (kx_ixT K) (pv 0) pe_int (fun _ _ => rfl)) (pe_tup pa_nil) (nomark _)) (pe_one (pe_callB (id := "all") (kx_all K rfl) (by rfl) T.b_all (by decide +kernel) (pa_cons (pe_lc (own := [("shade", 2), ("many", 3)]) (g := gTup K 2 (gCons (gName 2) (gCons (gName 3) gNil))) (by rfl) sc_is_right.nd (kx_pi_tup K (pv 1)) (blkOk_by (N := N_is_right) (sc := defScope s_is_right) (by decide +kernel)) (fun _ _ _ _ _ => (kx_tup K (by rfl) (pgs_cons (pg_name (i := 2) sc_is_right.nd rfl (.inl rfl)) (pgs_cons (pg_name (i := 3) sc_is_right.nd rfl (.inl rfl)) pgs_nil)))) (fun _ _ _ _ _ => pts_nil) (fun _ _ _ _ _ => (pe_cmpR (kx_in K) (pv 2) (pe_ix (kx_ixT K) (pv 0) pe_int (fun _ _ => rfl)) (by rfl)))) pa_nil)))))), ?_⟩
  refine s_ret (EvR.is (er_or (b := true) (ev_eqET (er_ixT (ps := [IsS x.form, TupOf RStr x.shades, IsI x.many]) (p := TupOf RStr x.shades) (er_var h0) er_c) (er_tup ea_nil (by decide))) fun hb => EvR.is (er_all (er_lcM (RB := IsB) (fun _ : Str × Int => true) (ei_tup (RA := RGi) (xs := l) (er_var h1)).same (by omega) fun e v H2 he e2 r => eg_tup2 r fun u1 u2 g1 g2 => ⟨rfl, EvR.is (er_inT (g := V.str) (xs := x.shades) (er_var g1) (er_ixT (ps := [IsS x.form, TupOf RStr x.shades, IsI x.many]) (p := TupOf RStr x.shades) (er_var (MX.mx e2 h0)) er_c) rfl fun _ => rfl) ?_⟩)) (congrArg V.bl (all_true l))) (by simp)) q
  have he2 : e.1 ∈ x.shades := by
    rcases hr1 with h | h
    · rw [map_isEmpty] at hb
      rw [h] at hb
      cases hb
    · exact h e he
  refine congrArg V.bl ?_
  unfold inV
  rw [List.any_eq_true]
  exact ⟨V.str e.1, List.mem_map.mpr ⟨_, he2, rfl⟩, by simp [eqV]⟩
/-- gifts, right for the wants -/
structure IsGv (i : List Want × List (List (Str × Int))) : Prop where
  ln : i.2.length = i.1.length
  few : i.1.length ≤ 1000
  gift : ∀ p ∈ i.1.zip i.2, IsGi (p.1.many, p.2)
  right : ∀ p ∈ i.1.zip i.2, p.1.shades.isEmpty = true ∨ ∀ e ∈ p.2, e.1 ∈ p.1.shades
abbrev spGifts : Sp := PSp (ι := List Want × List (List (Str × Int))) (fun i => [RWay i.1, RGiven i.2]) IsGv fun _ => IsB true
-- slots: 0 wants, 1 thing, 2 want, 3 one
abbrev N_are_gifts : List Str := ["wants", "thing", "want", "one"]
theorem sc_are_gifts : FnScope N_are_gifts ["wants", "thing"] (defScope s_are_gifts) := ⟨rfl, rfl, rfl, by decide +kernel, rfl, by decide +kernel, by decide +kernel⟩
theorem ok_are_gifts (T : Tx w K mg) : Cal P w K mg base 3 "are_gifts" spGifts [] := by
  refine mk_pure T.f_are_gifts T.g_are_gifts sc_are_gifts (fun _ _ _ _ _ _ us hl => match us, hl with | [_, _], _ => rfl) (fun _ => rfl) (fun cdv A outer s H vs Q E i hr hp hc q => ?_)
  obtain ⟨v0, v1, rfl, h0, h1⟩ := PP.two hp
  obtain ⟨wants, given⟩ := i
  obtain ⟨hl, hf, hg, hr1⟩ := hc
  dsimp only at hl hf hg hr1 h0 h1
  refine ⟨_, (pss_cons (ps_if (PW.pt (pw_or (pt_not (pt_val (pe_callB (id := "isinstance") (kx_isi K) (by rfl) T.b_isinstance (by decide +kernel) (pa_cons (pv 1) (pa_cons (pe_bltn (v := .ty "tuple") rfl T.b_tuple (by decide +kernel) rfl) pa_nil))))) (pw_or1 (pt_cmpR op_ne (pe_callB (id := "len") (kx_len K) (by rfl) T.b_len (by decide +kernel) (pa_cons (pv 1) pa_nil)) (pe_callB (id := "len") (kx_len K) (by rfl) T.b_len (by decide +kernel) (pa_cons (pv 0) pa_nil)) (nomark _))))) (pss_one (ps_ret pe_bl)) pss_nil)
    (pss_one (ps_ret (pe_callB (id := "all") (kx_all K rfl) (by rfl) T.b_all (by decide +kernel) (pa_cons (pe_lc (own := [("want", 2), ("one", 3)]) (g := gTup K 2 (gCons (gName 2) (gCons (gName 3) gNil))) (by rfl) sc_are_gifts.nd (kx_pi_zip K rfl T.b_zip (pa_cons (pv 0) (pa_cons (pv 1) pa_nil))) (blkOk_by (N := N_are_gifts) (sc := defScope s_are_gifts) (by decide +kernel)) (fun _ _ _ _ _ => (kx_tup K (by rfl) (pgs_cons (pg_name (i := 2) sc_are_gifts.nd rfl (.inl rfl)) (pgs_cons (pg_name (i := 3) sc_are_gifts.nd rfl (.inl rfl)) pgs_nil)))) (fun _ _ _ _ _ => pts_nil) (fun _ _ _ _ _ => (pe_c (ok_is_gift T) hr (by decide) rfl (pa_cons (pe_ix (kx_ixT K) (pv 2) pe_int (fun _ _ => rfl)) (pa_cons (pv 3) pa_nil))))) pa_nil))))), ?_⟩
  refine q_pass (eb_or (a := false) (b := false) (eb_not (a := true) (eb_B (er_isT (er_var h1) er_c))) fun _ => eb_test (EvR.is (er_ne (x := .int (given.length : Int)) (y := .int (wants.length : Int)) (ev_lenTO (er_var h1)) (ev_lenTO (er_var h0)) rfl) (by rw [hl]; simp))) fun H1 e1 => ?_
  refine s_ret (EvR.is (er_all (er_lcM (RB := IsB) (fun _ : Want × List (Str × Int) => true) (ei_zipT (RA := RWant) (RB := RGift) (xs := wants) (ys := given) (ea2 (er_var (MX.mx e1 h0)) (er_var (MX.mx e1 h1)))).same (by rw [List.length_zip]; omega) fun p v H2 hp e2 r => eg_tup2 r fun u1 u2 g1 g2 => ⟨rfl, er_call (p.1.many, p.2) (ea2 (er_ixT (ps := [IsS p.1.form, TupOf RStr p.1.shades, IsI p.1.many]) (er_var g1) er_c) (er_var g2)) (hg p hp)⟩)) (congrArg V.bl (all_true _))) fun v H2 e2 r2 => q v H2 (e1.trans e2) r2
-- slots: 0 wants, 1 thing, 2 want, 3 one
abbrev N_is_given : List Str := ["wants", "thing", "want", "one"]
theorem sc_is_given : FnScope N_is_given ["wants", "thing"] (defScope s_is_given) := ⟨rfl, rfl, rfl, by decide +kernel, rfl, by decide +kernel, by decide +kernel⟩
theorem ok_is_given (T : Tx w K mg) : Cal P w K mg base 4 "is_given" spGifts [] := by
  refine mk_pure T.f_is_given T.g_is_given sc_is_given (fun _ _ _ _ _ _ us hl => match us, hl with | [_, _], _ => rfl) (fun _ => rfl) (fun cdv A outer s H vs Q E i hr hp hc q => ?_)
  obtain ⟨v0, v1, rfl, h0, h1⟩ := PP.two hp
  obtain ⟨wants, given⟩ := i
  have hcc := hc
  obtain ⟨hl, hf, hg, hr1⟩ := hc
  dsimp only at hl hf hg hr1 h0 h1
  refine ⟨_, (pss_one (ps_ret (pe_and (pe_c (ok_are_gifts T) hr (by decide) rfl (pa_cons (pv 0) (pa_cons (pv 1) pa_nil))) (pe_one (pe_callB (id := "all") (kx_all K rfl) (by rfl) T.b_all (by decide +kernel) (pa_cons (pe_lc (own := [("want", 2), ("one", 3)]) (g := gTup K 2 (gCons (gName 2) (gCons (gName 3) gNil))) (by rfl) sc_is_given.nd (kx_pi_zip K rfl T.b_zip (pa_cons (pv 0) (pa_cons (pv 1) pa_nil))) (blkOk_by (N := N_is_given) (sc := defScope s_is_given) (by decide +kernel)) (fun _ _ _ _ _ => (kx_tup K (by rfl) (pgs_cons (pg_name (i := 2) sc_is_given.nd rfl (.inl rfl)) (pgs_cons (pg_name (i := 3) sc_is_given.nd rfl (.inl rfl)) pgs_nil)))) (fun _ _ _ _ _ => pts_nil) (fun _ _ _ _ _ => (pe_c (ok_is_right T) hr (by decide) rfl (pa_cons (pv 2) (pa_cons (pv 3) pa_nil))))) pa_nil)))))), ?_⟩
  refine s_ret (EvR.is (er_and (a := true) (b := true) (er_call (wants, given) (ea2 (er_var h0) (er_var h1)) hcc) fun _ => EvR.is (er_all (er_lcM (RB := IsB) (fun _ : Want × List (Str × Int) => true) (ei_zipT (RA := RWant) (RB := RGift) (xs := wants) (ys := given) (ea2 (er_var h0) (er_var h1))).same (by rw [List.length_zip]; omega) fun p v H2 hp e2 r => eg_tup2 r fun u1 u2 g1 g2 => ⟨rfl, er_call (p.1, p.2) (ea2 (er_var g1) (er_var g2)) ⟨hr1 p hp, (hg p hp).few⟩⟩)) (congrArg V.bl (all_true _))) rfl) q
end
end K43
set_option Elab.async false
set_option linter.all false
set_option maxRecDepth 100000
set_option maxHeartbeats 4000000
/-! # KC3: wants_of by a keyword, is_dealing, is_places, has_most_form -/
namespace K43
open PySem PySem.Spec PyProof.Rows L2 K43S
open C8 (Cal Mak Met pe_c pe_mk pe_mt pe_mt0)
section
variable {P : Program} {w : World} {K : PySem.W.Frag} {mg : Str → Option Value} {base : Heap}
-- slots: 0 sheet, 1 choice, 2 found, 3 k, 4 row
abbrev N_wants_of : List Str := ["sheet", "choice", "found", "k", "row"]
theorem sc_wants_of : FnScope N_wants_of ["sheet", "choice"] (defScope s_wants_of) := ⟨rfl, rfl, rfl, by decide +kernel, rfl, by decide +kernel, by decide +kernel⟩
abbrev spWantsOf : Sp := PSp (ι := Sheet × List Nat) (fun i => [RSheet i.1, RChoice i.2]) (fun i => OkCh i.1 i.2 ∧ (wantsOf i.1 i.2).length ≤ 1000) fun i => RWay (wantsOf i.1 i.2)
/-- wants_of(sheet, choice = ..) -/
structure KwW (P : Program) (w : World) (K : PySem.W.Frag) (mg : Str → Option Value) (base : Heap) : Prop where
  ex : ∃ (f : Addr) (fd : FuncData) (g : List Value → List Value → List Value), FnOk P w K mg base C8.CX0 1 f fd ["sheet", "choice"] spWantsOf ∧ mg "wants_of" = some (.ref f) ∧ PySem.W.keepIn K (.ref f) = true ∧ KBn K fd ["sheet", "choice"] 1 ["choice"] g (fun vs zs => vs ++ zs)
theorem kw_wants_of (T : Tx w K mg) : KwW P w K mg base := by
  obtain ⟨fd, F⟩ := T.f_wants_of
  obtain ⟨its, hb⟩ := F.kbindsD (ps := ["sheet", "choice"]) 1 ["choice"] (fun us _ ws => us ++ ws) (by simp) (fun h1 _ h3 => h1.append h3) (fun _ _ _ _ _ _ _ us its ws l1 l2 l3 => match us, l1, its, l2, ws, l3 with | [_], _, [_], _, [_], _ => ⟨_, rfl, rfl⟩)
  refine ⟨_, fd, _, F.ok sc_wants_of (fun vs H Q E ⟨i, h, _⟩ => h.length) (fun cdv A outer s H vs Q E hr hsp => ?_), T.g_wants_of, F.kp, hb⟩
  obtain ⟨⟨sheet, choice⟩, hp, ⟨hok, hlen⟩, q⟩ := hsp
  obtain ⟨v0, v1, rfl, h0, h1⟩ := PP.two hp
  dsimp only at hok hlen h0 h1
  have key : ∃ t, PSs (cxOf CX0 P w K mg base N_wants_of "wants_of" (defScope s_wants_of) (He.fAd K ("wants_of", none)) cdv A outer s H E).nox (defBody s_wants_of) t ∧ t { nx := fun _ H' => Q .non H', rt := Q } (start N_wants_of [v0, v1]) H := by
    refine ⟨_, (pss_cons (ps_set (i := 2) sc_wants_of.nd rfl (.inl rfl) (pe_tup pa_nil))
    (pss_cons (ps_for PassesOwn.never rfl (kx_pi_enumT K rfl T.b_enumerate (pa_cons (pv 0) pa_nil)) (kx_tup K (by rfl) (pgs_cons (pg_name (i := 3) sc_wants_of.nd rfl (.inl rfl)) (pgs_cons (pg_name (i := 4) sc_wants_of.nd rfl (.inl rfl)) pgs_nil)))
      (pss_one (ps_set (i := 2) sc_wants_of.nd rfl (.inl rfl) (pe_op (kx_catA K) (pv 2) (pe_ix (kx_ixT K) (pv 4) (pe_ifExp (pt_cmp (pc_isN (pv 1))) pe_int (pe_ix (kx_ixT K) (pv 1) (pv 3) (fun _ _ => rfl))) (fun _ _ => rfl))))))
    (pss_one (ps_ret (pv 2))))), ?_⟩
    refine q_set (er_tup ea_nil (by decide)) fun vf H1 e1 r1 => ?_
    have hsl : sheet.length ≤ 100000 ∨ True := .inr True.intro
    refine q_forS (ei_enumT (RA := RRow) (xs := sheet) (ea1 (er_var (MX.mx e1 h0)))).same (fun i σ' Hc => ∃ vf v3 v4, σ' = [some v0, some v1, some vf, v3, v4] ∧ RWay (((sheet.zip choice).take i).map wayAt).flatten Hc vf)
      (fun H2 e2 => ⟨vf, none, none, rfl, MX.mx e2 r1⟩) ?_ ?_
    · rintro i ⟨row, k⟩ v σ' Hc Hx N hx s ⟨vf, v3, v4, rfl, rf⟩ sx r n
      have hk2 : i < sheet.length ∧ k = i ∧ sheet[i]? = some row := by
        rw [List.getElem?_zipIdx] at hx
        cases z : sheet[i]? with
        | none => rw [z] at hx; cases hx
        | some y =>
          rw [z] at hx
          simp at hx
          exact ⟨(List.getElem?_eq_some_iff.mp z).1, by omega, by rw [hx.1]⟩
      obtain ⟨hil, rfl, hrow⟩ := hk2
      have hcl : k < choice.length := by rw [hok.1]; exact hil
      have hzip : (sheet.zip choice)[k]? = some (row, choice[k]) := by
        rw [List.getElem?_zip_eq_some]
        exact ⟨hrow, List.getElem?_eq_getElem hcl⟩
      have hkr : choice[k] < row.length := hok.2 _ (List.mem_of_getElem? hzip)
      have el : (((sheet.zip choice).take k).map wayAt).flatten.length + (wayAt (row, choice[k])).length ≤ (wantsOf sheet choice).length := flatten_at_le (f := wayAt) hzip
      have h1x := MX.mx ((e1.trans s).trans sx) h1
      refine eg_tup2 r fun uk ur hk hr' => s_set (er_catTO (ys := wayAt (row, choice[k])) (er_var (MX.mx sx rf)) (er_ixTO (x := wayAt (row, choice[k])) (i := (choice[k] : Int)) (er_var hr') (er_if (b := false) (eb_test (er_isNR (R := RChoice choice) (er_var h1x) fun H v ⟨b, _, e, _⟩ => by subst e; rfl)) (fun h => by cases h) fun _ => er_ixTO (R := RNat) (x := choice[k]) (er_var h1x) (er_var hk) (by omega) (by simpa using List.getElem?_eq_getElem hcl)) (by omega) (by simpa [wayAt] using getD_of hkr)) (by omega)) fun vg H3 e3 r3 => ?_
      refine n _ _ e3 ⟨vg, _, _, rfl, ?_⟩
      rw [take_map_flatten hzip]
      exact r3
    · rintro σ' Hc s ⟨vf, v3, v4, rfl, rf⟩
      have hzl : (sheet.zip choice).length ≤ sheet.zipIdx.length := by rw [List.length_zip, List.length_zipIdx]; omega
      rw [List.take_of_length_le hzl] at rf
      exact s_ret (er_var rf) fun v H2 e2 r2 => q v H2 (e1.trans (s.trans e2)) r2
  obtain ⟨t, h, q⟩ := key
  exact ⟨t, h.nox, q⟩
theorem pe_wants_of {X : Cx} {j : Nat} {p pos kpos : Pos} {e e2 : Expr} {t tk : TA} (c : KwW X.prog X.w X.K X.mg X.base) (hr : Room j X.A) (hk : 1 ≤ j) (hg : Gl X "wants_of") (ha : PA X [e] t) (hkw : PK X [⟨some "choice", e2, kpos⟩] tk)
    (he : starEach [e] X.env = (false, eval e X.env) :: starEach [] X.env := by rfl)
    (hall : (backToKw pos (keywordEach [⟨some "choice", e2, kpos⟩] X.env)).all (·.1.isSome) = true := by rfl) (hks : (backToKw pos (keywordEach [⟨some "choice", e2, kpos⟩] X.env)).filterMap (·.1) = ([("choice" : Str)] : List Str) := by rfl)
    (hpl : ((backTo pos (starEach [e] X.env)).any (·.1) || (backToKw pos (keywordEach [⟨some "choice", e2, kpos⟩] X.env)).any (·.1.isNone)) = false := by rfl) :
    PE X (.Call (.Name "wants_of" p) [e] [⟨some "choice", e2, kpos⟩] pos) (tCallN 1 1 spWantsOf (fun vs zs => vs ++ zs) C8.E0 t tk) := by
  obtain ⟨f, fd, g, F, hm, kp, hb⟩ := c.ex
  exact pe_callN F (hr.mono hk) hg hm kp hb C8.pass0 ha hkw hall hks (by decide) he hpl
-- slots: 0 heap, 1 sheet, 2 thing, 3 wants, 4 place
abbrev N_is_dealing : List Str := ["heap", "sheet", "thing", "wants", "place"]
theorem sc_is_dealing : FnScope N_is_dealing ["heap", "sheet", "thing"] (defScope s_is_dealing) := ⟨rfl, rfl, rfl, by decide +kernel, rfl, by decide +kernel, by decide +kernel⟩
structure IsDe (i : List Prt × Sheet × List Nat × List (List (Str × Int))) : Prop where
  few : FewCh i.2.1
  mem : i.2.2.1 ∈ chs i.2.1
  ok : OkCh i.2.1 i.2.2.1
  wl : (wantsOf i.2.1 i.2.2.1).length ≤ 1000
  gv : IsGv (wantsOf i.2.1 i.2.2.1, i.2.2.2)
  lk : lacking i.1 (partsOf (givenRows (wantsOf i.2.1 i.2.2.1) i.2.2.2)) = []
  ps : i.1.length ≤ 10000
  gr : (givenRows (wantsOf i.2.1 i.2.2.1) i.2.2.2).length ≤ 10000
  gl : ∀ l ∈ i.2.2.2, l.length ≤ 10000
abbrev RDealing (i : List Nat × List (List (Str × Int))) : Pr := TupP [RChoice i.1, RGiven i.2]
abbrev spIsDealing (C : Addr) : Sp := PSp (ι := List Prt × Sheet × List Nat × List (List (Str × Int))) (fun i => [RHeap C i.1, RSheet i.2.1, RDealing i.2.2]) IsDe fun _ => IsB true
def dN (c : List Nat) : PyData := .tuple (c.map fun n : Nat => .int (n : Int))
theorem dp_choice {H : Hp} {v : V} {c : List Nat} (h : RChoice c H v) : Dp K H v (dN c) := by
  obtain ⟨a, vs, rfl, h1, h2⟩ := h
  refine .tup (SqT.of h1) ?_
  clear h1
  induction c generalizing vs with
  | nil => obtain rfl := h2.nil; exact .nil
  | cons n c ih =>
    match vs, h2 with
    | v :: vs, ⟨g1, g2⟩ =>
      obtain rfl : v = V.int n := g1
      exact .cons (.int _) (ih vs g2)
theorem dp_choices {H : Hp} {v : V} {cs : List (List Nat)} (h : TupOf RChoice cs H v) : Dp K H v (.tuple (cs.map dN)) := by
  obtain ⟨a, vs, rfl, h1, h2⟩ := h
  refine .tup (SqT.of h1) ?_
  clear h1
  induction cs generalizing vs with
  | nil => obtain rfl := h2.nil; exact .nil
  | cons n c ih =>
    match vs, h2 with
    | v :: vs, ⟨g1, g2⟩ => exact .cons (dp_choice g1) (ih vs g2)
theorem dn_can (c : List Nat) : (dN c).canLay0 = true := by
  unfold dN
  rw [PyData.canLay0]
  induction c with
  | nil => rfl
  | cons n c ih => rw [List.map_cons, PyData.canLayAll0, ih]; rfl
theorem dn_depth (c : List Nat) : (dN c).depth ≤ 2 := by
  unfold dN
  rw [PyData.depth]
  have : PyData.depthAll (c.map fun n : Nat => PyData.int (n : Int)) ≤ 1 := by
    induction c with
    | nil => simp [PyData.depthAll]
    | cons n c ih => rw [List.map_cons, PyData.depthAll]; simp [PyData.depth]; omega
  omega
theorem dns_can (cs : List (List Nat)) : (PyData.tuple (cs.map dN)).canLay0 = true := by
  rw [PyData.canLay0]
  induction cs with
  | nil => rfl
  | cons n c ih => rw [List.map_cons, PyData.canLayAll0, ih, dn_can]; rfl
theorem dns_depth (cs : List (List Nat)) : (PyData.tuple (cs.map dN)).depth ≤ 4 := by
  rw [PyData.depth]
  have : PyData.depthAll (cs.map dN) ≤ 3 := by
    induction cs with
    | nil => simp [PyData.depthAll]
    | cons n c ih =>
      rw [List.map_cons, PyData.depthAll]
      have := dn_depth n
      omega
  omega
theorem ok_is_dealing (T : Tx w K mg) : Cal P w K mg base 6 "is_dealing" (spIsDealing (CH K)) [] := by
  refine mk_pure T.f_is_dealing T.g_is_dealing sc_is_dealing (fun _ _ _ _ _ _ us hl => match us, hl with | [_, _, _], _ => rfl) (fun _ => rfl) (fun cdv A outer s H vs Q E i hr hp hc q => ?_)
  obtain ⟨v0, v1, v2, rfl, h0, h1, h2⟩ := PP.three hp
  obtain ⟨ps, sheet, choice, given⟩ := i
  obtain ⟨hfew, hmem, hok, hwl, hgv, hlk, hps, hgr, hgl⟩ := hc
  dsimp only at hfew hmem hok hwl hgv hlk hps hgr hgl h0 h1 h2
  refine ⟨_, (pss_cons (ps_if (PW.pt (pw_or (pt_not (pt_val (pe_callB (id := "isinstance") (kx_isi K) (by rfl) T.b_isinstance (by decide +kernel) (pa_cons (pv 2) (pa_cons (pe_bltn (v := .ty "tuple") rfl T.b_tuple (by decide +kernel) rfl) pa_nil))))) (pw_or (pt_cmpR op_ne (pe_callB (id := "len") (kx_len K) (by rfl) T.b_len (by decide +kernel) (pa_cons (pv 2) pa_nil)) pe_int (nomark _)) (pw_or1 (pt_not (pt_val (pe_callB (id := "isinstance") (kx_isi K) (by rfl) T.b_isinstance (by decide +kernel) (pa_cons (pe_ix (kx_ixT K) (pv 2) pe_int (fun _ _ => rfl)) (pa_cons (pe_bltn (v := .ty "tuple") rfl T.b_tuple (by decide +kernel) rfl) pa_nil))))))))) (pss_one (ps_ret pe_bl)) pss_nil)
    (pss_cons (ps_if (PW.pt (pw_or (pt_not (pt_val (pe_callB (id := "all") (kx_all K rfl) (by rfl) T.b_all (by decide +kernel) (pa_cons (pe_lc (own := [("place", 4)]) (g := gName 4) (by rfl) sc_is_dealing.nd (kx_pi_tup K (pe_ix (kx_ixT K) (pv 2) pe_int (fun _ _ => rfl))) (blkOk_by (N := N_is_dealing) (sc := defScope s_is_dealing) (by decide +kernel)) (fun _ _ _ _ _ => (pg_name (i := 4) sc_is_dealing.nd rfl (.inl rfl))) (fun _ _ _ _ _ => pts_nil) (fun _ _ _ _ _ => (pe_c (ok_is_number T) hr (by decide) rfl (pa_cons (pv 4) pa_nil)))) pa_nil)))) (pw_or1 (pt_cmpR (kx_notInT K (hu65 hr)) (pe_ix (kx_ixT K) (pv 2) pe_int (fun _ _ => rfl)) (pe_c (ok_choices T) hr (by decide) rfl (pa_cons (pv 1) pa_nil)) (by rfl))))) (pss_one (ps_ret pe_bl)) pss_nil)
    (pss_cons (ps_set (i := 3) sc_is_dealing.nd rfl (.inl rfl) (pe_wants_of (kw_wants_of T) hr (by decide) rfl (pa_cons (pv 1) pa_nil) (pk_cons (pe_ix (kx_ixT K) (pv 2) pe_int (fun _ _ => rfl)) pk_nil)))
    (pss_one (ps_ret (pe_and (pe_c (ok_is_given T) hr (by decide) rfl (pa_cons (pv 3) (pa_cons (pe_ix (kx_ixT K) (pv 2) pe_int (fun _ _ => rfl)) pa_nil))) (pe_one (pe_c (ok_serves T) hr (by decide) rfl (pa_cons (pv 0) (pa_cons (pv 3) (pa_cons (pe_ix (kx_ixT K) (pv 2) pe_int (fun _ _ => rfl)) pa_nil))))))))))), ?_⟩
  have ix0 : ∀ {H' : Hp} {σ : L2.St} {v2 : V}, RDealing (choice, given) H' v2 → σ[2]? = some (some v2) → EvR (tOp (rIxT K) (tVar 2) (tC (.int 0))) σ H' (RChoice choice) := fun r e => er_ixT (ps := [RChoice choice, RGiven given]) (p := RChoice choice) (er_var r e) er_c
  have ix1 : ∀ {H' : Hp} {σ : L2.St} {v2 : V}, RDealing (choice, given) H' v2 → σ[2]? = some (some v2) → EvR (tOp (rIxT K) (tVar 2) (tC (.int 1))) σ H' (RGiven given) := fun r e => er_ixT (ps := [RChoice choice, RGiven given]) (p := RGiven given) (er_var r e) er_c
  refine q_pass (eb_or (a := false) (b := false) (eb_not (a := true) (eb_B (er_isT (er_var h2) er_c))) fun _ => eb_or (a := false) (b := false) (eb_test (EvR.is (er_ne (ev_lenT (er_var h2)) er_c rfl) (by rfl))) fun _ => eb_not (a := true) (eb_B (er_isT (ix0 h2 rfl) er_c))) fun H1 e1 => ?_
  have h21 := MX.mx e1 h2
  have hcl : choice.length ≤ 100000 := by rw [hok.1]; exact Nat.le_trans hfew.rows (by decide)
  refine q_pass (eb_or (a := false) (b := false) (eb_not (a := true) (eb_B (EvR.is (er_all (er_lcM (RB := IsB) (fun _ : Nat => true) (ei_tup (RA := RNat) (xs := choice) (ix0 h21 rfl)).same hcl fun n v H2 hn e2 r => eg_name ⟨rfl, er_call (n : Int) (ea1 (er_var r)) True.intro⟩)) (congrArg V.bl (all_true _))))) fun _ => eb_test (er_op (A := RChoice choice) (B := TupOf RChoice (chs sheet)) (ix0 h21 rfl) (er_call sheet (ea1 (er_var (MX.mx e1 h1))) hfew) fun v w' H2 e2 g1 g2 Q q => ?_)) fun H2 e2 => ?_
  · refine ⟨dN choice, (chs sheet).map dN, dp_choice g1, dp_choices g2, by unfold SeqAt.shaped; rw [dn_can, Bool.true_and]; exact decide_eq_true (Nat.le_trans (dn_depth _) (by decide)), by unfold SeqAt.shaped; rw [dns_can, Bool.true_and]; exact decide_eq_true (Nat.le_trans (dns_depth _) (by decide)), q _ H2 (Same.refl _) ?_⟩
    have : ((chs sheet).map dN).any (fun z => PyData.eqv z (dN choice)) = true := List.any_eq_true.mpr ⟨_, List.mem_map.mpr ⟨_, hmem, rfl⟩, SeqAt.eqv_refl _ (dn_can _)⟩
    rw [this]
    rfl
  have h22 := MX.mx e2 h21
  have s2 := e1.trans e2
  have hw : EvR (tCallN 1 1 spWantsOf (fun vs zs => vs ++ zs) C8.E0 (tCons (tVar 1) tNil) (tCons (tOp (rIxT K) (tVar 2) (tC (.int 0))) tNil)) [some v0, some v1, some v2, none, none] H2 (RWay (wantsOf sheet choice)) := fun H3 e3 Q q =>
    (ea1 (er_var (R := RSheet sheet) (MX.mx s2 h1))) H3 e3 _ fun vs H4 e4 r4 => (ea1 (ix0 h22 rfl)) H4 (e3.trans e4) _ fun zs H5 e5 r5 => by
      obtain ⟨y1, rfl, k1⟩ := r4.one
      obtain ⟨y2, rfl, k2⟩ := r5.one
      exact ⟨rfl, rfl, (sheet, choice), ⟨MX.mx e5 k1, k2, True.intro⟩, ⟨hok, hwl⟩, fun v H6 e6 r6 => q v H6 ((e4.trans e5).trans e6) r6⟩
  refine q_set hw fun vw H3 e3 r3 => ?_
  have h23 := MX.mx e3 h22
  have s3 := s2.trans e3
  refine s_ret (EvR.is (er_and (a := true) (b := true) (er_call (wantsOf sheet choice, given) (ea2 (er_var r3) (ix1 h23 rfl)) hgv) fun _ => EvR.is (er_call (ps, wantsOf sheet choice, given) (ea_cons (er_var (MX.mx s3 h0)) (ea2 (er_var r3) (ix1 h23 rfl))) ⟨hps, hgr, hgl⟩) (by show V.bl (lacking ps (partsOf (givenRows (wantsOf sheet choice) given))).isEmpty = _; rw [hlk]; rfl)) rfl) fun v H4 e4 r4 => q v H4 (s3.trans e4) r4
end
end K43
set_option Elab.async false
set_option linter.all false
set_option maxRecDepth 100000
set_option maxHeartbeats 4000000
/-! # KC4: is_places, has_most_form -/
namespace K43
open PySem PySem.Spec PyProof.Rows L2 K43S
open C8 (Cal Mak Met pe_c pe_mk pe_mt pe_mt0)
section
variable {P : Program} {w : World} {K : PySem.W.Frag} {mg : Str → Option Value} {base : Heap}
-- slots: 0 things (cell), 1 thing, 2 one, 3 other
abbrev N_is_places : List Str := ["things", "thing", "one", "other"]
theorem sc_is_places : FnScope N_is_places ["things", "thing"] (defScope s_is_places) := ⟨rfl, rfl, rfl, by decide +kernel, rfl, by decide +kernel, by decide +kernel⟩
structure PlOk (i : Things × List Nat) : Prop where
  lt : ∀ p ∈ i.2, p < i.1.length
  rise : i.2.Pairwise fun x y => x < y
  few : i.2.length ≤ 1000
abbrev spIsPlaces : Sp := PSp (ι := Things × List Nat) (fun i => [RThings i.1, TupOf RNat i.2]) PlOk fun _ => IsB true
theorem ok_is_places (T : Tx w K mg) : Cal P w K mg base 2 "is_places" spIsPlaces [] := by
  refine mk_pure T.f_is_places T.g_is_places sc_is_places (fun _ _ _ _ _ _ us hl => match us, hl with | [_, _], _ => rfl) (fun _ => rfl) (fun cdv A outer s H vs Q E i hr hp hc q => ?_)
  obtain ⟨v0, v1, rfl, h0, h1⟩ := PP.two hp
  obtain ⟨things, places⟩ := i
  obtain ⟨hlt, hri, hf⟩ := hc
  dsimp only at hlt hri hf h0 h1
  refine ⟨_, (pss_cons (ps_if (PW.pt (pw_or (pt_not (pt_val (pe_callB (id := "isinstance") (kx_isi K) (by rfl) T.b_isinstance (by decide +kernel) (pa_cons (pv 1) (pa_cons (pe_bltn (v := .ty "tuple") rfl T.b_tuple (by decide +kernel) rfl) pa_nil))))) (pw_or1 (pt_not (pt_val (pe_callB (id := "all") (kx_all K rfl) (by rfl) T.b_all (by decide +kernel) (pa_cons (pe_lc (own := [("one", 2)]) (g := gName 2) (by rfl) sc_is_places.nd (kx_pi_tup K (pv 1)) (blkOk_by (N := N_is_places) (sc := defScope s_is_places) (by decide +kernel)) (fun _ _ _ _ _ => (pg_name (i := 2) sc_is_places.nd rfl (.inl rfl))) (fun _ _ _ _ _ => pts_nil) (fun _ _ _ _ _ => (pe_and (pe_c (ok_is_number T) hr (by decide) rfl (pa_cons (pv 2) pa_nil)) (pe_one (pe_chain op_le op_lt pe_int (pv 2) (pe_callB (id := "len") (kx_len K) (by rfl) T.b_len (by decide +kernel) (pa_cons (pv 0) pa_nil))))))) pa_nil))))))) (pss_one (ps_ret pe_bl)) pss_nil)
    (pss_one (ps_ret (pe_callB (id := "all") (kx_all K rfl) (by rfl) T.b_all (by decide +kernel) (pa_cons (pe_lc (own := [("one", 2), ("other", 3)]) (g := gTup K 2 (gCons (gName 2) (gCons (gName 3) gNil))) (by rfl) sc_is_places.nd (kx_pi_zip K rfl T.b_zip (pa_cons (pv 1) (pa_cons (pe_slice (kx_slT K) (pv 1) (po_some pe_int) po_none) pa_nil))) (blkOk_by (N := N_is_places) (sc := defScope s_is_places) (by decide +kernel)) (fun _ _ _ _ _ => (kx_tup K (by rfl) (pgs_cons (pg_name (i := 2) sc_is_places.nd rfl (.inl rfl)) (pgs_cons (pg_name (i := 3) sc_is_places.nd rfl (.inl rfl)) pgs_nil)))) (fun _ _ _ _ _ => pts_nil) (fun _ _ _ _ _ => (pe_cmpR op_lt (pv 2) (pv 3) (nomark _)))) pa_nil))))), ?_⟩
  refine q_pass (eb_or (a := false) (b := false) (eb_not (a := true) (eb_B (er_isT (er_var h1) er_c))) fun _ => eb_not (a := true) (eb_B (EvR.is (er_all (er_lcM (RB := IsB) (fun _ : Nat => true) (ei_tup (RA := RNat) (xs := places) (er_var h1)).same (by omega) fun n v H2 hn e2 r => eg_name ⟨rfl, EvR.is (er_and (a := true) (b := true) (er_call (n : Int) (ea1 (er_var r)) True.intro) fun _ => er_chain (a := true) (b := true) er_c (er_var (R := RNat n) r) (fun v w H1 _ g1 g2 Q q => r_I0 (by simp) g1 g2 q) (fun _ => ev_lenTO (er_var (MX.mx e2 h0))) (fun _ v w H1 _ g1 g2 Q q => r_I0 (by have := hlt n hn; simp; omega) g1 g2 q)) rfl⟩)) (congrArg V.bl (all_true _))))) fun H1 e1 => ?_
  have h11 := MX.mx e1 h1
  refine s_ret (EvR.is (er_all (er_lcM (RB := IsB) (fun _ : Nat × Nat => true) (ei_zipT (RA := RNat) (RB := RNat) (xs := places) (ys := places.drop 1) (ea2 (er_var h11) (er_drop1 (er_var h11) er_c))).same (by rw [List.length_zip]; omega) fun p v H2 hp e2 r => eg_tup2 r fun u1 u2 g1 g2 => ⟨rfl, EvR.is (er_I0 (i := (p.1 : Int)) (j := (p.2 : Int)) (er_var g1) (er_var g2)) (congrArg V.bl (decide_eq_true (by have := zip_tail_pairwise hri p hp; omega)))⟩)) (congrArg V.bl (all_true _))) fun v H2 e2 r2 => q v H2 (e1.trans e2) r2
/-! the table of lengths -/
def rNotKd (K : PySem.W.Frag) (d : Addr) : R2 := fun x y H Q => ∃ (z : Str) (r : Option Value), x = .str z ∧ y = .ref d ∧ PySem.W.nsIn K d z = some r ∧ Q (.bl (!r.isSome)) H
theorem kx_notKd {X : Cx} {d : Addr} {es : Array DictEntry} {n : Nat} (D : KDict K w d es n) (h : X.K = K := by rfl) (hw : X.w = w := by rfl) : OpR X (compareOp .NotIn) (rNotKd K d) := by
  subst h
  subst hw
  exact op_notIn_kd D
theorem kx_ixKd {X : Cx} (K : PySem.W.Frag) (w : World) (h : X.K = K := by rfl) (hw : X.w = w := by rfl) : IxR X (rIxD K w) := by
  subst h
  subst hw
  exact ix_kdict
/-- a tuple of the top -/
def KTup (K : PySem.W.Frag) (us : List V) : Pr := fun _ v => ∃ (a : Addr) (o : Obj) (its : Array Value) (n : Nat), v = .ref a ∧ K.lookup a = some o ∧ o.cls = .type "tuple" ∧ o.data = .seq its n ∧ its.size ≤ sizeLine ∧ Vals us its.toList
instance {K : PySem.W.Frag} {us : List V} : MF (KTup K us) := ⟨fun _ h => h⟩
theorem eg_ktup2 {σ : L2.St} {H : Hp} {i j : Nat} {v v1 v2 : V} {P : L2.St → Prop} (r : KTup K [v1, v2] H v) (h : P ((σ.set i (some v1)).set j (some v2))) : EvG (gTup K 2 (gCons (gName i) (gCons (gName j) gNil))) v σ H P := fun Q q => by
  obtain ⟨a, o, its, n, rfl, k1, k2, k3, k4, k5⟩ := r
  exact ⟨a, _, rfl, .inr ⟨o, its, n, k1, k2, k3, k4, k5⟩, rfl, v1, _, rfl, v2, _, rfl, rfl, q _ h⟩
theorem len_at {x : Str} {i j : Int} (h : lenB K x i j = true) : ∃ u : Value, PySem.W.nsIn K (He.ga K "LENGTHS") x = some (some u) ∧ ∃ a : Addr, u = .ref a ∧ ∀ H, KTup K [.int i, .int j] H (.ref a) := by
  unfold lenB at h
  split at h
  · rename_i a e
    split at h
    · rename_i c d its n sl e2
      simp only [Bool.and_eq_true, decide_eq_true_eq] at h
      obtain ⟨h1, h2, h3⟩ := h
      subst h1
      exact ⟨_, e, a, rfl, fun H => ⟨a, _, its, n, rfl, e2, rfl, rfl, h2, He.relAll_ok h3⟩⟩
    · cases h
  · cases h
-- slots: 0 thing, 1 least, 2 greatest
abbrev N_has_most_form : List Str := ["thing", "least", "greatest"]
theorem sc_has_most_form : FnScope N_has_most_form ["thing"] (defScope s_has_most_form) := ⟨rfl, rfl, rfl, by decide +kernel, rfl, by decide +kernel, by decide +kernel⟩
/-- a node: its word, the others -/
def HmOk (i : Str × List V) : Prop := (i.1 = "thing" ∧ i.2.length = 3) ∨ (i.1 = "row" ∧ 2 ≤ i.2.length ∧ i.2.length ≤ 1000) ∨ (i.1 = "bar" ∧ i.2.length = 2) ∨ (i.1 = "count" ∧ i.2.length = 0)
abbrev RNode (i : Str × List V) : Pr := TupP ((V.str i.1 :: i.2).map IsV)
theorem hm_len (T : Tx w K mg) {i : Str × List V} (h : HmOk i) : ∃ lo hi : Int, lenB K i.1 lo hi = true ∧ lo ≤ (i.2.length : Int) + 1 ∧ (i.2.length : Int) + 1 ≤ hi := by
  have hx := T.ex
  unfold exB at hx
  simp only [Bool.and_eq_true] at hx
  obtain ⟨x1, x2, x3, x4⟩ := hx
  rcases h with ⟨e, h⟩ | ⟨e, h⟩ | ⟨e, h⟩ | ⟨e, h⟩
  · exact ⟨4, 4, by rw [e]; exact x1, by omega, by omega⟩
  · exact ⟨3, 9999, by rw [e]; exact x2, by omega, by omega⟩
  · exact ⟨3, 3, by rw [e]; exact x3, by omega, by omega⟩
  · exact ⟨1, 1, by rw [e]; exact x4, by omega, by omega⟩
theorem ok_has_most_form (T : Tx w K mg) : Cal P w K mg base 1 "has_most_form" (PSp (ι := Str × List V) (fun i => [RNode i]) HmOk fun _ => IsB true) [] := by
  refine mk_pure T.f_has_most_form T.g_has_most_form sc_has_most_form (fun _ _ _ _ _ _ us hl => match us, hl with | [_], _ => rfl) (fun _ => rfl) (fun cdv A outer s H vs Q E i hr hp hc q => ?_)
  obtain ⟨v0, rfl, h0⟩ := PP.one hp
  obtain ⟨wd, vs⟩ := i
  obtain ⟨lo, hi, hl, h1, h2⟩ := hm_len T hc
  obtain ⟨u, hu, a, rfl, ht⟩ := len_at hl
  obtain ⟨es, n, hD⟩ := T.tab
  dsimp only at h0 h1 h2 hu
  refine ⟨_, (pss_cons (ps_if (PW.pt (pw_or (pt_not (pt_val (pe_callB (id := "isinstance") (kx_isi K) (by rfl) T.b_isinstance (by decide +kernel) (pa_cons (pv 0) (pa_cons (pe_bltn (v := .ty "tuple") rfl T.b_tuple (by decide +kernel) rfl) pa_nil))))) (pw_or (pt_cmpR (kx_eqET K hr.units0) (pv 0) (pe_tup pa_nil) (nomark _)) (pw_or (pt_not (pt_val (pe_callB (id := "isinstance") (kx_isi K) (by rfl) T.b_isinstance (by decide +kernel) (pa_cons (pe_ix (kx_ixT K) (pv 0) pe_int (fun _ _ => rfl)) (pa_cons (pe_bltn (v := .ty "str") rfl T.b_str (by decide +kernel) rfl) pa_nil))))) (pw_or1 (pt_cmpR (kx_notKd hD) (pe_ix (kx_ixT K) (pv 0) pe_int (fun _ _ => rfl)) (pe_glob (v := V.ref (He.ga K "LENGTHS")) rfl T.g_LENGTHS rfl) (by rfl))))))) (pss_one (ps_ret pe_bl)) pss_nil)
    (pss_cons (ps_asg (pe_ix (kx_ixKd K w) (pe_glob (v := V.ref (He.ga K "LENGTHS")) rfl T.g_LENGTHS rfl) (pe_ix (kx_ixT K) (pv 0) pe_int (fun _ _ => rfl)) (fun _ _ => rfl)) (kx_tup K (by rfl) (pgs_cons (pg_name (i := 1) sc_has_most_form.nd rfl (.inl rfl)) (pgs_cons (pg_name (i := 2) sc_has_most_form.nd rfl (.inl rfl)) pgs_nil))))
    (pss_one (ps_ret (pe_chain op_le op_le (pv 1) (pe_callB (id := "len") (kx_len K) (by rfl) T.b_len (by decide +kernel) (pa_cons (pv 0) pa_nil)) (pv 2)))))), ?_⟩
  have h0' : TupP (IsS wd :: vs.map IsV) H v0 := h0
  have ix0 : ∀ {H' : Hp} {σ : L2.St} {v : V}, TupP (IsS wd :: vs.map IsV) H' v → σ[0]? = some (some v) → EvR (tOp (rIxT K) (tVar 0) (tC (.int 0))) σ H' (IsS wd) := fun r e => er_ixT (ps := IsS wd :: vs.map IsV) (p := IsS wd) (er_var r e) er_c
  refine q_pass (eb_or (a := false) (b := false) (eb_not (a := true) (eb_B (er_isT (er_var h0') er_c))) fun _ => eb_or (a := false) (b := false) (eb_test (EvR.is (ev_eqET (er_var h0') (er_tup ea_nil (by decide))) (by rfl))) fun _ => eb_or (a := false) (b := false) (eb_not (a := true) (eb_B (er_isi (ix0 h0' rfl) er_c (.ty "str") (fun H v h => by cases h; exact .base (.str _)) (by rfl)))) fun _ => eb_test (er_op (A := IsS wd) (B := IsV (.ref (He.ga K "LENGTHS"))) (ix0 h0' rfl) er_c fun v w' H2 e2 g1 g2 Q q => ⟨wd, _, g1, g2, hu, q _ H2 (Same.refl _) rfl⟩)) fun H1 e1 => ?_
  have h01 := MX.mx e1 h0'
  refine q_asg (R := KTup K [.int lo, .int hi]) (er_op (A := IsV (.ref (He.ga K "LENGTHS"))) (B := IsS wd) er_c (ix0 h01 rfl) fun v w' H2 e2 g1 g2 Q q => ⟨_, wd, .ref a, g1, g2, ⟨es, n, _, hD.at_, hD.lit, hu, rfl⟩, q _ H2 (Same.refl _) (ht H2)⟩) fun v2 H2 e2 r2 => eg_ktup2 r2 ?_
  have h02 := MX.mx e2 h01
  refine s_ret (EvR.is (er_chain (a := true) (b := true) (A := IsI lo) (B := IsI ((IsS wd :: vs.map IsV).length : Int)) er_v (ev_lenT (er_var h02)) (fun v w H1 _ g1 g2 Q q => r_I0 (congrArg V.bl (decide_eq_true (by simp; omega))) g1 g2 q) (fun _ => er_v) (fun _ v w H1 _ g1 g2 Q q => r_I0 (congrArg V.bl (decide_eq_true (by simp; omega))) g1 g2 q)) (by rfl)) fun v H3 e3 r3 => q v H3 ((e1.trans e2).trans e3) r3
end
end K43
set_option Elab.async false
set_option linter.all false
/-! # KM5: the search's inputs: measure, trees -/
namespace K43
open PySem K43S
abbrev Ins := List (Option Bool)
abbrev Tks := List (List (Option Nat))
def cntN {α : Type} : List (Option α) → Nat
  | [] => 0
  | none :: l => cntN l + 1
  | some _ :: l => cntN l
theorem cntN_set {α : Type} {x : α} : ∀ {l : List (Option α)} {i : Nat}, l[i]? = some none → cntN (l.set i (some x)) + 1 = cntN l
  | [], i, h => by simp at h
  | none :: l, 0, h => rfl
  | some _ :: l, 0, h => by simp at h
  | none :: l, i + 1, h => by
    have := cntN_set (l := l) (i := i) (x := x) (by simpa using h)
    show cntN (l.set i (some x)) + 1 + 1 = cntN l + 1
    omega
  | some _ :: l, i + 1, h => cntN_set (l := l) (i := i) (by simpa using h)
theorem cntN_pos {α : Type} : ∀ {l : List (Option α)} {i : Nat}, l[i]? = some none → 0 < cntN l
  | [], i, h => by simp at h
  | none :: l, _, h => Nat.succ_pos _
  | some _ :: l, 0, h => by simp at h
  | some _ :: l, i + 1, h => cntN_pos (l := l) (i := i) (by simpa using h)
def tksN (t : Tks) : Nat := (t.map cntN).sum
theorem tksN_set : ∀ {t : Tks} {k : Nat} {y : List (Option Nat)}, k < t.length → tksN (t.set k y) + cntN (t.getD k []) = tksN t + cntN y
  | [], k, y, h => by simp at h
  | a :: t, 0, y, h => by
    show cntN y + tksN t + cntN a = cntN a + tksN t + cntN y
    omega
  | a :: t, k + 1, y, h => by
    have := tksN_set (t := t) (k := k) (y := y) (by simpa using h)
    show cntN a + tksN (t.set k y) + cntN (t.getD k []) = cntN a + tksN t + cntN y
    omega
def meas (inside : Ins) (taken : Tks) : Nat := cntN inside + tksN taken
def setTk (taken : Tks) (k j way : Nat) : Tks := taken.set k ((taken.getD k []).set j (some way))
theorem meas_row {inside : Ins} {taken : Tks} {k j way : Nat} (hk : k < taken.length) (h : (taken.getD k [])[j]? = some none) : meas inside (setTk taken k j way) + 1 = meas inside taken := by
  have h1 := tksN_set (y := (taken.getD k []).set j (some way)) hk
  have h2 := cntN_set (x := way) h
  unfold meas setTk
  omega
theorem meas_thing {inside : Ins} {taken : Tks} {k : Nat} {b : Bool} (h : inside[k]? = some none) : meas (inside.set k (some b)) taken + 1 = meas inside taken := by
  have h2 := cntN_set (x := b) h
  unfold meas
  omega
theorem getD_set5 {α : Type} {l : List α} {i j : Nat} {x d : α} (hi : i < l.length) : (l.set i x).getD j d = if i = j then x else l.getD j d := by
  rw [List.getD_eq_getElem?_getD, List.getElem?_set, List.getD_eq_getElem?_getD]
  by_cases h : i = j
  · rw [if_pos h, if_pos h, if_pos hi]; rfl
  · rw [if_neg h, if_neg h]
/-! ### the input -/
structure ThOk (things : Things) : Prop where
  few : things.length ≤ 3
  rows : ∀ s ∈ things, s.length ≤ 2
  ways : ∀ s ∈ things, ∀ r ∈ s, 1 ≤ r.length ∧ r.length ≤ 3
  wants : ∀ s ∈ things, ∀ r ∈ s, ∀ y ∈ r, y.length ≤ 2
  sh : ∀ s ∈ things, ∀ r ∈ s, ∀ y ∈ r, ∀ x ∈ y, x.shades.length ≤ 10
  pos : ∀ s ∈ things, ∀ r ∈ s, ∀ y ∈ r, ∀ x ∈ y, 0 ≤ x.many
structure SeOk (ps : List Prt) (things : Things) (inside : Ins) (taken : Tks) : Prop where
  hp : HeapOk ps
  th : ThOk things
  it : OkIT things inside taken
  tl : ∀ k, (taken.getD k []).length = (things.getD k []).length
theorem getD_mem {α : Type} {l : List α} {i : Nat} {d : α} (h : i < l.length) : l.getD i d ∈ l := List.mem_of_getElem? (getD_of h)
theorem rng_flat_len {α : Type} (n c : Nat) (f : Nat → List α) (h : ∀ k, k < n → (f k).length ≤ c) : ((List.range n).map f).flatten.length ≤ n * c := by
  induction n with
  | zero => simp
  | succ n ih =>
    rw [List.range_succ, List.map_append, List.flatten_append, List.length_append]
    have h1 := ih fun k hk => h k (by omega)
    have h2 := h n (by omega)
    simp only [List.map_cons, List.map_nil, List.flatten_cons, List.flatten_nil, List.append_nil]
    rw [Nat.succ_mul]
    omega
theorem flat_len {α β : Type} (l : List α) (c : Nat) (f : α → List β) (h : ∀ a ∈ l, (f a).length ≤ c) : (l.map f).flatten.length ≤ l.length * c := by
  induction l with
  | nil => simp
  | cons a l ih =>
    have h1 := ih fun b hb => h b (List.mem_cons_of_mem _ hb)
    have h2 := h a List.mem_cons_self
    simp only [List.map_cons, List.flatten_cons, List.length_append, List.length_cons]
    rw [Nat.succ_mul]
    omega
theorem takenAt_way {p : Row × Option Nat} (h : ∀ w, p.2 = some w → w < p.1.length) : takenAt p = [] ∨ takenAt p ∈ p.1 := by
  unfold takenAt
  cases e : p.2 with
  | none => exact .inl rfl
  | some w => exact .inr (getD_mem (h w e))
theorem tw_len {s : Sheet} {t : List (Option Nat)} (ok : OkTk s t) (hr : s.length ≤ 2) (hy : ∀ r ∈ s, ∀ y ∈ r, y.length ≤ 2) : (takenWants s t).length ≤ 4 := by
  unfold takenWants
  have h1 := flat_len (s.zip t) 2 takenAt fun p hp => by
    rcases takenAt_way (ok p hp) with e | e
    · rw [e]; exact Nat.zero_le _
    · exact hy _ (List.of_mem_zip hp).1 _ e
  have h2 : (s.zip t).length ≤ 2 := by rw [List.length_zip]; omega
  omega
theorem tw_mem {s : Sheet} {t : List (Option Nat)} (ok : OkTk s t) {x : Want} (h : x ∈ takenWants s t) : ∃ r ∈ s, ∃ y ∈ r, x ∈ y := by
  unfold takenWants at h
  rw [List.mem_flatten] at h
  obtain ⟨l, hl, hx⟩ := h
  obtain ⟨p, hp, rfl⟩ := List.mem_map.mp hl
  rcases takenAt_way (ok p hp) with e | e
  · rw [e] at hx; cases hx
  · exact ⟨_, (List.of_mem_zip hp).1, _, e, hx⟩
section
variable {ps : List Prt} {things : Things} {inside : Ins} {taken : Tks}
theorem wantsIn_len (th : ThOk things) (it : OkIT things inside taken) : (wantsIn things inside taken).length ≤ 12 := by
  unfold wantsIn
  have := rng_flat_len things.length 4 (fun k => if inside.getD k none = some true then takenWants (things.getD k []) (taken.getD k []) else []) fun k hk => by
    show (if inside.getD k none = some true then takenWants (things.getD k []) (taken.getD k []) else []).length ≤ 4
    split
    · exact tw_len (it.ok k) (th.rows _ (getD_mem hk)) fun r hr y hy => th.wants _ (getD_mem hk) r hr y hy
    · exact Nat.zero_le _
  have := th.few
  omega
theorem wantsIn_mem (it : OkIT things inside taken) {x : Want} (h : x ∈ wantsIn things inside taken) : ∃ s ∈ things, ∃ r ∈ s, ∃ y ∈ r, x ∈ y := by
  unfold wantsIn at h
  rw [List.mem_flatten] at h
  obtain ⟨l, hl, hx⟩ := h
  obtain ⟨k, hk, rfl⟩ := List.mem_map.mp hl
  rw [List.mem_range] at hk
  split at hx
  · obtain ⟨r, hr, y, hy, h⟩ := tw_mem (it.ok k) hx
    exact ⟨_, getD_mem hk, r, hr, y, hy, h⟩
  · cases hx
theorem SeOk.wants (h : SeOk ps things inside taken) : WantsOk (wantsIn things inside taken) where
  few := Nat.le_trans (wantsIn_len h.th h.it) (by decide)
  sh := fun x hx => by
    obtain ⟨s, hs, r, hr, y, hy, hz⟩ := wantsIn_mem h.it hx
    exact Nat.le_trans (h.th.sh s hs r hr y hy x hz) (by decide)
  pos := fun x hx => by
    obtain ⟨s, hs, r, hr, y, hy, hz⟩ := wantsIn_mem h.it hx
    exact h.th.pos s hs r hr y hy x hz
theorem SeOk.row (h : SeOk ps things inside taken) {k j way : Nat} (hk : k < things.length) (hj : j < (things.getD k []).length) (hw : way < ((things.getD k []).getD j []).length) : SeOk ps things inside (setTk taken k j way) := by
  have hk2 : k < taken.length := by rw [h.it.lt]; exact hk
  refine ⟨h.hp, h.th, ⟨h.it.li, by unfold setTk; rw [List.length_set]; exact h.it.lt, fun m => ?_⟩, fun m => ?_⟩
  · unfold setTk
    rw [getD_set5 hk2]
    by_cases e : k = m
    · subst e
      rw [if_pos rfl]
      rintro ⟨r, o⟩ hp w (rfl : o = some w)
      obtain ⟨i, hi⟩ := List.mem_iff_getElem?.mp hp
      rw [List.getElem?_zip_eq_some] at hi
      obtain ⟨h1, h2⟩ := hi
      rw [List.getElem?_set] at h2
      by_cases e2 : j = i
      · subst e2
        rw [if_pos rfl] at h2
        split at h2
        · have e3 : w = way := by simpa using h2.symm
          rw [List.getD_eq_getElem?_getD, h1] at hw
          rw [e3]
          exact hw
        · cases h2
      · rw [if_neg e2] at h2
        exact h.it.ok k (r, some w) (List.mem_iff_getElem?.mpr ⟨i, by rw [List.getElem?_zip_eq_some]; exact ⟨h1, h2⟩⟩) w rfl
    · rw [if_neg e]
      exact h.it.ok m
  · unfold setTk
    rw [getD_set5 hk2]
    by_cases e : k = m
    · subst e
      rw [if_pos rfl, List.length_set]
      exact h.tl k
    · rw [if_neg e]
      exact h.tl m
theorem SeOk.thing (h : SeOk ps things inside taken) {k : Nat} {b : Bool} : SeOk ps things (inside.set k (some b)) taken := ⟨h.hp, h.th, ⟨by rw [List.length_set]; exact h.it.li, h.it.lt, h.it.ok⟩, h.tl⟩
theorem openRow_some {k j : Nat} (h : openRow inside taken = some (k, j)) : k < inside.length ∧ inside[k]? = some (some true) ∧ (taken.getD k [])[j]? = some none := by
  unfold openRow at h
  rw [Option.map_eq_some_iff] at h
  obtain ⟨i, h1, h2⟩ := h
  cases h2
  have h3 := List.mem_of_find?_eq_some h1
  rw [List.mem_range] at h3
  have h4 := List.find?_some h1
  unfold openAt at h4
  simp only [Bool.and_eq_true, decide_eq_true_eq] at h4
  refine ⟨h3, by rw [getD_of h3 (d := none), h4.1], ?_⟩
  have hmem : none ∈ taken.getD k [] := by simpa using h4.2
  have hj : ((taken.getD k []).findIdx (· == none)) < (taken.getD k []).length := List.findIdx_lt_length_of_exists ⟨none, hmem, rfl⟩
  rw [List.getElem?_eq_getElem hj]
  have := List.findIdx_getElem (w := hj)
  simpa using this
theorem openRow_none (h : openRow inside taken = none) {k : Nat} (hk : k < inside.length) (hi : inside.getD k none = some true) : none ∉ taken.getD k [] := fun hm => by
  unfold openRow at h
  rw [Option.map_eq_none_iff, List.find?_eq_none] at h
  have := h k (List.mem_range.mpr hk)
  unfold openAt at this
  exact this (by simp only [Bool.and_eq_true, decide_eq_true_eq]; exact ⟨hi, by simpa using hm⟩)
end
/-! ### trees -/
inductive Tree where
  | count : Tree
  | bar : Str → Option (List Str) → Tree
  | row : Nat → Nat → List Tree → Tree
  | thing : Nat → Tree → Tree → Tree
/-- how many may yet be in -/
def freeN (inside : Ins) : Int := (inside.length : Int) - (inside.count (some false) : Nat)
inductive TreeOk (ps : List Prt) (things : Things) (limit : Int) : Ins → Tks → Tree → Prop
  | count {inside taken} : freeN inside ≤ limit → TreeOk ps things limit inside taken .count
  | bar {inside taken form o} : BarP ps (wantsIn things inside taken) form o → TreeOk ps things limit inside taken (.bar form o)
  | row {inside taken k j kids} : k < things.length → inside[k]? = some (some true) → (taken.getD k [])[j]? = some none → j < (things.getD k []).length → kids.length = ((things.getD k []).getD j []).length →
      (∀ way t, kids[way]? = some t → TreeOk ps things limit inside (setTk taken k j way) t) → TreeOk ps things limit inside taken (.row k j kids)
  | thing {inside taken k a b} : k < things.length → inside[k]? = some none → TreeOk ps things limit (inside.set k (some true)) taken a → TreeOk ps things limit (inside.set k (some false)) taken b → TreeOk ps things limit inside taken (.thing k a b)
/-! ### what is found -/
def placesOf (n : Nat) (inside : Ins) : List Nat := (List.range n).filter fun k => decide (inside.getD k none = some true)
def choiceOf (taken : Tks) (places : List Nat) : List Nat := (places.map fun k => (taken.getD k []).map (·.getD 0)).flatten
theorem flat_if {α β : Type} (p : α → Bool) (f : α → List β) (l : List α) : (l.map fun k => if p k = true then f k else []).flatten = ((l.filter p).map f).flatten := by
  induction l with
  | nil => rfl
  | cons a l ih =>
    rw [List.map_cons, List.flatten_cons, ih]
    by_cases h : p a = true
    · rw [if_pos h, List.filter_cons_of_pos h, List.map_cons, List.flatten_cons]
    · rw [if_neg h, List.filter_cons_of_neg h]; rfl
theorem tw_all : ∀ {s : Sheet} {t : List (Option Nat)}, t.length = s.length → none ∉ t → takenWants s t = wantsOf s (t.map (·.getD 0))
  | [], [], _, _ => rfl
  | [], _ :: _, h, _ => by simp at h
  | _ :: _, [], h, _ => by simp at h
  | r :: s, none :: t, _, hn => absurd List.mem_cons_self hn
  | r :: s, some w :: t, h, hn => by
    have ih := tw_all (s := s) (t := t) (by simpa using h) fun z => hn (List.mem_cons_of_mem _ z)
    unfold takenWants wantsOf at ih ⊢
    rw [List.map_cons, List.zip_cons_cons, List.zip_cons_cons, List.map_cons, List.map_cons, List.flatten_cons, List.flatten_cons, ih]
    rfl
theorem wantsOf_append {s s' : Sheet} {c c' : List Nat} (h : c.length = s.length) : wantsOf (s ++ s') (c ++ c') = wantsOf s c ++ wantsOf s' c' := by
  unfold wantsOf
  rw [List.zip_append h.symm, List.map_append, List.flatten_append]
theorem okCh_append {s s' : Sheet} {c c' : List Nat} (h : OkCh s c) (h' : OkCh s' c') : OkCh (s ++ s') (c ++ c') := by
  refine ⟨by rw [List.length_append, List.length_append, h.1, h'.1], ?_⟩
  rw [List.zip_append h.1.symm]
  intro p hp
  rcases List.mem_append.mp hp with hp | hp
  · exact h.2 p hp
  · exact h'.2 p hp
theorem okCh_of : ∀ {s : Sheet} {t : List (Option Nat)}, t.length = s.length → none ∉ t → OkTk s t → OkCh s (t.map (·.getD 0))
  | s, t, hl, hn, ok => by
    refine ⟨by rw [List.length_map]; exact hl, fun p hp => ?_⟩
    obtain ⟨i, hi⟩ := List.mem_iff_getElem?.mp hp
    rw [List.getElem?_zip_eq_some, List.getElem?_map] at hi
    obtain ⟨h1, h2⟩ := hi
    cases z : t[i]? with
    | none => rw [z] at h2; cases h2
    | some o =>
      rw [z] at h2
      cases o with
      | none => exact absurd (List.mem_of_getElem? z) hn
      | some w =>
        have e : w = p.2 := by simpa using h2
        exact ok (p.1, some p.2) (List.mem_iff_getElem?.mpr ⟨i, by rw [List.getElem?_zip_eq_some]; exact ⟨h1, by rw [z, e]⟩⟩) _ rfl
section
variable {ps : List Prt} {things : Things} {inside : Ins} {taken : Tks}
theorem found_wants {l : List Nat} (hl : ∀ k ∈ l, (taken.getD k []).length = (things.getD k []).length ∧ none ∉ taken.getD k [] ∧ OkTk (things.getD k []) (taken.getD k [])) :
    (l.map fun k => takenWants (things.getD k []) (taken.getD k [])).flatten = wantsOf (sheetOf things l) (choiceOf taken l) ∧ OkCh (sheetOf things l) (choiceOf taken l) := by
  induction l with
  | nil => exact ⟨rfl, rfl, fun p hp => by cases hp⟩
  | cons k l ih =>
    obtain ⟨i1, i2⟩ := ih fun m hm => hl m (List.mem_cons_of_mem _ hm)
    obtain ⟨h1, h2, h3⟩ := hl k List.mem_cons_self
    have o := okCh_of h1 h2 h3
    have es : sheetOf things (k :: l) = things.getD k [] ++ sheetOf things l := rfl
    have ec : choiceOf taken (k :: l) = (taken.getD k []).map (·.getD 0) ++ choiceOf taken l := rfl
    rw [es, ec]
    refine ⟨?_, okCh_append o i2⟩
    rw [wantsOf_append o.1, ← i1, List.map_cons, List.flatten_cons, tw_all h1 h2]
theorem wantsIn_places : wantsIn things inside taken = ((placesOf things.length inside).map fun k => takenWants (things.getD k []) (taken.getD k [])).flatten := by
  unfold wantsIn placesOf
  rw [← flat_if]
  simp only [decide_eq_true_eq]
theorem end_wants (h : SeOk ps things inside taken) (ho : openRow inside taken = none) : wantsIn things inside taken = wantsOf (sheetOf things (placesOf things.length inside)) (choiceOf taken (placesOf things.length inside)) ∧ OkCh (sheetOf things (placesOf things.length inside)) (choiceOf taken (placesOf things.length inside)) := by
  have := found_wants (things := things) (taken := taken) (l := placesOf things.length inside) fun k hk => by
    obtain ⟨h1, h2⟩ := List.mem_filter.mp hk
    rw [List.mem_range] at h1
    exact ⟨h.tl k, openRow_none ho (by rw [h.it.li]; exact h1) (of_decide_eq_true h2), h.it.ok k⟩
  rw [wantsIn_places]
  exact this
theorem placesOf_len : ∀ {n : Nat} {inside : Ins}, inside.length = n → none ∉ inside → ((placesOf n inside).length : Int) = freeN inside := by
  have key : ∀ (l : Ins), none ∉ l → (l.filter fun o => decide (o = some true)).length + l.count (some false) = l.length := by
    intro l
    induction l with
    | nil => intro _; rfl
    | cons o l ih =>
      intro h
      have ih := ih fun z => h (List.mem_cons_of_mem _ z)
      cases o with
      | none => exact absurd List.mem_cons_self h
      | some b => cases b <;> simp <;> omega
  intro n inside hn h0
  have e : (placesOf n inside).length = (inside.filter fun o => decide (o = some true)).length := by
    subst hn
    have e1 : inside = (List.range inside.length).map fun k => inside.getD k none := by
      apply List.ext_getElem
      · simp
      · intro i h1 h2
        simp [List.getD_eq_getElem?_getD, h1]
    have e2 : (inside.filter fun o => decide (o = some true)) = (((List.range inside.length).map fun k => inside.getD k none).filter fun o => decide (o = some true)) := by rw [← e1]
    rw [e2, List.filter_map, List.length_map]
    rfl
  have := key inside h0
  unfold freeN
  omega
end
structure FoundOk (ps : List Prt) (things : Things) (limit : Int) (places choice : List Nat) (given : List (List (Str × Int))) : Prop where
  lt : ∀ p ∈ places, p < things.length
  rise : places.Pairwise fun x y => x < y
  more : limit < places.length
  ok : OkCh (sheetOf things places) choice
  de : DealtR ps (wantsOf (sheetOf things places) choice) given
end K43
set_option Elab.async false
set_option linter.all false
set_option maxRecDepth 100000
set_option maxHeartbeats 4000000
/-! # KS7: the search: sought, by_ways, by_thing -/
namespace K43
open PySem PySem.Spec PyProof.Rows L2 K43S
open C8 (Cal Mak Met pe_c pe_mk pe_mt pe_mt0)
mutual
def RTree : Tree → Pr
  | .count => TupP [IsS "count"]
  | .bar f o => RBarN (f, o)
  | .row k j kids => TupP (IsS "row" :: RNat k :: RNat j :: RTrees kids)
  | .thing k a b => TupP [IsS "thing", RNat k, RTree a, RTree b]
def RTrees : List Tree → List Pr
  | [] => []
  | t :: ts => RTree t :: RTrees ts
end
theorem RTrees_map : ∀ ts : List Tree, RTrees ts = ts.map RTree
  | [] => by rw [RTrees]; rfl
  | t :: ts => by rw [RTrees, RTrees_map ts]; rfl
theorem RTree_count : RTree .count = TupP [IsS "count"] := by rw [RTree]
theorem RTree_bar (f : Str) (o : Option (List Str)) : RTree (.bar f o) = RBarN (f, o) := by rw [RTree]
theorem RTree_row (k j : Nat) (kids : List Tree) : RTree (.row k j kids) = TupP (IsS "row" :: RNat k :: RNat j :: kids.map RTree) := by rw [RTree, RTrees_map]
theorem RTree_thing (k : Nat) (a b : Tree) : RTree (.thing k a b) = TupP [IsS "thing", RNat k, RTree a, RTree b] := by rw [RTree]
mutual
theorem rtree_mf : ∀ (t : Tree), MF (RTree t)
  | .count => by rw [RTree_count]; infer_instance
  | .bar f o => by rw [RTree_bar]; infer_instance
  | .row k j kids => by
    haveI := rtrees_mf kids
    rw [RTree]
    infer_instance
  | .thing k a b => by
    haveI := rtree_mf a
    haveI := rtree_mf b
    rw [RTree_thing]
    infer_instance
theorem rtrees_mf : ∀ (ts : List Tree), MFs (RTrees ts)
  | [] => by rw [RTrees]; infer_instance
  | t :: ts => by
    haveI := rtree_mf t
    haveI := rtrees_mf ts
    rw [RTrees]
    infer_instance
end
instance {t : Tree} : MF (RTree t) := rtree_mf t
section
variable {P : Program} {w : World} {K : PySem.W.Frag} {mg : Str → Option Value} {base : Heap}
section
variable {σ : L2.St} {H : Hp} {ta tk tx : TE}
/-- l[:k] + [x] + l[k + 1:] -/
theorem er_put {α : Type} {R : α → Pr} [∀ x, MX (R x)] {xs : List α} {k : Nat} {y : α} (ha : EvR ta σ H (LstOf R xs)) (hk : EvR tk σ H (RNat k)) (hx : EvR tx σ H (R y)) (hl : k < xs.length) (hz : xs.length ≤ 1000) :
    EvR (tOp rCat (tOp rCat (tSl (rSlL K) ta tNoPart (tPart tk)) (tLst (tCons tx tNil))) (tSl (rSlL K) ta (tPart (tOp (rI0 fun i j => V.int (i + j)) tk (tC (.int 1)))) tNoPart)) σ H (LstOf R (xs.set k y)) := by
  have h1 := er_slL (K := K) ha eo_none (eo_some hk)
  rw [cutP_to (by rw [List.length_map]; omega), ← List.map_take] at h1
  have h2 : EvR (tLst (tCons tx tNil)) σ H (LstOf R [y]) := er_lst (ps := [R y]) (ea1 hx) (by simp)
  have h3 := er_slL (K := K) ha (eo_some (i := ((k + 1 : Nat) : Int)) (EvR.is (er_I0 (g := fun i j => V.int (i + j)) hk (er_c (v := .int 1))) (by show V.int ((k : Int) + 1) = _; congr 1))) eo_none
  rw [cutP_from (by rw [List.length_map]; omega), ← List.map_drop] at h3
  have h4 := er_catLO (er_catLO h1 h2 (by rw [List.length_take]; simp; omega)) h3 (by rw [List.length_append, List.length_take, List.length_drop]; simp; omega)
  have e : xs.set k y = xs.take k ++ [y] ++ xs.drop (k + 1) := by
    rw [List.set_eq_take_append_cons_drop, if_pos hl, List.append_assoc]
    rfl
  rw [e]
  exact h4
end
theorem cnt_false (l : Ins) : l.countP (fun y => PyData.eqv (pyV (vOB y)) (pyV (.bl false))) = l.count (some false) := by
  unfold List.count
  refine List.countP_congr fun o _ => ?_
  cases o with
  | none => simp [vOB, pyV, PyData.eqv]
  | some b => cases b <;> simp [vOB, pyV, PyData.eqv]
theorem inVB_none (l : Ins) : inV .non (l.map vOB) = l.contains none := by
  induction l with
  | nil => rfl
  | cons o l ih => cases o <;> simp_all [inV, eqV, vOB]
abbrev SI := List Prt × Things × Ins × Tks × Int
abbrev ASI (C : Addr) (i : SI) : List Pr := [RHeap C i.1, RThings i.2.1, RInside i.2.2.1, RTaken i.2.2.2.1, IsI i.2.2.2.2]
def RSought (i : SI) : Pr := fun H v => (∃ t, TreeOk i.1 i.2.1 i.2.2.2.2 i.2.2.1 i.2.2.2.1 t ∧ TupP [IsN, RTree t] H v) ∨ (∃ places choice given, FoundOk i.1 i.2.1 i.2.2.2.2 places choice given ∧ TupP [TupP [TupOf RNat places, RDealing (choice, given)], IsN] H v)
def SIok (i : SI) (n : Nat) : Prop := SeOk i.1 i.2.1 i.2.2.1 i.2.2.2.1 ∧ meas i.2.2.1 i.2.2.2.1 < n
abbrev spSo (C : Addr) (n : Nat) : Sp := PSp (ι := SI) (ASI C) (fun i => SIok i n) RSought
abbrev spBW (C : Addr) (n : Nat) : Sp := PSp (ι := SI × Nat × Nat) (fun i => [RHeap C i.1.1, RThings i.1.2.1, RInside i.1.2.2.1, RTaken i.1.2.2.2.1, IsI i.1.2.2.2.2, TupP [RNat i.2.1, RNat i.2.2]]) (fun i => SIok i.1 n ∧ openRow i.1.2.2.1 i.1.2.2.2.1 = some i.2) fun i => RSought i.1
abbrev spBT (C : Addr) (n : Nat) : Sp := PSp (ι := SI) (ASI C) (fun i => SIok i n ∧ none ∈ i.2.2.1) RSought
-- slots: 0 heap, 1 things, 2 inside (cell), 3 taken, 4 limit, 5 row, 6 places, 7 choice, 8 k, 9 word, 10 thing
abbrev N_sought : List Str := ["heap", "things", "inside", "taken", "limit", "row", "places", "choice", "k", "word", "thing"]
theorem sc_sought : FnScope N_sought ["heap", "things", "inside", "taken", "limit"] (defScope s_sought) := ⟨rfl, rfl, rfl, by decide +kernel, rfl, by decide +kernel, by decide +kernel⟩
-- slots: 0 heap, 1 things, 2 inside, 3 taken, 4 limit, 5 row, 6 node, 7 way, 8 k, 9 j, 10 own, 11 found, 12 tree
abbrev N_by_ways : List Str := ["heap", "things", "inside", "taken", "limit", "row", "node", "way", "k", "j", "own", "found", "tree"]
theorem sc_by_ways : FnScope N_by_ways ["heap", "things", "inside", "taken", "limit", "row"] (defScope s_by_ways) := ⟨rfl, rfl, rfl, by decide +kernel, rfl, by decide +kernel, by decide +kernel⟩
-- slots: 0 heap, 1 things, 2 inside, 3 taken, 4 limit, 5 k, 6 node, 7 truth, 8 found, 9 tree
abbrev N_by_thing : List Str := ["heap", "things", "inside", "taken", "limit", "k", "node", "truth", "found", "tree"]
theorem sc_by_thing : FnScope N_by_thing ["heap", "things", "inside", "taken", "limit"] (defScope s_by_thing) := ⟨rfl, rfl, rfl, by decide +kernel, rfl, by decide +kernel, by decide +kernel⟩
theorem by_ways_of (T : Tx w K mg) (n : Nat) (cs : Cal P w K mg base (8 + 2 * n) "sought" (spSo (CH K) n) []) : Cal P w K mg base (8 + 2 * n + 1) "by_ways" (spBW (CH K) (n + 1)) [] := by
  refine mk_pure (k := 8 + 2 * n) T.f_by_ways T.g_by_ways sc_by_ways (fun _ _ _ _ _ _ us hl => match us, hl with | [_, _, _, _, _, _], _ => rfl) (fun _ => rfl) (fun cdv A outer s H vs Q E i hr hp hc q => ?_)
  obtain ⟨v0, v1, v2, v3, v4, v5, rfl, h0, h1, h2, h3, h4, h5⟩ := PP.six hp
  obtain ⟨⟨ps, things, inside, taken, limit⟩, k, j⟩ := i
  obtain ⟨⟨hse, hme⟩, hop⟩ := hc
  dsimp only at hse hme hop h0 h1 h2 h3 h4 h5
  obtain ⟨hki, hin, hno⟩ := openRow_some hop
  have hli := hse.it.li
  have hlt := hse.it.lt
  have hk : k < things.length := by omega
  have hj : j < (taken.getD k []).length := (List.getElem?_eq_some_iff.mp hno).1
  have hjs : j < (things.getD k []).length := by rw [← hse.tl k]; exact hj
  have h3l := hse.th.few
  have hsm := getD_mem (d := []) hk
  have hrm := getD_mem (d := []) hjs
  have hrl := hse.th.ways _ hsm _ hrm
  have hsl := hse.th.rows _ hsm
  refine ⟨_, (pss_cons (ps_asg (pv 5) (kx_tup K (by rfl) (pgs_cons (pg_name (i := 8) sc_by_ways.nd rfl (.inl rfl)) (pgs_cons (pg_name (i := 9) sc_by_ways.nd rfl (.inl rfl)) pgs_nil))))
    (pss_cons (ps_set (i := 6) sc_by_ways.nd rfl (.inl rfl) (pe_tup (pa_cons pe_str (pa_cons (pv 8) (pa_cons (pv 9) pa_nil)))))
    (pss_cons (ps_for PassesOwn.never rfl (pi_range1 rfl T.b_range (pa_cons (pe_callB (id := "len") (kx_len K) (by rfl) T.b_len (by decide +kernel) (pa_cons (pe_ix (kx_ixT K) (pe_ix (kx_ixT K) (pv 1) (pv 8) (fun _ _ => rfl)) (pv 9) (fun _ _ => rfl)) pa_nil)) pa_nil)) (pg_name (i := 7) sc_by_ways.nd rfl (.inl rfl))
      (pss_cons (ps_set (i := 10) sc_by_ways.nd rfl (.inl rfl) (pe_op op_cat (pe_op op_cat (pe_slice (kx_slL K) (pe_ix (kx_ixL K) (pv 3) (pv 8) (fun _ _ => rfl)) po_none (po_some (pv 9))) (pe_lst (pa_cons (pv 7) pa_nil))) (pe_slice (kx_slL K) (pe_ix (kx_ixL K) (pv 3) (pv 8) (fun _ _ => rfl)) (po_some (pe_op op_add (pv 9) pe_int)) po_none)))
    (pss_cons (ps_asg (pe_c cs hr (by omega) rfl (pa_cons (pv 0) (pa_cons (pv 1) (pa_cons (pv 2) (pa_cons (pe_op op_cat (pe_op op_cat (pe_slice (kx_slL K) (pv 3) po_none (po_some (pv 8))) (pe_lst (pa_cons (pv 10) pa_nil))) (pe_slice (kx_slL K) (pv 3) (po_some (pe_op op_add (pv 8) pe_int)) po_none)) (pa_cons (pv 4) pa_nil)))))) (kx_tup K (by rfl) (pgs_cons (pg_name (i := 11) sc_by_ways.nd rfl (.inl rfl)) (pgs_cons (pg_name (i := 12) sc_by_ways.nd rfl (.inl rfl)) pgs_nil))))
    (pss_cons (ps_if (pt_cmp (pc_notN (pv 11))) (pss_one (ps_ret (pe_tup (pa_cons (pv 11) (pa_cons pe_non pa_nil))))) pss_nil)
    (pss_one (ps_set (i := 6) sc_by_ways.nd rfl (.inl rfl) (pe_op (kx_catA K) (pv 6) (pe_tup (pa_cons (pv 12) pa_nil)))))))))
    (pss_one (ps_ret (pe_tup (pa_cons pe_non (pa_cons (pv 6) pa_nil)))))))), ?_⟩
  refine q_asg (er_var h5) fun v H1 e1 r => eg_tup2 r fun u8 u9 g8 g9 => ?_
  refine q_set (er_tup (ps := [IsS "row", RNat k, RNat j]) (ea_cons er_c (ea2 (er_var g8) (er_var g9))) (by simp)) fun u6 H2 e2 r6 => ?_
  have s2 := e1.trans e2
  have g82 := MX.mx e2 g8
  have g92 := MX.mx e2 g9
  refine q_forS (ei_rng (n := (((things.getD k []).getD j []).length : Int)) (ea1 (ev_lenTO (R := RWay) (er_ixTO (R := RRow) (x := (things.getD k []).getD j []) (er_ixTO (R := RSheet) (x := things.getD k []) (er_var (MX.mx s2 h1)) (er_var g82) (by omega) (by simpa using getD_of hk)) (er_var g92) (by omega) (by simpa using getD_of hjs)))) (by omega) (by omega))
    (fun i σ' Hc => ∃ (kids : List Tree) (v6 : V) (v7 v10 v11 v12 : Option V), σ' = [some v0, some v1, some v2, some v3, some v4, some v5, some v6, v7, some u8, some u9, v10, v11, v12] ∧ kids.length = i ∧ (∀ way t, kids[way]? = some t → TreeOk ps things limit inside (setTk taken k j way) t) ∧ TupP (IsS "row" :: RNat k :: RNat j :: kids.map RTree) Hc v6)
    (fun H3 e3 => ⟨[], u6, none, none, none, none, rfl, rfl, (fun way t h => by simp at h), MX.mx e3 r6⟩) ?_ ?_
  · rintro i x v σ' Hc Hx N hx sc ⟨kids, v6, v7, v10, v11, v12, rfl, hkl, hkt, r6⟩ sx r n
    obtain ⟨hil, hxi⟩ : i < ((things.getD k []).getD j []).length ∧ x = i := by
      obtain ⟨h6, h7⟩ := List.getElem?_eq_some_iff.mp hx
      simp at h6 h7
      exact ⟨h6, h7.symm⟩
    subst hxi
    have s3 := (s2.trans sc).trans sx
    have g83 := MX.mx (sc.trans sx) g82
    have g93 := MX.mx (sc.trans sx) g92
    have h33 := MX.mx s3 h3
    refine eg_name (q_set (er_put (R := RON) (xs := taken.getD k []) (y := some x) (er_ixLO (R := RTk) (x := taken.getD k []) (er_var h33) (er_var g83) (by omega) (by simpa using getD_of (show k < taken.length by omega))) (er_var g93) (er_var r) hj (by rw [hse.tl k]; omega)) fun u10 H4 e4 r10 => ?_)
    have s4 := s3.trans e4
    have hse2 := hse.row hk hjs hil
    have hm2 := meas_row (inside := inside) (way := x) (show k < taken.length by omega) hno
    refine q_asg (er_call (ps, things, inside, setTk taken k j x, limit) (ea_cons (er_var (MX.mx s4 h0)) (ea_cons (er_var (MX.mx s4 h1)) (ea_cons (er_var (MX.mx s4 h2)) (ea2 (er_put (R := RTk) (xs := taken) (k := k) (er_var (MX.mx s4 h3)) (er_var (MX.mx e4 g83)) (er_var r10) (by omega) (by omega)) (er_var (MX.mx s4 h4)))))) ⟨hse2, by show meas inside (setTk taken k j x) < _; omega⟩) fun vr H5 e5 rr => ?_
    rcases rr with ⟨t, ht, rr⟩ | ⟨places, choice, given, hf, rr⟩
    · refine eg_tup2 rr fun u11 u12 g11 g12 => ?_
      refine q_pass (eb_test (EvR.is (er_notN (x := .non) (er_var g11)) rfl)) fun H6 e6 => ?_
      have r66 := MX.mx ((sx.trans e4).trans (e5.trans e6)) r6
      have ee : (IsS "row" :: RNat k :: RNat j :: kids.map RTree) ++ [RTree t] = IsS "row" :: RNat k :: RNat j :: (kids ++ [t]).map RTree := by rw [List.map_append]; rfl
      haveI : MXs ((IsS "row" :: RNat k :: RNat j :: kids.map RTree) ++ [RTree t]) := by rw [ee]; infer_instance
      refine s_set (er_catT (ps := IsS "row" :: RNat k :: RNat j :: kids.map RTree) (qs := [RTree t]) (er_var r66) (er_tup (ps := [RTree t]) (ea1 (er_var (MX.mx e6 g12))) (by simp)) (by simp; omega)) fun u6' H7 e7 r7 => ?_
      rw [ee] at r7
      refine n _ _ ((e4.trans e5).trans (e6.trans e7)) ⟨kids ++ [t], u6', _, _, _, _, rfl, by simp [hkl], fun way t' hw => ?_, r7⟩
      rw [List.getElem?_append] at hw
      split at hw
      · exact hkt way t' hw
      · rename_i h6
        have h7 : way - kids.length = 0 := by
          have := (List.getElem?_eq_some_iff.mp hw).1
          simp at this
          omega
        have h8 : way = x := by omega
        rw [h7] at hw
        have h9 : t = t' := by simpa using hw
        subst h9
        subst h8
        exact ht
    · refine eg_tup2 rr fun u11 u12 g11 g12 => ?_
      refine q_if (b := true) (eb_test (EvR.is (er_notNR (R := TupP [TupOf RNat places, RDealing (choice, given)]) (er_var g11) fun H v ⟨a, _, e, _⟩ => by subst e; rfl) rfl)) (fun _ H6 e6 => ?_) fun z => by cases z
      exact s_ret (er_tup (ps := [TupP [TupOf RNat places, RDealing (choice, given)], IsN]) (ea2 (er_var (MX.mx e6 g11)) er_c) (by simp)) fun v H7 e7 r7 => q v H7 ((s4.trans e5).trans (e6.trans e7)) (.inr ⟨places, choice, given, hf, r7⟩)
  · rintro σ' Hc sc ⟨kids, v6, v7, v10, v11, v12, rfl, hkl, hkt, r6⟩
    have hkl2 : kids.length = ((things.getD k []).getD j []).length := by rw [hkl]; simp
    exact s_ret (er_tup (ps := [IsN, TupP (IsS "row" :: RNat k :: RNat j :: kids.map RTree)]) (ea2 er_c (er_var r6)) (by simp)) fun v H3 e3 r3 => q v H3 ((s2.trans sc).trans e3) (.inl ⟨.row k j kids, .row hk hin hno hjs hkl2 hkt, by rw [RTree_row]; exact r3⟩)
theorem by_thing_of (T : Tx w K mg) (n : Nat) (cs : Cal P w K mg base (8 + 2 * n) "sought" (spSo (CH K) n) []) : Cal P w K mg base (8 + 2 * n + 1) "by_thing" (spBT (CH K) (n + 1)) [] := by
  refine mk_pure (k := 8 + 2 * n) T.f_by_thing T.g_by_thing sc_by_thing (fun _ _ _ _ _ _ us hl => match us, hl with | [_, _, _, _, _], _ => rfl) (fun _ => rfl) (fun cdv A outer s H vs Q E i hr hp hc q => ?_)
  obtain ⟨v0, v1, v2, v3, v4, rfl, h0, h1, h2, h3, h4⟩ := PP.five hp
  obtain ⟨ps, things, inside, taken, limit⟩ := i
  obtain ⟨⟨hse, hme⟩, hmem⟩ := hc
  dsimp only at hse hme hmem h0 h1 h2 h3 h4
  have hli := hse.it.li
  have h3l := hse.th.few
  obtain ⟨k, hk, hkn⟩ : ∃ k, inside[k]? = some none ∧ ∀ m z, m < k → inside[m]? = some z → z ≠ none := by
    have hj : (inside.findIdx (· == none)) < inside.length := List.findIdx_lt_length_of_exists ⟨none, hmem, rfl⟩
    refine ⟨inside.findIdx (· == none), ?_, fun m z hm hz e => ?_⟩
    · rw [List.getElem?_eq_getElem hj]
      have := List.findIdx_getElem (w := hj)
      simpa using this
    · subst e
      have h5 := List.not_of_lt_findIdx hm
      obtain ⟨h6, h7⟩ := List.getElem?_eq_some_iff.mp hz
      rw [h7] at h5
      simp at h5
  have hkl : k < inside.length := (List.getElem?_eq_some_iff.mp hk).1
  refine ⟨_, (pss_cons (ps_set (i := 5) sc_by_thing.nd rfl (.inl rfl) (kx_bm K PySem.F.plainAttrs_list PySem.F.slot_list_index PySem.F.type_list_index (kx_index K) (pv 2) (pa_cons pe_non pa_nil)))
    (pss_cons (ps_set (i := 6) sc_by_thing.nd rfl (.inl rfl) (pe_tup (pa_cons pe_str (pa_cons (pv 5) pa_nil))))
    (pss_cons (ps_for PassesOwn.never rfl (kx_pi_tup K (pe_tup (pa_cons pe_bl (pa_cons pe_bl pa_nil)))) (pg_name (i := 7) sc_by_thing.nd rfl (.inl rfl))
      (pss_cons (ps_asg (pe_c cs hr (by omega) rfl (pa_cons (pv 0) (pa_cons (pv 1) (pa_cons (pe_op op_cat (pe_op op_cat (pe_slice (kx_slL K) (pv 2) po_none (po_some (pv 5))) (pe_lst (pa_cons (pv 7) pa_nil))) (pe_slice (kx_slL K) (pv 2) (po_some (pe_op op_add (pv 5) pe_int)) po_none)) (pa_cons (pv 3) (pa_cons (pv 4) pa_nil)))))) (kx_tup K (by rfl) (pgs_cons (pg_name (i := 8) sc_by_thing.nd rfl (.inl rfl)) (pgs_cons (pg_name (i := 9) sc_by_thing.nd rfl (.inl rfl)) pgs_nil))))
    (pss_cons (ps_if (pt_cmp (pc_notN (pv 8))) (pss_one (ps_ret (pe_tup (pa_cons (pv 8) (pa_cons pe_non pa_nil))))) pss_nil)
    (pss_one (ps_set (i := 6) sc_by_thing.nd rfl (.inl rfl) (pe_op (kx_catA K) (pv 6) (pe_tup (pa_cons (pv 9) pa_nil))))))))
    (pss_one (ps_ret (pe_tup (pa_cons pe_non (pa_cons (pv 6) pa_nil)))))))), ?_⟩
  refine q_set (R := RNat k) (er_index (g := vOB) (xs := inside) (x := .non) (z := none) (er_var h2) er_c rfl (fun o => by cases o <;> rfl) hk rfl fun m z' hm hz => by
    cases z' with
    | none => exact absurd rfl (hkn m none hm hz)
    | some b => rfl) fun u5 H1 e1 r5 => ?_
  refine q_set (er_tup (ps := [IsS "thing", RNat k]) (ea2 er_c (er_var r5)) (by simp)) fun u6 H2 e2 r6 => ?_
  have s2 := e1.trans e2
  have r52 := MX.mx e2 r5
  refine q_forS (ei_tup (RA := fun b : Bool => IsB b) (xs := [true, false]) (er_tup (ps := [IsB true, IsB false]) (ea2 er_c er_c) (by simp))).same
    (fun i σ' Hc => ∃ (kids : List Tree) (v6 : V) (v7 v8 v9 : Option V), σ' = [some v0, some v1, some v2, some v3, some v4, some u5, some v6, v7, v8, v9] ∧ kids.length = i ∧ (∀ m t b, kids[m]? = some t → [true, false][m]? = some b → TreeOk ps things limit (inside.set k (some b)) taken t) ∧ TupP (IsS "thing" :: RNat k :: kids.map RTree) Hc v6)
    (fun H3 e3 => ⟨[], u6, none, none, none, rfl, rfl, (fun (m : Nat) (t : Tree) b (h : ([] : List Tree)[m]? = some t) _ => by simp at h), MX.mx e3 r6⟩) ?_ ?_
  · rintro i x v σ' Hc Hx N hx sc ⟨kids, v6, v7, v8, v9, rfl, hkl2, hkt, r6⟩ sx r n
    have s3 := (s2.trans sc).trans sx
    have hi2 : i < 2 := by
      have := (List.getElem?_eq_some_iff.mp hx).1
      simpa using this
    have hm2 := meas_thing (taken := taken) (b := x) hk
    refine eg_name (q_asg (er_call (ps, things, inside.set k (some x), taken, limit) (ea_cons (er_var (MX.mx s3 h0)) (ea_cons (er_var (MX.mx s3 h1)) (ea_cons (er_put (R := ROB) (xs := inside) (k := k) (y := some x) (er_var (MX.mx s3 h2)) (er_var (MX.mx (sc.trans sx) r52)) (er_var r) hkl (by omega)) (ea2 (er_var (MX.mx s3 h3)) (er_var (MX.mx s3 h4)))))) ⟨hse.thing, by show meas (inside.set k (some x)) taken < _; omega⟩) fun vr H5 e5 rr => ?_)
    rcases rr with ⟨t, ht, rr⟩ | ⟨places, choice, given, hf, rr⟩
    · refine eg_tup2 rr fun u8 u9 g8 g9 => ?_
      refine q_pass (eb_test (EvR.is (er_notN (x := .non) (er_var g8)) rfl)) fun H6 e6 => ?_
      have r66 := MX.mx (sx.trans (e5.trans e6)) r6
      have ee : (IsS "thing" :: RNat k :: kids.map RTree) ++ [RTree t] = IsS "thing" :: RNat k :: (kids ++ [t]).map RTree := by rw [List.map_append]; rfl
      haveI : MXs ((IsS "thing" :: RNat k :: kids.map RTree) ++ [RTree t]) := by rw [ee]; infer_instance
      refine s_set (er_catT (ps := IsS "thing" :: RNat k :: kids.map RTree) (qs := [RTree t]) (er_var r66) (er_tup (ps := [RTree t]) (ea1 (er_var (MX.mx e6 g9))) (by simp)) (by simp; omega)) fun u6' H7 e7 r7 => ?_
      rw [ee] at r7
      refine n _ _ (e5.trans (e6.trans e7)) ⟨kids ++ [t], u6', _, _, _, rfl, by simp [hkl2], fun m t' b hw hb => ?_, r7⟩
      rw [List.getElem?_append] at hw
      split at hw
      · exact hkt m t' b hw hb
      · rename_i h6
        have h7 : m - kids.length = 0 := by
          have := (List.getElem?_eq_some_iff.mp hw).1
          simp at this
          omega
        have h8 : m = i := by omega
        rw [h7] at hw
        have h9 : t = t' := by simpa using hw
        subst h9
        subst h8
        rw [hx] at hb
        cases hb
        exact ht
    · refine eg_tup2 rr fun u8 u9 g8 g9 => ?_
      refine q_if (b := true) (eb_test (EvR.is (er_notNR (R := TupP [TupOf RNat places, RDealing (choice, given)]) (er_var g8) fun H v ⟨a, _, e, _⟩ => by subst e; rfl) rfl)) (fun _ H6 e6 => ?_) fun z => by cases z
      exact s_ret (er_tup (ps := [TupP [TupOf RNat places, RDealing (choice, given)], IsN]) (ea2 (er_var (MX.mx e6 g8)) er_c) (by simp)) fun v H7 e7 r7 => q v H7 ((s3.trans e5).trans (e6.trans e7)) (.inr ⟨places, choice, given, hf, r7⟩)
  · rintro σ' Hc sc ⟨kids, v6, v7, v8, v9, rfl, hkl2, hkt, r6⟩
    obtain ⟨a, b, rfl⟩ : ∃ a b, kids = [a, b] := match kids, hkl2 with | [a, b], _ => ⟨a, b, rfl⟩
    exact s_ret (er_tup (ps := [IsN, TupP [IsS "thing", RNat k, RTree a, RTree b]]) (ea2 er_c (er_var (R := TupP [IsS "thing", RNat k, RTree a, RTree b]) r6)) (by simp)) fun v H3 e3 r3 => q v H3 ((s2.trans sc).trans e3) (.inl ⟨.thing k a b, .thing (by show k < things.length; omega) hk (hkt 0 a true rfl rfl) (hkt 1 b false rfl rfl), by rw [RTree_thing]; exact r3⟩)
theorem tk_nat {l : List (Option Nat)} (h : none ∉ l) {H : Hp} {v : V} (r : TupOf RON l H v) : TupOf RNat (l.map (·.getD 0)) H v := by
  obtain ⟨a, vs, h1, h2, h3⟩ := r
  refine ⟨a, vs, h1, h2, ?_⟩
  clear h1 h2
  induction l generalizing vs with
  | nil => obtain rfl := h3.nil; exact True.intro
  | cons o l ih =>
    match vs, h3 with
    | v :: vs, ⟨g1, g2⟩ =>
      cases o with
      | none => exact absurd List.mem_cons_self h
      | some k => exact ⟨g1, ih (fun z => h (List.mem_cons_of_mem _ z)) vs g2⟩
theorem sought_of (T : Tx w K mg) (n : Nat) (cw : Cal P w K mg base (8 + 2 * n + 1) "by_ways" (spBW (CH K) (n + 1)) []) (ct : Cal P w K mg base (8 + 2 * n + 1) "by_thing" (spBT (CH K) (n + 1)) []) : Cal P w K mg base (8 + 2 * n + 1 + 1) "sought" (spSo (CH K) (n + 1)) [] := by
  refine mk_pure (k := 8 + 2 * n + 1) T.f_sought T.g_sought sc_sought (fun _ _ _ _ _ _ us hl => match us, hl with | [_, _, _, _, _], _ => rfl) (fun _ => rfl) (fun cdv A outer s H vs Q E i hr hp hc q => ?_)
  obtain ⟨v0, v1, v2, v3, v4, rfl, h0, h1, h2, h3, h4⟩ := PP.five hp
  obtain ⟨ps, things, inside, taken, limit⟩ := i
  have hcc := hc
  obtain ⟨hse, hme⟩ := hc
  dsimp only at hse hme h0 h1 h2 h3 h4
  have hli := hse.it.li
  have hlt := hse.it.lt
  have h3l := hse.th.few
  have hwl := wantsIn_len hse.th hse.it
  refine ⟨_, (pss_cons (ps_if (pt_cmpR op_le (pe_op op_sub (pe_callB (id := "len") (kx_len K) (by rfl) T.b_len (by decide +kernel) (pa_cons (pv 2) pa_nil)) (kx_bm K PySem.F.plainAttrs_list PySem.F.slot_list_count PySem.F.type_list_count (kx_count K (hu65 hr)) (pv 2) (pa_cons pe_bl pa_nil))) (pv 4) (nomark _)) (pss_one (ps_ret (pe_tup (pa_cons pe_non (pa_cons (pe_tup (pa_cons pe_str pa_nil)) pa_nil))))) pss_nil)
    (pss_cons (ps_asg (pe_c (ok_deal T) hr (by omega) rfl (pa_cons (pv 0) (pa_cons (pe_c (ok_wants_in T) hr (by omega) rfl (pa_cons (pv 1) (pa_cons (pv 2) (pa_cons (pv 3) pa_nil)))) pa_nil))) (kx_tup K (by rfl) (pgs_cons (pg_name (i := 9) sc_sought.nd rfl (.inl rfl)) (pgs_cons (pg_name (i := 10) sc_sought.nd rfl (.inl rfl)) pgs_nil))))
    (pss_cons (ps_if (pt_cmpR op_eq (pv 9) pe_str (nomark _)) (pss_one (ps_ret (pe_tup (pa_cons pe_non (pa_cons (pe_op (kx_catA K) (pe_tup (pa_cons pe_str pa_nil)) (pv 10)) pa_nil))))) pss_nil)
    (pss_cons (ps_set (i := 5) sc_sought.nd rfl (.inl rfl) (pe_c (ok_open_row T) hr (by omega) rfl (pa_cons (pv 2) (pa_cons (pv 3) pa_nil))))
    (pss_cons (ps_if (pt_cmp (pc_notN (pv 5))) (pss_one (ps_ret (pe_c cw hr (by omega) rfl (pa_cons (pv 0) (pa_cons (pv 1) (pa_cons (pv 2) (pa_cons (pv 3) (pa_cons (pv 4) (pa_cons (pv 5) pa_nil))))))))) pss_nil)
    (pss_cons (ps_if (pt_cmpR (kx_in K) pe_non (pv 2) (by rfl)) (pss_one (ps_ret (pe_c ct hr (by omega) rfl (pa_cons (pv 0) (pa_cons (pv 1) (pa_cons (pv 2) (pa_cons (pv 3) (pa_cons (pv 4) pa_nil)))))))) pss_nil)
    (pss_cons (ps_set (i := 6) sc_sought.nd rfl (.inl rfl) (pe_callTy (T := "tuple") (kx_tuple K) (by rfl) T.b_tuple (by decide +kernel) (pa_cons (pe_lc (own := [("k", 8)]) (g := gName 8) (by rfl) sc_sought.nd (pi_range1 rfl T.b_range (pa_cons (pe_callB (id := "len") (kx_len K) (by rfl) T.b_len (by decide +kernel) (pa_cons (pv 1) pa_nil)) pa_nil)) (blkOk_by (N := N_sought) (sc := defScope s_sought) (by decide +kernel)) (fun _ _ _ _ _ => (pg_name (i := 8) sc_sought.nd rfl (.inl rfl))) (fun _ _ _ _ _ => pts_one (kx_truth K (pe_ix (kx_ixL K) (pv 2) (pv 8) (fun _ _ => rfl)) (by intro _; rfl))) (fun _ _ _ _ _ => (pv 8))) pa_nil)))
    (pss_cons (ps_set (i := 7) sc_sought.nd rfl (.inl rfl) (pe_tup pa_nil))
    (pss_cons (ps_for PassesOwn.never rfl (kx_pi_tup K (pv 6)) (pg_name (i := 8) sc_sought.nd rfl (.inl rfl))
      (pss_one (ps_set (i := 7) sc_sought.nd rfl (.inl rfl) (pe_op (kx_catA K) (pv 7) (pe_callTy (T := "tuple") (kx_tuple K) (by rfl) T.b_tuple (by decide +kernel) (pa_cons (pe_ix (kx_ixL K) (pv 3) (pv 8) (fun _ _ => rfl)) pa_nil))))))
    (pss_one (ps_ret (pe_tup (pa_cons (pe_tup (pa_cons (pv 6) (pa_cons (pe_tup (pa_cons (pv 7) (pa_cons (pv 10) pa_nil))) pa_nil))) (pa_cons pe_non pa_nil)))))))))))))), ?_⟩
  refine q_when (b := decide (freeN inside ≤ limit)) (eb_test (EvR.is (er_I0 (er_I0 (ev_lenLO (R := ROB) (xs := inside) (er_var h2)) (er_count (g := vOB) (xs := inside) (x := .bl false) (er_var h2) er_c rfl py_plain fun o => by cases o <;> rfl)) (er_var h4)) (by rw [cnt_false]; rfl))) (fun hb H1 e1 => ?_) fun hb H1 e1 => ?_
  · exact s_ret (er_tup (ps := [IsN, TupP [IsS "count"]]) (ea2 er_c (er_tup (ps := [IsS "count"]) (ea1 er_c) (by simp))) (by simp)) fun v H2 e2 r2 => q v H2 (e1.trans e2) (.inl ⟨.count, .count (of_decide_eq_true hb), by rw [RTree_count]; exact r2⟩)
  have hb' : ¬ freeN inside ≤ limit := of_decide_eq_false hb
  have h01 := MX.mx e1 h0
  have h11 := MX.mx e1 h1
  have h21 := MX.mx e1 h2
  have h31 := MX.mx e1 h3
  refine q_asg (er_call (ps, wantsIn things inside taken) (ea2 (er_var h01) (er_call (things, inside, taken) (ea_cons (er_var h11) (ea2 (er_var h21) (er_var h31))) ⟨hse.it, by show things.length ≤ 1000; omega, by show (wantsIn things inside taken).length ≤ 1000; omega⟩)) ⟨hse.hp, hse.wants⟩) fun v H2 e2 r => ?_
  have s2 := e1.trans e2
  rcases r with ⟨given, hd, r⟩ | ⟨form, o, hba, r⟩
  · refine eg_tup2 r fun u9 u10 g9 g10 => ?_
    refine q_pass (eb_test (EvR.is (er_eq (x := .str "dealt") (y := .str "bar") (er_var g9) er_c rfl) (by rfl))) fun H3 e3 => ?_
    refine q_set (er_call (inside, taken) (ea2 (er_var (MX.mx (e2.trans e3) h21)) (er_var (MX.mx (e2.trans e3) h31))) ⟨by show inside.length = taken.length; omega, by show inside.length ≤ 1000; omega⟩) fun v5 H4 e4 r5 => ?_
    dsimp only at r5
    have s4 := (s2.trans e3).trans e4
    cases ho : openRow inside taken with
    | some p =>
      rw [ho] at r5
      refine q_if (b := true) (eb_test (EvR.is (er_notNR (R := ROpen (some p)) (er_var r5) fun H v ⟨a, _, e, _⟩ => by subst e; rfl) rfl)) (fun _ H5 e5 => ?_) fun z => by cases z
      have s5 := s4.trans e5
      exact s_ret (er_call ((ps, things, inside, taken, limit), p) (ea_cons (er_var (MX.mx s5 h0)) (ea_cons (er_var (MX.mx s5 h1)) (ea_cons (er_var (MX.mx s5 h2)) (ea_cons (er_var (MX.mx s5 h3)) (ea2 (er_var (MX.mx s5 h4)) (er_var (R := TupP [RNat p.1, RNat p.2]) (MX.mx e5 r5))))))) ⟨hcc, ho⟩) fun v H6 e6 r6 => q v H6 (s5.trans e6) r6
    | none =>
      rw [ho] at r5
      refine q_pass (eb_test (EvR.is (er_notN (x := .non) (er_var (R := IsN) r5)) rfl)) fun H5 e5 => ?_
      have s5 := s4.trans e5
      refine q_when (b := inside.contains none) (eb_test (EvR.is (er_inL (g := vOB) (xs := inside) (x := .non) er_c (er_var (MX.mx s5 h2)) rfl fun o => by cases o <;> rfl) (congrArg V.bl (inVB_none inside)))) (fun hn H6 e6 => ?_) fun hn H6 e6 => ?_
      · have s6 := s5.trans e6
        exact s_ret (er_call (ps, things, inside, taken, limit) (ea_cons (er_var (MX.mx s6 h0)) (ea_cons (er_var (MX.mx s6 h1)) (ea_cons (er_var (MX.mx s6 h2)) (ea2 (er_var (MX.mx s6 h3)) (er_var (MX.mx s6 h4)))))) ⟨hcc, by simpa using hn⟩) fun v H7 e7 r7 => q v H7 (s6.trans e7) r7
      · have s6 := s5.trans e6
        have hnn : none ∉ inside := by simpa using hn
        obtain ⟨hw, hoc⟩ := end_wants hse ho
        refine q_set (ev_tuple (er_lc (RB := RNat) (fun k : Nat => decide (inside.getD k none = some true)) (fun k => k) (ei_rng (n := (things.length : Int)) (ea1 (ev_lenTO (er_var (MX.mx s6 h1)))) (by omega) (by omega)) (by simp; omega) fun k v H7 hk e7 r => eg_name ⟨rfl, eb_tru' (er_ixLO (R := ROB) (x := inside.getD k none) (er_var (MX.mx (s6.trans e7) h2)) (er_var r) (by omega) (by simpa using getD_of (show k < inside.length by have : k ∈ List.range _ := hk; rw [List.mem_range] at this; omega))) fun H v h => rob_tru h, fun _ => er_var r⟩)) fun v6 H7 e7 r6 => ?_
        have r6' : TupOf RNat (placesOf things.length inside) H7 v6 := by
          unfold placesOf
          have e9 : (List.range ((things.length : Int)).toNat) = List.range things.length := by simp
          rw [e9, List.map_id'] at r6
          exact r6
        have s7 := s6.trans e7
        refine q_set (er_tup ea_nil (by decide)) fun v7 H8 e8 r7 => ?_
        have hpm : ∀ k ∈ placesOf things.length inside, k < things.length := fun k hk => List.mem_range.mp (List.mem_filter.mp hk).1
        have hpn : ∀ k ∈ placesOf things.length inside, none ∉ taken.getD k [] := fun k hk => by
          have := List.mem_filter.mp hk
          exact openRow_none ho (by have := hpm k hk; omega) (of_decide_eq_true this.2)
        have hpl : (placesOf things.length inside).length ≤ 3 := Nat.le_trans (List.length_filter_le _ _) (by rw [List.length_range]; omega)
        have hcl : (choiceOf taken (placesOf things.length inside)).length ≤ 10 := by
          rw [hoc.1]
          unfold sheetOf
          have := flat_len (placesOf things.length inside) 2 (fun p => things.getD p []) fun p hp => hse.th.rows _ (getD_mem (hpm p hp))
          omega
        refine q_forS (ei_tup (RA := RNat) (xs := placesOf things.length inside) (er_var (MX.mx e8 r6'))).same
          (fun i σ' Hc => ∃ (v7 : V) (v8 : Option V), σ' = [some v0, some v1, some v2, some v3, some v4, some v5, some v6, some v7, v8, some u9, some u10] ∧ RChoice (choiceOf taken ((placesOf things.length inside).take i)) Hc v7)
          (fun H9 e9 => ⟨v7, none, rfl, MX.mx e9 r7⟩) ?_ ?_
        · rintro i k v σ' Hc Hx N hx sc ⟨v7, v8, rfl, r7⟩ sx r n
          have hkm := List.mem_of_getElem? hx
          have hk1 := hpm k hkm
          have el : (choiceOf taken ((placesOf things.length inside).take i)).length + ((taken.getD k []).map (·.getD 0)).length ≤ (choiceOf taken (placesOf things.length inside)).length := by unfold choiceOf; exact flatten_at_le (f := fun (k : Nat) => (taken.getD k []).map fun (o : Option Nat) => o.getD 0) hx
          have h3x := MX.mx (((s7.trans e8).trans sc).trans sx) h3
          refine eg_name (s_set (er_catTO (R := RNat) (ys := (taken.getD k []).map (·.getD 0)) (er_var (MX.mx sx r7)) (EvR.to (ev_tuple (er_ixLO (R := RTk) (x := taken.getD k []) (er_var h3x) (er_var r) (by omega) (by simpa using getD_of (show k < taken.length by omega)))) fun H v h => tk_nat (hpn k hkm) h) (by omega)) fun v7' H10 e10 r10 => ?_)
          refine n _ _ e10 ⟨v7', _, rfl, ?_⟩
          have e9 : choiceOf taken ((placesOf things.length inside).take (i + 1)) = choiceOf taken ((placesOf things.length inside).take i) ++ (taken.getD k []).map (·.getD 0) := take_map_flatten hx
          rw [e9]
          exact r10
        · rintro σ' Hc sc ⟨v7, v8, rfl, r7⟩
          rw [List.take_length] at r7
          have s8 := (s7.trans e8).trans sc
          refine s_ret (er_tup (ps := [TupP [TupOf RNat (placesOf things.length inside), RDealing (choiceOf taken (placesOf things.length inside), given)], IsN]) (ea2 (er_tup (ps := [TupOf RNat (placesOf things.length inside), RDealing (choiceOf taken (placesOf things.length inside), given)]) (ea2 (er_var (MX.mx (e8.trans sc) r6')) (er_tup (ps := [RChoice (choiceOf taken (placesOf things.length inside)), RGiven given]) (ea2 (er_var r7) (er_var (MX.mx ((((e3.trans e4).trans (e5.trans e6)).trans e7).trans (e8.trans sc)) g10))) (by simp))) (by simp)) er_c) (by simp)) fun v H11 e11 r11 => q v H11 (s8.trans e11) (.inr ⟨_, _, given, ⟨hpm, ?_, ?_, hoc, ?_⟩, r11⟩)
          · exact List.Pairwise.filter _ List.pairwise_lt_range
          · rw [placesOf_len hli hnn]
            show limit < freeN inside
            omega
          · rw [← hw]
            exact hd
  · refine eg_tup2 r fun u9 u10 g9 g10 => ?_
    refine q_if (b := true) (eb_test (EvR.is (er_eq (x := .str "bar") (y := .str "bar") (er_var g9) er_c rfl) (by rfl))) (fun _ H3 e3 => ?_) fun z => by cases z
    haveI : MXs ([IsS "bar"] ++ [IsS form, RShades o]) := inferInstanceAs (MXs [IsS "bar", IsS form, RShades o])
    exact s_ret (er_tup (ps := [IsN, TupP ([IsS "bar"] ++ [IsS form, RShades o])]) (ea2 er_c (er_catT (ps := [IsS "bar"]) (qs := [IsS form, RShades o]) (er_tup (ps := [IsS "bar"]) (ea1 er_c) (by simp)) (er_var (MX.mx e3 g10)) (by simp))) (by simp)) fun v H4 e4 r4 => q v H4 ((s2.trans e3).trans e4) (.inl ⟨.bar form o, .bar hba, by rw [RTree_bar]; exact r4⟩)
theorem ok_sought (T : Tx w K mg) : ∀ n : Nat, Cal P w K mg base (8 + 2 * n) "sought" (spSo (CH K) n) []
  | 0 => by
    refine mk_pure (k := 7) T.f_sought T.g_sought sc_sought (fun _ _ _ _ _ _ us hl => match us, hl with | [_, _, _, _, _], _ => rfl) (fun _ => rfl) (fun cdv A outer s H vs Q E i hr hp hc q => absurd hc.2 (Nat.not_lt_zero _))
  | n + 1 => sought_of T n (by_ways_of T n (ok_sought T n)) (by_thing_of T n (ok_sought T n))
end
end K43
set_option Elab.async false
set_option linter.all false
set_option maxRecDepth 100000
set_option maxHeartbeats 4000000
/-! # KS8: best, most, most_paper -/
namespace K43
open PySem PySem.Spec PyProof.Rows L2 K43S
open C8 (Cal Mak Met pe_c pe_mk pe_mt pe_mt0)
section
variable {P : Program} {w : World} {K : PySem.W.Frag} {mg : Str → Option Value} {base : Heap}
abbrev spBegunN : Sp := PSpN (ι := Sheet) (fun i => [RSheet i]) (fun i => i.length ≤ 1000) fun i => At (.lst ((begun i).map vON))
theorem ok_begun_waysN (T : Tx w K mg) : Cal P w K mg base 1 "begun_ways" spBegunN [] := by
  refine mk_cal T.f_begun_ways T.g_begun_ways sc_begun_ways (fun _ _ _ _ _ _ us hl => match us, hl with | [_], _ => rfl) (fun vs H Q E ⟨i, h, _⟩ => h.length) (fun cdv A outer s H vs Q E hr h => ?_)
  obtain ⟨i, hp, hc, q⟩ := h
  obtain ⟨v0, rfl, h0⟩ := PP.one hp
  have hc : i.length ≤ 1000 := hc
  refine ⟨_, (pss_one (ps_ret (pe_lc (own := [("row", 1)]) (g := gName 1) (by rfl) sc_begun_ways.nd (kx_pi_tup K (pv 0)) (blkOk_by (N := N_begun_ways) (sc := defScope s_begun_ways) (by decide +kernel)) (fun _ _ _ _ _ => (pg_name (i := 1) sc_begun_ways.nd rfl (.inl rfl))) (fun _ _ _ _ _ => pts_nil) (fun _ _ _ _ _ => (pe_ifExp (pt_cmpR op_eq (pe_callB (id := "len") (kx_len K) (by rfl) T.b_len (by decide +kernel) (pa_cons (pv 1) pa_nil)) pe_int (nomark _)) pe_int pe_non))))), ?_⟩
  refine (en_lcM (RB := RON) (fun (row : Row) => if row.length = 1 then some 0 else none) (ei_tup (RA := RRow) (xs := i) (er_var h0)).same (by omega) fun x v H1 hx e r => eg_name ⟨rfl, ?_⟩) H (Same.refl H) _ fun v H1 e ⟨a, vs, g1, g2, g3⟩ nw => q v H1 e ⟨a, g1, by rw [g2, pp_of g3]; rfl⟩ nw
  refine er_if (eb_test (er_eq (ev_lenTO (er_var r)) er_c rfl)) (fun hb => ?_) fun hb => ?_
  · have h : x.length = 1 := by simp at hb; omega
    rw [if_pos h]
    exact er_c
  · have h : ¬ x.length = 1 := by simp at hb; omega
    rw [if_neg h]
    exact er_c
theorem pp_tks {H : Hp} {φ : Sheet → List (Option Nat)} : ∀ {as : List Addr} {xs : List Sheet}, as.length = xs.length → (∀ (i : Nat) a x, as[i]? = some a → xs[i]? = some x → H a = some (.lst ((φ x).map vON))) → PP H (as.map V.ref) ((xs.map φ).map RTk)
  | [], [], _, _ => True.intro
  | [], _ :: _, h, _ => by simp at h
  | _ :: _, [], h, _ => by simp at h
  | a :: as, x :: xs, h, g => ⟨⟨a, _, rfl, g 0 a x rfl rfl, PP.of_isv' (φ x)⟩, pp_tks (by simpa using h) fun i b y h1 h2 => g (i + 1) b y h1 h2⟩
where
  PP.of_isv' {H : Hp} : ∀ l : List (Option Nat), PP H (l.map vON) (l.map RON)
    | [] => True.intro
    | _ :: l => ⟨rfl, PP.of_isv' l⟩
/-- [begun_ways(own) for own in things] -/
theorem er_taken {σ : L2.St} {H : Hp} {i j : Nat} {E : XK} {v1 : V} {things : Things} (th : ThOk things) (h1 : RThings things H v1) (hi : σ[i]? = some (some v1)) (hw : ∀ v, wipe ((wipe σ [j]).set j (some v)) [j] = wipe σ [j]) (hj : ∀ v, ((wipe σ [j]).set j (some v))[j]? = some (some v)) :
    EvR (tLc (iTup K (tVar i)) (gName j) tYes (tCall spBegunN [] E (tCons (tVar j) tNil)) [j]) σ H (RTaken (things.map begun)) := fun H1 e Q q =>
  en_lcAt (H := H1) (φ := fun x => HO.lst ((begun x).map vON)) (ei_tup (RA := RSheet) (xs := things) (er_var (MX.mx e h1) hi)).same (by have := th.few; omega) (fun x v H2 hx e2 r => eg_name ⟨hw v, en_call x (ea1 (er_var r (hj v))) (by have := th.rows x hx; omega)⟩) Q fun v H2 e2 ⟨D, as, g1, g2, g3, g4, g5, g6, g7, g8⟩ => q v H2 e2 ⟨D, _, g1, g2, pp_tks g6 g8⟩
/-- [None] * n -/
theorem er_repN {σ : L2.St} {H : Hp} {tb : TE} {n : Nat} (hb : EvR tb σ H (IsI (n : Int))) (hn : n ≤ 1000) : EvR (tOp rRep (tLst (tCons (tC .non) tNil)) tb) σ H (RInside (List.replicate n none)) :=
  er_op (A := LstP [IsN]) (B := IsI (n : Int)) (er_lst (ps := [IsN]) (ea1 er_c) (by simp)) hb fun v w H1 e g1 g2 Q q => by
    obtain ⟨a, vs, rfl, h2, h3⟩ := g1
    obtain ⟨x, rfl, hx⟩ := h3.one
    obtain rfl : x = V.non := hx
    refine ⟨a, (n : Int), [.non], rfl, g2, h2, by omega, by omega, by rw [sizeLine_eq]; simp; omega, fun p hp => q _ _ (Same.new hp) ⟨p, _, rfl, upd_same, ?_⟩⟩
    have e1 : (List.replicate ((n : Int)).toNat [V.non]).flatten = List.replicate n V.non := by
      rw [Int.toNat_natCast]
      clear q hb g2 hn
      induction n with
      | zero => rfl
      | succ n ih => rw [List.replicate_succ, List.flatten_cons, ih]; rfl
    rw [e1]
    have pp : ∀ (H : Hp) (n : Nat), PP H (List.replicate n V.non) ((List.replicate n none).map ROB) := fun H n => by
      induction n with
      | zero => exact True.intro
      | succ n ih => exact ⟨rfl, ih⟩
    exact pp _ n
theorem rtree_ref : ∀ {t : Tree} {H : Hp} {v : V}, RTree t H v → decide (v = .non) = false
  | .count, H, v, h => by rw [RTree_count] at h; obtain ⟨a, _, e, _⟩ := h; subst e; rfl
  | .bar f o, H, v, h => by rw [RTree_bar] at h; obtain ⟨a, _, e, _⟩ := h; subst e; rfl
  | .row k j kids, H, v, h => by rw [RTree_row] at h; obtain ⟨a, _, e, _⟩ := h; subst e; rfl
  | .thing k x y, H, v, h => by rw [RTree_thing] at h; obtain ⟨a, _, e, _⟩ := h; subst e; rfl
/-- no tree bars the empty set -/
theorem no_tree {ps : List Prt} {things : Things} (hp : HeapOk ps) {limit : Int} (hl : limit < 0) {inside : Ins} {taken : Tks} {t : Tree} (h : TreeOk ps things limit inside taken t) (hn : some true ∉ inside) : False := by
  induction h with
  | count h =>
    rename_i inside taken
    have : inside.count (some false) ≤ inside.length := List.count_le_length
    unfold freeN at h
    omega
  | bar h =>
    rename_i inside taken form o
    obtain ⟨x, hx, _⟩ := h.form
    unfold wantsIn at hx
    rw [List.mem_flatten] at hx
    obtain ⟨l, hl, hx⟩ := hx
    obtain ⟨k, hk, rfl⟩ := List.mem_map.mp hl
    split at hx
    · rename_i hi
      refine hn ?_
      rw [List.getD_eq_getElem?_getD] at hi
      cases z : inside[k]? with
      | none => rw [z] at hi; cases hi
      | some y =>
        rw [z] at hi
        have : y = some true := hi
        rw [← this]
        exact List.mem_of_getElem? z
    · cases hx
  | row _ h _ _ _ _ _ => exact hn (List.mem_of_getElem? h)
  | thing _ h _ _ _ ih =>
    refine ih fun z => ?_
    rcases List.mem_or_eq_of_mem_set z with z | z
    · exact hn z
    · cases z
structure BestOk (ps : List Prt) (things : Things) (places choice : List Nat) (given : List (List (Str × Int))) (t : Tree) : Prop where
  fd : FoundOk ps things (-1) places choice given
  tr : TreeOk ps things (places.length : Int) (List.replicate things.length none) (things.map begun) t
def RBest (i : List Prt × Things) : Pr := fun H v => ∃ places choice given t, BestOk i.1 i.2 places choice given t ∧ TupP [TupOf RNat places, RDealing (choice, given), RTree t] H v
def RMost (i : List Prt × Things) : Pr := fun H v => ∃ places choice given t, BestOk i.1 i.2 places choice given t ∧ TupP [TupOf RNat places, RDealing (choice, given)] H v
theorem cntN_rep (n : Nat) : cntN (List.replicate n (none : Option Bool)) = n := by
  induction n with
  | zero => rfl
  | succ n ih => rw [List.replicate_succ, cntN, ih]
theorem cntN_le {α : Type} : ∀ l : List (Option α), cntN l ≤ l.length
  | [] => Nat.le_refl _
  | none :: l => Nat.succ_le_succ (cntN_le l)
  | some _ :: l => Nat.le_succ_of_le (cntN_le l)
theorem begun_meas {things : Things} (th : ThOk things) : meas (List.replicate things.length none) (things.map begun) < 10 := by
  have h1 : tksN (things.map begun) ≤ things.length * 2 := by
    have hr := th.rows
    clear th
    induction things with
    | nil => exact Nat.le_refl _
    | cons s l ih =>
      have h2 := ih fun a ha => hr a (List.mem_cons_of_mem _ ha)
      have h3 := cntN_le (begun s)
      have h4 : (begun s).length = s.length := by unfold begun; rw [List.length_map]
      have h5 := hr s List.mem_cons_self
      have e : tksN ((s :: l).map begun) = cntN (begun s) + tksN (l.map begun) := rfl
      rw [e, List.length_cons]
      omega
  unfold meas
  rw [cntN_rep]
  have := th.few
  omega
theorem map_getD {α β : Type} {f : α → β} {l : List α} {k : Nat} {d : α} {d' : β} (h : f d = d') : (l.map f).getD k d' = f (l.getD k d) := by
  rw [List.getD_eq_getElem?_getD, List.getElem?_map, List.getD_eq_getElem?_getD]
  cases l[k]? with
  | none => exact h.symm
  | some x => rfl
theorem begun_ok {ps : List Prt} {things : Things} (hp : HeapOk ps) (th : ThOk things) : SeOk ps things (List.replicate things.length none) (things.map begun) where
  hp := hp
  th := th
  it := ⟨by simp, by simp, fun k => by
    rw [map_getD (f := begun) (d := []) (d' := []) rfl]
    rintro ⟨r, o⟩ hp w (rfl : o = some w)
    obtain ⟨i, hi⟩ := List.mem_iff_getElem?.mp hp
    unfold begun at hi
    rw [List.getElem?_zip_eq_some, List.getElem?_map] at hi
    obtain ⟨h1, h2⟩ := hi
    have h1' : (things.getD k [])[i]? = some r := h1
    rw [h1'] at h2
    have h2' : (if r.length = 1 then some 0 else none) = some w := by simpa using h2
    split at h2'
    · rename_i h3
      have : w = 0 := by simpa using h2'.symm
      show w < r.length
      omega
    · cases h2'⟩
  tl := fun k => by
    rw [map_getD (f := begun) (d := []) (d' := []) rfl]
    unfold begun
    rw [List.length_map]
-- slots: 0 heap, 1 things, 2 found, 3 tree, 4 limit, 5 more, 6 own
abbrev N_best : List Str := ["heap", "things", "found", "tree", "limit", "more", "own"]
theorem sc_best : FnScope N_best ["heap", "things"] (defScope s_best) := ⟨rfl, rfl, rfl, by decide +kernel, rfl, by decide +kernel, by decide +kernel⟩
abbrev spBest (C : Addr) : Sp := PSp (ι := List Prt × Things) (fun i => [RHeap C i.1, RThings i.2]) (fun i => HeapOk i.1 ∧ ThOk i.2) RBest
theorem ok_best (T : Tx w K mg) : Cal P w K mg base 30 "best" (spBest (CH K)) [] := by
  refine mk_pure T.f_best T.g_best sc_best (fun _ _ _ _ _ _ us hl => match us, hl with | [_, _], _ => rfl) (fun _ => rfl) (fun cdv A outer s H vs Q E i hr hp hc q => ?_)
  obtain ⟨v0, v1, rfl, h0, h1⟩ := PP.two hp
  obtain ⟨ps, things⟩ := i
  obtain ⟨hpo, hth⟩ := hc
  dsimp only at hpo hth h0 h1
  have h3l := hth.few
  have hSe := begun_ok hpo hth
  refine ⟨_, (pss_cons (ps_asg (pe_tup (pa_cons pe_non (pa_cons pe_non (pa_cons (pe_un un_neg pe_int) pa_nil)))) (kx_tup K (by rfl) (pgs_cons (pg_name (i := 2) sc_best.nd rfl (.inl rfl)) (pgs_cons (pg_name (i := 3) sc_best.nd rfl (.inl rfl)) (pgs_cons (pg_name (i := 4) sc_best.nd rfl (.inl rfl)) pgs_nil)))))
    (pss_cons (ps_while PassesOwn.never (pt_cmp (pc_isN (pv 3)))
      (pss_cons (ps_asg (pe_c (ok_sought T 10) hr (by decide) rfl (pa_cons (pv 0) (pa_cons (pv 1) (pa_cons (pe_op op_rep (pe_lst (pa_cons pe_non pa_nil)) (pe_callB (id := "len") (kx_len K) (by rfl) T.b_len (by decide +kernel) (pa_cons (pv 1) pa_nil))) (pa_cons (pe_lc (own := [("own", 6)]) (g := gName 6) (by rfl) sc_best.nd (kx_pi_tup K (pv 1)) (blkOk_by (N := N_best) (sc := defScope s_best) (by decide +kernel)) (fun _ _ _ _ _ => (pg_name (i := 6) sc_best.nd rfl (.inl rfl))) (fun _ _ _ _ _ => pts_nil) (fun _ _ _ _ _ => (pe_c (ok_begun_waysN T) hr (by decide) rfl (pa_cons (pv 6) pa_nil)))) (pa_cons (pv 4) pa_nil)))))) (kx_tup K (by rfl) (pgs_cons (pg_name (i := 5) sc_best.nd rfl (.inl rfl)) (pgs_cons (pg_name (i := 3) sc_best.nd rfl (.inl rfl)) pgs_nil))))
    (pss_one (ps_if (pt_cmp (pc_notN (pv 5))) (pss_one (ps_par (i := 2) (j := 4) (by rfl) sc_best.nd rfl rfl (by decide) rfl rfl (pa_cons (pv 5) (pa_cons (pe_callB (id := "len") (kx_len K) (by rfl) T.b_len (by decide +kernel) (pa_cons (pe_ix (kx_ixT K) (pv 5) pe_int (fun _ _ => rfl)) pa_nil)) pa_nil)) (by rfl))) pss_nil))))
    (pss_one (ps_ret (pe_op (kx_catA K) (pv 2) (pe_tup (pa_cons (pv 3) pa_nil))))))), ?_⟩
  refine q_asg (er_tup (ps := [IsN, IsN, IsI (-1)]) (ea_cons er_c (ea2 er_c (er_un er_c))) (by simp)) fun vt0 H1 e1 r1 => eg_tup3 r1 fun x1 x2 x3 y1 y2 y3 => ?_
  obtain rfl : x1 = V.non := y1
  obtain rfl : x2 = V.non := y2
  obtain rfl : x3 = V.int (-1) := y3
  refine q_while (fun m σ' Hc => ∃ (vf vt vl : V) (v5 v6 : Option V) (limit : Int), σ' = [some v0, some v1, some vf, some vt, some vl, v5, v6] ∧ Same H Hc ∧ vl = .int limit ∧
      ((limit = -1 ∧ vf = .non ∧ vt = .non ∧ m = 10) ∨ (∃ places choice given, limit = (places.length : Int) ∧ FoundOk ps things (-1) places choice given ∧ TupP [TupOf RNat places, RDealing (choice, given)] Hc vf ∧ ((vt = .non ∧ m = 9 - places.length) ∨
        (∃ t, m = 0 ∧ TreeOk ps things (places.length : Int) (List.replicate things.length none) (things.map begun) t ∧ RTree t Hc vt)))))
    10 ⟨.non, .non, .int (-1), none, none, -1, rfl, e1, rfl, .inl ⟨rfl, rfl, rfl, rfl⟩⟩ ?_
  rintro m σ' Hc ⟨vf, vt, vl, v5, v6, limit, rfl, s, rfl, hcase⟩
  have step : (vt = .non) → (limit = -1 ∧ vf = .non ∧ m = 10 ∨ ∃ places choice given, limit = (places.length : Int) ∧ FoundOk ps things (-1) places choice given ∧ TupP [TupOf RNat places, RDealing (choice, given)] Hc vf ∧ m = 9 - places.length) → True := fun _ _ => True.intro
  by_cases hvt : vt = .non
  · subst hvt
    refine ⟨true, eb_test (EvR.is (er_isN (x := .non) er_v) rfl), fun _ H2 e2 N n => ?_, fun z => by cases z⟩
    have s2 := s.trans e2
    refine q_asg (er_call (ps, things, List.replicate things.length none, things.map begun, limit) (ea_cons (er_var (MX.mx s2 h0)) (ea_cons (er_var (MX.mx s2 h1)) (ea_cons (er_repN (ev_lenTO (er_var (MX.mx s2 h1))) (by omega)) (ea2 (er_taken hth (MX.mx s2 h1) rfl (fun _ => rfl) fun _ => rfl) er_v)))) ⟨hSe, begun_meas hth⟩) fun vr H3 e3 rr => ?_
    have s3 := s2.trans e3
    rcases rr with ⟨t, ht, rr⟩ | ⟨places, choice, given, hf, rr⟩
    · refine eg_tup2 rr fun u5 u3 g5 g3 => ?_
      refine s_when (b := false) (eb_test (EvR.is (er_notN (x := .non) (er_var g5)) rfl)) (fun z => by cases z) fun _ H4 e4 => ?_
      rcases hcase with ⟨hl, _⟩ | ⟨places, choice, given, hl, hf, hrf, hc2⟩
      · exact (no_tree hpo (by show limit < 0; omega) ht (by simp)).elim
      · rcases hc2 with ⟨_, hm⟩ | ⟨t2, _, _, hrt⟩
        · have hpl : places.length ≤ 3 := by
            have := nodup_len things.length places (hf.rise.imp fun h => Nat.ne_of_lt h) hf.lt
            omega
          refine n 0 _ _ (by omega) ⟨vf, u3, _, some u5, _, limit, rfl, s3.trans e4, rfl, .inr ⟨places, choice, given, hl, hf, MX.mx ((e2.trans e3).trans e4) hrf, .inr ⟨t, rfl, hl ▸ ht, MX.mx e4 g3⟩⟩⟩
        · have := rtree_ref hrt
          cases this
    · refine eg_tup2 rr fun u5 u3 g5 g3 => ?_
      obtain rfl : u3 = V.non := g3
      refine s_when (b := true) (eb_test (EvR.is (er_notNR (R := TupP [TupOf RNat places, RDealing (choice, given)]) (er_var g5) fun H v ⟨a, _, e, _⟩ => by subst e; rfl) rfl)) (fun _ H4 e4 => ?_) fun z => by cases z
      have g54 := MX.mx e4 g5
      refine (ea2 (er_var g54) (ev_lenTO (R := RNat) (er_ixT (ps := [TupOf RNat places, RDealing (choice, given)]) (p := TupOf RNat places) (er_var g54) er_c))) H4 (Same.refl H4) _ fun vs H5 e5 r5 => ?_
      obtain ⟨x1, x2, rfl, y1, y2⟩ := r5.two
      obtain rfl : x2 = V.int (places.length : Int) := y2
      have hpl : places.length ≤ 3 := by
        have := nodup_len things.length places (hf.rise.imp fun h => Nat.ne_of_lt h) hf.lt
        omega
      have hmore : limit < (places.length : Int) := hf.more
      refine ⟨_, _, rfl, n (9 - places.length) _ _ ?_ ⟨x1, .non, .int (places.length : Int), some u5, _, (places.length : Int), rfl, (s3.trans e4).trans e5, rfl, .inr ⟨places, choice, given, rfl, ⟨hf.lt, hf.rise, by omega, hf.ok, hf.de⟩, y1, .inl ⟨rfl, rfl⟩⟩⟩⟩
      rcases hcase with ⟨hl, _, _, hm⟩ | ⟨places', choice', given', hl, hf', hrf, hc2⟩
      · omega
      · rcases hc2 with ⟨_, hm⟩ | ⟨t2, _, _, hrt⟩
        · omega
        · have := rtree_ref hrt
          cases this
  · rcases hcase with ⟨_, _, h, _⟩ | ⟨places, choice, given, hl, hf, hrf, hc2⟩
    · exact absurd h hvt
    · rcases hc2 with ⟨h, _⟩ | ⟨t, _, htr, hrt⟩
      · exact absurd h hvt
      · refine ⟨false, eb_test (EvR.is (er_isNR (R := RTree t) (er_var hrt) fun H v h => rtree_ref h) rfl), (fun z => by cases z), fun _ H2 e2 => ?_⟩
        haveI : MXs ([TupOf RNat places, RDealing (choice, given)] ++ [RTree t]) := inferInstanceAs (MXs [TupOf RNat places, RDealing (choice, given), RTree t])
        exact s_ret (er_catT (ps := [TupOf RNat places, RDealing (choice, given)]) (qs := [RTree t]) (er_var (MX.mx e2 hrf)) (er_tup (ps := [RTree t]) (ea1 (er_var (MX.mx e2 hrt))) (by simp)) (by simp)) fun v H3 e3 r3 => q v H3 ((s.trans e2).trans e3) ⟨places, choice, given, t, ⟨hf, htr⟩, r3⟩
-- slots: 0 heap, 1 things
abbrev N_most : List Str := ["heap", "things"]
theorem sc_most : FnScope N_most ["heap", "things"] (defScope s_most) := ⟨rfl, rfl, rfl, by decide +kernel, rfl, by decide +kernel, by decide +kernel⟩
theorem ok_most (T : Tx w K mg) : Cal P w K mg base 31 "most" (PSp (ι := List Prt × Things) (fun i => [RHeap (CH K) i.1, RThings i.2]) (fun i => HeapOk i.1 ∧ ThOk i.2) RMost) [] := by
  refine mk_pure T.f_most T.g_most sc_most (fun _ _ _ _ _ _ us hl => match us, hl with | [_, _], _ => rfl) (fun _ => rfl) (fun cdv A outer s H vs Q E i hr hp hc q => ?_)
  obtain ⟨v0, v1, rfl, h0, h1⟩ := PP.two hp
  obtain ⟨ps, things⟩ := i
  dsimp only at h0 h1
  refine ⟨_, (pss_one (ps_ret (pe_slice (kx_slT K) (pe_c (ok_best T) hr (by decide) rfl (pa_cons (pv 0) (pa_cons (pv 1) pa_nil))) po_none (po_some pe_int)))), ?_⟩
  refine (er_call (ps, things) (ea2 (er_var h0) (er_var h1)) hc : EvR _ _ _ (RBest (ps, things))) H (Same.refl H) _ fun v H1 e1 ⟨places, choice, given, t, hb, r1⟩ => ?_
  have hv : EvR (tC v) [some v0, some v1] H1 (TupP [TupOf RNat places, RDealing (choice, given), RTree t]) := fun H2 e2 Q q => q v H2 (Same.refl _) (MX.mx e2 r1)
  exact er_slT (K := K) (ps := [TupOf RNat places, RDealing (choice, given), RTree t]) (lo := none) (hi := some 2) hv eo_none (eo_some er_c) H1 (Same.refl _) _ fun v2 H2 e2 r2 => q v2 H2 (e1.trans e2) ⟨places, choice, given, t, hb, r2⟩
-- slots: 0 heap, 1 things
abbrev N_most_paper : List Str := ["heap", "things"]
theorem sc_most_paper : FnScope N_most_paper ["heap", "things"] (defScope s_most_paper) := ⟨rfl, rfl, rfl, by decide +kernel, rfl, by decide +kernel, by decide +kernel⟩
theorem ok_most_paper (T : Tx w K mg) : Cal P w K mg base 31 "most_paper" (spBest (CH K)) [] := by
  refine mk_pure T.f_most_paper T.g_most_paper sc_most_paper (fun _ _ _ _ _ _ us hl => match us, hl with | [_, _], _ => rfl) (fun _ => rfl) (fun cdv A outer s H vs Q E i hr hp hc q => ?_)
  obtain ⟨v0, v1, rfl, h0, h1⟩ := PP.two hp
  obtain ⟨ps, things⟩ := i
  dsimp only at h0 h1
  refine ⟨_, (pss_one (ps_ret (pe_c (ok_best T) hr (by decide) rfl (pa_cons (pv 0) (pa_cons (pv 1) pa_nil))))), ?_⟩
  exact s_ret (er_call (ps, things) (ea2 (er_var h0) (er_var h1)) hc) q
end
end K43
set_option Elab.async false
set_option linter.all false
set_option maxRecDepth 100000
set_option maxHeartbeats 4000000
/-! # KS9: the checker's walk through a tree -/
namespace K43
open PySem PySem.Spec PyProof.Rows L2 K43S
open C8 (Cal Mak Met pe_c pe_mk pe_mt pe_mt0)
/-- a heap without sa -/
def wo (sa : Addr) (H : Hp) : Hp := fun a => if a = sa then none else H a
theorem wo_ne {sa a : Addr} {H : Hp} (h : a ≠ sa) : wo sa H a = H a := if_neg h
theorem wo_same {sa : Addr} {H : Hp} : Same (wo sa H) H := fun a o h => by
  unfold wo at h
  split at h
  · cases h
  · exact h
theorem same_wo {sa : Addr} {H H' : Hp} (e : Same H H') : Same (wo sa H) (wo sa H') := fun a o h => by
  unfold wo at h ⊢
  split at h
  · cases h
  · rename_i z
    rw [if_neg z]
    exact e a o h
theorem wo_into {sa : Addr} {H H' : Hp} (e : Same (wo sa H) H') : Same (wo sa H) (wo sa H') := fun a o h => by
  have h1 := e a o h
  unfold wo at h ⊢
  split at h
  · cases h
  · rename_i z
    rw [if_neg z]
    exact h1
theorem wo_upd {sa : Addr} {H : Hp} {o : HO} : Same (wo sa H) (upd H sa o) := fun a o h => by
  unfold wo at h
  split at h
  · cases h
  · rename_i z
    rw [upd_ne z]
    exact h
def At0 (W : Hp) (R : Pr) : Pr := fun _ v => R W v
instance {W : Hp} {R : Pr} : MF (At0 W R) := ⟨fun _ h => h⟩
theorem pp_at0 {W H : Hp} : ∀ {ps : List Pr} {vs : List V}, PP W vs ps → PP H vs (ps.map (At0 W))
  | [], [], _ => True.intro
  | _ :: _, _ :: _, ⟨h1, h2⟩ => ⟨h1, pp_at0 h2⟩
theorem tup_at0 {W H : Hp} {ps : List Pr} {v : V} (h : TupP ps W v) (e : Same W H) : TupP (ps.map (At0 W)) H v := by
  obtain ⟨a, vs, h1, h2, h3⟩ := h
  exact ⟨a, vs, h1, e a _ h2, pp_at0 h3⟩
theorem lst_at0 {α : Type} {R : α → Pr} {xs : List α} {W H : Hp} {v : V} (h : LstOf R xs W v) (e : Same W H) : LstOf (fun x => At0 W (R x)) xs H v := by
  obtain ⟨a, vs, h1, h2, h3⟩ := h
  have := pp_at0 (H := H) h3
  rw [List.map_map] at this
  exact ⟨a, vs, h1, e a _ h2, this⟩
theorem rsize_pos : True := True.intro
section
variable {K : PySem.W.Frag} {σ : L2.St} {H : Hp} {ta tb tk tx : TE}
theorem en_catL {ps qs : List Pr} [MXs ps] [MXs qs] [MXs (ps ++ qs)] (ha : EvR ta σ H (LstP ps)) (hb : EvR tb σ H (LstP qs)) (hl : ps.length + qs.length ≤ 100000) : EvN (tOp rCat ta tb) σ H (LstP (ps ++ qs)) := fun H1 e Q q =>
  ha H1 e _ fun v H2 e2 r2 => hb H2 (e.trans e2) _ fun w H3 e3 r3 => by
    obtain ⟨a, vs, rfl, h2, h3⟩ := MX.mx e3 r2
    obtain ⟨b, ws, rfl, g2, g3⟩ := r3
    refine ⟨a, b, vs, ws, rfl, rfl, h2, g2, by have := h3.length; have := g3.length; rw [sizeLine_eq]; omega, fun p hp => ?_⟩
    refine q _ _ ((e2.trans e3).trans (Same.new hp)) ⟨p, _, rfl, upd_same, MXs.mx (Same.new hp) (h3.append g3)⟩ fun x hx => ?_
    cases hx
    cases z : H1 p with
    | none => rfl
    | some o => have := (e2.trans e3) p o z; rw [hp] at this; cases this
theorem en_put {α : Type} {R : α → Pr} [∀ x, MX (R x)] {xs : List α} {k : Nat} {y : α} (ha : EvR ta σ H (LstOf R xs)) (hk : EvR tk σ H (RNat k)) (hx : EvR tx σ H (R y)) (hl : k < xs.length) (hz : xs.length ≤ 1000) :
    EvN (tOp rCat (tOp rCat (tSl (rSlL K) ta tNoPart (tPart tk)) (tLst (tCons tx tNil))) (tSl (rSlL K) ta (tPart (tOp (rI0 fun i j => V.int (i + j)) tk (tC (.int 1)))) tNoPart)) σ H (LstOf R (xs.set k y)) := by
  have h1 := er_slL (K := K) ha eo_none (eo_some hk)
  rw [cutP_to (by rw [List.length_map]; omega), ← List.map_take] at h1
  have h2 : EvR (tLst (tCons tx tNil)) σ H (LstOf R [y]) := er_lst (ps := [R y]) (ea1 hx) (by simp)
  have h3 := er_slL (K := K) ha (eo_some (i := ((k + 1 : Nat) : Int)) (EvR.is (er_I0 (g := fun i j => V.int (i + j)) hk (er_c (v := .int 1))) (by show V.int ((k : Int) + 1) = _; congr 1))) eo_none
  rw [cutP_from (by rw [List.length_map]; omega), ← List.map_drop] at h3
  haveI : MXs ((xs.take k ++ [y]).map R ++ (xs.drop (k + 1)).map R) := by rw [← List.map_append]; infer_instance
  have h4 := en_catL (er_catLO h1 h2 (by rw [List.length_take]; simp; omega)) h3 (by rw [List.length_map, List.length_map, List.length_append, List.length_take, List.length_drop]; simp; omega)
  have e : xs.set k y = xs.take k ++ [y] ++ xs.drop (k + 1) := by
    rw [List.set_eq_take_append_cons_drop, if_pos hl, List.append_assoc]
    rfl
  rw [e]
  rw [← List.map_append] at h4
  exact h4
/-- a list that is not at sa -/
def Away (sa : Addr) (R : Pr) : Pr := fun H v => R H v ∧ v ≠ .ref sa
instance {sa : Addr} {R : Pr} [MX R] : MX (Away sa R) := ⟨fun e h => ⟨MX.mx e h.1, h.2⟩⟩
theorem en_away {te : TE} {R : Pr} {sa : Addr} {o : HO} (h : EvN te σ H R) (hs : H sa = some o) : EvR te σ H (Away sa R) := fun H1 e Q q => h H1 e Q fun v H2 e2 r nw => q v H2 e2 ⟨r, fun z => by have := nw sa z; rw [e sa o hs] at this; cases this⟩
theorem away_flat {α : Type} {g : α → V} {xs : List α} {sa : Addr} {v : V} (h : Away sa (LstOf (fun x => IsV (g x)) xs) H v) : LstOf (fun x => IsV (g x)) xs (wo sa H) v := by
  obtain ⟨⟨a, vs, rfl, h2, h3⟩, ne⟩ := h
  refine ⟨a, vs, rfl, by rw [wo_ne fun z => ne (by rw [z])]; exact h2, ?_⟩
  clear h2 ne
  induction xs generalizing vs with
  | nil => obtain rfl := h3.nil; exact True.intro
  | cons x xs ih => match vs, h3 with | _ :: vs, ⟨h1, h2⟩ => exact ⟨h1, ih vs h2⟩
theorem away_at0 {α : Type} {R : α → Pr} [∀ x, MX (R x)] {xs : List α} {sa : Addr} {W : Hp} {v : V} (h : Away sa (LstOf (fun x => At0 W (R x)) xs) H v) (e : Same W (wo sa H)) : LstOf R xs (wo sa H) v := by
  obtain ⟨⟨a, vs, rfl, h2, h3⟩, ne⟩ := h
  refine ⟨a, vs, rfl, by rw [wo_ne fun z => ne (by rw [z])]; exact h2, ?_⟩
  clear h2 ne
  induction xs generalizing vs with
  | nil => obtain rfl := h3.nil; exact True.intro
  | cons x xs ih => match vs, h3 with | _ :: vs, ⟨h1, h2⟩ => exact ⟨MX.mx e h1, ih vs h2⟩
end
/-! ### the input -/
abbrev LI := List Prt × Things × Int × Ins × Tks × Tree
structure ThW (things : Things) : Prop where
  ok : ThOk things
  form : ∀ s ∈ things, ∀ r ∈ s, ∀ y ∈ r, ∀ x ∈ y, WordOk x.form
  shw : ∀ s ∈ things, ∀ r ∈ s, ∀ y ∈ r, ∀ x ∈ y, ∀ z ∈ x.shades, WordOk z
def LIok (i : LI) (n : Nat) : Prop := SeOk i.1 i.2.1 i.2.2.2.1 i.2.2.2.2.1 ∧ ThW i.2.1 ∧ TreeOk i.1 i.2.1 i.2.2.1 i.2.2.2.1 i.2.2.2.2.1 i.2.2.2.2.2 ∧ meas i.2.2.2.1 i.2.2.2.2.1 < n
abbrev RGround (C : Addr) (ps : List Prt) (things : Things) (limit : Int) : Pr := TupP [RHeap C ps, RThings things, IsI limit]
abbrev AL (C : Addr) (i : LI) : List Pr := [RGround C i.1 i.2.1 i.2.2.1, RInside i.2.2.2.1, RTaken i.2.2.2.2.1, RTree i.2.2.2.2.2]
def spLk (C : Addr) (G : LI → Prop) : Sp := fun vs H Q _ => ∃ (i : LI) (sa : Addr) (c : Int) (v0 v1 v2 v3 : V), vs = [v0, v1, v2, v3, .ref sa] ∧ PP (wo sa H) [v0, v1, v2, v3] (AL C i) ∧ H sa = some (.lst [.int c]) ∧ G i ∧
  ∀ H' c', Same (wo sa H) H' → H' sa = some (.lst [.int c']) → Q .non H'
abbrev spLook (C : Addr) (n : Nat) : Sp := spLk C fun i => LIok i n
abbrev spLIO (C : Addr) (n : Nat) : Sp := spLk C fun i => LIok i n ∧ ∃ k a b, i.2.2.2.2.2 = .thing k a b
abbrev spLW (C : Addr) (n : Nat) : Sp := spLk C fun i => LIok i n ∧ ∃ k j kids, i.2.2.2.2.2 = .row k j kids
theorem nodup_sub {α : Type} [BEq α] [LawfulBEq α] : ∀ {l m : List α}, l.Nodup → (∀ x ∈ l, x ∈ m) → l.length ≤ m.length
  | [], _, _, _ => Nat.zero_le _
  | x :: l, m, hn, h => by
    rw [List.nodup_cons] at hn
    have h1 := nodup_sub (l := l) (m := m.erase x) hn.2 fun y hy => (List.mem_erase_of_ne (fun z : y = x => hn.1 (by rw [← z]; exact hy))).mpr (h y (List.mem_cons_of_mem _ hy))
    rw [List.length_erase_of_mem (h x List.mem_cons_self)] at h1
    have : 0 < m.length := List.length_pos_of_mem (h x List.mem_cons_self)
    rw [List.length_cons]
    omega
theorem bar_ok {ps : List Prt} {things : Things} {inside : Ins} {taken : Tks} {form : Str} {o : Option (List Str)} (hs : SeOk ps things inside taken) (hw : ThW things) (hb : BarP ps (wantsIn things inside taken) form o) : IbOk (ps, wantsIn things inside taken, form, o) := by
  have hwo := hs.wants
  refine ⟨⟨?_, fun S e => (hb.sh S e).2.1⟩, fun S e => ?_, hb.lt, Nat.le_trans hs.hp.few (by decide), Nat.le_trans hwo.few (by decide), fun x hx => Nat.le_trans (hwo.sh x hx) (by decide)⟩
  · obtain ⟨x, hx, rfl⟩ := hb.form
    obtain ⟨s, h1, r, h2, y, h3, h4⟩ := wantsIn_mem hs.it hx
    exact hw.form s h1 r h2 y h3 x h4
  · obtain ⟨h1, _, h3⟩ := hb.sh S e
    refine ⟨fun s hs' => ?_, h1, ?_⟩
    · obtain ⟨x, hx, hz⟩ := h3 s hs'
      obtain ⟨s', k1, r, k2, y, k3, k4⟩ := wantsIn_mem hs.it hx
      exact hw.shw s' k1 r k2 y k3 x k4 s hz
    · have hnd : S.Nodup := by
        rw [List.nodup_iff_pairwise_ne]
        refine h1.imp fun {x y} h z => ?_
        subst z
        rw [sLt_irr] at h
        cases h
      have h5 := nodup_sub (m := ((wantsIn things inside taken).map (·.shades)).flatten) hnd fun s hs' => by
        obtain ⟨x, hx, hz⟩ := h3 s hs'
        exact List.mem_flatten.mpr ⟨_, List.mem_map.mpr ⟨x, hx, rfl⟩, hz⟩
      have h6 := flat_len (wantsIn things inside taken) 10 (fun x => x.shades) fun x hx => by
        obtain ⟨s', k1, r, k2, y, k3, k4⟩ := wantsIn_mem hs.it hx
        exact hw.ok.sh s' k1 r k2 y k3 x k4
      have h7 := wantsIn_len hs.th hs.it
      show S.length ≤ 1000
      omega
section
variable {P : Program} {w : World} {K : PySem.W.Frag} {mg : Str → Option Value} {base : Heap}
-- slots: 0 ground, 1 inside, 2 taken, 3 thing, 4 seen, 5 number, 6 heap, 7 things, 8 limit
abbrev N_look_most : List Str := ["ground", "inside", "taken", "thing", "seen", "number", "heap", "things", "limit"]
theorem sc_look_most : FnScope N_look_most ["ground", "inside", "taken", "thing", "seen"] (defScope s_look_most) := ⟨rfl, rfl, rfl, by decide +kernel, rfl, by decide +kernel, by decide +kernel⟩
-- slots: 0 ground, 1 inside, 2 taken, 3 thing, 4 seen, 5 k
abbrev N_look_in_and_out : List Str := ["ground", "inside", "taken", "thing", "seen", "k"]
theorem sc_look_in_and_out : FnScope N_look_in_and_out ["ground", "inside", "taken", "thing", "seen"] (defScope s_look_in_and_out) := ⟨rfl, rfl, rfl, by decide +kernel, rfl, by decide +kernel, by decide +kernel⟩
-- slots: 0 ground, 1 inside, 2 taken, 3 thing, 4 seen, 5 is_in, 6 number, 7 k, 8 j, 9 way, 10 node, 11 own
abbrev N_look_ways : List Str := ["ground", "inside", "taken", "thing", "seen", "is_in", "number", "k", "j", "way", "node", "own"]
theorem sc_look_ways : FnScope N_look_ways ["ground", "inside", "taken", "thing", "seen"] (defScope s_look_ways) := ⟨rfl, rfl, rfl, by decide +kernel, rfl, by decide +kernel, by decide +kernel⟩
theorem lio_of (T : Tx w K mg) (n : Nat) (cs : Cal P w K mg base (8 + 2 * n) "look_most" (spLook (CH K) n) []) : Cal P w K mg base (8 + 2 * n + 1) "look_in_and_out" (spLIO (CH K) (n + 1)) [] := by
  refine mk_cal (k := 8 + 2 * n) T.f_look_in_and_out T.g_look_in_and_out sc_look_in_and_out (fun _ _ _ _ _ _ us hl => match us, hl with | [_, _, _, _, _], _ => rfl) (fun vs H Q E ⟨_, _, _, _, _, _, _, h, _⟩ => by rw [h]; rfl) (fun cdv A outer s H vs Q E hr h => ?_)
  obtain ⟨⟨ps, things, limit, inside, taken, t⟩, sa, c, v0, v1, v2, v3, rfl, hp, hsa, ⟨⟨hse, hw, htr, hme⟩, k, a, b, ht⟩, q⟩ := h
  dsimp only at hse hw htr hme ht
  subst ht
  obtain ⟨h0, h1, h2, h3, _⟩ := hp
  dsimp only at h0 h1 h2 h3
  rw [RTree_thing] at h3
  cases htr with
  | thing hk hno ta' tb' =>
  have hli := hse.it.li
  have h3l := hse.th.few
  refine ⟨_, (pss_cons (ps_set (i := 5) sc_look_in_and_out.nd rfl (.inl rfl) (pe_ix (kx_ixT K) (pv 3) pe_int (fun _ _ => rfl)))
    (pss_cons (ps_expr (pe_c (ok_need_node T) hr (by omega) rfl (pa_cons (pe_c (ok_is_free T) hr (by omega) rfl (pa_cons (pv 1) (pa_cons (pv 5) pa_nil))) (pa_cons pe_str (pa_cons (pe_op op_sub (pe_ix (kx_ixL K) (pv 4) pe_int (fun _ _ => rfl)) pe_int) pa_nil)))))
    (pss_cons (ps_expr (pe_c cs hr (by omega) rfl (pa_cons (pv 0) (pa_cons (pe_op op_cat (pe_op op_cat (pe_slice (kx_slL K) (pv 1) po_none (po_some (pv 5))) (pe_lst (pa_cons pe_bl pa_nil))) (pe_slice (kx_slL K) (pv 1) (po_some (pe_op op_add (pv 5) pe_int)) po_none)) (pa_cons (pv 2) (pa_cons (pe_ix (kx_ixT K) (pv 3) pe_int (fun _ _ => rfl)) (pa_cons (pv 4) pa_nil)))))))
    (pss_one (ps_expr (pe_c cs hr (by omega) rfl (pa_cons (pv 0) (pa_cons (pe_op op_cat (pe_op op_cat (pe_slice (kx_slL K) (pv 1) po_none (po_some (pv 5))) (pe_lst (pa_cons pe_bl pa_nil))) (pe_slice (kx_slL K) (pv 1) (po_some (pe_op op_add (pv 5) pe_int)) po_none)) (pa_cons (pv 2) (pa_cons (pe_ix (kx_ixT K) (pv 3) pe_int (fun _ _ => rfl)) (pa_cons (pv 4) pa_nil))))))))))), ?_⟩
  have hs3 : ∀ {H' : Hp}, Same (wo sa H) H' → TupP ([IsS "thing", RNat k, RTree a, RTree b].map (At0 (wo sa H))) H' v3 := fun e => tup_at0 h3 e
  refine q_set (er_ixT (p := At0 (wo sa H) (RNat k)) (er_var (hs3 wo_same)) er_c) fun u5 H1 e1 r5 => ?_
  obtain rfl : u5 = V.int k := r5
  have w1 : Same (wo sa H) (wo sa H1) := (same_wo e1)
  have hs1 : LstP [IsI c] H1 (.ref sa) := ⟨sa, _, rfl, e1 sa _ hsa, rfl, True.intro⟩
  refine q_drop (er_call () (ea_cons (er_call (inside.map vOB, k) (ea2 (er_var (by have := MX.mx (w1.trans wo_same) h1; rwa [List.map_map])) er_v) (by rw [List.getElem?_map, hno]; rfl)) (ea2 (er_any er_c) (er_any (er_I0 (er_ixL (ps := [IsI c]) (er_var hs1) er_c) er_c)))) True.intro) fun H2 e2 => ?_
  have w2 : Same (wo sa H) (wo sa H2) := w1.trans (same_wo e2)
  have hsa2 := (e1.trans e2) sa _ hsa
  have call : ∀ (bb : Bool) (tt : Tree) (ii : Nat) (H3 : Hp) (c3 : Int) (hi : [IsS "thing", RNat k, RTree a, RTree b][ii]? = some (RTree tt)) (σ : L2.St) (hσ : σ = [some v0, some v1, some v2, some v3, some (.ref sa), some (.int k)]) (kk : L2.Hp → Prop), Same (wo sa H) (wo sa H3) → H3 sa = some (.lst [.int c3]) → TreeOk ps things limit (inside.set k (some bb)) taken tt →
      (∀ H4 c4, Same (wo sa H) (wo sa H4) → H4 sa = some (.lst [.int c4]) → kk H4) →
      tCall (spLook (CH K) n) [] C8.E0 (tCons (tVar 0) (tCons (tOp rCat (tOp rCat (tSl (rSlL K) (tVar 1) tNoPart (tPart (tVar 5))) (tLst (tCons (tC (.bl bb)) tNil))) (tSl (rSlL K) (tVar 1) (tPart (tOp (rI0 fun i j => V.int (i + j)) (tVar 5) (tC (.int 1)))) tNoPart)) (tCons (tVar 2) (tCons (tOp (rIxT K) (tVar 3) (tC (.int (ii : Int)))) (tCons (tVar 4) tNil))))) σ H3 (fun _ H4 => kk H4) := by
    intro bb tt ii H3 c3 hi σ hσ kk w3 hs3' htt k4
    subst hσ
    have ev : EvA (tCons (tVar 0) (tCons (tOp rCat (tOp rCat (tSl (rSlL K) (tVar 1) tNoPart (tPart (tVar 5))) (tLst (tCons (tC (.bl bb)) tNil))) (tSl (rSlL K) (tVar 1) (tPart (tOp (rI0 fun i j => V.int (i + j)) (tVar 5) (tC (.int 1)))) tNoPart)) (tCons (tVar 2) (tCons (tOp (rIxT K) (tVar 3) (tC (.int (ii : Int)))) (tCons (tVar 4) tNil))))) [some v0, some v1, some v2, some v3, some (.ref sa), some (.int k)] H3
        [IsV v0, Away sa (RInside (inside.set k (some bb))), IsV v2, At0 (wo sa H) (RTree tt), IsV (.ref sa)] :=
      ea_cons er_v (ea_cons (en_away (en_put (R := ROB) (xs := inside) (y := some bb) (er_var (MX.mx (w3.trans wo_same) h1)) (er_v (v := .int (k : Int))) er_c (by omega) (by omega)) hs3') (ea_cons er_v (ea2 (er_ixT (er_var (hs3 (w3.trans wo_same))) er_c (by rw [List.getElem?_map]; simp [hi]) (by omega)) er_v)))
    refine ev H3 (Same.refl _) _ fun vs H4 e4 r4 => ?_
    obtain ⟨x0, x1, x2, x3, x4, rfl, y0, y1, y2, y3, y4⟩ := r4.five
    obtain rfl : x0 = v0 := y0
    obtain rfl : x2 = v2 := y2
    obtain rfl : x4 = V.ref sa := y4
    have w4 : Same (wo sa H) (wo sa H4) := w3.trans (same_wo e4)
    refine ⟨(ps, things, limit, inside.set k (some bb), taken, tt), sa, c3, x0, x1, x2, x3, rfl, ⟨MX.mx w4 h0, away_flat y1, MX.mx w4 h2, MX.mx w4 (show RTree tt (wo sa H) x3 from y3), True.intro⟩, e4 sa _ hs3', ⟨hse.thing, hw, htt, ?_⟩, fun H5 c5 s5 hs5 => k4 H5 c5 (wo_into (w4.trans s5)) hs5⟩
    have := meas_thing (taken := taken) (b := bb) hno
    show meas (inside.set k (some bb)) taken < n
    omega
  refine call true a 2 H2 c rfl _ rfl _ w2 hsa2 ta' fun H3 c3 w3 hs3' => ?_
  exact call false b 3 H3 c3 rfl _ rfl _ w3 hs3' tb' fun H4 c4 w4 hs4 => q H4 c4 (w4.trans wo_same) hs4
end
end K43
set_option Elab.async false
set_option linter.all false
set_option maxRecDepth 100000
set_option maxHeartbeats 1000000
/-! # KSA: look_ways -/
namespace K43
open PySem PySem.Spec PyProof.Rows L2 K43S
open C8 (Cal Mak Met pe_c pe_mk pe_mt pe_mt0)
section
variable {P : Program} {w : World} {K : PySem.W.Frag} {mg : Str → Option Value} {base : Heap}
theorem s_dropC5 {sp : Sp} {σ : L2.St} {H : Hp} {E : XK} {D : Ends} {ts : TA} {us : List V} (ha : EvA ts σ H (us.map IsV)) (k : ∀ H1, Same H H1 → sp us H1 (fun _ H2 => D.nx σ H2) E) : tDrop (tCall sp [] E ts) D σ H := ha H (Same.refl _) _ fun vs H1 e r => by
  have := r.isv
  subst this
  show sp (vs ++ []) H1 _ E
  rw [List.append_nil]
  exact k H1 e
theorem s_dropCP {sp : Sp} {σ : L2.St} {H : Hp} {E : XK} {D : Ends} {ts : TA} {ps : List Pr} (ha : EvA ts σ H ps) (k : ∀ vs H1, Same H H1 → PP H1 vs ps → sp vs H1 (fun _ H2 => D.nx σ H2) E) : tDrop (tCall sp [] E ts) D σ H := ha H (Same.refl _) _ fun vs H1 e r => by
  show sp (vs ++ []) H1 _ E
  rw [List.append_nil]
  exact k vs H1 e r
theorem q_par3 {σ : L2.St} {H : Hp} {ta : TA} {D : Ends} {tz : TS} {i j l : Nat} {p q r : Pr} (h : EvA ta σ H [p, q, r]) (k : ∀ u v w H1, Same H H1 → p H1 u → q H1 v → r H1 w → tz D (((σ.set i (some u)).set j (some v)).set l (some w)) H1) : tSeq (tPar3 i j l ta) tz D σ H := h H (Same.refl H) _ fun vs H1 e r1 => by
  obtain ⟨u, v, w, rfl, r1, r2, r3⟩ := r1.three
  exact ⟨u, v, w, rfl, k u v w H1 e r1 r2 r3⟩
theorem fk_wo {sa : Addr} {H H' : Hp} {xs : List V} (e : Same (wo sa H) H') (h : H sa = some (.lst xs)) : FK H H' := fun a o fx ha => by
  by_cases z : a = sa
  · subst z
    rw [h] at ha
    cases ha
    exact fx.elim
  · exact e a o (by rw [wo_ne z]; exact ha)
theorem lw_of (T : Tx w K mg) (n : Nat) (cs : Cal P w K mg base (8 + 2 * n) "look_most" (spLook (CH K) n) []) : Cal P w K mg base (8 + 2 * n + 1) "look_ways" (spLW (CH K) (n + 1)) [] := by
  refine mk_cal (k := 8 + 2 * n) T.f_look_ways T.g_look_ways sc_look_ways (fun _ _ _ _ _ _ us hl => match us, hl with | [_, _, _, _, _], _ => rfl) (fun vs H Q E ⟨_, _, _, _, _, _, _, h, _⟩ => by rw [h]; rfl) (fun cdv A outer s H vs Q E hr h => ?_)
  obtain ⟨⟨ps, things, limit, inside, taken, t⟩, sa, c, v0, v1, v2, v3, rfl, hp, hsa, ⟨⟨hse, hw, htr, hme⟩, k, j, kids, ht⟩, q⟩ := h
  dsimp only at hse hw htr hme ht
  subst ht
  obtain ⟨h0, h1, h2, h3, _⟩ := hp
  dsimp only at h0 h1 h2 h3
  rw [RTree_row] at h3
  cases htr with
  | row hk hin hno hjs hkl hkt =>
  have hli := hse.it.li
  have hlt := hse.it.lt
  have h3l := hse.th.few
  have hki : k < inside.length := by omega
  have hkt2 : k < taken.length := by omega
  have hj : j < (taken.getD k []).length := (List.getElem?_eq_some_iff.mp hno).1
  have hsm := getD_mem (d := []) hk
  have hrm := getD_mem (d := []) hjs
  have hrl := hse.th.ways _ hsm _ hrm
  have hsl := hse.th.rows _ hsm
  refine ⟨_, (pss_cons (ps_par3 (i := 6) (j := 7) (l := 8) (by rfl) sc_look_ways.nd rfl rfl rfl (by decide) (by decide) (by decide) rfl rfl rfl (pa_cons (pe_op op_sub (pe_ix (kx_ixL K) (pv 4) pe_int (fun _ _ => rfl)) pe_int) (pa_cons (pe_ix (kx_ixT K) (pv 3) pe_int (fun _ _ => rfl)) (pa_cons (pe_ix (kx_ixT K) (pv 3) pe_int (fun _ _ => rfl)) pa_nil))) (by rfl))
    (pss_cons (ps_set (i := 5) sc_look_ways.nd rfl (.inl rfl) (pe_and (pe_c (ok_is_number T) hr (by omega) rfl (pa_cons (pv 7) pa_nil)) (pe_and (pe_chain op_le op_lt pe_int (pv 7) (pe_callB (id := "len") (kx_len K) (by rfl) T.b_len (by decide +kernel) (pa_cons (pv 1) pa_nil))) (pe_one (pe_cmpR op_isBl (pe_ix (kx_ixL K) (pv 1) (pv 7) (fun _ _ => rfl)) pe_bl (nomark _))))))
    (pss_cons (ps_expr (pe_c (ok_need_node T) hr (by omega) rfl (pa_cons (pe_and (pv 5) (pe_one (pe_c (ok_is_free T) hr (by omega) rfl (pa_cons (pe_ix (kx_ixL K) (pv 2) (pv 7) (fun _ _ => rfl)) (pa_cons (pv 8) pa_nil))))) (pa_cons pe_str (pa_cons (pv 6) pa_nil)))))
    (pss_cons (ps_expr (pe_c (ok_need_node T) hr (by omega) rfl (pa_cons (pe_cmpR op_eq (pe_op op_sub (pe_callB (id := "len") (kx_len K) (by rfl) T.b_len (by decide +kernel) (pa_cons (pv 3) pa_nil)) pe_int) (pe_callB (id := "len") (kx_len K) (by rfl) T.b_len (by decide +kernel) (pa_cons (pe_ix (kx_ixT K) (pe_ix (kx_ixT K) (pe_ix (kx_ixT K) (pv 0) pe_int (fun _ _ => rfl)) (pv 7) (fun _ _ => rfl)) (pv 8) (fun _ _ => rfl)) pa_nil)) (nomark _)) (pa_cons pe_str (pa_cons (pv 6) pa_nil)))))
    (pss_one (ps_for PassesOwn.never rfl (kx_pi_enumT K rfl T.b_enumerate (pa_cons (pe_slice (kx_slT K) (pv 3) (po_some pe_int) po_none) pa_nil)) (kx_tup K (by rfl) (pgs_cons (pg_name (i := 9) sc_look_ways.nd rfl (.inl rfl)) (pgs_cons (pg_name (i := 10) sc_look_ways.nd rfl (.inl rfl)) pgs_nil)))
      (pss_cons (ps_set (i := 11) sc_look_ways.nd rfl (.inl rfl) (pe_op op_cat (pe_op op_cat (pe_slice (kx_slL K) (pe_ix (kx_ixL K) (pv 2) (pv 7) (fun _ _ => rfl)) po_none (po_some (pv 8))) (pe_lst (pa_cons (pv 9) pa_nil))) (pe_slice (kx_slL K) (pe_ix (kx_ixL K) (pv 2) (pv 7) (fun _ _ => rfl)) (po_some (pe_op op_add (pv 8) pe_int)) po_none)))
    (pss_one (ps_expr (pe_c cs hr (by omega) rfl (pa_cons (pv 0) (pa_cons (pv 1) (pa_cons (pe_op op_cat (pe_op op_cat (pe_slice (kx_slL K) (pv 2) po_none (po_some (pv 7))) (pe_lst (pa_cons (pv 11) pa_nil))) (pe_slice (kx_slL K) (pv 2) (po_some (pe_op op_add (pv 7) pe_int)) po_none)) (pa_cons (pv 10) (pa_cons (pv 4) pa_nil))))))))))))))), ?_⟩
  have h3H := MX.mx wo_same h3
  have hsP : ∀ {H' : Hp}, H' sa = some (.lst [.int c]) → LstP [IsI c] H' (.ref sa) := fun e => ⟨sa, _, rfl, e, rfl, True.intro⟩
  refine q_par3 (p := IsI (c - 1)) (q := RNat k) (r := RNat j) (ea_cons (er_I0 (er_ixL (ps := [IsI c]) (er_var (hsP hsa)) er_c) er_c) (ea2 (er_ixT (p := RNat k) (er_var h3H) er_c) (er_ixT (p := RNat j) (er_var h3H) er_c))) fun x1 x2 x3 H1 e1 y1 y2 y3 => ?_
  obtain rfl : x1 = V.int (c - 1) := y1
  obtain rfl : x2 = V.int k := y2
  obtain rfl : x3 = V.int j := y3
  have w1 : Same (wo sa H) (wo sa H1) := same_wo e1
  have i1 := MX.mx (w1.trans wo_same) h1
  refine q_set (EvR.is (er_and (a := true) (b := true) (er_call (k : Int) (ea1 (er_v (v := .int (k : Int)))) True.intro) fun _ => er_and (a := true) (b := true) (er_chain (a := true) (b := true) er_c (er_v (v := .int (k : Int))) (fun v w H1 _ g1 g2 Q q => r_I0 (by simp) g1 g2 q) (fun _ => ev_lenLO (er_var i1)) (fun _ v w H1 _ g1 g2 Q q => r_I0 (by simp; omega) g1 g2 q)) fun _ => er_isB (a := true) (b := true) (er_ixLO (R := ROB) (x := some true) (er_var i1) (er_v (v := .int (k : Int))) (by omega) (by simpa using hin)) er_c) rfl) fun u5 H2 e2 r5 => ?_
  obtain rfl : u5 = V.bl true := r5
  have w2 : Same (wo sa H) (wo sa H2) := w1.trans (same_wo e2)
  have t2 := MX.mx (w2.trans wo_same) h2
  refine q_drop (er_call () (ea_cons (EvR.is (er_and (a := true) (b := true) er_v fun _ => er_call ((taken.getD k []).map vON, j) (ea2 (EvR.to (er_ixLO (R := RTk) (x := taken.getD k []) (er_var t2) (er_v (v := .int (k : Int))) (by omega) (by simpa using getD_of hkt2)) fun H v h => by rw [List.map_map]; exact h) (er_v (v := .int (j : Int)))) (by rw [List.getElem?_map, hno]; rfl)) rfl) (ea2 (er_any er_c) (er_any er_v))) True.intro) fun H3 e3 => ?_
  have w3 : Same (wo sa H) (wo sa H3) := w2.trans (same_wo e3)
  have g3 := MX.mx (w3.trans wo_same) h0
  refine q_drop (er_call () (ea_cons (EvR.is (er_eq (x := .int (((IsS "row" :: RNat k :: RNat j :: kids.map RTree).length : Int) - 3)) (y := .int (((things.getD k []).getD j []).length : Int)) (er_I0 (ev_lenT (er_var (MX.mx (w3.trans wo_same) h3))) er_c) (ev_lenTO (R := RWay) (er_ixTO (R := RRow) (x := (things.getD k []).getD j []) (er_ixTO (R := RSheet) (x := things.getD k []) (er_ixT (ps := [RHeap (CH K) ps, RThings things, IsI limit]) (p := RThings things) (er_var g3) er_c) (er_v (v := .int (k : Int))) (by omega) (by simpa using getD_of hk)) (er_v (v := .int (j : Int))) (by omega) (by simpa using getD_of hjs))) rfl) (congrArg V.bl (decide_eq_true (by rw [← hkl]; simp; omega)))) (ea2 (er_any er_c) (er_any er_v))) True.intro) fun H4 e4 => ?_
  have w4 : Same (wo sa H) (wo sa H4) := w3.trans (same_wo e4)
  have hsa4 := (((e1.trans e2).trans e3).trans e4) sa _ hsa
  have hth : TupP (At0 (wo sa H) (IsS "row") :: At0 (wo sa H) (RNat k) :: At0 (wo sa H) (RNat j) :: kids.map fun t => At0 (wo sa H) (RTree t)) H4 v3 := by
    have := tup_at0 h3 (w4.trans wo_same)
    rw [List.map_cons, List.map_cons, List.map_cons, List.map_map] at this
    exact this
  have hsl3 : EvR (tSl (rSlA K) (tVar 3) (tPart (tC (.int 3))) tNoPart) [some v0, some v1, some v2, some v3, some (.ref sa), some (.bl true), some (.int (c - 1)), some (.int k), some (.int j), none, none, none] H4 (TupOf (fun t => At0 (wo sa H) (RTree t)) kids) := by
    have := er_slT (K := K) (er_var (i := 3) (σ := [some v0, some v1, some v2, some v3, some (.ref sa), some (.bl true), some (.int (c - 1)), some (.int k), some (.int j), none, none, none]) hth) (eo_some (i := ((3 : Nat) : Int)) (er_c (v := .int 3))) eo_none
    rw [cutP_from (by simp)] at this
    exact this
  refine s_for (ei_enumT (RA := fun t => At0 (wo sa H) (RTree t)) (xs := kids) (ea1 hsl3)) (fun i σ' Hc => (∃ v9 v10 v11, σ' = [some v0, some v1, some v2, some v3, some (.ref sa), some (.bl true), some (.int (c - 1)), some (.int k), some (.int j), v9, v10, v11]) ∧ Same (wo sa H) (wo sa Hc) ∧ ∃ c', Hc sa = some (.lst [.int c']))
    (fun H5 e5 => ⟨⟨_, _, _, rfl⟩, w4.trans (same_wo e5), c, e5 sa _ hsa4⟩) ?_ ?_
  · rintro i ⟨t, m⟩ v σ' Hc Hx N hx f ⟨⟨v9, v10, v11, rfl⟩, w5, c', hc'⟩ sx r nx
    have hm : i < kids.length ∧ m = i ∧ kids[i]? = some t := by
      rw [List.getElem?_zipIdx] at hx
      cases z : kids[i]? with
      | none => rw [z] at hx; cases hx
      | some y =>
        rw [z] at hx
        simp at hx
        exact ⟨(List.getElem?_eq_some_iff.mp z).1, by omega, by rw [hx.1]⟩
    obtain ⟨hil, rfl, htm⟩ := hm
    refine eg_tup2 r fun u9 u10 g9 g10 => ?_
    obtain rfl : u9 = V.int m := g9
    have w6 : Same (wo sa H) (wo sa Hx) := w5.trans (same_wo sx)
    have hcx := sx sa _ hc'
    refine q_set (en_away (R := RTk ((taken.getD k []).set j (some m))) (en_put (R := RON) (xs := taken.getD k []) (y := some m) (er_ixLO (R := RTk) (x := taken.getD k []) (er_var (MX.mx (w6.trans wo_same) h2)) (er_v (v := .int (k : Int))) (by omega) (by simpa using getD_of hkt2)) (er_v (v := .int (j : Int))) (er_v (v := .int (m : Int))) hj (by rw [hse.tl k]; omega)) hcx) fun u11 H7 e7 r11 => ?_
    have w7 : Same (wo sa H) (wo sa H7) := w6.trans (same_wo e7)
    have hc7 := e7 sa _ hcx
    have own : RTk ((taken.getD k []).set j (some m)) (wo sa H7) u11 := away_flat r11
    refine s_dropCP (ps := [IsV v0, IsV v1, Away sa (LstOf (fun x => At0 (wo sa H7) (RTk x)) (taken.set k ((taken.getD k []).set j (some m)))), IsV u10, IsV (.ref sa)]) (ea_cons er_v (ea_cons er_v (ea_cons (en_away (R := LstOf (fun x => At0 (wo sa H7) (RTk x)) (taken.set k ((taken.getD k []).set j (some m)))) (en_put (R := fun x => At0 (wo sa H7) (RTk x)) (xs := taken) (y := (taken.getD k []).set j (some m)) (er_var (lst_at0 (MX.mx w7 h2) wo_same)) (er_v (v := .int (k : Int))) (er_var own) hkt2 (by omega)) hc7) (ea2 er_v er_v)))) fun vs H8 e8 r8 => ?_
    obtain ⟨x0, x1, x2, x3, x4, rfl, y0, y1, y2, y3, y4⟩ := r8.five
    obtain rfl : x0 = v0 := y0
    obtain rfl : x1 = v1 := y1
    obtain rfl : x3 = u10 := y3
    obtain rfl : x4 = V.ref sa := y4
    have w8 : Same (wo sa H) (wo sa H8) := w7.trans (same_wo e8)
    have hc8 := e8 sa _ hc7
    have hjr : m < ((things.getD k []).getD j []).length := by omega
    refine ⟨(ps, things, limit, inside, setTk taken k j m, t), sa, c', x0, x1, x2, x3, rfl, ⟨MX.mx w8 h0, MX.mx w8 h1, away_at0 y2 (same_wo e8), MX.mx w8 (show RTree t (wo sa H) x3 from g10), True.intro⟩, hc8, ⟨hse.row hk hjs hjr, hw, hkt m t htm, ?_⟩, fun H9 c9 s9 hs9 => nx _ _ ?_ ⟨⟨_, _, _, rfl⟩, wo_into (w8.trans s9), c9, hs9⟩⟩
    · have := meas_row (inside := inside) (way := m) hkt2 hno
      show meas inside (setTk taken k j m) < n
      omega
    · exact ((Same.fk e7).trans (Same.fk e8)).trans (fk_wo s9 hc8)
  · rintro σ' Hc f ⟨_, w5, c', hc'⟩
    exact q Hc c' (w5.trans wo_same) hc'
end
end K43
set_option Elab.async false
set_option linter.all false
set_option maxRecDepth 100000
set_option maxHeartbeats 1000000
/-! # KSB: look_most -/
namespace K43
open PySem PySem.Spec PyProof.Rows L2 K43S
open C8 (Cal Mak Met pe_c pe_mk pe_mt pe_mt0)
section
variable {P : Program} {w : World} {K : PySem.W.Frag} {mg : Str → Option Value} {base : Heap}
def Tree.word : Tree → Str
  | .count => "count"
  | .bar _ _ => "bar"
  | .row _ _ _ => "row"
  | .thing _ _ _ => "thing"
def Tree.few : Tree → Prop
  | .row _ _ kids => kids.length ≤ 100
  | _ => True
theorem pp_some {H : Hp} : ∀ {ps : List Pr} {vs : List V}, PP H vs ps → PP H vs (vs.map IsV)
  | [], [], _ => True.intro
  | _ :: _, _ :: _, ⟨_, h⟩ => ⟨rfl, pp_some h⟩
theorem rtree_node : ∀ {t : Tree} {H : Hp} {v : V}, t.few → RTree t H v → ∃ vs, HmOk (t.word, vs) ∧ RNode (t.word, vs) H v
  | .count, H, v, _, h => by
    rw [RTree_count] at h
    obtain ⟨a, vs, rfl, h1, h2⟩ := h
    obtain ⟨x, rfl, h3⟩ := h2.one
    obtain rfl : x = V.str "count" := h3
    exact ⟨[], .inr (.inr (.inr ⟨rfl, rfl⟩)), a, _, rfl, h1, rfl, True.intro⟩
  | .bar f o, H, v, _, h => by
    rw [RTree_bar] at h
    obtain ⟨a, vs, rfl, h1, h2⟩ := h
    obtain ⟨x, y, z, rfl, h3, h4, h5⟩ := h2.three
    obtain rfl : x = V.str "bar" := h3
    exact ⟨[y, z], .inr (.inr (.inl ⟨rfl, rfl⟩)), a, _, rfl, h1, rfl, rfl, rfl, True.intro⟩
  | .row k j kids, H, v, hf, h => by
    rw [RTree_row] at h
    obtain ⟨a, vs, rfl, h1, h2⟩ := h
    have hl := h2.length
    match vs, h1, h2, hl with
    | x :: vs, h1, h2, hl =>
      obtain rfl : x = V.str "row" := h2.1
      have hf' : kids.length ≤ 100 := hf
      simp at hl
      exact ⟨vs, .inr (.inl ⟨rfl, by show 2 ≤ vs.length; omega, by show vs.length ≤ 1000; omega⟩), a, _, rfl, h1, rfl, pp_some h2.2⟩
  | .thing k x y, H, v, _, h => by
    rw [RTree_thing] at h
    obtain ⟨a, vs, rfl, h1, h2⟩ := h
    obtain ⟨x1, x2, x3, x4, rfl, h3, _⟩ := h2.four
    obtain rfl : x1 = V.str "thing" := h3
    exact ⟨[x2, x3, x4], .inl ⟨rfl, rfl⟩, a, _, rfl, h1, rfl, rfl, rfl, rfl, True.intro⟩
theorem tree_few {ps : List Prt} {things : Things} (th : ThOk things) {limit : Int} {inside : Ins} {taken : Tks} {t : Tree} (h : TreeOk ps things limit inside taken t) : t.few := by
  cases h with
  | count _ => exact True.intro
  | bar _ => exact True.intro
  | thing _ _ _ _ => exact True.intro
  | row hk hin hno hjs hkl hkt =>
    have hrl := th.ways _ (getD_mem (d := []) hk) _ (getD_mem (d := []) hjs)
    show List.length _ ≤ 100
    omega
theorem look_of (T : Tx w K mg) (n : Nat) (ci : Cal P w K mg base (8 + 2 * n + 1) "look_in_and_out" (spLIO (CH K) (n + 1)) []) (cw : Cal P w K mg base (8 + 2 * n + 1) "look_ways" (spLW (CH K) (n + 1)) []) : Cal P w K mg base (8 + 2 * n + 1 + 1) "look_most" (spLook (CH K) (n + 1)) [] := by
  refine mk_cal (k := 8 + 2 * n + 1) T.f_look_most T.g_look_most sc_look_most (fun _ _ _ _ _ _ us hl => match us, hl with | [_, _, _, _, _], _ => rfl) (fun vs H Q E ⟨_, _, _, _, _, _, _, h, _⟩ => by rw [h]; rfl) (fun cdv A outer s H vs Q E hr h => ?_)
  obtain ⟨⟨ps, things, limit, inside, taken, t⟩, sa, c, v0, v1, v2, v3, rfl, hp, hsa, hG, q⟩ := h
  have hGG := hG
  obtain ⟨hse, hw, htr, hme⟩ := hG
  dsimp only at hse hw htr hme
  obtain ⟨h0, h1, h2, h3, _⟩ := hp
  dsimp only at h0 h1 h2 h3
  obtain ⟨vs, hm, hnode⟩ := rtree_node (tree_few hse.th htr) h3
  have hli := hse.it.li
  have h3l := hse.th.few
  have hwl := wantsIn_len hse.th hse.it
  refine ⟨_, (pss_cons (ps_asg (pv 0) (kx_tup K (by rfl) (pgs_cons (pg_name (i := 6) sc_look_most.nd rfl (.inl rfl)) (pgs_cons (pg_name (i := 7) sc_look_most.nd rfl (.inl rfl)) (pgs_cons (pg_name (i := 8) sc_look_most.nd rfl (.inl rfl)) pgs_nil)))))
    (pss_cons (ps_set (i := 5) sc_look_most.nd rfl (.inl rfl) (pe_ix (kx_ixL K) (pv 4) pe_int (fun _ _ => rfl)))
    (pss_cons (ps_asg (pe_op op_add (pv 5) pe_int) (pg_sub (pv 4) pe_int set_list))
    (pss_cons (ps_expr (pe_c (ok_need_node T) hr (by omega) rfl (pa_cons (pe_c (ok_has_most_form T) hr (by omega) rfl (pa_cons (pv 3) pa_nil)) (pa_cons pe_str (pa_cons (pv 5) pa_nil)))))
    (pss_one (ps_if (pt_cmpR op_eq (pe_ix (kx_ixT K) (pv 3) pe_int (fun _ _ => rfl)) pe_str (nomark _)) (pss_one (ps_expr (pe_c ci hr (by omega) rfl (pa_cons (pv 0) (pa_cons (pv 1) (pa_cons (pv 2) (pa_cons (pv 3) (pa_cons (pv 4) pa_nil)))))))) (pss_one (ps_if (pt_cmpR op_eq (pe_ix (kx_ixT K) (pv 3) pe_int (fun _ _ => rfl)) pe_str (nomark _)) (pss_one (ps_expr (pe_c cw hr (by omega) rfl (pa_cons (pv 0) (pa_cons (pv 1) (pa_cons (pv 2) (pa_cons (pv 3) (pa_cons (pv 4) pa_nil)))))))) (pss_one (ps_if (pt_cmpR op_eq (pe_ix (kx_ixT K) (pv 3) pe_int (fun _ _ => rfl)) pe_str (nomark _)) (pss_one (ps_expr (pe_c (ok_need_node T) hr (by omega) rfl (pa_cons (pe_c (ok_is_barred T) hr (by omega) rfl (pa_cons (pv 6) (pa_cons (pe_c (ok_wants_in T) hr (by omega) rfl (pa_cons (pv 7) (pa_cons (pv 1) (pa_cons (pv 2) pa_nil)))) (pa_cons (pv 3) pa_nil)))) (pa_cons pe_str (pa_cons (pv 5) pa_nil)))))) (pss_one (ps_expr (pe_c (ok_need_node T) hr (by omega) rfl (pa_cons (pe_cmpR op_le (pe_op op_sub (pe_callB (id := "len") (kx_len K) (by rfl) T.b_len (by decide +kernel) (pa_cons (pv 1) pa_nil)) (kx_bm K PySem.F.plainAttrs_list PySem.F.slot_list_count PySem.F.type_list_count (kx_count K (hu65 hr)) (pv 1) (pa_cons pe_bl pa_nil))) (pv 8) (nomark _)) (pa_cons pe_str (pa_cons (pv 5) pa_nil)))))))))))))))), ?_⟩
  refine q_asg (er_var (R := TupP ([RHeap (CH K) ps, RThings things, IsI limit].map (At0 (wo sa H)))) (tup_at0 h0 wo_same)) fun vg H1 e1 rg => eg_tup3 rg fun u6 u7 u8 g6 g7 g8 => ?_
  obtain rfl : u8 = V.int limit := g8
  have hs1 := e1 sa _ hsa
  refine q_set (er_ixL (ps := [IsI c]) (er_var (R := LstP [IsI c]) ⟨sa, _, rfl, hs1, rfl, True.intro⟩) er_c) fun u5 H2 e2 r5 => ?_
  obtain rfl : u5 = V.int c := r5
  have hs2 := e2 sa _ hs1
  refine q_setL (R := IsI (c + 1)) hs2 (er_I0 er_v er_c) er_v er_c (by decide) (by simp) fun x H3 e3 r3 => ?_
  obtain rfl : x = V.int (c + 1) := r3
  have w3 : Same (wo sa H) (wo sa (upd H3 sa (.lst ([V.int c].set (0 : Int).toNat (V.int (c + 1)))))) := wo_into ((same_wo ((e1.trans e2).trans e3)).trans wo_upd)
  have hs3 : upd H3 sa (.lst ([V.int c].set (0 : Int).toNat (V.int (c + 1)))) sa = some (.lst [.int (c + 1)]) := upd_same
  generalize upd H3 sa (.lst ([V.int c].set (0 : Int).toNat (V.int (c + 1)))) = H4 at w3 hs3 ⊢
  have n4 := MX.mx (w3.trans wo_same) hnode
  refine q_drop (er_call () (ea_cons (er_call (t.word, vs) (ea1 (er_var n4)) hm) (ea2 (er_any er_c) (er_any er_v))) True.intro) fun H5 e5 => ?_
  have w5 : Same (wo sa H) (wo sa H5) := w3.trans (same_wo e5)
  have hs5 := e5 sa _ hs3
  have ix0 : ∀ {H' : Hp}, Same (wo sa H) H' → EvR (tOp (rIxT K) (tVar 3) (tC (.int 0))) [some v0, some v1, some v2, some v3, some (.ref sa), some (.int c), some u6, some u7, some (.int limit)] H' (IsS t.word) := fun e => er_ixT (ps := IsS t.word :: vs.map IsV) (p := IsS t.word) (er_var (MX.mx e (show TupP (IsS t.word :: vs.map IsV) (wo sa H) v3 from hnode))) er_c
  cases t with
  | thing k a b =>
    refine s_if (b := true) (eb_test (EvR.is (er_eq (x := .str "thing") (y := .str "thing") (ix0 (w5.trans wo_same)) er_c rfl) (by rfl))) (fun _ H6 e6 => ?_) fun z => by cases z
    have w6 := w5.trans (same_wo e6)
    refine s_dropC5 (us := [v0, v1, v2, v3, .ref sa]) (ea_cons er_v (ea_cons er_v (ea_cons er_v (ea2 er_v er_v)))) fun H7 e7 => ?_
    have w7 := w6.trans (same_wo e7)
    exact ⟨(ps, things, limit, inside, taken, .thing k a b), sa, c + 1, v0, v1, v2, v3, rfl, ⟨MX.mx w7 h0, MX.mx w7 h1, MX.mx w7 h2, MX.mx w7 h3, True.intro⟩, (e6.trans e7) sa _ hs5, ⟨hGG, k, a, b, rfl⟩, fun H8 c8 s8 hs8 => q H8 c8 (w7.trans s8) hs8⟩
  | row k j kids =>
    refine s_if (b := false) (eb_test (EvR.is (er_eq (x := .str "row") (y := .str "thing") (ix0 (w5.trans wo_same)) er_c rfl) (by rfl))) (fun z => by cases z) fun _ H6 e6 => ?_
    have w6 := w5.trans (same_wo e6)
    refine s_if (b := true) (eb_test (EvR.is (er_eq (x := .str "row") (y := .str "row") (ix0 (w6.trans wo_same)) er_c rfl) (by rfl))) (fun _ H7 e7 => ?_) fun z => by cases z
    have w7 := w6.trans (same_wo e7)
    refine s_dropC5 (us := [v0, v1, v2, v3, .ref sa]) (ea_cons er_v (ea_cons er_v (ea_cons er_v (ea2 er_v er_v)))) fun H8 e8 => ?_
    have w8 := w7.trans (same_wo e8)
    exact ⟨(ps, things, limit, inside, taken, .row k j kids), sa, c + 1, v0, v1, v2, v3, rfl, ⟨MX.mx w8 h0, MX.mx w8 h1, MX.mx w8 h2, MX.mx w8 h3, True.intro⟩, ((e6.trans e7).trans e8) sa _ hs5, ⟨hGG, k, j, kids, rfl⟩, fun H9 c9 s9 hs9 => q H9 c9 (w8.trans s9) hs9⟩
  | bar form o =>
    refine s_if (b := false) (eb_test (EvR.is (er_eq (x := .str "bar") (y := .str "thing") (ix0 (w5.trans wo_same)) er_c rfl) (by rfl))) (fun z => by cases z) fun _ H6 e6 => ?_
    have w6 := w5.trans (same_wo e6)
    refine s_if (b := false) (eb_test (EvR.is (er_eq (x := .str "bar") (y := .str "row") (ix0 (w6.trans wo_same)) er_c rfl) (by rfl))) (fun z => by cases z) fun _ H7 e7 => ?_
    have w7 := w6.trans (same_wo e7)
    refine s_if (b := true) (eb_test (EvR.is (er_eq (x := .str "bar") (y := .str "bar") (ix0 (w7.trans wo_same)) er_c rfl) (by rfl))) (fun _ H8 e8 => ?_) fun z => by cases z
    have w8 := w7.trans (same_wo e8)
    have k8 := w8.trans wo_same
    cases htr with
    | bar hb =>
    rw [RTree_bar] at h3
    refine s_drop (er_call () (ea_cons (er_call (ps, wantsIn things inside taken, form, o) (ea_cons (er_var (R := RHeap (CH K) ps) (MX.mx k8 (show RHeap (CH K) ps (wo sa H) u6 from g6))) (ea2 (er_call (things, inside, taken) (ea_cons (er_var (R := RThings things) (MX.mx k8 (show RThings things (wo sa H) u7 from g7))) (ea2 (er_var (MX.mx k8 h1)) (er_var (MX.mx k8 h2)))) ⟨hse.it, by show things.length ≤ 1000; omega, by show (wantsIn things inside taken).length ≤ 1000; omega⟩) (er_var (R := RBarN (form, o)) (MX.mx k8 h3)))) (bar_ok hse hw hb)) (ea2 (er_any er_c) (er_any er_v))) True.intro) fun H9 e9 => ?_
    exact q H9 (c + 1) ((w8.trans (same_wo e9)).trans wo_same) ((((e6.trans e7).trans e8).trans e9) sa _ hs5)
  | count =>
    refine s_if (b := false) (eb_test (EvR.is (er_eq (x := .str "count") (y := .str "thing") (ix0 (w5.trans wo_same)) er_c rfl) (by rfl))) (fun z => by cases z) fun _ H6 e6 => ?_
    have w6 := w5.trans (same_wo e6)
    refine s_if (b := false) (eb_test (EvR.is (er_eq (x := .str "count") (y := .str "row") (ix0 (w6.trans wo_same)) er_c rfl) (by rfl))) (fun z => by cases z) fun _ H7 e7 => ?_
    have w7 := w6.trans (same_wo e7)
    refine s_if (b := false) (eb_test (EvR.is (er_eq (x := .str "count") (y := .str "bar") (ix0 (w7.trans wo_same)) er_c rfl) (by rfl))) (fun z => by cases z) fun _ H8 e8 => ?_
    have w8 := w7.trans (same_wo e8)
    have k8 := w8.trans wo_same
    cases htr with
    | count hb =>
    refine s_drop (er_call () (ea_cons (EvR.is (er_I0 (er_I0 (ev_lenLO (R := ROB) (xs := inside) (er_var (MX.mx k8 h1))) (er_count (g := vOB) (xs := inside) (x := .bl false) (er_var (MX.mx k8 h1)) er_c rfl py_plain fun o => by cases o <;> rfl)) (er_v (v := .int limit))) (by rw [cnt_false]; exact congrArg V.bl (decide_eq_true hb))) (ea2 (er_any er_c) (er_any er_v))) True.intro) fun H9 e9 => ?_
    exact q H9 (c + 1) ((w8.trans (same_wo e9)).trans wo_same) ((((e6.trans e7).trans e8).trans e9) sa _ hs5)
theorem ok_look (T : Tx w K mg) : ∀ n : Nat, Cal P w K mg base (8 + 2 * n) "look_most" (spLook (CH K) n) []
  | 0 => by
    refine mk_cal (k := 7) T.f_look_most T.g_look_most sc_look_most (fun _ _ _ _ _ _ us hl => match us, hl with | [_, _, _, _, _], _ => rfl) (fun vs H Q E ⟨_, _, _, _, _, _, _, h, _⟩ => by rw [h]; rfl) (fun cdv A outer s H vs Q E hr h => ?_)
    obtain ⟨i, sa, c, v0, v1, v2, v3, _, _, _, hG, _⟩ := h
    exact absurd hG.2.2.2 (Nat.not_lt_zero _)
  | n + 1 => look_of T n (lio_of T n (ok_look T n)) (lw_of T n (ok_look T n))
end
end K43
set_option Elab.async false
set_option linter.all false
set_option maxRecDepth 100000
set_option maxHeartbeats 1000000
/-! # KSC: lets_most -/
namespace K43
open PySem PySem.Spec PyProof.Rows L2 K43S
open C8 (Cal Mak Met pe_c pe_mk pe_mt pe_mt0)
section
variable {P : Program} {w : World} {K : PySem.W.Frag} {mg : Str → Option Value} {base : Heap}
abbrev MI := List Prt × Things × List Nat × List Nat × List (List (Str × Int)) × Tree
structure MIok (i : MI) : Prop where
  hp : HeapOk i.1
  tw : ThW i.2.1
  best : BestOk i.1 i.2.1 i.2.2.1 i.2.2.2.1 i.2.2.2.2.1 i.2.2.2.2.2
  de : IsDe (i.1, sheetOf i.2.1 i.2.2.1, i.2.2.2.1, i.2.2.2.2.1)
abbrev spLetsMost (C : Addr) : Sp := PSp (ι := MI) (fun i => [RHeap C i.1, RThings i.2.1, TupP [TupOf RNat i.2.2.1, RDealing (i.2.2.2.1, i.2.2.2.2.1), RTree i.2.2.2.2.2]]) MIok fun i => IsI (i.2.2.1.length : Int)
theorem en_lst1 {σ : L2.St} {H : Hp} {c : Int} : EvN (tLst (tCons (tC (.int c)) tNil)) σ H (At (.lst [.int c])) := fun H1 e Q q => ⟨by rw [sizeLine_eq]; simp, fun p hp => q _ _ (Same.new hp) ⟨p, rfl, upd_same⟩ fun a ha => by cases ha; exact hp⟩
theorem new_wo {H H' : Hp} {sa : Addr} (e : Same H H') (h : H sa = none) : Same H (wo sa H') := fun a o ha => by
  have z : a ≠ sa := fun z => by subst z; rw [h] at ha; cases ha
  rw [wo_ne z]
  exact e a o ha
theorem q_dropC4 {sp : Sp} {σ : L2.St} {H : Hp} {E : XK} {D : Ends} {tz : TS} {a1 a2 a3 a4 a5 : TE} {p1 p2 p3 p4 : Pr} [MX p1] [MX p2] [MX p3] [MX p4] {o : HO} (h1 : EvR a1 σ H p1) (h2 : EvR a2 σ H p2) (h3 : EvR a3 σ H p3) (h4 : EvR a4 σ H p4) (h5 : EvN a5 σ H (At o))
    (k : ∀ v1 v2 v3 v4 sa H0 H1, Same H H0 → PP H0 [v1, v2, v3, v4] [p1, p2, p3, p4] → Same H0 H1 → H0 sa = none → H1 sa = some o → sp [v1, v2, v3, v4, .ref sa] H1 (fun _ H2 => tz D σ H2) E) : tSeq (tDrop (tCall sp [] E (tCons a1 (tCons a2 (tCons a3 (tCons a4 (tCons a5 tNil))))))) tz D σ H :=
  h1 H (Same.refl _) _ fun v1 H1 e1 r1 => h2 H1 e1 _ fun v2 H2 e2 r2 => h3 H2 (e1.trans e2) _ fun v3 H3 e3 r3 => h4 H3 ((e1.trans e2).trans e3) _ fun v4 H4 e4 r4 => h5 H4 (((e1.trans e2).trans e3).trans e4) _ fun v5 H5 e5 ⟨sa, g1, g2⟩ nw => by
    subst g1
    exact k v1 v2 v3 v4 sa H4 H5 (((e1.trans e2).trans e3).trans e4) ⟨MX.mx ((e2.trans e3).trans e4) r1, MX.mx (e3.trans e4) r2, MX.mx e4 r3, r4, True.intro⟩ e5 (nw sa rfl) g2
-- slots: 0 heap, 1 things, 2 thing, 3 taken, 4 places, 5 dealing, 6 tree, 7 own
abbrev N_lets_most : List Str := ["heap", "things", "thing", "taken", "places", "dealing", "tree", "own"]
theorem sc_lets_most : FnScope N_lets_most ["heap", "things", "thing"] (defScope s_lets_most) := ⟨rfl, rfl, rfl, by decide +kernel, rfl, by decide +kernel, by decide +kernel⟩
theorem ok_lets_most (T : Tx w K mg) : Cal P w K mg base 29 "lets_most" (spLetsMost (CH K)) [] := by
  refine mk_pure T.f_lets_most T.g_lets_most sc_lets_most (fun _ _ _ _ _ _ us hl => match us, hl with | [_, _, _], _ => rfl) (fun _ => rfl) (fun cdv A outer s H vs Q E i hr hp hc q => ?_)
  obtain ⟨v0, v1, v2, rfl, h0, h1, h2⟩ := PP.three hp
  obtain ⟨ps, things, places, choice, given, t⟩ := i
  obtain ⟨hpo, htw, hbest, hde⟩ := hc
  dsimp only at hpo htw hbest hde h0 h1 h2
  have hth := htw.ok
  have h3l := hth.few
  have hSe := begun_ok hpo hth
  have hpl : places.length ≤ 3 := by
    have := nodup_len things.length places (hbest.fd.rise.imp fun h => Nat.ne_of_lt h) hbest.fd.lt
    omega
  have hsl := flat_len places 2 (fun p => things.getD p []) fun p hp => hth.rows _ (getD_mem (hbest.fd.lt p hp))
  refine ⟨_, (pss_cons (ps_expr (pe_c (ok_need_node T) hr (by decide) rfl (pa_cons (pe_and (pe_callB (id := "isinstance") (kx_isi K) (by rfl) T.b_isinstance (by decide +kernel) (pa_cons (pv 2) (pa_cons (pe_bltn (v := .ty "tuple") rfl T.b_tuple (by decide +kernel) rfl) pa_nil))) (pe_one (pe_cmpR op_eq (pe_callB (id := "len") (kx_len K) (by rfl) T.b_len (by decide +kernel) (pa_cons (pv 2) pa_nil)) pe_int (nomark _)))) (pa_cons pe_str (pa_cons (pe_un un_neg pe_int) pa_nil)))))
    (pss_cons (ps_asg (pv 2) (kx_tup K (by rfl) (pgs_cons (pg_name (i := 4) sc_lets_most.nd rfl (.inl rfl)) (pgs_cons (pg_name (i := 5) sc_lets_most.nd rfl (.inl rfl)) (pgs_cons (pg_name (i := 6) sc_lets_most.nd rfl (.inl rfl)) pgs_nil)))))
    (pss_cons (ps_expr (pe_c (ok_need_node T) hr (by decide) rfl (pa_cons (pe_c (ok_is_places T) hr (by decide) rfl (pa_cons (pv 1) (pa_cons (pv 4) pa_nil))) (pa_cons pe_str (pa_cons (pe_un un_neg pe_int) pa_nil)))))
    (pss_cons (ps_expr (pe_c (ok_need_node T) hr (by decide) rfl (pa_cons (pe_c (ok_is_dealing T) hr (by decide) rfl (pa_cons (pv 0) (pa_cons (pe_c (ok_sheet_of T) hr (by decide) rfl (pa_cons (pv 1) (pa_cons (pv 4) pa_nil))) (pa_cons (pv 5) pa_nil)))) (pa_cons pe_str (pa_cons (pe_un un_neg pe_int) pa_nil)))))
    (pss_cons (ps_setLc (i := 3) (own := [("own", 7)]) (g := gName 7) (by rfl) sc_lets_most.nd rfl rfl (sw_true rfl rfl rfl (by decide +kernel)) (kx_pi_tup K (pv 1)) (blkOk_by (N := N_lets_most) (sc := defScope s_lets_most) (by decide +kernel)) (fun _ _ _ _ _ => (pg_name (i := 7) sc_lets_most.nd rfl (.inl rfl))) (fun _ _ _ _ _ => pts_nil) (fun _ _ _ _ _ => (pe_c (ok_begun_waysN T) hr (by decide) rfl (pa_cons (pv 7) pa_nil))))
    (pss_cons (ps_expr (pe_c (ok_look T 10) hr (by decide) rfl (pa_cons (pe_tup (pa_cons (pv 0) (pa_cons (pv 1) (pa_cons (pe_callB (id := "len") (kx_len K) (by rfl) T.b_len (by decide +kernel) (pa_cons (pv 4) pa_nil)) pa_nil)))) (pa_cons (pe_op op_rep (pe_lst (pa_cons pe_non pa_nil)) (pe_callB (id := "len") (kx_len K) (by rfl) T.b_len (by decide +kernel) (pa_cons (pv 1) pa_nil))) (pa_cons (pv 3) (pa_cons (pv 6) (pa_cons (pe_lst (pa_cons pe_int pa_nil)) pa_nil)))))))
    (pss_one (ps_ret (pe_callB (id := "len") (kx_len K) (by rfl) T.b_len (by decide +kernel) (pa_cons (pv 4) pa_nil)))))))))), ?_⟩
  refine q_drop (er_call () (ea_cons (EvR.is (er_and (a := true) (b := true) (er_isT (er_var h2) er_c) fun _ => EvR.is (er_eq (ev_lenT (er_var h2)) er_c rfl) (by rfl)) rfl) (ea2 (er_any er_c) (er_any (er_un er_c)))) True.intro) fun H1 e1 => ?_
  refine q_asg (er_var (MX.mx e1 h2)) fun v H2 e2 r2 => eg_tup3 r2 fun u4 u5 u6 g4 g5 g6 => ?_
  have s2 := e1.trans e2
  refine q_drop (er_call () (ea_cons (er_call (things, places) (ea2 (er_var (MX.mx s2 h1)) (er_var g4)) ⟨hbest.fd.lt, hbest.fd.rise, by show places.length ≤ 1000; omega⟩) (ea2 (er_any er_c) (er_any (er_un er_c)))) True.intro) fun H3 e3 => ?_
  have s3 := s2.trans e3
  refine q_drop (er_call () (ea_cons (er_call (ps, sheetOf things places, choice, given) (ea_cons (er_var (MX.mx s3 h0)) (ea2 (er_call (things, places) (ea2 (er_var (MX.mx s3 h1)) (er_var (MX.mx e3 g4))) ⟨hbest.fd.lt, by show (sheetOf things places).length ≤ 1000; unfold sheetOf; omega⟩) (er_var (MX.mx e3 g5)))) hde) (ea2 (er_any er_c) (er_any (er_un er_c)))) True.intro) fun H4 e4 => ?_
  have s4 := s3.trans e4
  refine q_set (er_taken hth (MX.mx s4 h1) rfl (fun _ => rfl) fun _ => rfl) fun u3 H5 e5 r5 => ?_
  have s5 := s4.trans e5
  have g45 := MX.mx ((e3.trans e4).trans e5) g4
  refine q_dropC4 (p1 := RGround (CH K) ps things (places.length : Int)) (er_tup (ps := [RHeap (CH K) ps, RThings things, IsI (places.length : Int)]) (ea_cons (er_var (MX.mx s5 h0)) (ea2 (er_var (MX.mx s5 h1)) (ev_lenTO (er_var g45)))) (by simp)) (er_repN (ev_lenTO (er_var (MX.mx s5 h1))) (by omega)) (er_var r5) (er_var (R := RTree t) (MX.mx ((e3.trans e4).trans e5) g6)) en_lst1 fun x1 x2 x3 x4 sa H6 H7 e6 pp e7 hn hs => ?_
  have w6 := new_wo e7 hn
  refine ⟨(ps, things, (places.length : Int), List.replicate things.length none, things.map begun, t), sa, 0, x1, x2, x3, x4, rfl, MXs.mx w6 pp, hs, ⟨hSe, htw, hbest.tr, begun_meas hth⟩, fun H8 c8 w8 hs8 => ?_⟩
  have s8 := (e6.trans w6).trans w8
  exact s_ret (EvR.is (ev_lenTO (R := RNat) (xs := places) (er_var (MX.mx s8 g45))) rfl) fun v H9 e9 r9 => q v H9 ((s5.trans s8).trans e9) r9
end
end K43
set_option Elab.async false
set_option linter.all false
set_option maxRecDepth 100000
set_option maxHeartbeats 1000000
/-! # KLA: the law's tape -/
namespace K43
open PySem PySem.Spec PyProof.Rows L2 K43S
open C8 (Cal Mak Met pe_c pe_mk pe_mt pe_mt0)
section
variable {P : Program} {w : World} {K : PySem.W.Frag} {mg : Str → Option Value} {base : Heap}
/-- a tape at ta -/
structure TapeR (l0 ta : Addr) (H : Hp) : Prop where
  ex : ∃ (cells : List Int) (at_ rest cnt : Int), H ta = some (.lst [.ref l0, .int at_, .int rest, .int cnt]) ∧ l0 ≠ ta ∧ H l0 = some (.lst (cells.map V.int)) ∧ 0 ≤ at_ ∧ 0 ≤ rest
def spPick : Sp := fun vs H Q _ => ∃ (l0 ta : Addr) (many : Int), vs = [.ref ta, .int many] ∧ TapeR l0 ta H ∧ 0 < many ∧ many < 1000000000 ∧ ∀ r H', 0 ≤ r → r < many → Same (wo ta H) H' → TapeR l0 ta H' → Q (.int r) H'
-- slots: 0 _law_tape_here, 1 _law_many, 2 _law_at, 3 _law_cell, 4 _law_mixed, 5 _law_found
abbrev N__law_pick : List Str := ["_law_tape_here", "_law_many", "_law_at", "_law_cell", "_law_mixed", "_law_found"]
theorem sc__law_pick : FnScope N__law_pick ["_law_tape_here", "_law_many"] (defScope s__law_pick) := ⟨rfl, rfl, rfl, by decide +kernel, rfl, by decide +kernel, by decide +kernel⟩
theorem ok__law_pick (T : Tx w K mg) : Cal P w K mg base 1 "_law_pick" spPick [] := by
  refine mk_cal T.f__law_pick T.g__law_pick sc__law_pick (fun _ _ _ _ _ _ us hl => match us, hl with | [_, _], _ => rfl) (fun vs H Q E ⟨_, _, _, h, _⟩ => by rw [h]; rfl) (fun cdv A outer s H vs Q E hr h => ?_)
  obtain ⟨l0, ta, many, rfl, ⟨cells, at_, rest, cnt, h1, hne, h2, ha, hre⟩, hm, hm2, q⟩ := h
  refine ⟨_, (pss_cons (ps_asg (pe_op op_add (pe_ix (kx_ixL K) (pv 0) pe_int (fun _ _ => rfl)) pe_int) (pg_sub (pv 0) pe_int set_list))
    (pss_cons (ps_if (pt_cmpR op_gt (pe_ix (kx_ixL K) (pv 0) pe_int (fun _ _ => rfl)) pe_int (nomark _)) (pss_cons (ps_set (i := 5) sc__law_pick.nd rfl (.inl rfl) (pe_op op_mod (pe_ix (kx_ixL K) (pv 0) pe_int (fun _ _ => rfl)) (pv 1)))
    (pss_cons (ps_asg (pe_op op_fdiv (pe_ix (kx_ixL K) (pv 0) pe_int (fun _ _ => rfl)) (pv 1)) (pg_sub (pv 0) pe_int set_list))
    (pss_one (ps_ret (pv 5))))) pss_nil)
    (pss_cons (ps_set (i := 2) sc__law_pick.nd rfl (.inl rfl) (pe_ix (kx_ixL K) (pv 0) pe_int (fun _ _ => rfl)))
    (pss_cons (ps_asg (pe_op op_add (pv 2) pe_int) (pg_sub (pv 0) pe_int set_list))
    (pss_cons (ps_set (i := 3) sc__law_pick.nd rfl (.inl rfl) (pe_ifExp (pt_cmpR (kx_neEL K hr.units0) (pe_ix (kx_ixL K) (pv 0) pe_int (fun _ _ => rfl)) (pe_lst pa_nil) (nomark _)) (pe_ix (kx_ixL K) (pe_ix (kx_ixL K) (pv 0) pe_int (fun _ _ => rfl)) (pe_op op_mod (pv 2) (pe_callB (id := "len") (kx_len K) (by rfl) T.b_len (by decide +kernel) (pa_cons (pe_ix (kx_ixL K) (pv 0) pe_int (fun _ _ => rfl)) pa_nil))) (fun _ _ => rfl)) pe_int))
    (pss_cons (ps_if (PW.pt (pw_and (pt_cmpR op_ge (pv 3) (pe_op op_pow pe_int pe_int) (nomark _)) (pw_and1 (pt_cmpR op_lt (pv 2) (pe_callB (id := "len") (kx_len K) (by rfl) T.b_len (by decide +kernel) (pa_cons (pe_ix (kx_ixL K) (pv 0) pe_int (fun _ _ => rfl)) pa_nil)) (nomark _))))) (pss_cons (ps_asg (pe_op op_fdiv (pv 3) (pv 1)) (pg_sub (pv 0) pe_int set_list))
    (pss_one (ps_ret (pe_op op_mod (pv 3) (pv 1))))) pss_nil)
    (pss_cons (ps_set (i := 4) sc__law_pick.nd rfl (.inl rfl) (pe_op op_mod (pe_op op_add (pe_op op_add (pe_op op_mod (pv 3) pe_int) (pe_op op_mul pe_int (pe_ix (kx_ixL K) (pv 0) pe_int (fun _ _ => rfl)))) pe_int) pe_int))
    (pss_cons (ps_set (i := 4) sc__law_pick.nd rfl (.inl rfl) (pe_op op_mod (pe_op op_add (pe_op op_add (pe_op op_mul (pv 4) (pv 4)) (pe_op op_mul pe_int (pe_ix (kx_ixL K) (pv 0) pe_int (fun _ _ => rfl)))) pe_int) pe_int))
    (pss_cons (ps_set (i := 4) sc__law_pick.nd rfl (.inl rfl) (pe_op op_mod (pe_op op_add (pe_op op_add (pe_op op_mul (pv 4) (pv 4)) (pe_op op_mul pe_int (pv 4))) pe_int) pe_int))
    (pss_one (ps_ret (pe_op op_mod (pe_op op_fdiv (pv 4) pe_int) (pv 1))))))))))))), ?_⟩
  have tp : ∀ {H' : Hp} {a b c : Int}, H' ta = some (.lst [.ref l0, .int a, .int b, .int c]) → LstP [IsV (.ref l0), IsI a, IsI b, IsI c] H' (.ref ta) := fun e => ⟨ta, _, rfl, e, rfl, rfl, rfl, rfl, True.intro⟩
  refine q_setL (R := IsI (cnt + 1)) h1 (er_I0 (er_ixL (er_var (tp h1)) er_c) er_c) er_v er_c (by decide) (by simp) fun x H1 e1 r1 => ?_
  obtain rfl : x = V.int (cnt + 1) := r1
  have w1 : Same (wo ta H) (wo ta (upd H1 ta (.lst ([V.ref l0, V.int at_, V.int rest, V.int cnt].set (3 : Int).toNat (V.int (cnt + 1)))))) := wo_into ((same_wo e1).trans wo_upd)
  have t1 : upd H1 ta (.lst ([V.ref l0, V.int at_, V.int rest, V.int cnt].set (3 : Int).toNat (V.int (cnt + 1)))) ta = some (.lst [.ref l0, .int at_, .int rest, .int (cnt + 1)]) := upd_same
  have c1 : upd H1 ta (.lst ([V.ref l0, V.int at_, V.int rest, V.int cnt].set (3 : Int).toNat (V.int (cnt + 1)))) l0 = some (.lst (cells.map V.int)) := by rw [upd_ne hne]; exact e1 l0 _ h2
  generalize upd H1 ta (.lst ([V.ref l0, V.int at_, V.int rest, V.int cnt].set (3 : Int).toNat (V.int (cnt + 1)))) = H2 at w1 t1 c1 ⊢
  refine q_when (b := decide (rest > 0)) (eb_test (EvR.is (er_I0 (er_ixL (er_var (tp t1)) er_c) er_c) rfl)) (fun hb H3 e3 => ?_) fun hb H3 e3 => ?_
  · have t3 := e3 ta _ t1
    refine q_set (R := IsI (rest % many)) (er_I (er_ixL (er_var (tp t3)) er_c) er_v hm) fun u5 H4 e4 r5 => ?_
    obtain rfl : u5 = V.int (rest % many) := r5
    have t4 := e4 ta _ t3
    refine q_setL (R := IsI (rest / many)) t4 (er_I (er_ixL (er_var (tp t4)) er_c) er_v ⟨hm, by omega⟩) er_v er_c (by decide) (by simp) fun x H5 e5 r6 => ?_
    obtain rfl : x = V.int (rest / many) := r6
    have w5 : Same (wo ta H) (wo ta (upd H5 ta (.lst ([V.ref l0, V.int at_, V.int rest, V.int (cnt + 1)].set (2 : Int).toNat (V.int (rest / many)))))) := wo_into ((w1.trans (same_wo ((e3.trans e4).trans e5))).trans wo_upd)
    have t5 : upd H5 ta (.lst ([V.ref l0, V.int at_, V.int rest, V.int (cnt + 1)].set (2 : Int).toNat (V.int (rest / many)))) ta = some (.lst [.ref l0, .int at_, .int (rest / many), .int (cnt + 1)]) := upd_same
    have c5 : upd H5 ta (.lst ([V.ref l0, V.int at_, V.int rest, V.int (cnt + 1)].set (2 : Int).toNat (V.int (rest / many)))) l0 = some (.lst (cells.map V.int)) := by rw [upd_ne hne]; exact ((e3.trans e4).trans e5) l0 _ c1
    generalize upd H5 ta (.lst ([V.ref l0, V.int at_, V.int rest, V.int (cnt + 1)].set (2 : Int).toNat (V.int (rest / many)))) = H6 at w5 t5 c5 ⊢
    refine s_ret er_v fun v H7 e7 r7 => ?_
    obtain rfl : v = V.int (rest % many) := r7
    exact q _ H7 (Int.emod_nonneg _ (by omega)) (Int.emod_lt_of_pos _ hm) ((w5.trans (same_wo e7)).trans wo_same) ⟨cells, at_, rest / many, cnt + 1, e7 ta _ t5, hne, e7 l0 _ c5, ha, Int.ediv_nonneg hre (by omega)⟩
  have t3 := e3 ta _ t1
  refine q_set (R := IsI at_) (er_ixL (er_var (tp t3)) er_c) fun u2 H4 e4 r4 => ?_
  obtain rfl : u2 = V.int at_ := r4
  have t4 := e4 ta _ t3
  refine q_setL (R := IsI (at_ + 1)) t4 (er_I0 er_v er_c) er_v er_c (by decide) (by simp) fun x H5 e5 r6 => ?_
  obtain rfl : x = V.int (at_ + 1) := r6
  have w5 : Same (wo ta H) (wo ta (upd H5 ta (.lst ([V.ref l0, V.int at_, V.int rest, V.int (cnt + 1)].set (1 : Int).toNat (V.int (at_ + 1)))))) := wo_into ((w1.trans (same_wo ((e3.trans e4).trans e5))).trans wo_upd)
  have t5 : upd H5 ta (.lst ([V.ref l0, V.int at_, V.int rest, V.int (cnt + 1)].set (1 : Int).toNat (V.int (at_ + 1)))) ta = some (.lst [.ref l0, .int (at_ + 1), .int rest, .int (cnt + 1)]) := upd_same
  have c5 : upd H5 ta (.lst ([V.ref l0, V.int at_, V.int rest, V.int (cnt + 1)].set (1 : Int).toNat (V.int (at_ + 1)))) l0 = some (.lst (cells.map V.int)) := by rw [upd_ne hne]; exact ((e3.trans e4).trans e5) l0 _ c1
  generalize upd H5 ta (.lst ([V.ref l0, V.int at_, V.int rest, V.int (cnt + 1)].set (1 : Int).toNat (V.int (at_ + 1)))) = H6 at w5 t5 c5 ⊢
  have l0P : ∀ {H' : Hp} {σ : L2.St}, Same H6 H' → σ[0]? = some (some (.ref ta)) → EvR (tOp (rIxL K) (tVar 0) (tC (.int 0))) σ H' (LstOf IsI cells) := fun e hσ => (er_ixL (p := IsV (.ref l0)) (er_var (tp (e ta _ t5)) hσ) er_c).toX fun H'' v e2 h => by
    obtain rfl : v = V.ref l0 := h
    exact ⟨l0, _, rfl, (e.trans e2) l0 _ c5, pp_self⟩
  have ended : ∀ (r : Int) (H' : Hp), 0 ≤ r → r < many → Same H6 H' → Q (.int r) H' := fun r H' g1 g2 e => q r H' g1 g2 ((w5.trans (same_wo e)).trans wo_same) ⟨cells, at_ + 1, rest, cnt + 1, e ta _ t5, hne, e l0 _ c5, by omega, hre⟩
  refine q_set (R := fun _ v => ∃ c : Int, v = .int c) (er_if (b := !cells.isEmpty) (eb_test (EvR.is (ev_neEL (l0P (Same.refl _) rfl) (er_lst (ps := []) ea_nil (by decide))) (by rw [map_isEmpty]))) (fun hb2 => ?_) fun _ => EvR.to er_c fun _ v h => ⟨47, h⟩) fun u3 H7 e7 ⟨cell, hu⟩ => ?_
  · have hc0 : 0 < cells.length := by cases cells with | nil => cases hb2 | cons a b => simp
    have hi : (at_ % (cells.length : Int)).toNat < cells.length := by
      have h5 := Int.emod_lt_of_pos at_ (show (0 : Int) < cells.length by omega)
      have h6 := Int.emod_nonneg at_ (show (cells.length : Int) ≠ 0 by omega)
      omega
    exact EvR.to (er_ixLO (R := IsI) (x := cells.getD (at_ % (cells.length : Int)).toNat 0) (l0P (Same.refl _) rfl) (er_I er_v (ev_lenLO (l0P (Same.refl _) rfl)) (by omega)) (Int.emod_nonneg at_ (by omega)) (by simpa using getD_of hi)) fun _ v h => ⟨_, h⟩
  subst hu
  refine q_when (b := decide (cell ≥ 10 ^ 18) && decide (at_ < (cells.length : Int))) (eb_and (eb_test (EvR.is (er_I0 er_v (er_I (C := CPow) (i := 10) (j := 18) er_c er_c ⟨by decide, by decide, by decide⟩)) rfl)) fun _ => eb_test (EvR.is (er_I0 er_v (ev_lenLO (l0P e7 rfl))) rfl)) (fun hb2 H8 e8 => ?_) fun _ H8 e8 => ?_
  · rw [Bool.and_eq_true] at hb2
    have hcell : cell ≥ 10 ^ 18 := of_decide_eq_true hb2.1
    have t8 := (e7.trans e8) ta _ t5
    refine q_setL (R := IsI (cell / many)) t8 (er_I er_v er_v ⟨hm, by omega⟩) er_v er_c (by decide) (by simp) fun x H9 e9 r9 => ?_
    obtain rfl : x = V.int (cell / many) := r9
    have w9 : Same (wo ta H) (wo ta (upd H9 ta (.lst ([V.ref l0, V.int (at_ + 1), V.int rest, V.int (cnt + 1)].set (2 : Int).toNat (V.int (cell / many)))))) := wo_into ((w5.trans (same_wo ((e7.trans e8).trans e9))).trans wo_upd)
    have t9 : upd H9 ta (.lst ([V.ref l0, V.int (at_ + 1), V.int rest, V.int (cnt + 1)].set (2 : Int).toNat (V.int (cell / many)))) ta = some (.lst [.ref l0, .int (at_ + 1), .int (cell / many), .int (cnt + 1)]) := upd_same
    have c9 : upd H9 ta (.lst ([V.ref l0, V.int (at_ + 1), V.int rest, V.int (cnt + 1)].set (2 : Int).toNat (V.int (cell / many)))) l0 = some (.lst (cells.map V.int)) := by rw [upd_ne hne]; exact ((e7.trans e8).trans e9) l0 _ c5
    generalize upd H9 ta (.lst ([V.ref l0, V.int (at_ + 1), V.int rest, V.int (cnt + 1)].set (2 : Int).toNat (V.int (cell / many)))) = HA at w9 t9 c9 ⊢
    refine s_ret (R := IsI (cell % many)) (er_I er_v er_v hm) fun v HB eB rB => ?_
    obtain rfl : v = V.int (cell % many) := rB
    exact q _ HB (Int.emod_nonneg _ (by omega)) (Int.emod_lt_of_pos _ hm) ((w9.trans (same_wo eB)).trans wo_same) ⟨cells, at_ + 1, cell / many, cnt + 1, eB ta _ t9, hne, eB l0 _ c9, by omega, Int.ediv_nonneg (by omega) (by omega)⟩
  · have s8 := e7.trans e8
    have bnd : ∀ {x m : Int}, m = 2147483629 ∨ m = 2147483587 ∨ m = 2147483579 → 0 ≤ x % m ∧ x % m < 2147483648 := fun {x m} h => ⟨Int.emod_nonneg x (by omega), by have := Int.emod_lt_of_pos x (show 0 < m by omega); omega⟩
    refine q_set (R := fun _ v => ∃ c : Int, v = .int c ∧ 0 ≤ c ∧ c < 2147483648) (EvR.to (er_I (C := fun _ j => 0 < j) (g := fun i j => .int (i % j)) (j := 2147483629) (er_I0 (er_I0 (er_I (C := fun _ j => 0 < j) (j := 2147483647) er_v er_c (by decide)) (er_I (C := CMul) er_c (er_ixL (er_var (tp (s8 ta _ t5))) er_c) (.inl ⟨by decide, by decide⟩))) er_c) er_c (by decide)) fun _ v h => ⟨_, h, bnd (.inl rfl)⟩) fun u4 H9 e9 ⟨m1, hm1, b1, b2⟩ => ?_
    subst hm1
    have s9 := s8.trans e9
    refine q_set (R := fun _ v => ∃ c : Int, v = .int c ∧ 0 ≤ c ∧ c < 2147483648) (EvR.to (er_I (C := fun _ j => 0 < j) (g := fun i j => .int (i % j)) (j := 2147483587) (er_I0 (er_I0 (er_I (C := CMul) (i := m1) (j := m1) er_v er_v (.inl ⟨by omega, by omega⟩)) (er_I (C := CMul) er_c (er_ixL (er_var (tp (s9 ta _ t5))) er_c) (.inl ⟨by decide, by decide⟩))) er_c) er_c (by decide)) fun _ v h => ⟨_, h, bnd (.inr (.inl rfl))⟩) fun u4 HA eA ⟨m2, hm2', b3, b4⟩ => ?_
    subst hm2'
    have sA := s9.trans eA
    refine q_set (R := fun _ v => ∃ c : Int, v = .int c ∧ 0 ≤ c ∧ c < 2147483648) (EvR.to (er_I (C := fun _ j => 0 < j) (g := fun i j => .int (i % j)) (j := 2147483579) (er_I0 (er_I0 (er_I (C := CMul) (i := m2) (j := m2) er_v er_v (.inl ⟨by omega, by omega⟩)) (er_I (C := CMul) (j := m2) er_c er_v (.inl ⟨by decide, by decide⟩))) er_c) er_c (by decide)) fun _ v h => ⟨_, h, bnd (.inr (.inr rfl))⟩) fun u4 HB eB ⟨m3, hm3, b5, b6⟩ => ?_
    subst hm3
    refine s_ret (R := IsI (m3 / 256 % many)) (er_I (C := fun _ j => 0 < j) (g := fun i j => .int (i % j)) (er_I (C := CDiv) (i := m3) (j := 256) er_v er_c ⟨by decide, by decide⟩) er_v hm) fun v HC eC rC => ?_
    obtain rfl : v = V.int (m3 / 256 % many) := rC
    exact ended _ HC (Int.emod_nonneg _ (by omega)) (Int.emod_lt_of_pos _ hm) ((sA.trans eB).trans eC)
end
end K43
set_option Elab.async false
set_option linter.all false
set_option maxRecDepth 100000
set_option maxHeartbeats 1000000
/-! # KLB: readings with the tape; forms, shades, count, want -/
namespace K43
open PySem PySem.Spec PyProof.Rows L2 K43S
open C8 (Cal Mak Met pe_c pe_mk pe_mt pe_mt0)
theorem pe_c0 {X : Cx} {k j : Nat} {x : Str} {sp : Sp} {dvs : List V} {p pos : Pos} (c : Cal X.prog X.w X.K X.mg X.base k x sp dvs) (hr : Room j X.A) (hk : k ≤ j) (hg : Gl X x)
    (hdb : (x == ("__debug__" : Str)) = false := by decide) : PE X (.Call (.Name x p) [] [] pos) (tCall sp dvs C8.E0 tNil) := by
  obtain ⟨f, fd, ps, ds, F, hm, kp, b, d⟩ := c.ex
  exact pe_call0 F (hr.mono hk) hg hm kp b d C8.pass0 hdb
theorem TapeR.mono {l0 ta : Addr} {H H' : Hp} (t : TapeR l0 ta H) (e : Same H H') : TapeR l0 ta H' := by
  obtain ⟨cells, a, r, c, h1, h2, h3, h4, h5⟩ := t.ex
  exact ⟨cells, a, r, c, e ta _ h1, h2, e l0 _ h3, h4, h5⟩
theorem TapeR.wo {l0 ta : Addr} {H : Hp} (t : TapeR l0 ta H) : FK H (wo ta H) := fun a o fx h => by
  obtain ⟨cells, a', r, c, h1, _⟩ := t.ex
  have z : a ≠ ta := fun z => by subst z; rw [h1] at h; cases h; exact fx.elim
  rw [wo_ne z]
  exact h
/-- a reading that may turn the tape on; W: what stands -/
def EvT (l0 ta : Addr) (te : TE) (σ : L2.St) (W : Hp) (R : Pr) : Prop := ∀ H1, Same W H1 → TapeR l0 ta H1 → ∀ Q : VK, (∀ v H2, Same (wo ta H1) H2 → FK H1 H2 → TapeR l0 ta H2 → R H2 v → Q v H2) → te σ H1 Q
/-- a test of either end that may turn it on -/
def EvTt (l0 ta : Addr) (tt : TT) (σ : L2.St) (W : Hp) : Prop := ∀ H1, Same W H1 → TapeR l0 ta H1 → ∀ Q : Bool → Hp → Prop, (∀ b H2, Same (wo ta H1) H2 → FK H1 H2 → TapeR l0 ta H2 → Q b H2) → tt σ H1 Q
section
variable {l0 ta : Addr} {W : Hp} {σ : L2.St} {t1 t2 te : TE} {R A B : Pr} {D : Ends} {tz : TS}
theorem et_pure (h : EvR te σ W R) : EvT l0 ta te σ W R := fun H1 e t Q q => h H1 e Q fun v H2 e2 r => q v H2 (wo_same.trans e2) (Same.fk e2) (t.mono e2) r
theorem wo_step {H1 H2 H3 : Hp} (a : Same (wo ta H1) H2) (b : Same (wo ta H2) H3) : Same (wo ta H1) H3 := (wo_into a).trans b
theorem et_to {S : Pr} (h : EvT l0 ta te σ W R) (w : ∀ H v, R H v → S H v) : EvT l0 ta te σ W S := fun H1 e t Q q => h H1 e t Q fun v H2 e2 f2 t2 r => q v H2 e2 f2 t2 (w H2 v r)
theorem et_op {r : R2} [MF A] (hW : W ta = none) (h1 : EvT l0 ta t1 σ W A) (h2 : EvT l0 ta t2 σ W B) (hr : ∀ v w H1, A H1 v → B H1 w → ∀ Q : VK, (∀ z H2, Same H1 H2 → R H2 z → Q z H2) → r v w H1 Q) : EvT l0 ta (tOp r t1 t2) σ W R := fun H1 e t Q q =>
  h1 H1 e t _ fun v H2 e2 f2 t2 r2 => h2 H2 ((new_wo e hW).trans e2) t2 _ fun w H3 e3 f3 t3 r3 => hr v w H3 (MF.mf f3 r2) r3 Q fun z H4 e4 r4 => q z H4 ((wo_step e2 e3).trans e4) ((f2.trans f3).trans (Same.fk e4)) (t3.mono e4) r4
theorem ett_test (h : EvT l0 ta te σ W fun _ v => ∃ b : Bool, v = .bl b) : EvTt l0 ta (tTest te) σ W := fun H1 e t Q q => h H1 e t _ fun v H2 e2 f2 t2 ⟨b, hb⟩ => ⟨b, hb, q b H2 e2 f2 t2⟩
theorem ett_and {u v : TT} (hW : W ta = none) (h1 : EvTt l0 ta u σ W) (h2 : EvTt l0 ta v σ W) : EvTt l0 ta (tAnd u v) σ W := fun H1 e t Q q => h1 H1 e t _ fun b H2 e2 f2 t2 => by
  cases b with
  | true => exact h2 H2 ((new_wo e hW).trans e2) t2 _ fun b H3 e3 f3 t3 => q b H3 (wo_step e2 e3) (f2.trans f3) t3
  | false => exact q false H2 e2 f2 t2
theorem en_lstP {ts : TA} {H : Hp} {ps : List Pr} [MXs ps] (h : EvA ts σ H ps) (hl : ps.length ≤ 100000) : EvN (tLst ts) σ H (LstP ps) := fun H1 e Q q =>
  h H1 e _ fun vs H2 e2 r => ⟨by have := r.length; rw [sizeLine_eq]; omega, fun p hp => q _ _ (e2.trans (Same.new hp)) ⟨p, vs, rfl, upd_same, MXs.mx (Same.new hp) r⟩ fun a ha => by
    cases ha
    cases z : H1 p with
    | none => rfl
    | some o => have := e2 p o z; rw [hp] at this; cases this⟩
/-- a new list of flat things, at what the tape says -/
theorem et_ixN {K : PySem.W.Frag} {α : Type} {g : α → V} {xs : List α} (hW : W ta = none) (h1 : EvN t1 σ W (LstOf (fun x => IsV (g x)) xs)) (h2 : EvT l0 ta t2 σ W B) (hB : ∀ H w, B H w → ∃ i : Nat, w = .int (i : Int) ∧ i < xs.length) :
    EvT l0 ta (tOp (rIxL K) t1 t2) σ W (fun _ v => ∃ x, x ∈ xs ∧ v = g x) := fun H1 e t Q q =>
  h1 H1 e _ fun v H2 e2 r2 nw => h2 H2 (e.trans e2) (t.mono e2) _ fun w H3 e3 f3 t3 r3 => by
    obtain ⟨a, vs, rfl, g1, g2⟩ := r2
    obtain ⟨i, rfl, hi⟩ := hB _ _ r3
    have z : a ≠ ta := fun z => by
      obtain ⟨_, _, _, _, k1, _⟩ := t.ex
      have := nw a rfl
      rw [z, k1] at this
      cases this
    have hx := List.getElem?_eq_getElem hi
    obtain ⟨w', k1, k2⟩ := g2.get (map_get hx)
    refine ⟨a, vs, (i : Int), w', rfl, rfl, SqL.of (e3 a _ (by rw [wo_ne z]; exact g1)), atI_of (by omega) (by simpa using k1), q w' H3 ?_ ((Same.fk e2).trans f3) t3 ⟨_, List.getElem_mem hi, k2⟩⟩
    exact (same_wo e2).trans e3
theorem q_setT {i : Nat} {H : Hp} [MF R] (h : EvT l0 ta te σ W R) (hW : W ta = none) (e : Same W H) (t : TapeR l0 ta H)
    (k : ∀ v H2 W2, Same W W2 → Same W2 H2 → W2 ta = none → TapeR l0 ta H2 → FK H H2 → R W2 v → tz D (σ.set i (some v)) H2) : tSeq (tAsg te (gName i)) tz D σ H :=
  h H e t _ fun v H2 e2 f2 t2 r2 => k v H2 (wo ta H2) (new_wo ((new_wo e hW).trans e2) hW) wo_same (if_pos rfl) t2 f2 (MF.mf t2.wo r2)
theorem s_retT {H : Hp} (h : EvT l0 ta te σ W R) (e : Same W H) (t : TapeR l0 ta H) (k : ∀ v H2, Same (wo ta H) H2 → FK H H2 → TapeR l0 ta H2 → R H2 v → D.rt v H2) : tRet te D σ H := h H e t _ fun v H2 e2 f2 t2 r2 => k v H2 e2 f2 t2 r2
/-- a promise that turns the tape on -/
def spT {ι : Type} (A : ι → List V) (C : ι → Prop) (R : ι → Pr) : Sp := fun vs H Q _ => ∃ (l0 ta : Addr) (i : ι), vs = .ref ta :: A i ∧ TapeR l0 ta H ∧ C i ∧ ∀ v H', Same (wo ta H) H' → FK H H' → TapeR l0 ta H' → R i H' v → Q v H'
theorem et_call {ι : Type} {Ar : ι → List V} {C : ι → Prop} {R : ι → Pr} {E : XK} {ts : TA} (i : ι) (hW : W ta = none) (hc : C i) (hv : σ[0]? = some (some (.ref ta))) (ha : EvA ts σ W ((Ar i).map IsV)) : EvT l0 ta (tCall (spT Ar C R) [] E (tCons (tVar 0) ts)) σ W (R i) := fun H1 e t Q q =>
  ⟨_, hv, ha H1 e _ fun vs H2 e2 r => by
    have := r.isv
    subst this
    refine ⟨l0, ta, i, by rw [List.append_nil], t.mono e2, hc, fun v H3 e3 f3 t3 r3 => q v H3 ((same_wo e2).trans e3) ((Same.fk e2).trans f3) t3 r3⟩⟩
end
section
variable {P : Program} {w : World} {K : PySem.W.Frag} {mg : Str → Option Value} {base : Heap}
abbrev spPickT : Sp := spT (ι := Int) (fun m => [.int m]) (fun m => 0 < m ∧ m < 1000000000) fun m _ v => ∃ r : Int, v = .int r ∧ 0 ≤ r ∧ r < m
instance {m : Int} : MF (fun _ v => ∃ r : Int, v = V.int r ∧ 0 ≤ r ∧ r < m) := ⟨fun _ h => h⟩
theorem ok_pickT (T : Tx w K mg) : Cal P w K mg base 1 "_law_pick" spPickT [] := by
  obtain ⟨f, fd, ps, ds, F, hm, kp, b, d⟩ := (ok__law_pick (P := P) (base := base) T).ex
  refine ⟨f, fd, ps, ds, ?_, hm, kp, b, d⟩
  exact F.imp fun vs H Q E ⟨l0, ta, m, h1, h2, ⟨h3, h4⟩, q⟩ => ⟨l0, ta, m, h1, h2, h3, h4, fun r H' g1 g2 s t => q _ H' s (by obtain ⟨cells, a, r, c, k1, _⟩ := h2.ex; exact fk_wo s k1) t ⟨r, rfl, g1, g2⟩⟩
def formsL : List Str := ["a", "ab", "brick"]
def shadesL : List Str := ["b", "blue", "r", "reddish"]
-- slots: 
abbrev N__law_forms : List Str := []
theorem sc__law_forms : FnScope N__law_forms [] (defScope s__law_forms) := ⟨rfl, rfl, rfl, by decide +kernel, rfl, by decide +kernel, by decide +kernel⟩
-- slots: 
abbrev N__law_shades : List Str := []
theorem sc__law_shades : FnScope N__law_shades [] (defScope s__law_shades) := ⟨rfl, rfl, rfl, by decide +kernel, rfl, by decide +kernel, by decide +kernel⟩
theorem ok__law_forms (T : Tx w K mg) : Cal P w K mg base 1 "_law_forms" (PSpN (ι := Unit) (fun _ => []) (fun _ => True) fun _ => LstOf RStr formsL) [] := by
  refine mk_cal T.f__law_forms T.g__law_forms sc__law_forms (fun _ _ _ _ _ _ us hl => match us, hl with | [], _ => rfl) (fun vs H Q E ⟨i, h, _⟩ => h.length) (fun cdv A outer s H vs Q E hr h => ?_)
  obtain ⟨_, hp, _, q⟩ := h
  obtain rfl := hp.nil
  refine ⟨_, (pss_one (ps_ret (pe_lst (pa_cons pe_str (pa_cons pe_str (pa_cons pe_str pa_nil)))))), ?_⟩
  exact en_lstP (ps := [IsS "a", IsS "ab", IsS "brick"]) (ea_cons er_c (ea2 er_c er_c)) (by simp) H (Same.refl H) _ q
theorem ok__law_shades (T : Tx w K mg) : Cal P w K mg base 1 "_law_shades" (PSpN (ι := Unit) (fun _ => []) (fun _ => True) fun _ => LstOf RStr shadesL) [] := by
  refine mk_cal T.f__law_shades T.g__law_shades sc__law_shades (fun _ _ _ _ _ _ us hl => match us, hl with | [], _ => rfl) (fun vs H Q E ⟨i, h, _⟩ => h.length) (fun cdv A outer s H vs Q E hr h => ?_)
  obtain ⟨_, hp, _, q⟩ := h
  obtain rfl := hp.nil
  refine ⟨_, (pss_one (ps_ret (pe_lst (pa_cons pe_str (pa_cons pe_str (pa_cons pe_str (pa_cons pe_str pa_nil))))))), ?_⟩
  exact en_lstP (ps := [IsS "b", IsS "blue", IsS "r", IsS "reddish"]) (ea_cons er_c (ea_cons er_c (ea2 er_c er_c))) (by simp) H (Same.refl H) _ q
-- slots: 0 _law_tape_here, 1 _law_great
abbrev N__law_count : List Str := ["_law_tape_here", "_law_great"]
theorem sc__law_count : FnScope N__law_count ["_law_tape_here", "_law_great"] (defScope s__law_count) := ⟨rfl, rfl, rfl, by decide +kernel, rfl, by decide +kernel, by decide +kernel⟩
abbrev RCnt : Pr := fun _ v => ∃ r : Int, v = V.int r ∧ 1 ≤ r ∧ r ≤ 2
instance : MF RCnt := ⟨fun _ h => h⟩
abbrev spCount : Sp := spT (ι := Unit) (fun _ => [.int 2]) (fun _ => True) fun _ => RCnt
theorem ok__law_count (T : Tx w K mg) : Cal P w K mg base 2 "_law_count" spCount [] := by
  refine mk_cal T.f__law_count T.g__law_count sc__law_count (fun _ _ _ _ _ _ us hl => match us, hl with | [_, _], _ => rfl) (fun vs H Q E ⟨_, _, _, h, _⟩ => by rw [h]; rfl) (fun cdv A outer s H vs Q E hr h => ?_)
  obtain ⟨l0, ta, i, rfl, ht, _, q⟩ := h
  refine ⟨_, (pss_cons (ps_if (pt_cmpR op_lt (pv 1) (pe_op op_pow pe_int pe_int) (nomark _)) (pss_one (ps_ret (pe_op op_add pe_int (pe_c (ok_pickT T) hr (by decide) rfl (pa_cons (pv 0) (pa_cons (pv 1) pa_nil)))))) pss_nil)
    (pss_one (ps_ret (pe_op op_add (pe_op op_add pe_int (pe_op op_mul (pe_c (ok_pickT T) hr (by decide) rfl (pa_cons (pv 0) (pa_cons (pe_op op_pow pe_int pe_int) pa_nil))) pe_int)) (pe_c (ok_pickT T) hr (by decide) rfl (pa_cons (pv 0) (pa_cons pe_int pa_nil))))))), ?_⟩
  refine q_if (b := true) (eb_test (EvR.is (er_I0 (j := 10 ^ 6) er_v (er_I (C := CPow) (i := 10) (j := 6) er_c er_c ⟨by decide, by decide, by decide⟩)) (by rfl))) (fun _ H1 e1 => ?_) fun z => by cases z
  refine s_retT (W := wo ta H1) (et_op (if_pos rfl) (A := IsI 1) (B := fun _ v => ∃ r : Int, v = V.int r ∧ 0 ≤ r ∧ r < 2) (R := RCnt) (et_pure er_c) (et_call (2 : Int) (if_pos rfl) ⟨by decide, by decide⟩ rfl (ea1 er_v)) fun v w H2 g1 g2 Q q => ?_) wo_same (ht.mono e1) fun v H2 e2 f2 t2 r2 => q v H2 ((same_wo e1).trans e2) ((Same.fk e1).trans f2) t2 r2
  obtain ⟨r, rfl, g3, g4⟩ := g2
  exact ⟨1, r, g1, rfl, q _ H2 (Same.refl _) ⟨1 + r, rfl, by omega, by omega⟩⟩
end
end K43
set_option Elab.async false
set_option linter.all false
set_option maxRecDepth 100000
set_option maxHeartbeats 1000000
/-! # KLC: the law's want -/
namespace K43
open PySem PySem.Spec PyProof.Rows L2 K43S
open C8 (Cal Mak Met pe_c pe_mk pe_mt pe_mt0)
/-- a flat thing -/
def CV (p : V → Prop) : Pr := fun _ v => p v
instance {p : V → Prop} : MF (CV p) := ⟨fun _ h => h⟩
structure WantL (x : Want) : Prop where
  form : x.form ∈ formsL
  sh : ∀ s ∈ x.shades, s ∈ shadesL
  len : x.shades.length ≤ 4
  lo : 1 ≤ x.many
  hi : x.many ≤ 2
def RW : Pr := fun H v => ∃ x, WantL x ∧ RWant x H v
instance : MF RW := ⟨fun e ⟨x, h1, h2⟩ => ⟨x, h1, MF.mf e h2⟩⟩
section
variable {l0 ta : Addr} {W : Hp} {σ : L2.St} {H : Hp} {t1 t2 t3 te : TE} {p1 p2 p3 : Pr} {D : Ends} {tz tu : TS} {tt : TT}
theorem q_whenJ (I : L2.St → Prop) (h : EvTt l0 ta tt σ W) (hW : W ta = none) (e : Same W H) (t : TapeR l0 ta H) (h0 : I σ)
    (h1 : ∀ H2 W2 (N : L2.St → Hp → Prop), Same W W2 → Same W2 H2 → W2 ta = none → TapeR l0 ta H2 → (∀ σ3 H3 W3, Same W2 W3 → Same W3 H3 → W3 ta = none → TapeR l0 ta H3 → FK H2 H3 → I σ3 → N σ3 H3) → tu { D with nx := N } σ H2)
    (k : ∀ σ2 H2 W2, Same W W2 → Same W2 H2 → W2 ta = none → TapeR l0 ta H2 → FK H H2 → I σ2 → tz D σ2 H2) : tSeq (tIfS tt tu tNext) tz D σ H :=
  h H e t _ fun b H2 e2 f2 t2 => by
    have d2 : Same W (wo ta H2) := new_wo ((new_wo e hW).trans e2) hW
    cases b with
    | true => exact h1 H2 (wo ta H2) _ d2 wo_same (if_pos rfl) t2 fun σ3 H3 W3 a b c d f i => k σ3 H3 W3 (d2.trans a) b c d (f2.trans f) i
    | false => exact k σ H2 (wo ta H2) d2 wo_same (if_pos rfl) t2 f2 h0
theorem s_setT {R : Pr} {i : Nat} [MF R] (h : EvT l0 ta te σ W R) (hW : W ta = none) (e : Same W H) (t : TapeR l0 ta H)
    (k : ∀ v H2 W2, Same W W2 → Same W2 H2 → W2 ta = none → TapeR l0 ta H2 → FK H H2 → R W2 v → D.nx (σ.set i (some v)) H2) : tAsg te (gName i) D σ H :=
  h H e t _ fun v H2 e2 f2 t2 r2 => k v H2 (wo ta H2) (new_wo ((new_wo e hW).trans e2) hW) wo_same (if_pos rfl) t2 f2 (MF.mf t2.wo r2)
theorem et_tup3 [MF p1] [MF p2] [MF p3] (h1 : EvR t1 σ W p1) (h2 : EvR t2 σ W p2) (h3 : EvT l0 ta t3 σ W p3) : EvT l0 ta (tTup (tCons t1 (tCons t2 (tCons t3 tNil)))) σ W (TupP [p1, p2, p3]) := fun H1 e t Q q =>
  h1 H1 e _ fun x1 H2 e2 r1 => h2 H2 (e.trans e2) _ fun x2 H3 e3 r2 => h3 H3 ((e.trans e2).trans e3) (t.mono (e2.trans e3)) _ fun x3 H4 e4 f4 t4 r3 => ⟨by rw [sizeLine_eq]; simp, fun p hp =>
    q _ _ (((same_wo (e2.trans e3)).trans e4).trans (Same.new hp)) (((Same.fk (e2.trans e3)).trans f4).trans (Same.fk (Same.new hp))) (t4.mono (Same.new hp)) ⟨p, _, rfl, upd_same, MF.mf (((Same.fk e3).trans f4).trans (Same.fk (Same.new hp))) r1, MF.mf (f4.trans (Same.fk (Same.new hp))) r2, MF.mf (Same.fk (Same.new hp)) r3, True.intro⟩⟩
end
theorem er_mulT1 {K : PySem.W.Frag} {σ : L2.St} {H : Hp} {t1 t2 : TE} {s : Str} {b : Int} (h1 : EvR t1 σ H (TupP [IsS s])) (h2 : EvR t2 σ H (IsI b)) (hb : b = 0 ∨ b = 1) : EvR (tOp (rMulT1 K) t1 t2) σ H (TupOf RStr (if b = 1 then [s] else [])) :=
  er_op h1 h2 fun v w H1 e ⟨a, vs, g1, g2, g3⟩ gw Q q => by
    subst g1
    obtain ⟨x, rfl, hx⟩ := g3.one
    refine ⟨a, b, _, rfl, gw, SqT.of g2, by simp, hb, fun e1 => ?_, fun e0 p hp => ?_⟩
    · rw [if_pos e1] at q
      exact q _ H1 (Same.refl _) ⟨a, _, rfl, g2, hx, True.intro⟩
    · rw [if_neg (by omega)] at q
      exact q _ _ (Same.new hp) ⟨p, _, rfl, upd_same, True.intro⟩
section
variable {P : Program} {w : World} {K : PySem.W.Frag} {mg : Str → Option Value} {base : Heap}
abbrev spWant : Sp := spT (ι := Unit) (fun _ => [.int 2]) (fun _ => True) fun _ => RW
-- slots: 0 _law_tape_here, 1 _law_great, 2 _law_form, 3 _law_bits, 4 _law_some, 5 _law_shade
abbrev N__law_want : List Str := ["_law_tape_here", "_law_great", "_law_form", "_law_bits", "_law_some", "_law_shade"]
theorem sc__law_want : FnScope N__law_want ["_law_tape_here", "_law_great"] (defScope s__law_want) := ⟨rfl, rfl, rfl, by decide +kernel, rfl, by decide +kernel, by decide +kernel⟩
theorem pick_lt {m : Int} {n : Nat} (h : m = (n : Int)) : ∀ (H : Hp) (w : V), (∃ r : Int, w = V.int r ∧ 0 ≤ r ∧ r < m) → ∃ i : Nat, w = .int (i : Int) ∧ i < n := fun H w ⟨r, h1, h2, h3⟩ => ⟨r.toNat, by rw [h1]; congr 1; omega, by omega⟩
theorem ok__law_want (T : Tx w K mg) : Cal P w K mg base 3 "_law_want" spWant [] := by
  refine mk_cal T.f__law_want T.g__law_want sc__law_want (fun _ _ _ _ _ _ us hl => match us, hl with | [_, _], _ => rfl) (fun vs H Q E ⟨_, _, _, h, _⟩ => by rw [h]; rfl) (fun cdv A outer s H vs Q E hr h => ?_)
  obtain ⟨l0, ta, i, rfl, ht, _, q⟩ := h
  refine ⟨_, (pss_cons (ps_set (i := 2) sc__law_want.nd rfl (.inl rfl) (pe_ix (kx_ixL K) (pe_c0 (ok__law_forms T) hr (by decide) rfl) (pe_ix (kx_ixL K) (pe_lst (pa_cons pe_int (pa_cons pe_int (pa_cons pe_int (pa_cons pe_int (pa_cons pe_int pa_nil)))))) (pe_c (ok_pickT T) hr (by decide) rfl (pa_cons (pv 0) (pa_cons pe_int pa_nil))) (fun _ _ => rfl)) (fun _ _ => rfl)))
    (pss_cons (ps_set (i := 3) sc__law_want.nd rfl (.inl rfl) (pe_c (ok_pickT T) hr (by decide) rfl (pa_cons (pv 0) (pa_cons pe_int pa_nil))))
    (pss_cons (ps_if (PW.pt (pw_and (pt_cmpR op_gt (pv 3) pe_int (nomark _)) (pw_and1 (pt_cmpR op_gt (pe_c (ok_pickT T) hr (by decide) rfl (pa_cons (pv 0) (pa_cons pe_int pa_nil))) pe_int (nomark _))))) (pss_one (ps_set (i := 3) sc__law_want.nd rfl (.inl rfl) (pe_ix (kx_ixL K) (pe_lst (pa_cons pe_int (pa_cons pe_int (pa_cons pe_int (pa_cons pe_int (pa_cons pe_int (pa_cons pe_int pa_nil))))))) (pe_c (ok_pickT T) hr (by decide) rfl (pa_cons (pv 0) (pa_cons pe_int pa_nil))) (fun _ _ => rfl)))) pss_nil)
    (pss_cons (ps_set (i := 4) sc__law_want.nd rfl (.inl rfl) (pe_tup pa_nil))
    (pss_cons (ps_for PassesOwn.never rfl (kx_pi_list K (pe_c0 (ok__law_shades T) hr (by decide) rfl)) (pg_name (i := 5) sc__law_want.nd rfl (.inl rfl))
      (pss_cons (ps_set (i := 4) sc__law_want.nd rfl (.inl rfl) (pe_op (kx_catA K) (pv 4) (pe_op (kx_mulT1 K) (pe_tup (pa_cons (pv 5) pa_nil)) (pe_op op_mod (pv 3) pe_int))))
    (pss_one (ps_set (i := 3) sc__law_want.nd rfl (.inl rfl) (pe_op op_fdiv (pv 3) pe_int)))))
    (pss_one (ps_ret (pe_tup (pa_cons (pv 2) (pa_cons (pv 4) (pa_cons (pe_c (ok__law_count T) hr (by decide) rfl (pa_cons (pv 0) (pa_cons (pv 1) pa_nil))) pa_nil))))))))))), ?_⟩
  refine q_setT (W := wo ta H) (R := CV fun v => ∃ x, x ∈ formsL ∧ v = .str x) (et_ixN (g := V.str) (xs := formsL) (if_pos rfl) (en_call () ea_nil True.intro) (et_ixN (g := fun n : Int => V.int n) (xs := [0, 0, 0, 1, 2]) (if_pos rfl) (en_lstP (ps := [IsI 0, IsI 0, IsI 0, IsI 1, IsI 2]) (ea_cons er_c (ea_cons er_c (ea_cons er_c (ea2 er_c er_c)))) (by simp)) (et_call (5 : Int) (if_pos rfl) ⟨by decide, by decide⟩ rfl (ea1 er_c)) (pick_lt (n := 5) rfl)) fun H w ⟨x, h1, h2⟩ => ?_) (if_pos rfl) wo_same ht fun v2 H2 W2 d2 s2 n2 t2 f2 ⟨form, hf, h⟩ => ?_
  · subst h2
    simp at h1
    rcases h1 with rfl | rfl | rfl
    · exact ⟨0, rfl, by decide⟩
    · exact ⟨1, rfl, by decide⟩
    · exact ⟨2, rfl, by decide⟩
  subst h
  refine q_setT (R := CV fun v => ∃ r : Int, v = V.int r ∧ 0 ≤ r ∧ r < 16) (et_call (16 : Int) n2 ⟨by decide, by decide⟩ rfl (ea1 er_c)) n2 s2 t2 fun v3 H3 W3 d3 s3 n3 t3 f3 ⟨bits, h, hb1, hb2⟩ => ?_
  subst h
  refine q_whenJ (fun σ' => ∃ b : Int, 0 ≤ b ∧ σ' = [some (.ref ta), some (.int 2), some (.str form), some (.int b), none, none]) (ett_and n3 (ett_test (et_pure ((er_I0 (g := fun i j => V.bl (decide (i > j))) (i := bits) (j := 0) er_v er_c : EvR _ _ _ (IsV (V.bl (decide (bits > 0))))).to fun _ v h => ⟨decide (bits > 0), h⟩)))
      (ett_test (et_op (r := rI0 fun i j => V.bl (decide (i > j))) (R := fun _ v => ∃ b : Bool, v = .bl b) n3 (A := CV fun v => ∃ r : Int, v = V.int r ∧ 0 ≤ r ∧ r < 3) (B := IsI 0) (et_call (3 : Int) n3 ⟨by decide, by decide⟩ rfl (ea1 er_c)) (et_pure er_c) fun v w H1 ⟨r, g1, _⟩ g2 Q q => ⟨r, 0, g1, g2, q _ H1 (Same.refl _) ⟨_, rfl⟩⟩))) n3 s3 t3 ⟨bits, hb1, rfl⟩ (fun H4 W4 N d4 s4 n4 t4 nx => ?_) fun σ4 H4 W4 d4 s4 n4 t4 f4 ⟨b, hb, hσ⟩ => ?_
  · refine s_setT (R := CV fun v => ∃ x : Int, x ∈ ([1, 2, 3, 4, 6, 8] : List Int) ∧ v = .int x) (et_ixN (g := fun n : Int => V.int n) (xs := [1, 2, 3, 4, 6, 8]) n4 (en_lstP (ps := [IsI 1, IsI 2, IsI 3, IsI 4, IsI 6, IsI 8]) (ea_cons er_c (ea_cons er_c (ea_cons er_c (ea_cons er_c (ea2 er_c er_c))))) (by simp)) (et_call (6 : Int) n4 ⟨by decide, by decide⟩ rfl (ea1 er_c)) (pick_lt (n := 6) rfl)) n4 s4 t4 fun v5 H5 W5 d5 s5 n5 t5 f5 ⟨x, hx, h⟩ => ?_
    subst h
    refine nx _ H5 W5 d5 s5 n5 t5 f5 ⟨x, ?_, rfl⟩
    have := hx
    simp only [List.mem_cons, List.not_mem_nil, or_false] at this
    omega
  subst hσ
  refine q_set (er_tup ea_nil (by decide)) fun v4 H5 e5 r5 => ?_
  refine q_forS (ei_lstX (RA := RStr) (xs := shadesL) (en_call () ea_nil True.intro).ev) (fun i σ' Hc => ∃ (b : Int) (sm : List Str) (v4 : V) (v5 : Option V), σ' = [some (.ref ta), some (.int 2), some (.str form), some (.int b), some v4, v5] ∧ (∀ s ∈ sm, s ∈ shadesL) ∧ sm.length ≤ i ∧ TupOf RStr sm Hc v4)
    (fun H6 e6 => ⟨b, [], v4, none, rfl, (fun s h => by cases h), Nat.le_refl _, MX.mx e6 r5⟩) ?_ ?_
  · rintro i s v σ' Hc Hx N hx sc ⟨b, sm, v4, v5, rfl, hsm, hsl, r4⟩ sx r n
    have hs := List.mem_of_getElem? hx
    have hil : i < 4 := (List.getElem?_eq_some_iff.mp hx).1
    have hb2 : b % 2 = 0 ∨ b % 2 = 1 := by omega
    refine eg_name (q_set (er_catTO (R := RStr) (ys := if b % 2 = 1 then [s] else []) (er_var (MX.mx sx r4)) (er_mulT1 (er_tup (ps := [IsS s]) (ea1 (er_var r)) (by simp)) (er_I (C := fun _ j => 0 < j) (g := fun i j => .int (i % j)) er_v er_c (by decide)) hb2) (by split <;> simp <;> omega)) fun u4 H7 e7 r7 => ?_)
    refine s_set (R := IsI (b / 2)) (er_I (C := CDiv) er_v er_c ⟨by decide, by decide⟩) fun u3 H8 e8 r8 => ?_
    obtain rfl : u3 = V.int (b / 2) := r8
    refine n _ _ (e7.trans e8) ⟨b / 2, _, u4, _, rfl, fun z hz => ?_, ?_, MX.mx e8 r7⟩
    · rcases List.mem_append.mp hz with hz | hz
      · exact hsm z hz
      · split at hz
        · rw [List.mem_singleton.mp hz]; exact hs
        · cases hz
    · rw [List.length_append]
      split <;> simp <;> omega
  · rintro σ' Hc sc ⟨b, sm, v4, v5, rfl, hsm, hsl, r4⟩
    have tc := (t4.mono e5).mono sc
    have r4' := MF.mf tc.wo r4
    refine s_retT (W := wo ta Hc) (et_tup3 (p1 := IsS form) (p2 := TupOf RStr sm) (p3 := RCnt) er_v (er_var r4') (et_call () (if_pos rfl) True.intro rfl (ea1 er_v))) wo_same tc fun v H9 e9 f9 t9 r9 => ?_
    have s9 : Same (wo ta H) H9 := by
      have g1 : Same W4 Hc := (s4.trans e5).trans sc
      exact (((d2.trans d3).trans d4).trans (new_wo g1 n4)).trans e9
    refine q v H9 s9 ((((f2.trans f3).trans f4).trans (Same.fk (e5.trans sc))).trans f9) t9 ?_
    obtain ⟨a, us, k1, k2, k3⟩ := r9
    obtain ⟨y1, y2, y3, rfl, j1, j2, m, rfl, m1, m2⟩ := k3.three
    exact ⟨⟨form, sm, m⟩, ⟨hf, hsm, hsl, m1, m2⟩, a, _, k1, k2, j1, j2, rfl, True.intro⟩
end
end K43
set_option Elab.async false
set_option linter.all false
set_option maxRecDepth 100000
set_option maxHeartbeats 1000000
/-! # KLD: the law's stock -/
namespace K43
open PySem PySem.Spec PyProof.Rows L2 K43S
open C8 (Cal Mak Met pe_c pe_mk pe_mt pe_mt0)
section
variable {P : Program} {w : World} {K : PySem.W.Frag} {mg : Str → Option Value} {base : Heap}
-- slots: 0 _law_rows_here, 1 _law_found, 2 _law_form, 3 _law_shade, 4 _law_many
abbrev N__law_stock : List Str := ["_law_rows_here", "_law_found", "_law_form", "_law_shade", "_law_many"]
theorem sc__law_stock : FnScope N__law_stock ["_law_rows_here"] (defScope s__law_stock) := ⟨rfl, rfl, rfl, by decide +kernel, rfl, by decide +kernel, by decide +kernel⟩
theorem ok__law_stock (T : Tx w K mg) : Cal P w K mg base 1 "_law_stock" spCounted [] := by
  refine mk_pure T.f__law_stock T.g__law_stock sc__law_stock (fun _ _ _ _ _ _ us hl => match us, hl with | [_], _ => rfl) (fun _ => rfl) (fun cdv A outer s H vs Q E i hr hp hc q => ?_)
  obtain ⟨v0, rfl, h0⟩ := PP.one hp
  have hlen : i.length ≤ 10000 := hc
  refine ⟨_, (pss_cons (ps_set (i := 1) sc__law_stock.nd rfl (.inl rfl) pe_dnewT)
    (pss_cons (ps_for PassesOwn.never rfl (kx_pi_tup K (pv 0)) (kx_tup K (by rfl) (pgs_cons (pg_name (i := 2) sc__law_stock.nd rfl (.inl rfl)) (pgs_cons (pg_name (i := 3) sc__law_stock.nd rfl (.inl rfl)) (pgs_cons (pg_name (i := 4) sc__law_stock.nd rfl (.inl rfl)) pgs_nil))))
      (pss_one (ps_dput (hu_of hr) (pv 1) (pe_tup (pa_cons (pv 2) (pa_cons (pv 3) pa_nil))) (pe_op op_add (pe_dget2 (hu_of hr) (pv 1) (pe_tup (pa_cons (pv 2) (pa_cons (pv 3) pa_nil))) pe_int ⟨rfl, rfl, rfl, rfl⟩) (pv 4)) rfl)))
    (pss_one (ps_ret (pv 1))))), ?_⟩
  refine fun d hd => ?_
  have e0 := Same.new (o := .dT []) hd
  refine q_for (ei_tup (er_var (MX.mx e0 h0))) (fun j σ' Hc => Same H Hc ∧ (∃ v2 v3 v4, σ' = [some v0, some (.ref d), v2, v3, v4]) ∧ Hc d = some (.dT (encT (countUp (i.take j)))))
    (fun H2 e2 => ⟨e0.trans e2, ⟨_, _, _, rfl⟩, e2 d _ upd_same⟩) ?_ ?_
  · rintro j ⟨form, shade, many⟩ v σ' Hc Hx N hx f ⟨s, ⟨v2, v3, v4, rfl⟩, hdc⟩ sx r n
    refine eg_tup3 r fun u1 u2 u3 r1 r2 r3 => ?_
    have hjl : (countUp (i.take j)).length ≤ 10000 := Nat.le_trans (countUp_len _) (by rw [List.length_take]; omega)
    have hdx := sx d _ hdc
    refine s_dputT (p := (form, shade)) (n := gv (countUp (i.take j)) (form, shade) + many) hdx (er_I0 (er_dget2T (n := 0) (g := countUp (i.take j)) (p := (form, shade)) (er_var (R := DcT (countUp (i.take j))) ⟨d, rfl, hdx⟩) (er_tup (ps := [IsS form, IsS shade]) (ea2 (er_var r1) (er_var r2)) (by simp)) (er_c (v := .int 0))) (er_var r3)) er_v (er_tup (ps := [IsS form, IsS shade]) (ea2 (er_var r1) (er_var r2)) (by simp)) (by omega) fun H4 e4 => ?_
    refine n _ _ ((Same.fk e4).trans (FK.upd ((sx.trans e4) d _ hdc) fun z => z)) ⟨((s.trans sx).trans e4).mut hd, ⟨_, _, _, rfl⟩, ?_⟩
    rw [upd_same, countUp_take hx]
    rfl
  · rintro σ' Hc f ⟨s, ⟨v2, v3, v4, rfl⟩, hdc⟩
    rw [List.take_length] at hdc
    exact s_ret er_v fun v H2 e2 r2 => q v H2 (s.trans e2) (by obtain rfl : v = V.ref d := r2; exact ⟨d, rfl, e2 d _ hdc⟩)
end
end K43
set_option Elab.async false
set_option linter.all false
set_option maxRecDepth 100000
set_option maxHeartbeats 400000
/-! # KLE: tuple([.. for k in range(..)]) with the tape -/
namespace K43
open PySem PySem.Spec PyProof.Rows L2 K43S
def TupAll (R : Pr) (C : Nat → Prop) : Pr := fun H v => ∃ a us, v = .ref a ∧ H a = some (.tup us) ∧ C us.length ∧ ∀ u ∈ us, R H u
instance {R : Pr} {C : Nat → Prop} [MF R] : MF (TupAll R C) := ⟨fun e ⟨a, us, h1, h2, h3, h4⟩ => ⟨a, us, h1, e a _ True.intro h2, h3, fun u hu => MF.mf e (h4 u hu)⟩⟩
theorem et_tupLc {K : PySem.W.Frag} {l0 ta : Addr} {W : Hp} {σ : L2.St} {ti te : TE} {j : Nat} {R : Pr} [MF R] {C : Nat → Prop} (hC : ∀ n, C n → n ≤ 1000) (hW : W ta = none) (hi : EvT l0 ta ti σ W (CV fun v => ∃ n : Nat, v = .int (n : Int) ∧ C n))
    (hw : ∀ v, wipe ((wipe σ [j]).set j (some v)) [j] = wipe σ [j]) (hb : ∀ v, EvT l0 ta te ((wipe σ [j]).set j (some v)) W R) :
    EvT l0 ta (tCB (rTupQ K) (tCons (tLc (iRng1 (tCons ti tNil)) (gName j) tYes te [j]) tNil)) σ W (TupAll R C) := fun H1 e t Q q => by
  refine hi H1 e t _ fun v H2 e2 f2 t2 ⟨n, hv, hn⟩ => ?_
  subst hv
  have hn2 := hC n hn
  refine ⟨(n : Int), rfl, by omega, by omega, ?_⟩
  intro D hD
  have wk : Walk (Itr 0 (n : Int).toNat) n (fun _ => True) (YFn fun i => .int (0 + (i : Int))) := by
    have := walk_range (lo := 0) (n := n)
    rw [Int.toNat_natCast]
    exact this
  have hDt : D ≠ ta := fun z => by
    obtain ⟨_, _, _, _, k1, _⟩ := t2.ex
    rw [z, k1] at hD
    cases hD
  refine lc_it wk (fun i Hc => Same (wo ta H2) Hc ∧ FK H2 Hc ∧ TapeR l0 ta Hc ∧ ∃ acc, Hc D = some (.lst acc) ∧ acc.length = i ∧ ∀ u ∈ acc, R Hc u) ⟨(wo_same).trans (Same.new hD), Same.fk (Same.new hD), t2.mono (Same.new hD), [], upd_same, rfl, by simp⟩ (fun _ _ _ _ => True.intro) ?_ ?_
  · rintro i v Hc Hx hlt ⟨s1, f1, t1, acc, hD1, hl, ha⟩ ⟨y1, y2⟩
    subst y1
    refine ⟨hw _, ?_⟩
    have e3 : Same W Hx := by
      have h1 : Same W (wo ta H2) := new_wo ((new_wo e hW).trans e2) hW
      exact h1.trans s1
    refine hb _ Hx e3 t1 _ fun y H4 s4 f4 t4 r4 => ?_
    have hD4 : H4 D = some (.lst acc) := s4 D _ (by rw [wo_ne hDt]; exact hD1)
    have fk : FK H4 (upd H4 D (.lst (acc ++ [y]))) := FK.upd hD4 fun z => z
    refine ⟨acc, hD4, by rw [sizeLine_eq]; omega, ?_, (f1.trans f4).trans fk, ?_, acc ++ [y], upd_same, by rw [List.length_append, hl]; rfl, fun u hu => ?_⟩
    · have h2 : Same (wo ta H2) (wo ta Hx) := new_wo s1 (if_pos rfl)
      exact ((h2.trans s4)).mut (by rw [wo_ne hDt]; exact hD)
    · obtain ⟨cells, a, r, c, k1, k2, k3, k4, k5⟩ := t4.ex
      have hz : l0 ≠ D := fun z => by
        obtain ⟨_, _, _, _, _, _, k9, _⟩ := t2.ex
        rw [z, hD] at k9
        cases k9
      exact ⟨cells, a, r, c, by rw [upd_ne (Ne.symm hDt)]; exact k1, k2, by rw [upd_ne hz]; exact k3, k4, k5⟩
    · rcases List.mem_append.mp hu with hu | hu
      · exact MF.mf (f4.trans fk) (ha u hu)
      · rw [List.mem_singleton.mp hu]
        exact MF.mf fk r4
  · rintro Hc ⟨s1, f1, t1, acc, hD1, hl, ha⟩
    refine ⟨D, acc, rfl, .inl ⟨SqL.of hD1, fun p hp => ?_⟩⟩
    refine q _ _ (((wo_step e2 s1)).trans (Same.new hp)) ((f2.trans f1).trans (Same.fk (Same.new hp))) (t1.mono (Same.new hp)) ⟨p, acc, rfl, upd_same, by rw [hl]; exact hn, fun u hu => MF.mf (Same.fk (Same.new hp)) (ha u hu)⟩
end K43
set_option Elab.async false
set_option linter.all false
set_option maxRecDepth 100000
set_option maxHeartbeats 400000
/-! # KLF: the law's way -/
namespace K43
open PySem PySem.Spec PyProof.Rows L2 K43S
open C8 (Cal Mak Met pe_c pe_mk pe_mt pe_mt0)
section
variable {P : Program} {w : World} {K : PySem.W.Frag} {mg : Str → Option Value} {base : Heap}
def RWy : Pr := TupAll RW fun n => n ≤ 2
instance : MF RWy := inferInstanceAs (MF (TupAll RW fun n => n ≤ 2))
abbrev spWay : Sp := spT (ι := Unit) (fun _ => [.int 2, .int 2]) (fun _ => True) fun _ => RWy
-- slots: 0 _law_tape_here (cell), 1 _law_most_wants, 2 _law_great (cell), 3 _law_k
abbrev N__law_way : List Str := ["_law_tape_here", "_law_most_wants", "_law_great", "_law_k"]
theorem sc__law_way : FnScope N__law_way ["_law_tape_here", "_law_most_wants", "_law_great"] (defScope s__law_way) := ⟨rfl, rfl, rfl, by decide +kernel, rfl, by decide +kernel, by decide +kernel⟩
theorem ok__law_way (T : Tx w K mg) : Cal P w K mg base 4 "_law_way" spWay [] := by
  refine mk_cal T.f__law_way T.g__law_way sc__law_way (fun _ _ _ _ _ _ us hl => match us, hl with | [_, _, _], _ => rfl) (fun vs H Q E ⟨_, _, _, h, _⟩ => by rw [h]; rfl) (fun cdv A outer s H vs Q E hr h => ?_)
  obtain ⟨l0, ta, i, rfl, ht, _, q⟩ := h
  refine ⟨_, (pss_one (ps_ret (pe_callTy (T := "tuple") (kx_tuple K) (by rfl) T.b_tuple (by decide +kernel) (pa_cons (pe_lc (own := [("_law_k", 3)]) (g := gName 3) (by rfl) sc__law_way.nd (pi_range1 rfl T.b_range (pa_cons (pe_c (ok_pickT T) hr (by decide) rfl (pa_cons (pv 0) (pa_cons (pe_op op_add (pv 1) pe_int) pa_nil))) pa_nil)) (blkOk_by (N := N__law_way) (sc := defScope s__law_way) (by decide +kernel)) (fun _ _ _ _ _ => (pg_name (i := 3) sc__law_way.nd rfl (.inl rfl))) (fun _ _ _ _ _ => pts_nil) (fun _ _ _ _ _ => (pe_c (ok__law_want T) hr (by decide) rfl (pa_cons (pv 0) (pa_cons (pv 2) pa_nil))))) pa_nil)))), ?_⟩
  have hp : EvT l0 ta (tCall spPickT [] C8.E0 (tCons (tVar 0) (tCons (tOp (rI0 fun i j => V.int (i + j)) (tVar 1) (tC (.int 1))) tNil))) [some (.ref ta), some (.int 2), some (.int 2), none] (wo ta H) (fun _ v => ∃ r : Int, v = .int r ∧ 0 ≤ r ∧ r < 3) :=
    et_call (3 : Int) (if_pos rfl) ⟨by decide, by decide⟩ rfl (ea1 (EvR.is (er_I0 (g := fun i j => V.int (i + j)) (i := 2) (j := 1) er_v er_c) rfl))
  exact s_retT (W := wo ta H) (et_tupLc (R := RW) (C := fun n => n ≤ 2) (fun n h => by omega) (if_pos rfl) (et_to hp fun H v ⟨r, h1, h2, h3⟩ => ⟨r.toNat, by rw [h1]; congr 1; omega, by omega⟩) (fun _ => rfl) fun v => et_call () (if_pos rfl) True.intro rfl (ea1 er_v)) wo_same ht fun v H2 e2 f2 t2 r2 => q v H2 e2 f2 t2 r2
end
end K43
set_option Elab.async false
set_option linter.all false
set_option maxRecDepth 100000
set_option maxHeartbeats 400000
/-! # KLG: the law's tape, laid -/
namespace K43
open PySem PySem.Spec PyProof.Rows L2 K43S
open C8 (Cal Mak Met pe_c pe_mk pe_mt pe_mt0)
section
variable {P : Program} {w : World} {K : PySem.W.Frag} {mg : Str → Option Value} {base : Heap}
def spTape (K : PySem.W.Frag) : Sp := fun vs H Q _ => ∃ (a0 : Addr) (cells : List Int), vs = [.ref a0] ∧ SqL K H a0 (cells.map V.int) ∧ ∀ l0 ta H', Same H H' → H l0 = none → H ta = none → TapeR l0 ta H' → Q (.ref ta) H'
-- slots: 0 _law_script
abbrev N__law_tape : List Str := ["_law_script"]
theorem sc__law_tape : FnScope N__law_tape ["_law_script"] (defScope s__law_tape) := ⟨rfl, rfl, rfl, by decide +kernel, rfl, by decide +kernel, by decide +kernel⟩
theorem ok__law_tape (T : Tx w K mg) : Cal P w K mg base 1 "_law_tape" (spTape K) [] := by
  refine mk_cal T.f__law_tape T.g__law_tape sc__law_tape (fun _ _ _ _ _ _ us hl => match us, hl with | [_], _ => rfl) (fun vs H Q E ⟨_, _, h, _⟩ => by rw [h]; rfl) (fun cdv A outer s H vs Q E hr h => ?_)
  obtain ⟨a0, cells, rfl, h0, q⟩ := h
  refine ⟨_, (pss_one (ps_ret (pe_lst (pa_cons (pe_callTy (T := "list") (kx_list K) (by rfl) T.b_list (by decide +kernel) (pa_cons (pe_slice (kx_slL K) (pv 0) po_none (po_some pe_int)) pa_nil)) (pa_cons pe_int (pa_cons pe_int (pa_cons pe_int pa_nil))))))), ?_⟩
  obtain ⟨cs, hcs⟩ : ∃ cs : List Int, cutV (cells.map V.int) none (some 63) = cs.map V.int := by
    unfold cutV
    rw [← List.map_drop, ← List.map_take]
    exact ⟨_, rfl⟩
  refine ⟨_, rfl, 63, rfl, a0, _, rfl, h0, fun a ha => ?_⟩
  rw [hcs]
  have e1 := Same.new (o := .lst (cs.map V.int)) ha
  have k1 : upd H a (.lst (cs.map V.int)) a = some (.lst (cs.map V.int)) := upd_same
  have back : ∀ {b : Addr} {H' : Hp}, Same H H' → H' b = none → H b = none := fun {b H'} e hb => by
    cases z : H b with
    | none => rfl
    | some o => have := e b o z; rw [hb] at this; cases this
  refine ⟨a, _, rfl, .inl (SqL.of k1), fun l hl => ?_⟩
  have e2 := Same.new (o := .lst (cs.map V.int)) hl
  refine ⟨by rw [sizeLine_eq]; simp, fun p hp => ?_⟩
  have e3 := Same.new (o := .lst [.ref l, .int 0, .int 0, .int 0]) hp
  have hlp : l ≠ p := fun z => by subst z; rw [upd_same] at hp; cases hp
  exact q l p _ ((e1.trans e2).trans e3) (back e1 hl) (back (e1.trans e2) hp) ⟨cs, 0, 0, 0, upd_same, hlp, e3 l _ upd_same, by omega, by omega⟩
end
end K43
set_option Elab.async false
set_option linter.all false
set_option maxRecDepth 100000
set_option maxHeartbeats 400000
/-! # KLH: append with the tape -/
namespace K43
open PySem PySem.Spec PyProof.Rows L2 K43S
theorem s_appT {K : PySem.W.Frag} {l0 ta l : Addr} {W H : Hp} {σ : L2.St} {te : TE} {D : Ends} {R : Pr} {xs : List V} {i : Nat} (hl : H l = some (.lst xs)) (h : EvT l0 ta te σ W R) (e : Same W H) (t : TapeR l0 ta H) (hlt : l ≠ ta) (hz : xs.length < 100000)
    (k : ∀ v H2, Same (wo ta H) H2 → FK H H2 → TapeR l0 ta H2 → R H2 v → H2 l = some (.lst xs) → D.nx σ (upd H2 l (.lst (xs ++ [v])))) (hi : σ[i]? = some (some (.ref l)) := by rfl) : tDrop (tBM K "list" rAppend (tVar i) (tCons te tNil)) D σ H :=
  ⟨_, hi, .inl ⟨rfl, _, .inl (.inl hl)⟩, h H e t _ fun v H2 e2 f2 t2 r2 => by
    have hl2 : H2 l = some (.lst xs) := e2 l _ (by rw [wo_ne hlt]; exact hl)
    exact ⟨l, xs, v, rfl, rfl, hl2, by rw [sizeLine_eq]; omega, k v H2 e2 f2 t2 r2 hl2⟩⟩
end K43
set_option Elab.async false
set_option linter.all false
set_option maxRecDepth 100000
set_option maxHeartbeats 400000
/-! # KLI: a list that grows while the tape turns; the law's rows -/
namespace K43
open PySem PySem.Spec PyProof.Rows L2 K43S
open C8 (Cal Mak Met pe_c pe_mk pe_mt pe_mt0)
structure PrtL (e : Prt) : Prop where
  form : e.1 ∈ formsL
  sh : e.2.1 ∈ shadesL
  lo : 1 ≤ e.2.2
  hi : e.2.2 ≤ 2
def RowsR : Pr := fun H v => ∃ rows : List Prt, (∀ e ∈ rows, PrtL e) ∧ rows.length ≤ 12 ∧ TupOf RPrt rows H v
instance : MF RowsR := ⟨fun e ⟨x, h1, h2, h3⟩ => ⟨x, h1, h2, MF.mf e h3⟩⟩
/-- a list of one's own at d -/
structure Ow {α : Type} (l0 ta d : Addr) (H Hc : Hp) (R : α → Pr) (xs : List α) : Prop where
  t0 : TapeR l0 ta H
  nd : H d = none
  tp : TapeR l0 ta Hc
  sm : Same (wo ta H) Hc
  fk : FK H Hc
  ls : ∃ acc, Hc d = some (.lst acc) ∧ PP Hc acc (xs.map R)
section
variable {α : Type} {l0 ta d : Addr} {H Hc H2 : Hp} {R : α → Pr} [∀ x, MF (R x)] {xs : List α}
theorem TapeR.ne (t : TapeR l0 ta H) (h : H d = none) : d ≠ ta ∧ d ≠ l0 := by
  obtain ⟨cells, a, r, c, h1, h2, h3, _⟩ := t.ex
  exact ⟨(fun z => by subst z; rw [h1] at h; cases h), (fun z => by subst z; rw [h3] at h; cases h)⟩
theorem TapeR.upd_ne {o : HO} (t : TapeR l0 ta H) (h1 : d ≠ ta) (h2 : d ≠ l0) : TapeR l0 ta (upd H d o) := by
  obtain ⟨cells, a, r, c, k1, k2, k3, k4, k5⟩ := t.ex
  exact ⟨cells, a, r, c, by rw [L2.upd_ne (Ne.symm h1)]; exact k1, k2, by rw [L2.upd_ne (Ne.symm h2)]; exact k3, k4, k5⟩
theorem Ow.start (t : TapeR l0 ta H) (h : H d = none) (e : Same (upd H d (.lst [])) Hc) : Ow l0 ta d H Hc R [] :=
  ⟨t, h, (t.mono (Same.new h)).mono e, wo_same.trans ((Same.new h).trans e), Same.fk ((Same.new h).trans e), [], e d _ upd_same, True.intro⟩
theorem Ow.step (o : Ow l0 ta d H Hc R xs) (s : Same (wo ta Hc) H2) (f : FK Hc H2) (t : TapeR l0 ta H2) : Ow l0 ta d H H2 R xs := by
  obtain ⟨acc, h1, h2⟩ := o.ls
  exact ⟨o.t0, o.nd, t, wo_step o.sm s, o.fk.trans f, acc, s d _ (by rw [wo_ne (o.t0.ne o.nd).1]; exact h1), MFs.mf f h2⟩
theorem Ow.mono (o : Ow l0 ta d H Hc R xs) (s : Same Hc H2) : Ow l0 ta d H H2 R xs := o.step (wo_same.trans s) (Same.fk s) (o.tp.mono s)
theorem Ow.app (o : Ow l0 ta d H Hc R xs) {acc : List V} (h : Hc d = some (.lst acc)) {x : α} {v : V} (r : R x Hc v) : Ow l0 ta d H (upd Hc d (.lst (acc ++ [v]))) R (xs ++ [x]) := by
  obtain ⟨acc', h1, h2⟩ := o.ls
  rw [h] at h1
  cases h1
  have fk : FK Hc (upd Hc d (.lst (acc ++ [v]))) := FK.upd h fun z => z
  refine ⟨o.t0, o.nd, o.tp.upd_ne (o.t0.ne o.nd).1 (o.t0.ne o.nd).2, o.sm.mut (by rw [wo_ne (o.t0.ne o.nd).1]; exact o.nd), o.fk.trans fk, acc ++ [v], upd_same, ?_⟩
  rw [List.map_append]
  exact PP.append (MFs.mf fk h2) ⟨MF.mf fk r, True.intro⟩
theorem Ow.lst (o : Ow l0 ta d H Hc R xs) : LstOf R xs Hc (.ref d) := by
  obtain ⟨acc, h1, h2⟩ := o.ls
  exact ⟨d, acc, rfl, h1, h2⟩
/-- what is new to Hc is none of ours -/
theorem Ow.ne (o : Ow l0 ta d H Hc R xs) {a : Addr} (h : Hc a = none) : a ≠ ta ∧ a ≠ d := by
  obtain ⟨acc, h1, _⟩ := o.ls
  exact ⟨(o.tp.ne h).1, (fun z => by subst z; rw [h1] at h; cases h)⟩
end
section
variable {l0 ta : Addr} {W : Hp} {σ : L2.St} {H : Hp} {D : Ends} {tu : TS} {tt : TT}
theorem s_whenT (h : EvTt l0 ta tt σ W) (e : Same W H) (t : TapeR l0 ta H) (h1 : ∀ H2, Same (wo ta H) H2 → FK H H2 → TapeR l0 ta H2 → tu D σ H2) (h2 : ∀ H2, Same (wo ta H) H2 → FK H H2 → TapeR l0 ta H2 → D.nx σ H2) : tIfS tt tu tNext D σ H :=
  h H e t _ fun b H2 e2 f2 t2 => by
    cases b with
    | true => exact h1 H2 e2 f2 t2
    | false => exact h2 H2 e2 f2 t2
/-- pick(..) > 0 -/
theorem ett_pos {m : Int} {te : TE} (hW : W ta = none) (h : EvT l0 ta te σ W fun _ v => ∃ r : Int, v = V.int r ∧ 0 ≤ r ∧ r < m) : EvTt l0 ta (tTest (tOp (rI0 fun i j => V.bl (decide (i > j))) te (tC (.int 0)))) σ W :=
  ett_test (et_op (r := rI0 fun i j => V.bl (decide (i > j))) (R := fun _ v => ∃ b : Bool, v = .bl b) hW (A := CV fun v => ∃ r : Int, v = V.int r ∧ 0 ≤ r ∧ r < m) (B := IsI 0) h (et_pure er_c) fun v w H1 ⟨r, g1, _⟩ g2 Q q => ⟨r, 0, g1, g2, q _ H1 (Same.refl _) ⟨_, rfl⟩⟩)
end
section
variable {P : Program} {w : World} {K : PySem.W.Frag} {mg : Str → Option Value} {base : Heap}
abbrev spRowsL : Sp := spT (ι := Unit) (fun _ => [.int 2]) (fun _ => True) fun _ => RowsR
-- slots: 0 _law_tape_here, 1 _law_great, 2 _law_found, 3 _law_form, 4 _law_shade
abbrev N__law_rows : List Str := ["_law_tape_here", "_law_great", "_law_found", "_law_form", "_law_shade"]
theorem sc__law_rows : FnScope N__law_rows ["_law_tape_here", "_law_great"] (defScope s__law_rows) := ⟨rfl, rfl, rfl, by decide +kernel, rfl, by decide +kernel, by decide +kernel⟩
theorem ok__law_rows (T : Tx w K mg) : Cal P w K mg base 3 "_law_rows" spRowsL [] := by
  refine mk_cal T.f__law_rows T.g__law_rows sc__law_rows (fun _ _ _ _ _ _ us hl => match us, hl with | [_, _], _ => rfl) (fun vs H Q E ⟨_, _, _, h, _⟩ => by rw [h]; rfl) (fun cdv A outer s H vs Q E hr h => ?_)
  obtain ⟨l0, ta, i, rfl, ht, _, q⟩ := h
  refine ⟨_, (pss_cons (ps_set (i := 2) sc__law_rows.nd rfl (.inl rfl) (pe_lst pa_nil))
    (pss_cons (ps_for PassesOwn.never rfl (kx_pi_list K (pe_c0 (ok__law_forms T) hr (by decide) rfl)) (pg_name (i := 3) sc__law_rows.nd rfl (.inl rfl))
      (pss_one (ps_for PassesOwn.never rfl (kx_pi_list K (pe_c0 (ok__law_shades T) hr (by decide) rfl)) (pg_name (i := 4) sc__law_rows.nd rfl (.inl rfl))
      (pss_one (ps_if (pt_cmpR op_gt (pe_c (ok_pickT T) hr (by decide) rfl (pa_cons (pv 0) (pa_cons pe_int pa_nil))) pe_int (nomark _)) (pss_one (ps_expr (kx_bm K PySem.F.plainAttrs_list PySem.F.slot_list_append PySem.F.type_list_append mt_append (pv 2) (pa_cons (pe_tup (pa_cons (pv 3) (pa_cons (pv 4) (pa_cons (pe_c (ok__law_count T) hr (by decide) rfl (pa_cons (pv 0) (pa_cons (pv 1) pa_nil))) pa_nil)))) pa_nil)))) pss_nil)))))
    (pss_one (ps_ret (pe_callTy (T := "tuple") (kx_tuple K) (by rfl) T.b_tuple (by decide +kernel) (pa_cons (pv 2) pa_nil)))))), ?_⟩
  refine q_nil fun d hd => ?_
  refine q_forN (RA := RStr) (xs := formsL) (en_call () ea_nil True.intro) (fun a vs i σ' Hc => (∃ v3 v4, σ' = [some (.ref ta), some (.int 2), some (.ref d), v3, v4]) ∧ (∃ xs : List Prt, Ow l0 ta d H Hc RPrt xs ∧ (∀ e ∈ xs, PrtL e) ∧ xs.length ≤ 4 * i) ∧ Hc a = some (.lst vs) ∧ a ≠ ta ∧ a ≠ d)
    (fun a vs H1 e1 hn ha _ => ?_) (fun a vs i σ' Hc _ h => h.2.2.1) ?_ ?_
  · have o := Ow.start (R := RPrt) ht hd e1
    refine ⟨⟨_, _, rfl⟩, ⟨[], o, (fun e h => by cases h), Nat.zero_le _⟩, ha, ?_, ?_⟩
    · exact ((ht.mono (Same.new hd)).ne hn).1
    · intro z; subst z; rw [upd_same] at hn; cases hn
  · rintro a vs i form v σ' Hc N hx fk ⟨⟨v3, v4, rfl⟩, ⟨xs, o, hxs, hxl⟩, ha, hat, had⟩ r n
    have hform : form ∈ formsL := List.mem_of_getElem? hx
    obtain rfl : v = V.str form := r
    refine eg_name ?_
    refine s_forN (RA := RStr) (xs := shadesL) (en_call () ea_nil True.intro) (fun b ws j σ' Hd => (∃ v4, σ' = [some (.ref ta), some (.int 2), some (.ref d), some (.str form), v4]) ∧ (∃ xs : List Prt, Ow l0 ta d H Hd RPrt xs ∧ (∀ e ∈ xs, PrtL e) ∧ xs.length ≤ 4 * i + j) ∧ Hd a = some (.lst vs) ∧ Hd b = some (.lst ws) ∧ b ≠ ta ∧ b ≠ d)
      (fun b ws H1 e1 hn hb _ => ⟨⟨_, rfl⟩, ⟨xs, o.mono e1, hxs, hxl⟩, e1 a _ ha, hb, (o.ne hn).1, (o.ne hn).2⟩) (fun b ws j σ' Hd _ h => h.2.2.2.1) ?_ ?_
    · rintro b ws j shade v σ' Hd N2 hx2 fk2 ⟨⟨v4, rfl⟩, ⟨xs, o, hxs, hxl⟩, ha, hb, hbt, hbd⟩ r n2
      have hsh : shade ∈ shadesL := List.mem_of_getElem? hx2
      obtain rfl : v = V.str shade := r
      have hj : j < 4 := (List.getElem?_eq_some_iff.mp hx2).1
      have hi : i < 3 := (List.getElem?_eq_some_iff.mp hx).1
      refine eg_name ?_
      refine s_whenT (W := wo ta Hd) (ett_pos (m := 5) (if_pos rfl) (et_call (5 : Int) (if_pos rfl) ⟨by decide, by decide⟩ rfl (ea1 er_c))) wo_same o.tp (fun H3 s3 f3 t3 => ?_) fun H3 s3 f3 t3 => ?_
      · have o3 := o.step s3 f3 t3
        obtain ⟨acc, h1, h2⟩ := o3.ls
        have hal := h2.length
        rw [List.length_map] at hal
        have ha3 : H3 a = some (.lst vs) := s3 a _ (by rw [wo_ne hat]; exact ha)
        have hb3 : H3 b = some (.lst ws) := s3 b _ (by rw [wo_ne hbt]; exact hb)
        refine s_appT (W := wo ta H3) h1 (et_tup3 (p1 := IsS form) (p2 := IsS shade) (p3 := RCnt) er_v er_v (et_call () (if_pos rfl) True.intro rfl (ea1 er_v))) wo_same t3 (ht.ne hd).1 (by omega) fun v H4 s4 f4 t4 r4 h4 => ?_
        obtain ⟨c, us, rfl, g1, g2⟩ := r4
        obtain ⟨u1, u2, u3, rfl, k1, k2, m, rfl, m1, m2⟩ := g2.three
        have o4 := (o3.step s4 f4 t4).app h4 (x := (form, shade, m)) (v := .ref c) ⟨c, _, rfl, g1, k1, k2, rfl, True.intro⟩
        refine n2 _ _ ((f3.trans f4).trans (FK.upd h4 fun z => z)) ⟨⟨_, rfl⟩, ⟨_, o4, fun e he => ?_, by rw [List.length_append, List.length_singleton]; omega⟩, ?_, ?_, hbt, hbd⟩
        · rcases List.mem_append.mp he with he | he
          · exact hxs e he
          · rw [List.mem_singleton.mp he]
            exact ⟨hform, hsh, m1, m2⟩
        · rw [upd_ne had]
          exact s4 a _ (by rw [wo_ne hat]; exact ha3)
        · rw [upd_ne hbd]
          exact s4 b _ (by rw [wo_ne hbt]; exact hb3)
      · refine n2 _ _ f3 ⟨⟨_, rfl⟩, ⟨xs, o.step s3 f3 t3, hxs, by omega⟩, s3 a _ (by rw [wo_ne hat]; exact ha), s3 b _ (by rw [wo_ne hbt]; exact hb), hbt, hbd⟩
    · rintro b ws σ' Hd fk2 ⟨⟨v4, rfl⟩, ⟨xs, o, hxs, hxl⟩, ha, hb, hbt, hbd⟩
      have e4 : shadesL.length = 4 := rfl
      rw [e4] at hxl
      exact n _ _ fk2 ⟨⟨_, _, rfl⟩, ⟨xs, o, hxs, by omega⟩, ha, hat, had⟩
  · rintro a vs σ' Hc fk ⟨⟨v3, v4, rfl⟩, ⟨xs, o, hxs, hxl⟩, ha, hat, had⟩
    refine s_ret (ev_tuple (K := K) (ps := xs.map RPrt) (er_var o.lst)) fun v H2 e2 r2 => q v H2 (o.sm.trans e2) (o.fk.trans (Same.fk e2)) (o.tp.mono e2) ⟨xs, hxs, hxl, r2⟩
end
end K43
set_option Elab.async false
set_option linter.all false
set_option maxRecDepth 100000
set_option maxHeartbeats 400000
/-! # KLJ: the law's sheet -/
namespace K43
open PySem PySem.Spec PyProof.Rows L2 K43S
open C8 (Cal Mak Met pe_c pe_mk pe_mt pe_mt0)
structure WayL (y : Way) : Prop where
  few : y.length ≤ 2
  all : ∀ x ∈ y, WantL x
structure RowL (r : Row) : Prop where
  lo : 1 ≤ r.length
  hi : r.length ≤ 3
  all : ∀ y ∈ r, WayL y
def divs (room : Int) (s : Sheet) : Int := s.foldl (fun r row => r / (List.length row : Nat)) room
theorem divs_snoc (room : Int) (s : Sheet) (r : Row) : divs room (s ++ [r]) = divs room s / (List.length r : Nat) := by
  unfold divs
  rw [List.foldl_append]
  rfl
structure SheetL (room : Int) (s : Sheet) : Prop where
  few : s.length ≤ 2
  all : ∀ r ∈ s, RowL r
  div : 1 ≤ divs room s ∧ divs room s ≤ 12
  any : ∀ i, 1 ≤ divs room (s.take i) ∧ divs room (s.take i) ≤ 12
def SheetR (room : Int) : Pr := fun H v => ∃ s : Sheet, SheetL room s ∧ RSheet s H v
instance {room : Int} : MF (SheetR room) := ⟨fun e ⟨x, h1, h2⟩ => ⟨x, h1, MF.mf e h2⟩⟩
/-- values that are each something -/
theorem pp_ex {α : Type} {L : α → Prop} {R : α → Pr} {H : Hp} : ∀ {us : List V}, (∀ u ∈ us, ∃ x, L x ∧ R x H u) → ∃ xs : List α, xs.length = us.length ∧ (∀ x ∈ xs, L x) ∧ PP H us (xs.map R)
  | [], _ => ⟨[], rfl, (fun x h => by cases h), True.intro⟩
  | u :: us, h => by
    obtain ⟨x, h1, h2⟩ := h u List.mem_cons_self
    obtain ⟨xs, g1, g2, g3⟩ := pp_ex (us := us) fun w hw => h w (List.mem_cons_of_mem _ hw)
    refine ⟨x :: xs, by rw [List.length_cons, List.length_cons, g1], fun z hz => ?_, h2, g3⟩
    rcases List.mem_cons.mp hz with rfl | hz
    · exact h1
    · exact g2 z hz
theorem tupAll_ex {α : Type} {L : α → Prop} {R : α → Pr} {C : Nat → Prop} {S : Pr} (w : ∀ H v, S H v → ∃ x, L x ∧ R x H v) {H : Hp} {v : V} (h : TupAll S C H v) : ∃ xs : List α, C xs.length ∧ (∀ x ∈ xs, L x) ∧ TupOf R xs H v := by
  obtain ⟨a, us, rfl, h1, h2, h3⟩ := h
  obtain ⟨xs, g1, g2, g3⟩ := pp_ex fun u hu => w H u (h3 u hu)
  exact ⟨xs, by rw [g1]; exact h2, g2, a, us, rfl, h1, g3⟩
theorem way_ex (H : Hp) (v : V) (h : RWy H v) : ∃ y : Way, WayL y ∧ RWay y H v := by
  obtain ⟨xs, h1, h2, h3⟩ := tupAll_ex (L := WantL) (R := RWant) (fun H v h => h) h
  exact ⟨xs, ⟨h1, h2⟩, h3⟩
theorem row_ex {n : Nat} (h1 : 1 ≤ n) (h2 : n ≤ 3) {H : Hp} {v : V} (h : TupAll RWy (fun k => k = n) H v) : ∃ r : Row, RowL r ∧ r.length = n ∧ RRow r H v := by
  obtain ⟨xs, g1, g2, g3⟩ := tupAll_ex (L := WayL) (R := RWay) way_ex h
  exact ⟨xs, ⟨by omega, by omega, g2⟩, g1, g3⟩
section
variable {l0 ta : Addr} {W : Hp} {σ : L2.St} {t1 t2 t3 te : TE}
theorem et_min {a : Int} {p : Int → Prop} (h1 : EvR t1 σ W (IsI a)) (h2 : EvT l0 ta t2 σ W (CV fun v => ∃ r : Int, v = .int r ∧ p r)) :
    EvT l0 ta (tCB (fun xs H Q => ∃ i j, xs = [.int i, .int j] ∧ Q (.int (if j < i then j else i)) H) (tCons t1 (tCons t2 tNil))) σ W (CV fun v => ∃ r : Int, p r ∧ v = .int (if r < a then r else a)) := fun H1 e t Q q =>
  h1 H1 e _ fun v H2 e2 r1 => h2 H2 (e.trans e2) (t.mono e2) _ fun w H3 e3 f3 t3 ⟨r, hw, hp⟩ => by
    obtain rfl : v = V.int a := r1
    subst hw
    exact ⟨a, r, rfl, q _ H3 ((same_wo e2).trans e3) ((Same.fk e2).trans f3) t3 ⟨r, hp, rfl⟩⟩
theorem et_one {m : Int} (hW : W ta = none) (h : EvT l0 ta te σ W fun _ v => ∃ r : Int, v = V.int r ∧ 0 ≤ r ∧ r < m) : EvT l0 ta (tOp (rI0 fun i j => V.int (i + j)) (tC (.int 1)) te) σ W (CV fun v => ∃ r : Int, v = .int r ∧ (1 ≤ r ∧ r ≤ m)) :=
  et_op hW (A := IsI 1) (B := CV fun v => ∃ r : Int, v = V.int r ∧ 0 ≤ r ∧ r < m) (et_pure er_c) h fun v w H2 g1 g2 Q q => by
    obtain ⟨r, rfl, g3, g4⟩ := g2
    exact ⟨1, r, g1, rfl, q _ H2 (Same.refl _) ⟨1 + r, rfl, by omega, by omega⟩⟩
end
section
variable {P : Program} {w : World} {K : PySem.W.Frag} {mg : Str → Option Value} {base : Heap}
abbrev spSheet : Sp := spT (ι := Int × Int) (fun i => [.int i.1, .int i.2, .int 2]) (fun i => (1 ≤ i.1 ∧ i.1 ≤ 2) ∧ 1 ≤ i.2 ∧ i.2 ≤ 12) fun i => SheetR i.2
-- slots: 0 _law_tape_here (cell), 1 _law_rows_here, 2 _law_room, 3 _law_great (cell), 4 _law_found, 5 _law_k, 6 _law_ways, 7 _law_way_here
abbrev N__law_sheet : List Str := ["_law_tape_here", "_law_rows_here", "_law_room", "_law_great", "_law_found", "_law_k", "_law_ways", "_law_way_here"]
theorem sc__law_sheet : FnScope N__law_sheet ["_law_tape_here", "_law_rows_here", "_law_room", "_law_great"] (defScope s__law_sheet) := ⟨rfl, rfl, rfl, by decide +kernel, rfl, by decide +kernel, by decide +kernel⟩
theorem ok__law_sheet (T : Tx w K mg) : Cal P w K mg base 5 "_law_sheet" spSheet [] := by
  refine mk_cal T.f__law_sheet T.g__law_sheet sc__law_sheet (fun _ _ _ _ _ _ us hl => match us, hl with | [_, _, _, _], _ => rfl) (fun vs H Q E ⟨_, _, _, h, _⟩ => by rw [h]; rfl) (fun cdv A outer s H vs Q E hr h => ?_)
  obtain ⟨l0, ta, ⟨n, m⟩, rfl, ht, ⟨⟨hn1, hn2⟩, hm1, hm2⟩, q⟩ := h
  dsimp only at hn1 hn2 hm1 hm2
  refine ⟨_, (pss_cons (ps_set (i := 4) sc__law_sheet.nd rfl (.inl rfl) (pe_lst pa_nil))
    (pss_cons (ps_for PassesOwn.never rfl (pi_range1 rfl T.b_range (pa_cons (pv 1) pa_nil)) (pg_name (i := 5) sc__law_sheet.nd rfl (.inl rfl))
      (pss_cons (ps_set (i := 6) sc__law_sheet.nd rfl (.inl rfl) (pe_callB (id := "min") (call_min2 rfl) (by rfl) T.b_min (by decide +kernel) (pa_cons (pv 2) (pa_cons (pe_op op_add pe_int (pe_c (ok_pickT T) hr (by decide) rfl (pa_cons (pv 0) (pa_cons pe_int pa_nil)))) pa_nil))))
    (pss_cons (ps_set (i := 2) sc__law_sheet.nd rfl (.inl rfl) (pe_op op_fdiv (pv 2) (pv 6)))
    (pss_one (ps_expr (kx_bm K PySem.F.plainAttrs_list PySem.F.slot_list_append PySem.F.type_list_append mt_append (pv 4) (pa_cons (pe_callTy (T := "tuple") (kx_tuple K) (by rfl) T.b_tuple (by decide +kernel) (pa_cons (pe_lc (own := [("_law_way_here", 7)]) (g := gName 7) (by rfl) sc__law_sheet.nd (pi_range1 rfl T.b_range (pa_cons (pv 6) pa_nil)) (blkOk_by (N := N__law_sheet) (sc := defScope s__law_sheet) (by decide +kernel)) (fun _ _ _ _ _ => (pg_name (i := 7) sc__law_sheet.nd rfl (.inl rfl))) (fun _ _ _ _ _ => pts_nil) (fun _ _ _ _ _ => (pe_c (ok__law_way T) hr (by decide) rfl (pa_cons (pv 0) (pa_cons pe_int (pa_cons (pv 3) pa_nil)))))) pa_nil)) pa_nil)))))))
    (pss_one (ps_ret (pe_callTy (T := "tuple") (kx_tuple K) (by rfl) T.b_tuple (by decide +kernel) (pa_cons (pv 4) pa_nil)))))), ?_⟩
  refine q_nil fun d hd => ?_
  refine q_for (ei_rng (ea1 (er_v (v := .int n))) (by omega) (by omega)) (fun i σ' Hc => ∃ (room : Int) (v5 v6 : Option V), σ' = [some (.ref ta), some (.int n), some (.int room), some (.int 2), some (.ref d), v5, v6, none] ∧
      ∃ s : Sheet, Ow l0 ta d H Hc RRow s ∧ (∀ r ∈ s, RowL r) ∧ s.length = i ∧ room = divs m s ∧ (1 ≤ room ∧ room ≤ 12) ∧ ∀ j, 1 ≤ divs m (s.take j) ∧ divs m (s.take j) ≤ 12)
    (fun H1 e1 => ⟨m, none, none, rfl, [], Ow.start ht hd e1, (fun r h => by cases h), rfl, rfl, ⟨hm1, hm2⟩, fun j => by rw [List.take_nil]; exact ⟨hm1, hm2⟩⟩) ?_ ?_
  · rintro i x v σ' Hc Hx N hx fk ⟨room, v5, v6, rfl, s, o, hs, hsl, hroom, ⟨hr1, hr2⟩, hdj⟩ sx rv n2
    have hil : i < 2 := by
      have h5 := (List.getElem?_eq_some_iff.mp hx).1
      rw [List.length_range] at h5
      omega
    have o1 := o.mono sx
    refine eg_name (q_setT (W := wo ta Hx) (R := CV fun v => ∃ w : Nat, v = .int (w : Int) ∧ 1 ≤ w ∧ w ≤ 3 ∧ (w : Int) ≤ room) (et_to (et_min (p := fun r => 1 ≤ r ∧ r ≤ 3) (er_v (v := .int room)) (et_one (m := 3) (if_pos rfl) (et_call (3 : Int) (if_pos rfl) ⟨by decide, by decide⟩ rfl (ea1 er_c)))) fun H' v' ⟨r, ⟨g1, g2⟩, g3⟩ => ?_) (if_pos rfl) wo_same o1.tp fun v6' H2 W2 d2 s2 nW2 t2 f2 ⟨w, hv, hw1, hw2, hw3⟩ => ?_)
    · subst g3
      by_cases h : r < room
      · rw [if_pos h]
        exact ⟨r.toNat, by congr 1; omega, by omega, by omega, by omega⟩
      · rw [if_neg h]
        exact ⟨room.toNat, by congr 1; omega, by omega, by omega, by omega⟩
    subst hv
    have o2 := o1.step (d2.trans s2) f2 t2
    refine q_set (R := IsI (room / (w : Int))) (er_I (C := CDiv) (i := room) (j := (w : Int)) er_v er_v ⟨by omega, by omega⟩) fun u2 H3 e3 r3 => ?_
    obtain rfl : u2 = V.int (room / (w : Int)) := r3
    have o3 := o2.mono e3
    obtain ⟨acc, h1, h2⟩ := o3.ls
    have hal := h2.length
    rw [List.length_map] at hal
    refine s_appT (W := wo ta H3) h1 (et_tupLc (R := RWy) (C := fun k => k = w) (fun k hk => by omega) (if_pos rfl) (et_pure ((er_v (v := .int (w : Int))).to fun H v h => ⟨w, h, rfl⟩)) (fun _ => rfl) fun v => et_call () (if_pos rfl) True.intro rfl (ea2 er_c er_v)) wo_same o3.tp (ht.ne hd).1 (by omega) fun v H4 s4 f4 t4 r4 h4 => ?_
    obtain ⟨r, hr, hrl, rr⟩ := row_ex hw1 hw2 r4
    have o4 := (o3.step s4 f4 t4).app h4 (x := r) rr
    have hq1 : 1 ≤ room / (w : Int) := (Int.le_ediv_iff_mul_le (by omega)).mpr (by omega)
    have hq2 : room / (w : Int) ≤ 12 := Int.le_trans (Int.ediv_le_self _ (by omega)) hr2
    have hds : divs m (s ++ [r]) = room / (w : Int) := by rw [divs_snoc, ← hroom, hrl]
    refine n2 _ _ (((f2.trans (Same.fk e3)).trans f4).trans (FK.upd h4 fun z => z)) ⟨room / (w : Int), _, _, rfl, s ++ [r], o4, fun z hz => ?_, by rw [List.length_append, hsl]; rfl, hds.symm, ⟨hq1, hq2⟩, fun j => ?_⟩
    · rcases List.mem_append.mp hz with hz | hz
      · exact hs z hz
      · rw [List.mem_singleton.mp hz]; exact hr
    · by_cases hj : j ≤ s.length
      · rw [List.take_append_of_le_length hj]
        exact hdj j
      · rw [List.take_of_length_le (by rw [List.length_append, List.length_singleton]; omega), hds]
        exact ⟨hq1, hq2⟩
  · rintro σ' Hc fk ⟨room, v5, v6, rfl, s, o, hs, hsl, hroom, hrr, hdj⟩
    rw [List.length_range] at hsl
    refine s_ret (ev_tuple (K := K) (ps := s.map RRow) (er_var o.lst)) fun v H2 e2 r2 => q v H2 (o.sm.trans e2) (o.fk.trans (Same.fk e2)) (o.tp.mono e2) ⟨s, ⟨by omega, hs, by rw [← hroom]; exact hrr, hdj⟩, r2⟩
end
end K43
set_option Elab.async false
set_option linter.all false
set_option maxRecDepth 100000
set_option maxHeartbeats 400000
/-! # KLK: the law's things -/
namespace K43
open PySem PySem.Spec PyProof.Rows L2 K43S
open C8 (Cal Mak Met pe_c pe_mk pe_mt pe_mt0)
structure SheetM (s : Sheet) : Prop where
  few : s.length ≤ 2
  all : ∀ r ∈ s, RowL r
def ThingsR : Pr := fun H v => ∃ things : Things, things.length ≤ 3 ∧ (∀ s ∈ things, SheetM s) ∧ RThings things H v
instance : MF ThingsR := ⟨fun e ⟨x, h1, h2, h3⟩ => ⟨x, h1, h2, MF.mf e h3⟩⟩
section
variable {l0 ta : Addr} {W H : Hp} {σ : L2.St} {t1 t2 t3 te : TE} {D : Ends} {tz : TS}
theorem et_call4 {ι : Type} {Ar : ι → List V} {C : ι → Prop} {R : ι → Pr} {S : Pr} {E : XK} {p : V → Prop} {a b : V} (hW : W ta = none) (hv : σ[0]? = some (some (.ref ta))) (h1 : EvT l0 ta t1 σ W (CV p)) (h2 : EvR t2 σ W (IsV a)) (h3 : EvR t3 σ W (IsV b))
    (hA : ∀ v, p v → ∃ i, Ar i = [v, a, b] ∧ C i ∧ ∀ H v, R i H v → S H v) : EvT l0 ta (tCall (spT Ar C R) [] E (tCons (tVar 0) (tCons t1 (tCons t2 (tCons t3 tNil))))) σ W S := fun H1 e t Q q =>
  ⟨_, hv, h1 H1 e t _ fun x1 H2 e2 f2 t2' r1 => h2 H2 ((new_wo e hW).trans e2) _ fun x2 H3 e3 r2 => h3 H3 (((new_wo e hW).trans e2).trans e3) _ fun x3 H4 e4 r3 => by
    obtain rfl : x2 = a := r2
    obtain rfl : x3 = b := r3
    obtain ⟨i, k1, k2, k3⟩ := hA x1 r1
    refine ⟨l0, ta, i, by rw [List.append_nil, k1], t2'.mono (e3.trans e4), k2, fun v H5 e5 f5 t5 r5 => q v H5 (wo_step (e2.trans (e3.trans e4)) e5) ((f2.trans (Same.fk (e3.trans e4))).trans f5) t5 (k3 _ _ r5)⟩⟩
theorem q_parNil {i j : Nat} {c : V} (k : ∀ l, H l = none → tz D ((σ.set i (some (.ref l))).set j (some c)) (upd H l (.lst []))) : tSeq (tPar i j (tCons (tLst tNil) (tCons (tC c) tNil))) tz D σ H := ⟨Nat.zero_le _, fun p hp => ⟨_, _, rfl, k p hp⟩⟩
end
section
variable {P : Program} {w : World} {K : PySem.W.Frag} {mg : Str → Option Value} {base : Heap}
abbrev spThings : Sp := spT (ι := Int) (fun n => [.int n, .int 2]) (fun n => 0 ≤ n ∧ n ≤ 3) fun _ => ThingsR
-- slots: 0 _law_tape_here, 1 _law_many, 2 _law_great, 3 _law_k, 4 _law_found, 5 _law_room, 6 _law_thing, 7 _law_row
abbrev N__law_things : List Str := ["_law_tape_here", "_law_many", "_law_great", "_law_k", "_law_found", "_law_room", "_law_thing", "_law_row"]
theorem sc__law_things : FnScope N__law_things ["_law_tape_here", "_law_many", "_law_great"] (defScope s__law_things) := ⟨rfl, rfl, rfl, by decide +kernel, rfl, by decide +kernel, by decide +kernel⟩
theorem ok__law_things (T : Tx w K mg) : Cal P w K mg base 6 "_law_things" spThings [] := by
  refine mk_cal T.f__law_things T.g__law_things sc__law_things (fun _ _ _ _ _ _ us hl => match us, hl with | [_, _, _], _ => rfl) (fun vs H Q E ⟨_, _, _, h, _⟩ => by rw [h]; rfl) (fun cdv A outer s H vs Q E hr h => ?_)
  obtain ⟨l0, ta, n, rfl, ht, ⟨hn1, hn2⟩, q⟩ := h
  refine ⟨_, (pss_cons (ps_par (i := 4) (j := 5) (by rfl) sc__law_things.nd rfl rfl (by decide) rfl rfl (pa_cons (pe_lst pa_nil) (pa_cons pe_int pa_nil)) (by rfl))
    (pss_cons (ps_for PassesOwn.never rfl (pi_range1 rfl T.b_range (pa_cons (pv 1) pa_nil)) (pg_name (i := 3) sc__law_things.nd rfl (.inl rfl))
      (pss_cons (ps_set (i := 6) sc__law_things.nd rfl (.inl rfl) (pe_c (ok__law_sheet T) hr (by decide) rfl (pa_cons (pv 0) (pa_cons (pe_op op_add pe_int (pe_c (ok_pickT T) hr (by decide) rfl (pa_cons (pv 0) (pa_cons pe_int pa_nil)))) (pa_cons (pv 5) (pa_cons (pv 2) pa_nil))))))
    (pss_cons (ps_for PassesOwn.never rfl (kx_pi_tup K (pv 6)) (pg_name (i := 7) sc__law_things.nd rfl (.inl rfl))
      (pss_one (ps_set (i := 5) sc__law_things.nd rfl (.inl rfl) (pe_op op_fdiv (pv 5) (pe_callB (id := "len") (kx_len K) (by rfl) T.b_len (by decide +kernel) (pa_cons (pv 7) pa_nil))))))
    (pss_one (ps_expr (kx_bm K PySem.F.plainAttrs_list PySem.F.slot_list_append PySem.F.type_list_append mt_append (pv 4) (pa_cons (pv 6) pa_nil)))))))
    (pss_one (ps_ret (pe_callTy (T := "tuple") (kx_tuple K) (by rfl) T.b_tuple (by decide +kernel) (pa_cons (pv 4) pa_nil)))))), ?_⟩
  refine q_parNil fun d hd => ?_
  refine q_for (ei_rng (ea1 (er_v (v := .int n))) (by omega) (by omega)) (fun i σ' Hc => ∃ (room : Int) (v3 v6 v7 : Option V), σ' = [some (.ref ta), some (.int n), some (.int 2), v3, some (.ref d), some (.int room), v6, v7] ∧
      ∃ xs : Things, Ow l0 ta d H Hc RSheet xs ∧ (∀ s ∈ xs, SheetM s) ∧ xs.length = i ∧ (1 ≤ room ∧ room ≤ 12))
    (fun H1 e1 => ⟨12, none, none, none, rfl, [], Ow.start ht hd e1, (fun r h => by cases h), rfl, by omega⟩) ?_ ?_
  · rintro i x v σ' Hc Hx N hx fk ⟨room, v3, v6, v7, rfl, xs, o, hs, hsl, ⟨hr1, hr2⟩⟩ sx rv n2
    have hil : i < 3 := by
      have h5 := (List.getElem?_eq_some_iff.mp hx).1
      rw [List.length_range] at h5
      omega
    have o1 := o.mono sx
    refine eg_name (q_setT (W := wo ta Hx) (R := SheetR room) (et_call4 (p := fun v => ∃ r : Int, v = .int r ∧ (1 ≤ r ∧ r ≤ 2)) (if_pos rfl) rfl (et_one (m := 2) (if_pos rfl) (et_call (2 : Int) (if_pos rfl) ⟨by decide, by decide⟩ rfl (ea1 er_c))) (er_v (v := .int room)) (er_v (v := .int 2)) fun v ⟨r, g1, g2, g3⟩ => ⟨(r, room), by rw [g1], ⟨⟨g2, g3⟩, hr1, hr2⟩, fun _ _ h => h⟩) (if_pos rfl) wo_same o1.tp fun v6' H2 W2 d2 s2 nW2 t2 f2 r2 => ?_)
    obtain ⟨s, sl, rs⟩ := r2
    have o2 := o1.step (d2.trans s2) f2 t2
    have rs2 := MX.mx s2 rs
    refine q_forS (ei_tup (RA := RRow) (xs := s) (er_var rs2)).same (fun j σ' Hd => ∃ v7 : Option V, σ' = [some (.ref ta), some (.int n), some (.int 2), some v, some (.ref d), some (.int (divs room (s.take j))), some v6', v7])
      (fun H3 e3 => ⟨_, rfl⟩) ?_ ?_
    · rintro j row vr σ' Hd Hy N3 hxr sd ⟨v7, rfl⟩ sy rr n3
      have hrow := sl.all row (List.mem_of_getElem? hxr)
      have hlo := hrow.lo
      have hhi := hrow.hi
      have hdv := sl.any j
      refine eg_name (s_set (R := IsI (divs room (s.take j) / (List.length row : Nat))) (er_I (C := CDiv) (i := divs room (s.take j)) (j := (List.length row : Nat)) er_v (ev_lenTO (R := RWay) (xs := row) (er_var rr)) ⟨by omega, by omega⟩) fun u2 H4 e4 r4 => ?_)
      obtain rfl : u2 = V.int (divs room (s.take j) / (List.length row : Nat)) := r4
      refine n3 _ _ e4 ⟨some vr, ?_⟩
      rw [take_snoc hxr, divs_snoc]
      rfl
    · rintro σ' Hd sd ⟨v7, rfl⟩
      rw [List.take_length]
      have o3 := o2.mono sd
      obtain ⟨acc, h1, h2⟩ := o3.ls
      have hal := h2.length
      rw [List.length_map] at hal
      refine s_app (R := RSheet s) h1 (er_var (MX.mx sd rs2)) (by omega) fun v8 H4 e4 r4 => ?_
      have h4 := e4 d _ h1
      have o4 := (o3.mono e4).app h4 (x := s) r4
      refine n2 _ _ (((f2.trans (Same.fk sd)).trans (Same.fk e4)).trans (FK.upd h4 fun z => z)) ⟨_, _, _, _, rfl, xs ++ [s], o4, fun z hz => ?_, by rw [List.length_append, hsl]; rfl, sl.div⟩
      rcases List.mem_append.mp hz with hz | hz
      · exact hs z hz
      · rw [List.mem_singleton.mp hz]
        exact ⟨sl.few, sl.all⟩
  · rintro σ' Hc fk ⟨room, v3, v6, v7, rfl, xs, o, hs, hsl, hrr⟩
    rw [List.length_range] at hsl
    refine s_ret (ev_tuple (K := K) (ps := xs.map RSheet) (er_var o.lst)) fun v H2 e2 r2 => q v H2 (o.sm.trans e2) (o.fk.trans (Same.fk e2)) (o.tp.mono e2) ⟨xs, by omega, hs, r2⟩
end
end K43
set_option Elab.async false
set_option linter.all false
/-! # KX1: a tree bars; all sets; all choices -/
namespace K43
open PySem K43S
/-! ### more wants, more wanted -/
theorem wanted_sub {l m : List Want} (h : l.Sublist m) (hp : ∀ x ∈ m, 0 ≤ x.many) (form : Str) (o : Option (List Str)) : wantedP l form o ≤ wantedP m form o := by
  induction h with
  | slnil => exact Int.le_refl _
  | @cons l m a _ ih =>
    have := ih fun x hx => hp x (List.mem_cons_of_mem _ hx)
    have ha := hp a List.mem_cons_self
    unfold wantedP at this ⊢
    rw [List.filter_cons]
    split
    · rw [List.map_cons, List.sum_cons]; omega
    · exact this
  | @cons_cons l m a _ ih =>
    have := ih fun x hx => hp x (List.mem_cons_of_mem _ hx)
    unfold wantedP at this ⊢
    rw [List.filter_cons, List.filter_cons]
    split
    · rw [List.map_cons, List.sum_cons, List.map_cons, List.sum_cons]; omega
    · exact this
theorem takenAt_sub {r : Row} {o o' : Option Nat} (h : ∀ w, o = some w → o' = some w) : (takenAt (r, o)).Sublist (takenAt (r, o')) := by
  cases o with
  | none => exact List.nil_sublist _
  | some w => rw [h w rfl]; exact List.Sublist.refl _
theorem tw_sub : ∀ {s : Sheet} {t t' : List (Option Nat)}, t.length = s.length → t'.length = s.length → (∀ (j w : Nat), t[j]? = some (some w) → t'[j]? = some (some w)) → (takenWants s t).Sublist (takenWants s t')
  | [], _, _, _, _, _ => by simp [takenWants]
  | r :: s, [], _, h, _, _ => by simp at h
  | r :: s, _ :: _, [], _, h, _ => by simp at h
  | r :: s, o :: t, o' :: t', h, h', hh => by
    have ih := tw_sub (s := s) (t := t) (t' := t') (by simpa using h) (by simpa using h') fun j w hj => by simpa using hh (j + 1) w (by simpa using hj)
    have h0 : (takenAt (r, o)).Sublist (takenAt (r, o')) := takenAt_sub fun w hw => by simpa using hh 0 w (by simp [hw])
    have e1 : takenWants (r :: s) (o :: t) = takenAt (r, o) ++ takenWants s t := rfl
    have e2 : takenWants (r :: s) (o' :: t') = takenAt (r, o') ++ takenWants s t' := rfl
    rw [e1, e2]
    exact h0.append ih
theorem flatten_sub {α β : Type} {l : List α} {f g : α → List β} (h : ∀ a ∈ l, (f a).Sublist (g a)) : (l.map f).flatten.Sublist (l.map g).flatten := by
  induction l with
  | nil => exact List.Sublist.refl _
  | cons a l ih =>
    rw [List.map_cons, List.map_cons, List.flatten_cons, List.flatten_cons]
    exact (h a List.mem_cons_self).append (ih fun b hb => h b (List.mem_cons_of_mem _ hb))
/-- a state lies on the way to a whole one -/
structure Below (things : Things) (inside : Ins) (taken : Tks) (ins : Ins) (tks : Tks) : Prop where
  li : inside.length = things.length
  lt : taken.length = things.length
  tl : ∀ k, (taken.getD k []).length = (things.getD k []).length
  i : ∀ (k : Nat) (b : Bool), inside[k]? = some (some b) → ins[k]? = some (some b)
  t : ∀ (k j w : Nat), ins[k]? = some (some true) → (taken.getD k [])[j]? = some (some w) → (tks.getD k [])[j]? = some (some w)
structure Whole (things : Things) (ins : Ins) (tks : Tks) : Prop where
  li : ins.length = things.length
  all : none ∉ ins
  ok : ∀ k, ins[k]? = some (some true) → (tks.getD k []).length = (things.getD k []).length ∧ none ∉ tks.getD k [] ∧ OkTk (things.getD k []) (tks.getD k [])
theorem Below.wants {things : Things} {inside ins : Ins} {taken tks : Tks} (b : Below things inside taken ins tks) (w : Whole things ins tks) : (wantsIn things inside taken).Sublist (wantsIn things ins tks) := by
  unfold wantsIn
  refine flatten_sub fun k hk => ?_
  rw [List.mem_range] at hk
  by_cases h : inside.getD k none = some true
  · have h1 : inside[k]? = some (some true) := by rw [getD_of (d := none) (by rw [b.li]; exact hk), h]
    have h2 := b.i k true h1
    have h3 : ins.getD k none = some true := by rw [List.getD_eq_getElem?_getD, h2]; rfl
    rw [if_pos h, if_pos h3]
    exact tw_sub (b.tl k) (w.ok k h2).1 fun j w' hj => b.t k j w' h2 hj
  · rw [if_neg h]
    exact List.nil_sublist _
/-- no more than the free ones can be in -/
theorem in_free : ∀ {inside ins : Ins}, inside.length = ins.length → (∀ (k : Nat) (b : Bool), inside[k]? = some (some b) → ins[k]? = some (some b)) → ins.count (some true) + inside.count (some false) ≤ inside.length
  | [], [], _, _ => by simp
  | [], _ :: _, h, _ => by simp at h
  | _ :: _, [], h, _ => by simp at h
  | a :: inside, c :: ins, h, hh => by
    have ih := in_free (inside := inside) (ins := ins) (by simpa using h) fun k b hk => by simpa using hh (k + 1) b (by simpa using hk)
    have h0 : a = some false → c = some false := fun e => by simpa using hh 0 false (by simp [e])
    rw [List.count_cons, List.count_cons, List.length_cons]
    by_cases e : a = some false
    · rw [h0 e, e]
      simp
      omega
    · have : (a == some false) = false := by simpa using e
      rw [this]
      simp only [Bool.false_eq_true, if_false]
      split <;> omega
theorem tree_sound {ps : List Prt} {things : Things} {limit : Int} {inside : Ins} {taken : Tks} {t : Tree} (h : TreeOk ps things limit inside taken t) :
    ∀ {ins : Ins} {tks : Tks}, Whole things ins tks → Below things inside taken ins tks → (∀ x ∈ wantsIn things ins tks, 0 ≤ x.many) → (∀ form o, (∃ x ∈ wantsIn things ins tks, x.form = form) → wantedP (wantsIn things ins tks) form o ≤ thereP ps form o) → (ins.count (some true) : Int) ≤ limit := by
  induction h with
  | @count inside taken hl =>
    intro ins tks w b _ _
    have := in_free (inside := inside) (ins := ins) (by rw [b.li, w.li]) b.i
    unfold freeN at hl
    omega
  | @bar inside taken form o hb =>
    intro ins tks w b hp hs
    have sub := b.wants w
    obtain ⟨x, hx, hf⟩ := hb.form
    have h1 := hs form o ⟨x, sub.mem hx, hf⟩
    have h2 := wanted_sub sub hp form o
    have h3 := hb.lt
    omega
  | @row inside taken k j kids hk hin hno hjs hkl _ ih =>
    intro ins tks w b hp hs
    have hik := b.i k true hin
    obtain ⟨g1, g2, g3⟩ := w.ok k hik
    have hj : j < (tks.getD k []).length := by rw [g1]; exact hjs
    obtain ⟨way, hw⟩ : ∃ way, (tks.getD k [])[j]? = some (some way) := by
      cases e : (tks.getD k [])[j] with
      | none => exact absurd (List.mem_of_getElem? ((List.getElem?_eq_getElem hj).trans (congrArg some e))) g2
      | some way => exact ⟨way, (List.getElem?_eq_getElem hj).trans (congrArg some e)⟩
    have hwl : way < ((things.getD k []).getD j []).length := g3 ((things.getD k []).getD j [], some way) (List.mem_iff_getElem?.mpr ⟨j, by rw [List.getElem?_zip_eq_some]; exact ⟨getD_of hjs, hw⟩⟩) way rfl
    have hkk : way < kids.length := by rw [hkl]; exact hwl
    refine ih way kids[way] (List.getElem?_eq_getElem hkk) w ⟨b.li, by unfold setTk; rw [List.length_set]; exact b.lt, fun m => ?_, b.i, fun m i u hm hu => ?_⟩ hp hs
    · have hk2 : k < taken.length := by rw [b.lt]; exact hk
      unfold setTk
      rw [getD_set5 hk2]
      split
      · rename_i e
        rw [List.length_set, b.tl k, e]
      · exact b.tl m
    · have hk2 : k < taken.length := by rw [b.lt]; exact hk
      unfold setTk at hu
      rw [getD_set5 hk2] at hu
      by_cases e : k = m
      · subst e
        rw [if_pos rfl, List.getElem?_set] at hu
        by_cases e2 : j = i
        · subst e2
          rw [if_pos rfl] at hu
          split at hu
          · have : way = u := by simpa using hu
            rw [← this]; exact hw
          · cases hu
        · rw [if_neg e2] at hu
          exact b.t k i u hm hu
      · rw [if_neg e] at hu
        exact b.t m i u hm hu
  | @thing inside taken k a c hk hno _ _ ih1 ih2 =>
    intro ins tks w b hp hs
    have hk2 : k < ins.length := by rw [w.li]; exact hk
    have hb : ∀ (v : Bool), ins[k]? = some (some v) → Below things (inside.set k (some v)) taken ins tks := fun v hv => ⟨by rw [List.length_set]; exact b.li, b.lt, b.tl, fun m u hu => by
      rw [List.getElem?_set] at hu
      by_cases e : k = m
      · subst e
        rw [if_pos rfl] at hu
        split at hu
        · have : v = u := by simpa using hu
          rw [← this]; exact hv
        · cases hu
      · rw [if_neg e] at hu
        exact b.i m u hu, b.t⟩
    cases e : ins[k] with
    | none => exact absurd (List.mem_of_getElem? ((List.getElem?_eq_getElem hk2).trans (congrArg some e))) w.all
    | some v =>
      have hv := (List.getElem?_eq_getElem hk2).trans (congrArg some e)
      cases v with
      | true => exact ih1 w (hb true hv) hp hs
      | false => exact ih2 w (hb false hv) hp hs
/-! ### all sets of places -/
def setsOf : Nat → List (List Nat)
  | 0 => [[]]
  | n + 1 => setsOf n ++ (setsOf n).map fun s => s ++ [n]
theorem sets_lt : ∀ {n : Nat} {s : List Nat}, s ∈ setsOf n → ∀ p ∈ s, p < n
  | 0, s, h, p, hp => by
    rw [setsOf, List.mem_singleton] at h
    rw [h] at hp; cases hp
  | n + 1, s, h, p, hp => by
    rw [setsOf, List.mem_append] at h
    rcases h with h | h
    · exact Nat.lt_succ_of_lt (sets_lt h p hp)
    · obtain ⟨s', h', rfl⟩ := List.mem_map.mp h
      rcases List.mem_append.mp hp with hp | hp
      · exact Nat.lt_succ_of_lt (sets_lt h' p hp)
      · rw [List.mem_singleton.mp hp]; exact Nat.lt_succ_self n
theorem sets_filter : ∀ {n : Nat} {s : List Nat}, s ∈ setsOf n → (List.range n).filter (fun k => decide (k ∈ s)) = s
  | 0, s, h => by
    rw [setsOf, List.mem_singleton] at h
    rw [h]; rfl
  | n + 1, s, h => by
    rw [setsOf, List.mem_append] at h
    rw [List.range_succ, List.filter_append]
    rcases h with h | h
    · have hn : n ∉ s := fun z => Nat.lt_irrefl _ (sets_lt h n z)
      rw [sets_filter h, List.filter_cons_of_neg (by simpa using hn)]
      simp
    · obtain ⟨s', h', rfl⟩ := List.mem_map.mp h
      have e : (List.range n).filter (fun k => decide (k ∈ s' ++ [n])) = (List.range n).filter fun k => decide (k ∈ s') := List.filter_congr fun k hk => by
        rw [List.mem_range] at hk
        have : k ≠ n := by omega
        simp [this]
      rw [e, sets_filter h', List.filter_cons_of_pos (by simp)]
      rfl
theorem sets_nodup {n : Nat} {s : List Nat} (h : s ∈ setsOf n) : s.Nodup := by
  rw [← sets_filter h]
  exact List.Nodup.sublist List.filter_sublist List.nodup_range
theorem sets_rise {n : Nat} {s : List Nat} (h : s ∈ setsOf n) : s.Pairwise fun x y => x < y := by
  rw [← sets_filter h]
  exact List.Pairwise.sublist List.filter_sublist List.pairwise_lt_range
theorem sets_all : ∀ {n : Nat} {s : List Nat}, (∀ p ∈ s, p < n) → (s.Pairwise fun x y => x < y) → s ∈ setsOf n
  | 0, s, h, _ => by
    cases s with
    | nil => rw [setsOf]; exact List.mem_singleton.mpr rfl
    | cons a l => exact absurd (h a List.mem_cons_self) (Nat.not_lt_zero _)
  | n + 1, s, h, hr => by
    rw [setsOf, List.mem_append]
    by_cases hn : n ∈ s
    · right
      have hne : s ≠ [] := fun z => by rw [z] at hn; cases hn
      have es := List.dropLast_concat_getLast hne
      have hr2 := hr
      rw [← es, List.pairwise_append] at hr2
      have hl : s.getLast hne = n := by
        rw [← es] at hn
        rcases List.mem_append.mp hn with z | z
        · have h1 := hr2.2.2 n z _ (List.mem_singleton.mpr rfl)
          have h2 := h _ (List.getLast_mem hne)
          omega
        · exact (List.mem_singleton.mp z).symm
      refine List.mem_map.mpr ⟨s.dropLast, sets_all (fun p hp => ?_) hr2.1, by rw [← hl]; exact es⟩
      have := hr2.2.2 p hp _ (List.mem_singleton.mpr rfl)
      omega
    · left
      refine sets_all (fun p hp => ?_) hr
      have h1 := h p hp
      have h2 : p ≠ n := fun z => hn (z ▸ hp)
      omega
theorem sets_len : ∀ {n : Nat}, (setsOf n).length = 2 ^ n
  | 0 => rfl
  | n + 1 => by rw [setsOf, List.length_append, List.length_map, sets_len, Nat.pow_succ]; omega
/-! ### all choices -/
theorem chs_snoc (s : Sheet) (r : Row) : chs (s ++ [r]) = chMore (chs s) r := by
  unfold chs
  rw [List.foldl_append]
  rfl
theorem chMore_mem {acc : List (List Nat)} {r : Row} {c : List Nat} : c ∈ chMore acc r ↔ ∃ c' ∈ acc, ∃ k, k < r.length ∧ c' ++ [k] = c := by
  unfold chMore
  simp only [List.mem_flatMap, List.mem_map, List.mem_range]
theorem okCh_snoc {s : Sheet} {c : List Nat} {r : Row} {k : Nat} (h : OkCh s c) (hk : k < r.length) : OkCh (s ++ [r]) (c ++ [k]) :=
  okCh_append h ⟨rfl, fun p hp => by
    simp at hp
    rw [hp]
    exact hk⟩
theorem chs_rev (l : List Row) : ∀ c : List Nat, c ∈ chs l.reverse ↔ OkCh l.reverse c := by
  induction l with
  | nil =>
    intro c
    show c ∈ [[]] ↔ _
    rw [List.mem_singleton]
    exact ⟨fun h => ⟨by rw [h]; rfl, fun p hp => by simp at hp⟩, fun h => List.eq_nil_of_length_eq_zero h.1⟩
  | cons r l ih =>
    intro c
    rw [List.reverse_cons, chs_snoc, chMore_mem]
    constructor
    · rintro ⟨c', h, k, hk, rfl⟩
      exact okCh_snoc ((ih c').mp h) hk
    · intro h
      have hl : c.length = l.reverse.length + 1 := by rw [h.1, List.length_append]; rfl
      have hne : c ≠ [] := fun z => by rw [z] at hl; simp at hl
      have es := List.dropLast_concat_getLast hne
      have hdl : c.dropLast.length = l.reverse.length := by rw [List.length_dropLast]; omega
      have hz := h.2
      rw [← es, List.zip_append hdl.symm] at hz
      refine ⟨c.dropLast, (ih _).mpr ⟨hdl, fun p hp => hz p (List.mem_append_left _ hp)⟩, c.getLast hne, hz (r, c.getLast hne) (List.mem_append_right _ (by simp)), es⟩
theorem chs_iff {s : Sheet} {c : List Nat} : c ∈ chs s ↔ OkCh s c := by
  have := chs_rev s.reverse c
  rwa [List.reverse_reverse] at this
/-! ### a choice, row by row -/
theorem split_choice {things : Things} : ∀ {s : List Nat}, s.Nodup → (∀ p ∈ s, p < things.length) → ∀ {c : List Nat}, OkCh (sheetOf things s) c →
    ∃ tks : Tks, tks.length = things.length ∧ (∀ k ∈ s, (tks.getD k []).length = (things.getD k []).length ∧ none ∉ tks.getD k [] ∧ OkTk (things.getD k []) (tks.getD k [])) ∧ choiceOf tks s = c
  | [], _, _, c, h => ⟨things.map fun _ => [], by simp, (fun k hk => by cases hk), (List.eq_nil_of_length_eq_zero h.1).symm⟩
  | k :: s, nd, hlt, c, h => by
    rw [List.nodup_cons] at nd
    have es : sheetOf things (k :: s) = things.getD k [] ++ sheetOf things s := rfl
    rw [es] at h
    have hl : c.length = (things.getD k []).length + (sheetOf things s).length := by rw [h.1, List.length_append]
    have ec := List.take_append_drop (things.getD k []).length c
    have l1 : (c.take (things.getD k []).length).length = (things.getD k []).length := by rw [List.length_take]; omega
    have hz := h.2
    rw [← ec, List.zip_append l1.symm] at hz
    obtain ⟨tks, g1, g2, g3⟩ := split_choice nd.2 (fun p hp => hlt p (List.mem_cons_of_mem _ hp)) (c := c.drop (things.getD k []).length) ⟨by rw [List.length_drop]; omega, fun p hp => hz p (List.mem_append_right _ hp)⟩
    have hk := hlt k List.mem_cons_self
    have hk2 : k < tks.length := by rw [g1]; exact hk
    refine ⟨tks.set k ((c.take (things.getD k []).length).map some), by rw [List.length_set]; exact g1, fun m hm => ?_, ?_⟩
    · rw [getD_set5 hk2]
      by_cases e : k = m
      · subst e
        rw [if_pos rfl]
        refine ⟨by rw [List.length_map]; exact l1, (fun z => by obtain ⟨_, _, z⟩ := List.mem_map.mp z; cases z), fun p hp w hw => ?_⟩
        obtain ⟨i, hi⟩ := List.mem_iff_getElem?.mp hp
        rw [List.getElem?_zip_eq_some, List.getElem?_map] at hi
        obtain ⟨h1, h2⟩ := hi
        rw [hw] at h2
        cases z : (c.take (things.getD k []).length)[i]? with
        | none => rw [z] at h2; cases h2
        | some v =>
          rw [z] at h2
          have hv : v = w := by simpa using h2
          exact hz (p.1, w) (List.mem_append_left _ (List.mem_iff_getElem?.mpr ⟨i, by rw [List.getElem?_zip_eq_some]; exact ⟨h1, by rw [z, hv]⟩⟩))
      · rw [if_neg e]
        exact g2 m ((List.mem_cons.mp hm).resolve_left fun z => e z.symm)
    · have e1 : choiceOf (tks.set k ((c.take (things.getD k []).length).map some)) (k :: s) = ((tks.set k ((c.take (things.getD k []).length).map some)).getD k []).map (·.getD 0) ++ choiceOf (tks.set k ((c.take (things.getD k []).length).map some)) s := rfl
      have e2 : choiceOf (tks.set k ((c.take (things.getD k []).length).map some)) s = choiceOf tks s := by
        unfold choiceOf
        refine congrArg List.flatten (List.map_congr_left fun m hm => ?_)
        rw [getD_set5 hk2, if_neg (fun e => nd.1 (by rw [e]; exact hm))]
      rw [e1, e2, g3, getD_set5 hk2, if_pos rfl, List.map_map]
      have e3 : (c.take (things.getD k []).length).map ((fun o : Option Nat => o.getD 0) ∘ some) = c.take (things.getD k []).length := (List.map_congr_left fun x _ => rfl).trans (List.map_id _)
      rw [e3]
      exact ec
/-- what a tree says of a set of places -/
theorem tree_set {ps : List Prt} {things : Things} {limit : Int} {t : Tree} (h : TreeOk ps things limit (List.replicate things.length none) (things.map begun) t) {s : List Nat} (hs : s ∈ setsOf things.length) {c : List Nat} (hc : OkCh (sheetOf things s) c)
    (hp : ∀ x ∈ wantsOf (sheetOf things s) c, 0 ≤ x.many) (hb : ∀ form o, (∃ x ∈ wantsOf (sheetOf things s) c, x.form = form) → wantedP (wantsOf (sheetOf things s) c) form o ≤ thereP ps form o) : (s.length : Int) ≤ limit := by
  obtain ⟨tks, g1, g2, g3⟩ := split_choice (sets_nodup hs) (sets_lt hs) hc
  let ins : Ins := (List.range things.length).map fun k => some (decide (k ∈ s))
  have hget : ∀ k, k < things.length → ins[k]? = some (some (decide (k ∈ s))) := fun k hk => by
    show ((List.range things.length).map fun k => some (decide (k ∈ s)))[k]? = _
    rw [List.getElem?_map, List.getElem?_range hk]; rfl
  have hil : ins.length = things.length := by show ((List.range things.length).map _).length = _; simp
  have hmem : ∀ k, ins[k]? = some (some true) → k ∈ s := fun k hk => by
    have hlt : k < things.length := by rw [← hil]; exact (List.getElem?_eq_some_iff.mp hk).1
    rw [hget k hlt] at hk
    simpa using hk
  have hpl : placesOf things.length ins = s := by
    unfold placesOf
    have : (List.range things.length).filter (fun k => decide (ins.getD k none = some true)) = (List.range things.length).filter fun k => decide (k ∈ s) := List.filter_congr fun k hk => by
      rw [List.mem_range] at hk
      rw [List.getD_eq_getElem?_getD, hget k hk]
      by_cases z : k ∈ s <;> simp [z]
    rw [this, sets_filter hs]
  have hw : wantsIn things ins tks = wantsOf (sheetOf things s) c := by
    rw [wantsIn_places, hpl, (found_wants fun k hk => g2 k hk).1, g3]
  have hcount : ins.count (some true) = s.length := by
    rw [← hpl]
    unfold placesOf
    have e1 : ins = (List.range things.length).map fun k => ins.getD k none := by
      apply List.ext_getElem
      · simp [hil]
      · intro i h1 h2
        simp [List.getD_eq_getElem?_getD, h1]
    have e2 : ins.count (some true) = ((List.range things.length).map fun k => ins.getD k none).count (some true) := by rw [← e1]
    rw [e2, List.count_eq_countP, List.countP_map, List.countP_eq_length_filter]
    refine congrArg List.length (List.filter_congr fun k _ => ?_)
    simp only [Function.comp]
    by_cases z : ins.getD k none = some true
    · rw [z]; rfl
    · rw [decide_eq_false z]
      exact beq_eq_false_iff_ne.mpr z
  have wh : Whole things ins tks := ⟨hil, fun z => by
    have : none ∈ (List.range things.length).map fun k => some (decide (k ∈ s)) := z
    simp at this, fun k hk => g2 k (hmem k hk)⟩
  have be : Below things (List.replicate things.length none) (things.map begun) ins tks := by
    refine ⟨by simp, by simp, fun k => ?_, fun k b hk => ?_, fun k j w hk hj => ?_⟩
    · by_cases hk : k < things.length
      · have : (things.map begun).getD k [] = begun (things.getD k []) := by simp [List.getD_eq_getElem?_getD, hk]
        rw [this]; unfold begun; rw [List.length_map]
      · have e1 : things.getD k [] = [] := by simp [List.getD_eq_getElem?_getD, Nat.le_of_not_lt hk]
        have e2 : (things.map begun).getD k [] = [] := by simp [List.getD_eq_getElem?_getD, Nat.le_of_not_lt hk]
        rw [e1, e2]
        rfl
    · rw [List.getElem?_replicate] at hk
      split at hk
      · simp at hk
      · cases hk
    · have hks := hmem k hk
      obtain ⟨g4, g5, g6⟩ := g2 k hks
      have hkl := sets_lt hs k hks
      have e0 : (things.map begun).getD k [] = begun (things.getD k []) := by simp [List.getD_eq_getElem?_getD, hkl]
      rw [e0] at hj
      unfold begun at hj
      rw [List.getElem?_map] at hj
      cases z : (things.getD k [])[j]? with
      | none => rw [z] at hj; cases hj
      | some r =>
        rw [z] at hj
        have hjl : j < (tks.getD k []).length := by rw [g4]; exact (List.getElem?_eq_some_iff.mp z).1
        by_cases hr : r.length = 1
        · have hw0 : w = 0 := by simpa [hr] using hj.symm
          have hg := List.getElem?_eq_getElem hjl
          cases y : (tks.getD k [])[j] with
          | none => exact absurd (List.mem_of_getElem? (hg.trans (congrArg some y))) g5
          | some v =>
            have := g6 (r, some v) (List.mem_iff_getElem?.mpr ⟨j, by rw [List.getElem?_zip_eq_some]; exact ⟨z, hg.trans (congrArg some y)⟩⟩) v rfl
            rw [hg, y, hw0]
            congr 2
            show v = 0
            have : v < r.length := this
            omega
        · simp [hr] at hj
  have := tree_sound h wh be (by rw [hw]; exact hp) (by rw [hw]; exact hb)
  rw [hcount] at this
  exact this
end K43
set_option Elab.async false
set_option linter.all false
/-! # KX2: giving out part by part -/
namespace K43
open PySem K43S
abbrev Rest := List Int
/-- a key more, once -/
def addR (acc : List Rest) (r : Rest) : List Rest := if r ∈ acc then acc else acc ++ [r]
theorem addR_mem {acc : List Rest} {r x : Rest} : x ∈ addR acc r ↔ x ∈ acc ∨ x = r := by
  unfold addR
  split
  · rename_i h
    exact ⟨.inl, fun z => z.elim id fun e => e ▸ h⟩
  · rw [List.mem_append, List.mem_singleton]
theorem addR_nodup {acc : List Rest} {r : Rest} (h : acc.Nodup) : (addR acc r).Nodup := by
  unfold addR
  split
  · exact h
  · rename_i hn
    rw [List.nodup_append]
    exact ⟨h, by simp, fun a ha b hb e => hn (by rw [List.mem_singleton.mp hb] at e; exact e ▸ ha)⟩
/-- a part of the shade at a place may be given -/
def okAt (ss : List Str) (r : Rest) (i : Nat) : Bool := decide (r.getD i 0 > 0) && (ss.isEmpty || ss.contains (shadesL.getD i ""))
def decAt (r : Rest) (i : Nat) : Rest := r.take i ++ [r.getD i 0 - 1] ++ r.drop (i + 1)
def growOne (ss : List Str) (r : Rest) (acc : List Rest) (i : Nat) : List Rest := if okAt ss r i = true then addR acc (decAt r i) else acc
def growRest (ss : List Str) (acc : List Rest) (r : Rest) : List Rest := (List.range 4).foldl (growOne ss r) acc
def grow (ss : List Str) (found : List Rest) : List Rest := found.foldl (growRest ss) []
def growN (ss : List Str) : Nat → List Rest → List Rest
  | 0, f => f
  | n + 1, f => grow ss (growN ss n f)
def unitsOf (form : Str) (x : Want) : Nat := if x.form = form then x.many.toNat else 0
def serve (form : Str) (found : List Rest) (x : Want) : List Rest := growN x.shades (unitsOf form x) found
def startR (stock : Str → Str → Int) (form : Str) : Rest := shadesL.map (stock form)
def served (stock : Str → Str → Int) (form : Str) (wants : List Want) : List Rest := wants.foldl (serve form) [startR stock form]
def givenOut (stock : Str → Str → Int) (wants : List Want) : Bool := formsL.all fun form => !(served stock form wants).isEmpty
/-! what comes -/
theorem growRest_mem {ss : List Str} {r : Rest} {acc : List Rest} {x : Rest} : x ∈ growRest ss acc r ↔ x ∈ acc ∨ ∃ i, i < 4 ∧ okAt ss r i = true ∧ x = decAt r i := by
  have key : ∀ (l : List Nat) (acc : List Rest), x ∈ l.foldl (growOne ss r) acc ↔ x ∈ acc ∨ ∃ i ∈ l, okAt ss r i = true ∧ x = decAt r i := by
    intro l
    induction l with
    | nil => intro acc; simp
    | cons a l ih =>
      intro acc
      rw [List.foldl_cons, ih]
      unfold growOne
      by_cases h : okAt ss r a = true
      · rw [if_pos h, addR_mem]
        constructor
        · rintro ((h1 | h1) | ⟨i, h1, h2⟩)
          · exact .inl h1
          · exact .inr ⟨a, List.mem_cons_self, h, h1⟩
          · exact .inr ⟨i, List.mem_cons_of_mem _ h1, h2⟩
        · rintro (h1 | ⟨i, h1, h2⟩)
          · exact .inl (.inl h1)
          · rcases List.mem_cons.mp h1 with rfl | h1
            · exact .inl (.inr h2.2)
            · exact .inr ⟨i, h1, h2⟩
      · rw [if_neg h]
        constructor
        · rintro (h1 | ⟨i, h1, h2⟩)
          · exact .inl h1
          · exact .inr ⟨i, List.mem_cons_of_mem _ h1, h2⟩
        · rintro (h1 | ⟨i, h1, h2⟩)
          · exact .inl h1
          · rcases List.mem_cons.mp h1 with rfl | h1
            · exact absurd h2.1 h
            · exact .inr ⟨i, h1, h2⟩
  unfold growRest
  rw [key]
  simp only [List.mem_range]
theorem grow_mem {ss : List Str} {found : List Rest} {x : Rest} : x ∈ grow ss found ↔ ∃ r ∈ found, ∃ i, i < 4 ∧ okAt ss r i = true ∧ x = decAt r i := by
  have key : ∀ (l : List Rest) (acc : List Rest), x ∈ l.foldl (growRest ss) acc ↔ x ∈ acc ∨ ∃ r ∈ l, ∃ i, i < 4 ∧ okAt ss r i = true ∧ x = decAt r i := by
    intro l
    induction l with
    | nil => intro acc; simp
    | cons a l ih =>
      intro acc
      rw [List.foldl_cons, ih, growRest_mem]
      constructor
      · rintro ((h1 | h1) | ⟨r, h1, h2⟩)
        · exact .inl h1
        · exact .inr ⟨a, List.mem_cons_self, h1⟩
        · exact .inr ⟨r, List.mem_cons_of_mem _ h1, h2⟩
      · rintro (h1 | ⟨r, h1, h2⟩)
        · exact .inl (.inl h1)
        · rcases List.mem_cons.mp h1 with rfl | h1
          · exact .inl (.inr h2)
          · exact .inr ⟨r, h1, h2⟩
  unfold grow
  rw [key]
  simp
theorem growOne_nodup {ss : List Str} {r : Rest} {acc : List Rest} {i : Nat} (h : acc.Nodup) : (growOne ss r acc i).Nodup := by
  unfold growOne
  split
  · exact addR_nodup h
  · exact h
/-! rests as tables of shades -/
theorem shadesL_get {i : Nat} (h : i < 4) : shadesL[i]? = some (shadesL.getD i "") := getD_of h
theorem shadesL_nd : shadesL.Nodup := by decide
theorem shadesMap_getD {f : Str → Int} {i : Nat} (h : i < 4) : (shadesL.map f).getD i 0 = f (shadesL.getD i "") := by
  rw [List.getD_eq_getElem?_getD, List.getElem?_map, shadesL_get h]
  rfl
theorem decAt_map {f : Str → Int} {i : Nat} (h : i < 4) : decAt (shadesL.map f) i = shadesL.map fun s => f s - if s = shadesL.getD i "" then 1 else 0 := by
  have h' : i = 0 ∨ i = 1 ∨ i = 2 ∨ i = 3 := by omega
  have n1 : ¬ (Str.ofString "b" = Str.ofString "blue") := by decide
  have n2 : ¬ (Str.ofString "b" = Str.ofString "r") := by decide
  have n3 : ¬ (Str.ofString "b" = Str.ofString "reddish") := by decide
  have n4 : ¬ (Str.ofString "blue" = Str.ofString "b") := by decide
  have n5 : ¬ (Str.ofString "blue" = Str.ofString "r") := by decide
  have n6 : ¬ (Str.ofString "blue" = Str.ofString "reddish") := by decide
  have n7 : ¬ (Str.ofString "r" = Str.ofString "b") := by decide
  have n8 : ¬ (Str.ofString "r" = Str.ofString "blue") := by decide
  have n9 : ¬ (Str.ofString "r" = Str.ofString "reddish") := by decide
  have n10 : ¬ (Str.ofString "reddish" = Str.ofString "b") := by decide
  have n11 : ¬ (Str.ofString "reddish" = Str.ofString "blue") := by decide
  have n12 : ¬ (Str.ofString "reddish" = Str.ofString "r") := by decide
  unfold decAt
  rcases h' with rfl | rfl | rfl | rfl <;> simp [shadesL, n1, n2, n3, n4, n5, n6, n7, n8, n9, n10, n11, n12]
/-- one unit of a shade -/
def less (f : Str → Int) (s : Str) : Str → Int := fun t => f t - if t = s then 1 else 0
def lessL (f : Str → Int) (us : List Str) : Str → Int := us.foldl less f
theorem lessL_at : ∀ (us : List Str) (f : Str → Int) (t : Str), lessL f us t = f t - (us.count t : Nat)
  | [], f, t => by simp [lessL]
  | u :: us, f, t => by
    show lessL (less f u) us t = _
    rw [lessL_at us, less, List.count_cons]
    by_cases h : t = u
    · subst h
      simp
      omega
    · have : (u == t) = false := by simpa using fun z : u = t => h z.symm
      rw [this, if_neg h]
      simp
theorem has_step {ss : List Str} {found : List Rest} {f : Str → Int} {s : Str} (hf : shadesL.map f ∈ found) (hs : s ∈ shadesL) (hp : 0 < f s) (ho : ss.isEmpty = true ∨ s ∈ ss) : shadesL.map (less f s) ∈ grow ss found := by
  obtain ⟨i, hi⟩ := List.mem_iff_getElem?.mp hs
  have hl : i < 4 := (List.getElem?_eq_some_iff.mp hi).1
  have hsi : shadesL.getD i "" = s := by rw [List.getD_eq_getElem?_getD, hi]; rfl
  rw [grow_mem]
  refine ⟨_, hf, i, hl, ?_, ?_⟩
  · unfold okAt
    rw [shadesMap_getD hl, hsi, Bool.and_eq_true]
    refine ⟨decide_eq_true hp, ?_⟩
    rw [Bool.or_eq_true]
    exact ho.imp id fun h => by simpa using h
  · rw [decAt_map hl, hsi]
    rfl
theorem growN_comm (ss : List Str) (n : Nat) (found : List Rest) : growN ss n (grow ss found) = growN ss (n + 1) found := by
  induction n with
  | zero => rfl
  | succ n ih => show grow ss (growN ss n (grow ss found)) = _; rw [ih]; rfl
theorem has_steps {ss : List Str} : ∀ (us : List Str) {found : List Rest} {f : Str → Int}, shadesL.map f ∈ found → (∀ u ∈ us, u ∈ shadesL ∧ (ss.isEmpty = true ∨ u ∈ ss)) → (∀ t, (us.count t : Int) ≤ f t) → shadesL.map (lessL f us) ∈ growN ss us.length found
  | [], _, _, h, _, _ => h
  | u :: us, found, f, h, hu, hc => by
    have h0 := hu u List.mem_cons_self
    have h1 := hc u
    rw [List.count_cons_self] at h1
    have hh := has_step h h0.1 (by omega) h0.2
    rw [List.length_cons, ← growN_comm]
    refine has_steps us hh (fun v hv => hu v (List.mem_cons_of_mem _ hv)) fun t => ?_
    have h2 := hc t
    rw [List.count_cons] at h2
    unfold less
    by_cases e : t = u
    · subst e
      simp at h2 ⊢
      omega
    · have : (u == t) = false := by simpa using fun z : u = t => e z.symm
      rw [this] at h2
      rw [if_neg e]
      simpa using h2
/-- a gift, part by part -/
def unroll (l : List (Str × Int)) : List Str := (l.map fun e => List.replicate e.2.toNat e.1).flatten
theorem unroll_len : ∀ {l : List (Str × Int)}, (∀ e ∈ l, 0 < e.2) → ((unroll l).length : Int) = (l.map (·.2)).sum
  | [], _ => rfl
  | e :: l, h => by
    have ih := unroll_len (l := l) fun x hx => h x (List.mem_cons_of_mem _ hx)
    have h0 := h e List.mem_cons_self
    have e1 : unroll (e :: l) = List.replicate e.2.toNat e.1 ++ unroll l := rfl
    rw [e1, List.length_append, List.length_replicate, List.map_cons, List.sum_cons]
    omega
theorem unroll_count : ∀ {l : List (Str × Int)}, (∀ e ∈ l, 0 < e.2) → ∀ t, ((unroll l).count t : Int) = cntG l t
  | [], _, _ => rfl
  | e :: l, h, t => by
    have ih := unroll_count (l := l) (fun x hx => h x (List.mem_cons_of_mem _ hx)) t
    have h0 := h e List.mem_cons_self
    have e1 : unroll (e :: l) = List.replicate e.2.toNat e.1 ++ unroll l := rfl
    unfold cntG at ih ⊢
    rw [e1, List.count_append, List.count_replicate, List.filter_cons]
    by_cases z : e.1 = t
    · rw [if_pos (by simpa using z), if_pos (decide_eq_true z), List.map_cons, List.sum_cons]
      omega
    · rw [if_neg (by simpa using z), if_neg (by simpa using z)]
      omega
theorem unroll_mem {l : List (Str × Int)} {u : Str} (h : u ∈ unroll l) : ∃ e ∈ l, e.1 = u := by
  unfold unroll at h
  rw [List.mem_flatten] at h
  obtain ⟨m, hm, hu⟩ := h
  obtain ⟨e, he, rfl⟩ := List.mem_map.mp hm
  exact ⟨e, he, ((List.mem_replicate.mp hu).2).symm⟩
/-- what gifts take of a form -/
def takes (form : Str) : List Want → List (List (Str × Int)) → Str → Int
  | x :: ws, g :: gs, s => (if x.form = form then cntG g s else 0) + takes form ws gs s
  | _, _, _ => 0
theorem cntG_nn {l : List (Str × Int)} (h : ∀ e ∈ l, 0 < e.2) (t : Str) : 0 ≤ cntG l t := by
  rw [← unroll_count h]
  omega
theorem takes_nn {form : Str} : ∀ {ws : List Want} {gs : List (List (Str × Int))}, (∀ g ∈ gs, ∀ e ∈ g, 0 < e.2) → ∀ s, 0 ≤ takes form ws gs s
  | [], _, _, _ => Int.le_refl _
  | _ :: _, [], _, _ => Int.le_refl _
  | x :: ws, g :: gs, h, s => by
    have ih := takes_nn (form := form) (ws := ws) (gs := gs) (fun g hg => h g (List.mem_cons_of_mem _ hg)) s
    have h0 := cntG_nn (h g List.mem_cons_self) s
    show 0 ≤ (if x.form = form then cntG g s else 0) + takes form ws gs s
    split <;> omega
theorem serve_has {form : Str} : ∀ {ws : List Want} {gs : List (List (Str × Int))} {found : List Rest} {f : Str → Int}, gs.length = ws.length → (∀ p ∈ ws.zip gs, GiftOk p.1 p.2 ∧ ∀ e ∈ p.2, e.1 ∈ shadesL) →
    shadesL.map f ∈ found → (∀ s, takes form ws gs s ≤ f s) → ws.foldl (serve form) found ≠ []
  | [], _, found, f, _, _, h, _ => fun z => by
    have z : found = [] := z
    rw [z] at h; cases h
  | x :: ws, [], _, _, hl, _, _, _ => by simp at hl
  | x :: ws, g :: gs, found, f, hl, hg, h, hc => by
    obtain ⟨ok, hsh⟩ := hg (x, g) (by simp)
    dsimp only at ok hsh
    rw [List.foldl_cons]
    have hl' : gs.length = ws.length := by simpa using hl
    have hg' : ∀ p ∈ ws.zip gs, GiftOk p.1 p.2 ∧ ∀ e ∈ p.2, e.1 ∈ shadesL := fun p hp => hg p (by rw [List.zip_cons_cons]; exact List.mem_cons_of_mem _ hp)
    have hgp : ∀ g ∈ gs, ∀ e ∈ g, 0 < e.2 := fun g' hg'' e he => by
      obtain ⟨i, hi⟩ := List.mem_iff_getElem?.mp hg''
      have hil := (List.getElem?_eq_some_iff.mp hi).1
      exact (hg' (ws[i]'(by omega), g') (List.mem_iff_getElem?.mpr ⟨i, by rw [List.getElem?_zip_eq_some]; exact ⟨List.getElem?_eq_getElem _, hi⟩⟩)).1.pos e he
    by_cases e : x.form = form
    · have hn : unitsOf form x = (unroll g).length := by
        unfold unitsOf
        rw [if_pos e]
        have := unroll_len ok.pos
        rw [ok.sum] at this
        omega
      have hcx : ∀ s, cntG g s + takes form ws gs s ≤ f s := fun s => by
        have := hc s
        have e2 : takes form (x :: ws) (g :: gs) s = (if x.form = form then cntG g s else 0) + takes form ws gs s := rfl
        rw [e2, if_pos e] at this
        exact this
      unfold serve
      rw [hn]
      refine serve_has hl' hg' (has_steps (unroll g) h (fun u hu => ?_) fun t => ?_) fun s => ?_
      · obtain ⟨y, hy, rfl⟩ := unroll_mem hu
        exact ⟨hsh y hy, ok.right.imp id fun h => h y hy⟩
      · rw [unroll_count ok.pos]
        have := hcx t
        have := takes_nn (form := form) (ws := ws) hgp t
        omega
      · rw [lessL_at, unroll_count ok.pos]
        have := hcx s
        omega
    · have hn : unitsOf form x = 0 := if_neg e
      unfold serve
      rw [hn]
      refine serve_has hl' hg' h fun s => ?_
      have := hc s
      have e2 : takes form (x :: ws) (g :: gs) s = (if x.form = form then cntG g s else 0) + takes form ws gs s := rfl
      rw [e2, if_neg e] at this
      omega
theorem takes_eq {form s : Str} : ∀ {ws : List Want} {gs : List (List (Str × Int))}, gs.length = ws.length → takes form ws gs s = ((ws.zip gs).map fun p => if p.1.form = form then cntG p.2 s else 0).sum
  | [], _, _ => by cases ‹List (List (Str × Int))› <;> rfl
  | x :: ws, [], h => by simp at h
  | x :: ws, g :: gs, h => by
    rw [List.zip_cons_cons, List.map_cons, List.sum_cons, ← takes_eq (ws := ws) (gs := gs) (by simpa using h)]
    rfl
/-- what is dealt can be given out -/
theorem dealt_out {ps : List Prt} {wants : List Want} {given : List (List (Str × Int))} {stock : Str → Str → Int} (h : DealtR ps wants given) (hst : ∀ form s, manyP ps form (some s) = stock form s) (hsh : ∀ p ∈ ps.map kP, p.2 ∈ shadesL) : givenOut stock wants = true := by
  unfold givenOut
  rw [List.all_eq_true]
  intro form _
  have hz : ∀ p ∈ wants.zip given, ∃ i, i < wants.length ∧ wants.getD i dW = p.1 ∧ given.getD i [] = p.2 := fun p hp => by
    obtain ⟨i, hi⟩ := List.mem_iff_getElem?.mp hp
    rw [List.getElem?_zip_eq_some] at hi
    exact ⟨i, (List.getElem?_eq_some_iff.mp hi.1).1, by rw [List.getD_eq_getElem?_getD, hi.1]; rfl, by rw [List.getD_eq_getElem?_getD, hi.2]; rfl⟩
  have := serve_has (form := form) (ws := wants) (gs := given) (found := [startR stock form]) (f := stock form) h.ln (fun p hp => by
    obtain ⟨i, hi, e1, e2⟩ := hz p hp
    rw [← e1, ← e2]
    exact ⟨h.gift i hi, fun e he => hsh _ (h.known i hi e he)⟩) (List.mem_singleton.mpr rfl) (fun s => by
    rw [takes_eq h.ln, sum_range (wants.zip given) (dW, []), ← hst]
    have hl : (wants.zip given).length = wants.length := by rw [List.length_zip, h.ln]; omega
    rw [hl]
    refine Int.le_trans (Int.le_of_eq (sum_congr fun i hi => ?_)) (h.sum form s)
    have hi := List.mem_range.mp hi
    have e : (wants.zip given).getD i (dW, []) = (wants.getD i dW, given.getD i []) := by
      rw [List.getD_eq_getElem?_getD, (show (wants.zip given)[i]? = some (wants.getD i dW, given.getD i []) by rw [List.getElem?_zip_eq_some]; exact ⟨getD_of hi, getD_of (by rw [h.ln]; exact hi)⟩)]
      rfl
    rw [e])
  unfold served
  cases z : wants.foldl (serve form) [startR stock form] with
  | nil => exact absurd z this
  | cons a l => rfl
/-! ### what is given out is not barred -/
def inO (o : Option (List Str)) (s : Str) : Bool := match o with | none => true | some S => S.contains s
def phi (o : Option (List Str)) (f : Str → Int) : Int := ((shadesL.filter (inO o)).map f).sum
structure InvR (o : Option (List Str)) (found : List Rest) (c : Int) : Prop where
  all : ∀ r ∈ found, ∃ f : Str → Int, r = shadesL.map f ∧ (∀ s ∈ shadesL, 0 ≤ f s) ∧ phi o f ≤ c
theorem sum_less {l : List Str} (nd : l.Nodup) (f : Str → Int) (s : Str) : (l.map (less f s)).sum = (l.map f).sum - if s ∈ l then 1 else 0 := by
  induction l with
  | nil => simp
  | cons a l ih =>
    rw [List.nodup_cons] at nd
    rw [List.map_cons, List.sum_cons, List.map_cons, List.sum_cons, ih nd.2]
    unfold less
    by_cases e : a = s
    · subst e
      rw [if_pos rfl, if_neg nd.1, if_pos List.mem_cons_self]
      omega
    · rw [if_neg e]
      have : (s ∈ a :: l) ↔ s ∈ l := by
        rw [List.mem_cons]
        exact ⟨fun z => z.resolve_left fun y => e y.symm, .inr⟩
      simp only [this]
      omega
theorem phi_less (o : Option (List Str)) (f : Str → Int) {s : Str} (hs : s ∈ shadesL) : phi o (less f s) = phi o f - if inO o s = true then 1 else 0 := by
  unfold phi
  rw [sum_less (List.Nodup.sublist List.filter_sublist shadesL_nd)]
  simp only [List.mem_filter, hs, true_and]
theorem InvR.grow {o : Option (List Str)} {found : List Rest} {c : Int} {ss : List Str} (h : InvR o found c) (d : Int) (hd : ∀ s ∈ shadesL, ss.isEmpty = true ∨ s ∈ ss → d ≤ if inO o s = true then 1 else 0) : InvR o (grow ss found) (c - d) := ⟨fun r hr => by
  rw [grow_mem] at hr
  obtain ⟨r0, h0, i, hi, hok, rfl⟩ := hr
  obtain ⟨f, rfl, hf, hp⟩ := h.all r0 h0
  have hs : shadesL.getD i "" ∈ shadesL := List.mem_of_getElem? (shadesL_get hi)
  unfold okAt at hok
  rw [shadesMap_getD hi, Bool.and_eq_true, Bool.or_eq_true] at hok
  have h1 : 0 < f (shadesL.getD i "") := of_decide_eq_true hok.1
  refine ⟨less f (shadesL.getD i ""), decAt_map hi, fun s hs' => ?_, ?_⟩
  · unfold less
    by_cases e : s = shadesL.getD i ""
    · rw [if_pos e, e]; omega
    · rw [if_neg e]; have := hf s hs'; omega
  · rw [phi_less o f hs]
    have := hd _ hs (hok.2.imp id fun z => by simpa using z)
    omega⟩
theorem InvR.growN {o : Option (List Str)} {found : List Rest} {c : Int} {ss : List Str} (h : InvR o found c) (d : Int) (hd : ∀ s ∈ shadesL, ss.isEmpty = true ∨ s ∈ ss → d ≤ if inO o s = true then 1 else 0) : ∀ n : Nat, InvR o (growN ss n found) (c - d * n)
  | 0 => by simpa [K43.growN] using h
  | n + 1 => by
    have := (InvR.growN h d hd n).grow d hd
    have e : c - d * (n : Int) - d = c - d * ((n + 1 : Nat) : Int) := by rw [Int.natCast_succ, Int.mul_add]; omega
    rwa [e] at this
theorem wIn_in {form : Str} {o : Option (List Str)} {x : Want} (h : wIn form o x = true) {s : Str} (hs : x.shades.isEmpty = true ∨ s ∈ x.shades) : inO o s = true := by
  unfold wIn at h
  rw [Bool.and_eq_true] at h
  cases o with
  | none => rfl
  | some S =>
    have h2 : wSub S x = true := h.2
    unfold wSub at h2
    rw [Bool.and_eq_true, List.all_eq_true] at h2
    rcases hs with hs | hs
    · rw [hs] at h2; exact absurd h2.1 (by decide)
    · exact h2.2 s hs
theorem serve_inv {form : Str} {o : Option (List Str)} : ∀ {ws : List Want} {found : List Rest} {c : Int}, (∀ x ∈ ws, 0 ≤ x.many) → InvR o found c → InvR o (ws.foldl (serve form) found) (c - wantedP ws form o)
  | [], found, c, _, h => by
    have : wantedP [] form o = 0 := rfl
    rw [this, Int.sub_zero]
    exact h
  | x :: ws, found, c, hp, h => by
    rw [List.foldl_cons]
    have h0 := hp x List.mem_cons_self
    have hp' : ∀ y ∈ ws, 0 ≤ y.many := fun y hy => hp y (List.mem_cons_of_mem _ hy)
    by_cases e : wIn form o x = true
    · have hf : x.form = form := by
        unfold wIn at e
        rw [Bool.and_eq_true] at e
        exact of_decide_eq_true e.1
      have hw : wantedP (x :: ws) form o = x.many + wantedP ws form o := by
        unfold wantedP
        rw [List.filter_cons_of_pos e, List.map_cons, List.sum_cons]
      have := serve_inv (form := form) (ws := ws) hp' (h.growN (ss := x.shades) 1 (fun s _ hs => by rw [if_pos (wIn_in e hs)]; exact Int.le_refl _) (unitsOf form x))
      have hu : (unitsOf form x : Int) = x.many := by unfold unitsOf; rw [if_pos hf]; omega
      rw [hu] at this
      rw [hw]
      have e2 : c - 1 * x.many - wantedP ws form o = c - (x.many + wantedP ws form o) := by omega
      rwa [e2] at this
    · have hw : wantedP (x :: ws) form o = wantedP ws form o := by
        unfold wantedP
        rw [List.filter_cons_of_neg e]
      have := serve_inv (form := form) (ws := ws) hp' (h.growN (ss := x.shades) 0 (fun s _ _ => by split <;> omega) (unitsOf form x))
      rw [hw]
      simpa [serve] using this
theorem sub_sum {g : Str → Int} (hg : ∀ s, 0 ≤ g s) : ∀ {l m : List Str}, l.Nodup → (∀ s ∈ l, s ∈ m) → (l.map g).sum ≤ (m.map g).sum
  | [], m, _, _ => by
    show 0 ≤ (m.map g).sum
    induction m with
    | nil => exact Int.le_refl _
    | cons a m ih =>
      have := ih (fun s h => by cases h)
      have := hg a
      rw [List.map_cons, List.sum_cons]
      omega
  | a :: l, m, nd, h => by
    rw [List.nodup_cons] at nd
    have ha := h a List.mem_cons_self
    have h1 := sub_sum hg (l := l) (m := m.erase a) nd.2 fun s hs => by
      have hne : s ≠ a := fun z => nd.1 (z ▸ hs)
      exact (List.mem_erase_of_ne hne).mpr (h s (List.mem_cons_of_mem _ hs))
    have h2 : (m.map g).sum = g a + ((m.erase a).map g).sum := by
      clear h h1 nd
      induction m with
      | nil => cases ha
      | cons b m ih =>
        by_cases e : b = a
        · subst e
          rw [List.erase_cons_head, List.map_cons, List.sum_cons]
        · have hm : a ∈ m := (List.mem_cons.mp ha).resolve_left fun z => e z.symm
          rw [List.erase_cons_tail (by simpa using e), List.map_cons, List.sum_cons, List.map_cons, List.sum_cons, ih hm]
          omega
    rw [List.map_cons, List.sum_cons, h2]
    omega
theorem zero_sum (l : List Str) : (l.map fun _ => (0 : Int)).sum = 0 := by
  induction l with
  | nil => rfl
  | cons b l ih => rw [List.map_cons, List.sum_cons, ih]; rfl
theorem one_form {e : Prt} (h0 : 0 ≤ e.2.2) (form : Str) : ∀ {l : List Str}, l.Nodup → (l.map fun s => if e.1 = form ∧ e.2.1 = s then e.2.2 else 0).sum ≤ if e.1 = form then e.2.2 else 0
  | [], _ => by
    show (0 : Int) ≤ _
    split <;> omega
  | a :: l, nd => by
    rw [List.nodup_cons] at nd
    rw [List.map_cons, List.sum_cons]
    by_cases z : e.1 = form ∧ e.2.1 = a
    · have hz : (l.map fun s => if e.1 = form ∧ e.2.1 = s then e.2.2 else 0).sum = (l.map fun _ => (0 : Int)).sum := sum_congr fun s hs => if_neg fun y => nd.1 (by rw [← z.2, y.2]; exact hs)
      rw [hz, zero_sum, if_pos z, if_pos z.1]
      omega
    · rw [if_neg z]
      have := one_form h0 form nd.2
      omega
theorem many_split {ps : List Prt} (hp : ∀ e ∈ ps, 0 ≤ e.2.2) (form : Str) : ∀ {l : List Str}, l.Nodup → (l.map fun s => manyP ps form (some s)).sum ≤ manyP ps form none := by
  intro l nd
  induction ps with
  | nil =>
    have e : (l.map fun s => manyP [] form (some s)) = l.map fun _ => 0 := List.map_congr_left fun _ _ => rfl
    rw [e]
    clear e nd
    induction l with
    | nil => exact Int.le_refl _
    | cons a l ih => rw [List.map_cons, List.sum_cons]; simpa using ih
  | cons e ps ih =>
    have ih := ih fun x hx => hp x (List.mem_cons_of_mem _ hx)
    have h0 := hp e List.mem_cons_self
    have one : ∀ s, manyP (e :: ps) form (some s) = manyP ps form (some s) + if e.1 = form ∧ e.2.1 = s then e.2.2 else 0 := fun s => by
      unfold manyP
      rw [List.filter_cons]
      by_cases z : e.1 = form ∧ e.2.1 = s
      · rw [if_pos (by simp [z.1, z.2]), if_pos z, List.map_cons, List.sum_cons]; omega
      · rw [if_neg (fun y => z (by
          simp only [Bool.and_eq_true, Bool.or_eq_true, decide_eq_true_eq] at y
          refine ⟨y.1, ?_⟩
          rcases y.2 with y | y
          · cases y
          · exact (Option.some.inj y).symm)), if_neg z]; omega
    have non : manyP (e :: ps) form none = manyP ps form none + if e.1 = form then e.2.2 else 0 := by
      unfold manyP
      rw [List.filter_cons]
      by_cases z : e.1 = form
      · rw [if_pos (by simp [z]), if_pos z, List.map_cons, List.sum_cons]; omega
      · rw [if_neg (by simp [z]), if_neg z]; omega
    have e1 : (l.map fun s => manyP (e :: ps) form (some s)).sum = (l.map fun s => manyP ps form (some s)).sum + (l.map fun s => if e.1 = form ∧ e.2.1 = s then e.2.2 else 0).sum := by
      rw [← sum_add]
      exact sum_congr fun s _ => one s
    have e2 := one_form h0 form nd
    rw [e1, non]
    omega
theorem many_nn {ps : List Prt} (hp : ∀ e ∈ ps, 0 ≤ e.2.2) (form : Str) (o : Option Str) : 0 ≤ manyP ps form o := by
  unfold manyP
  have : ∀ l : List Prt, (∀ e ∈ l, 0 ≤ e.2.2) → 0 ≤ (l.map (·.2.2)).sum := by
    intro l
    induction l with
    | nil => intro _; exact Int.le_refl _
    | cons a l ih =>
      intro h
      have := ih fun x hx => h x (List.mem_cons_of_mem _ hx)
      have := h a List.mem_cons_self
      rw [List.map_cons, List.sum_cons]
      omega
  exact this _ fun e he => hp e (List.mem_filter.mp he).1
/-- what can be given out has no bar -/
theorem out_free {ps : List Prt} {wants : List Want} {stock : Str → Str → Int} (h : givenOut stock wants = true) (hst : ∀ form s, manyP ps form (some s) = stock form s) (hp : ∀ e ∈ ps, 0 ≤ e.2.2) (hw : ∀ x ∈ wants, 0 ≤ x.many) {form : Str} (hf : form ∈ formsL) (o : Option (List Str)) : wantedP wants form o ≤ thereP ps form o := by
  unfold givenOut at h
  rw [List.all_eq_true] at h
  have h1 := h form hf
  have inv : InvR o (served stock form wants) (phi o (stock form) - wantedP wants form o) := serve_inv hw ⟨fun r hr => ⟨stock form, by rw [List.mem_singleton.mp hr]; rfl, fun s _ => by rw [← hst]; exact many_nn hp _ _, Int.le_refl _⟩⟩
  cases z : served stock form wants with
  | nil => rw [z] at h1; exact absurd h1 (by decide)
  | cons r l =>
    obtain ⟨f, _, hf0, hc⟩ := inv.all r (by rw [z]; exact List.mem_cons_self)
    have h2 : 0 ≤ phi o f := by
      unfold phi
      have : ∀ l : List Str, (∀ s ∈ l, 0 ≤ f s) → 0 ≤ (l.map f).sum := by
        intro l
        induction l with
        | nil => intro _; exact Int.le_refl _
        | cons a l ih =>
          intro h
          have := ih fun x hx => h x (List.mem_cons_of_mem _ hx)
          have := h a List.mem_cons_self
          rw [List.map_cons, List.sum_cons]
          omega
      exact this _ fun s hs => hf0 s (List.mem_filter.mp hs).1
    have h3 : phi o (stock form) ≤ thereP ps form o := by
      have e1 : phi o (stock form) = ((shadesL.filter (inO o)).map fun s => manyP ps form (some s)).sum := by
        unfold phi
        exact sum_congr fun s _ => (hst form s).symm
      have nd : (shadesL.filter (inO o)).Nodup := List.Nodup.sublist List.filter_sublist shadesL_nd
      rw [e1]
      cases o with
      | none => exact many_split hp form nd
      | some S => exact sub_sum (fun s => many_nn hp form (some s)) nd fun s hs => by simpa [inO] using (List.mem_filter.mp hs).2
    omega
end K43
set_option Elab.async false
set_option linter.all false
/-! # KX3: the greatest set -/
namespace K43
open PySem K43S
structure MaxIs (things : Things) (stock : Str → Str → Int) (sets : List (List Nat)) (m : Int) : Prop where
  up : ∀ s ∈ sets, ∀ c ∈ chs (sheetOf things s), givenOut stock (wantsOf (sheetOf things s) c) = true → (s.length : Int) ≤ m
  at_ : m = 0 ∨ ∃ s ∈ sets, ∃ c ∈ chs (sheetOf things s), givenOut stock (wantsOf (sheetOf things s) c) = true ∧ (s.length : Int) = m
def ThL (things : Things) : Prop := ∀ s ∈ things, ∀ r ∈ s, ∀ y ∈ r, ∀ x ∈ y, WantL x
theorem wantsOf_mem {things : Things} {s : List Nat} {c : List Nat} (hs : ∀ p ∈ s, p < things.length) (hc : OkCh (sheetOf things s) c) {x : Want} (h : x ∈ wantsOf (sheetOf things s) c) : ∃ t ∈ things, ∃ r ∈ t, ∃ y ∈ r, x ∈ y := by
  unfold wantsOf at h
  rw [List.mem_flatten] at h
  obtain ⟨l, hl, hx⟩ := h
  obtain ⟨p, hp, rfl⟩ := List.mem_map.mp hl
  have hr := (List.of_mem_zip hp).1
  unfold sheetOf at hr
  rw [List.mem_flatten] at hr
  obtain ⟨t, ht, hr⟩ := hr
  obtain ⟨k, hk, rfl⟩ := List.mem_map.mp ht
  exact ⟨_, getD_mem (hs k hk), _, hr, _, getD_mem (hc.2 p hp), hx⟩
theorem max_best {ps : List Prt} {things : Things} {stock : Str → Str → Int} {places choice : List Nat} {given : List (List (Str × Int))} {t : Tree} {m : Int} (hp : ∀ e ∈ ps, 0 ≤ e.2.2) (hst : ∀ form s, manyP ps form (some s) = stock form s) (hsh : ∀ p ∈ ps.map kP, p.2 ∈ shadesL) (hl : ThL things)
    (b : BestOk ps things places choice given t) (hm : MaxIs things stock (setsOf things.length) m) : m = (places.length : Int) := by
  have h1 : (places.length : Int) ≤ m := hm.up places (sets_all b.fd.lt b.fd.rise) choice (chs_iff.mpr b.fd.ok) (dealt_out b.fd.de hst hsh)
  have h2 : m ≤ places.length := by
    rcases hm.at_ with h | ⟨s, hs, c, hc, ho, rfl⟩
    · omega
    · have hc := chs_iff.mp hc
      have hw : ∀ x ∈ wantsOf (sheetOf things s) c, WantL x := fun x hx => by
        obtain ⟨t, h1, r, h2, y, h3, h4⟩ := wantsOf_mem (sets_lt hs) hc hx
        exact hl t h1 r h2 y h3 x h4
      have hn : ∀ x ∈ wantsOf (sheetOf things s) c, 0 ≤ x.many := fun x hx => by have := (hw x hx).lo; omega
      exact tree_set b.tr hs hc hn fun form o ⟨x, hx, hf⟩ => out_free ho hst hp hn (by rw [← hf]; exact (hw x hx).form) o
  omega
end K43
set_option Elab.async false
set_option linter.all false
/-! # KX4: the heap of rows; the dealing that is found -/
namespace K43
open PySem K43S
/-! ### a heap of rows -/
def cntRows (rows : List Prt) (p : Part) : Int := ((rows.filter fun e => decide (kP e = p)).map (·.2.2)).sum
theorem cntRows_cons (e : Prt) (rows : List Prt) (p : Part) : cntRows (e :: rows) p = (if kP e = p then e.2.2 else 0) + cntRows rows p := by
  unfold cntRows
  rw [List.filter_cons]
  by_cases h : kP e = p
  · rw [if_pos h, if_pos (decide_eq_true h), List.map_cons, List.sum_cons]
  · rw [if_neg h, if_neg (by simpa using h)]; omega
theorem cntRows_append (a b : List Prt) (p : Part) : cntRows (a ++ b) p = cntRows a p + cntRows b p := by
  unfold cntRows
  rw [List.filter_append, List.map_append, List.sum_append]
theorem countUp_gv (rows : List Prt) (p : Part) : gv (countUp rows) p = cntRows rows p := by
  have key : ∀ (l : List Prt) (g : List (Part × Int)), gv (l.foldl (fun g r => ap g (kP r) (gv g (kP r) + r.2.2)) g) p = gv g p + cntRows l p := by
    intro l
    induction l with
    | nil => intro g; show gv g p = gv g p + 0; omega
    | cons e l ih =>
      intro g
      rw [List.foldl_cons, ih, gv_ap, cntRows_cons]
      by_cases h : kP e = p
      · rw [if_pos h.symm, if_pos h, h]; omega
      · rw [if_neg (fun z => h z.symm), if_neg h]; omega
  have := key rows []
  have e0 : gv ([] : List (Part × Int)) p = 0 := rfl
  rw [e0] at this
  unfold countUp
  omega
theorem countUp_nd (rows : List Prt) : ((countUp rows).map (·.1)).Nodup := by
  have key : ∀ (l : List Prt) (g : List (Part × Int)), (g.map (·.1)).Nodup → ((l.foldl (fun g r => ap g (kP r) (gv g (kP r) + r.2.2)) g).map (·.1)).Nodup := by
    intro l
    induction l with
    | nil => intro g h; exact h
    | cons e l ih => intro g h; exact ih _ (ap_nodup h)
  exact key rows [] (by simp)
theorem countUp_key {rows : List Prt} {p : Part} (h : p ∈ (countUp rows).map (·.1)) : ∃ e ∈ rows, kP e = p := by
  have key : ∀ (l : List Prt) (g : List (Part × Int)), p ∈ (l.foldl (fun g r => ap g (kP r) (gv g (kP r) + r.2.2)) g).map (·.1) → p ∈ g.map (·.1) ∨ ∃ e ∈ l, kP e = p := by
    intro l
    induction l with
    | nil => intro g h; exact .inl h
    | cons e l ih =>
      intro g h
      rcases ih _ h with h | ⟨x, hx, hp⟩
      · rcases ap_mem_keys.mp h with h | h
        · exact .inr ⟨e, List.mem_cons_self, h.symm⟩
        · exact .inl h
      · exact .inr ⟨x, List.mem_cons_of_mem _ hx, hp⟩
  rcases key rows [] h with h | h
  · cases h
  · exact h
theorem parts_keys (rows : List Prt) : (partsOf rows).map kP = srtK pkP ((countUp rows).map (·.1)) := by
  unfold partsOf
  rw [List.map_map]
  exact (List.map_congr_left fun x _ => rfl).trans (List.map_id _)
theorem parts_key {rows : List Prt} {p : Part} (h : p ∈ (partsOf rows).map kP) : ∃ e ∈ rows, kP e = p := by
  rw [parts_keys, srtK_mem] at h
  exact countUp_key h
theorem parts_mem {rows : List Prt} {e : Prt} (h : e ∈ partsOf rows) : e.2.2 = gv (countUp rows) (kP e) ∧ kP e ∈ (countUp rows).map (·.1) := by
  unfold partsOf at h
  obtain ⟨p, hp, rfl⟩ := List.mem_map.mp h
  exact ⟨rfl, srtK_mem.mp hp⟩
theorem cntRows_nn {rows : List Prt} (h : ∀ e ∈ rows, 0 ≤ e.2.2) (p : Part) : 0 ≤ cntRows rows p := by
  induction rows with
  | nil => exact Int.le_refl _
  | cons e l ih =>
    have := ih fun x hx => h x (List.mem_cons_of_mem _ hx)
    have := h e List.mem_cons_self
    rw [cntRows_cons]
    split <;> omega
theorem heap_ok {rows : List Prt} (hl : rows.length ≤ 12) (h : ∀ e ∈ rows, 0 ≤ e.2.2) : HeapOk (partsOf rows) where
  few := Nat.le_trans (partsOf_len rows) (by omega)
  nd := by
    rw [parts_keys]
    exact (srtK_perm _ _).nodup_iff.mpr (countUp_nd rows)
  pos := fun e he => by
    rw [(parts_mem he).1, countUp_gv]
    exact cntRows_nn h _
theorem parts_many {rows : List Prt} (hl : rows.length ≤ 12) (h : ∀ e ∈ rows, 0 ≤ e.2.2) (form s : Str) : manyP (partsOf rows) form (some s) = gv (countUp rows) (form, s) := by
  have ok := heap_ok hl h
  rw [many_one ok.nd]
  by_cases hk : (form, s) ∈ (partsOf rows).map kP
  · obtain ⟨e, he, hp⟩ := List.mem_map.mp hk
    have h1 := left_mem ok.nd he
    rw [hp] at h1
    rw [h1, (parts_mem he).1, hp]
  · have h1 : gv (leftOf (partsOf rows)) (form, s) = 0 := Decidable.byContradiction fun z => hk (left_key ok.nd z)
    rw [h1]
    rw [parts_keys, srtK_mem] at hk
    unfold gv
    rw [ag_none.mpr hk]
    rfl
/-! ### the dealing -/
theorem shade_word {s : Str} (h : s ∈ shadesL) : WordOk s := by
  simp only [shadesL, List.mem_cons, List.not_mem_nil, or_false] at h
  rcases h with rfl | rfl | rfl | rfl <;> exact ⟨by decide, by decide, by decide⟩
theorem form_word {s : Str} (h : s ∈ formsL) : WordOk s := by
  simp only [formsL, List.mem_cons, List.not_mem_nil, or_false] at h
  rcases h with rfl | rfl | rfl <;> exact ⟨by decide, by decide, by decide⟩
theorem chMore_len (acc : List (List Nat)) (r : Row) : (chMore acc r).length = acc.length * r.length := by
  unfold chMore
  induction acc with
  | nil => simp
  | cons a l ih =>
    rw [List.flatMap_cons, List.length_append, ih, List.length_map, List.length_range, List.length_cons, Nat.succ_mul]
    omega
theorem chs_rev_len : ∀ l : List Row, (∀ r ∈ l, List.length r ≤ 3) → (chs l.reverse).length ≤ 3 ^ l.length
  | [], _ => Nat.le_refl _
  | r :: l, h => by
    have ih := chs_rev_len l fun x hx => h x (List.mem_cons_of_mem _ hx)
    have h0 := h r List.mem_cons_self
    rw [List.reverse_cons, chs_snoc, chMore_len, List.length_cons, Nat.pow_succ]
    exact Nat.mul_le_mul ih h0
theorem chs_few {s : Sheet} (h : ∀ r ∈ s, List.length r ≤ 3) : (chs s).length ≤ 3 ^ s.length := by
  have := chs_rev_len s.reverse fun r hr => h r (List.mem_reverse.mp hr)
  rwa [List.reverse_reverse, List.length_reverse] at this
theorem sheet_rows {things : Things} {s : List Nat} (hs : ∀ p ∈ s, p < things.length) {r : Row} (hr : r ∈ sheetOf things s) : ∃ t ∈ things, r ∈ t := by
  unfold sheetOf at hr
  rw [List.mem_flatten] at hr
  obtain ⟨t, ht, hr⟩ := hr
  obtain ⟨k, hk, rfl⟩ := List.mem_map.mp ht
  exact ⟨_, getD_mem (hs k hk), hr⟩
theorem sheet_len {things : Things} (th : ThOk things) {s : List Nat} (hs : ∀ p ∈ s, p < things.length) : (sheetOf things s).length ≤ s.length * 2 :=
  flat_len s 2 (fun p => things.getD p []) fun p hp => th.rows _ (getD_mem (hs p hp))
theorem few_ch {things : Things} (th : ThOk things) {s : List Nat} (hs : ∀ p ∈ s, p < things.length) (hl : s.length ≤ 3) : FewCh (sheetOf things s) where
  rows := by have := sheet_len th hs; omega
  wide := fun r hr => by
    obtain ⟨t, ht, h⟩ := sheet_rows hs hr
    have := (th.ways t ht r h).2
    omega
  few := fun i => by
    have h1 : ∀ r ∈ (sheetOf things s).take i, List.length r ≤ 3 := fun r hr => by
      obtain ⟨t, ht, h⟩ := sheet_rows hs (List.mem_of_mem_take hr)
      exact (th.ways t ht r h).2
    have h2 := chs_few h1
    have h3 : ((sheetOf things s).take i).length ≤ 6 := by
      rw [List.length_take]
      have := sheet_len th hs
      omega
    exact Nat.le_trans h2 (Nat.le_trans (Nat.pow_le_pow_right (by decide) h3) (by decide))
theorem wants_few {things : Things} (th : ThOk things) {s : List Nat} (hs : ∀ p ∈ s, p < things.length) (hl : s.length ≤ 3) {c : List Nat} (hc : OkCh (sheetOf things s) c) : (wantsOf (sheetOf things s) c).length ≤ 12 := by
  unfold wantsOf
  have h1 := flat_len ((sheetOf things s).zip c) 2 (fun p => p.1.getD p.2 []) fun p hp => by
    obtain ⟨t, ht, h⟩ := sheet_rows hs (List.of_mem_zip hp).1
    exact th.wants t ht _ h _ (getD_mem (hc.2 p hp))
  have h2 := sheet_len th hs
  have h3 : ((sheetOf things s).zip c).length ≤ 6 := by rw [List.length_zip]; omega
  omega
theorem cnt_flat (l : List (Want × List (Str × Int))) (p : Part) : cntRows ((l.map givRows).flatten) p = (l.map fun q => if q.1.form = p.1 then cntG q.2 p.2 else 0).sum := by
  induction l with
  | nil => rfl
  | cons q l ih =>
    rw [List.map_cons, List.flatten_cons, cntRows_append, ih, List.map_cons, List.sum_cons]
    congr 1
    obtain ⟨x, g⟩ := q
    show cntRows (g.map fun g => (x.form, g.1, g.2)) p = if x.form = p.1 then cntG g p.2 else 0
    induction g with
    | nil => show (0 : Int) = _; split <;> rfl
    | cons e g ihg =>
      rw [List.map_cons, cntRows_cons, ihg]
      have hk : kP (x.form, e.1, e.2) = p ↔ x.form = p.1 ∧ e.1 = p.2 := ⟨fun z => by rw [← z]; exact ⟨rfl, rfl⟩, fun z => Prod.ext z.1 z.2⟩
      have hc : cntG (e :: g) p.2 = (if e.1 = p.2 then e.2 else 0) + cntG g p.2 := by
        unfold cntG
        rw [List.filter_cons]
        by_cases y : e.1 = p.2
        · rw [if_pos y, if_pos (decide_eq_true y), List.map_cons, List.sum_cons]
        · rw [if_neg y, if_neg (by simpa using y)]; omega
      rw [hc]
      by_cases y : x.form = p.1
      · rw [if_pos y, if_pos y]
        by_cases z : e.1 = p.2
        · rw [if_pos (hk.mpr ⟨y, z⟩), if_pos z]
        · rw [if_neg (fun w => z (hk.mp w).2), if_neg z]
      · rw [if_neg y, if_neg y, if_neg (fun w => y (hk.mp w).1)]
        omega
theorem dealt_rows {ps : List Prt} {wants : List Want} {given : List (List (Str × Int))} (h : DealtR ps wants given) (p : Part) : cntRows (givenRows wants given) p ≤ manyP ps p.1 (some p.2) := by
  unfold givenRows
  rw [cnt_flat, sum_range (wants.zip given) (dW, [])]
  have hl : (wants.zip given).length = wants.length := by rw [List.length_zip, h.ln]; omega
  rw [hl]
  refine Int.le_trans (Int.le_of_eq (sum_congr fun i hi => ?_)) (h.sum p.1 p.2)
  have hi := List.mem_range.mp hi
  have e : (wants.zip given).getD i (dW, []) = (wants.getD i dW, given.getD i []) := by
    rw [List.getD_eq_getElem?_getD, (show (wants.zip given)[i]? = some (wants.getD i dW, given.getD i []) by rw [List.getElem?_zip_eq_some]; exact ⟨getD_of hi, getD_of (by rw [h.ln]; exact hi)⟩)]
    rfl
  rw [e]
theorem gift_len {l : List (Str × Int)} (h : ∀ e ∈ l, 0 < e.2) : (l.length : Int) ≤ (l.map (·.2)).sum := by
  induction l with
  | nil => exact Int.le_refl _
  | cons e l ih =>
    have := ih fun x hx => h x (List.mem_cons_of_mem _ hx)
    have := h e List.mem_cons_self
    rw [List.map_cons, List.sum_cons, List.length_cons]
    omega
theorem best_deal {rows : List Prt} {things : Things} {places choice : List Nat} {given : List (List (Str × Int))} {t : Tree} (hl : rows.length ≤ 12) (hr : ∀ e ∈ rows, PrtL e) (th : ThOk things) (tl : ThL things) (b : BestOk (partsOf rows) things places choice given t) :
    IsDe (partsOf rows, sheetOf things places, choice, given) := by
  have hs := b.fd.lt
  have h3 := th.few
  have hpl : places.length ≤ 3 := by
    have h1 := sets_all hs b.fd.rise
    have h2 := sets_filter h1
    have h4 := List.length_filter_le (fun k => decide (k ∈ places)) (List.range things.length)
    rw [h2, List.length_range] at h4
    omega
  have hc := b.fd.ok
  have de := b.fd.de
  have hwl := wants_few th hs hpl hc
  have hz : ∀ p ∈ (wantsOf (sheetOf things places) choice).zip given, GiftOk p.1 p.2 ∧ (∀ e ∈ p.2, WordOk e.1) ∧ WantL p.1 := fun p hp => by
    obtain ⟨i, hi⟩ := List.mem_iff_getElem?.mp hp
    rw [List.getElem?_zip_eq_some] at hi
    have hil := (List.getElem?_eq_some_iff.mp hi.1).1
    have e1 : (wantsOf (sheetOf things places) choice).getD i dW = p.1 := by rw [List.getD_eq_getElem?_getD, hi.1]; rfl
    have e2 : given.getD i [] = p.2 := by rw [List.getD_eq_getElem?_getD, hi.2]; rfl
    refine ⟨by rw [← e1, ← e2]; exact de.gift i hil, fun e he => ?_, ?_⟩
    · rw [← e2] at he
      obtain ⟨y, hy, hp⟩ := parts_key (de.known i hil e he)
      have : y.2.1 = e.1 := congrArg Prod.snd hp
      rw [← this]
      exact shade_word (hr y hy).sh
    · obtain ⟨t, h1, r, h2, y, h4, h5⟩ := wantsOf_mem hs hc (List.of_mem_zip hp).1
      exact tl t h1 r h2 y h4 _ h5
  have hgl : ∀ l ∈ given, l.length ≤ 2 := fun l hl => by
    obtain ⟨i, hi⟩ := List.mem_iff_getElem?.mp hl
    have hil := (List.getElem?_eq_some_iff.mp hi).1
    have hil2 : i < (wantsOf (sheetOf things places) choice).length := by rw [← de.ln]; exact hil
    obtain ⟨h1, _, h2⟩ := hz ((wantsOf (sheetOf things places) choice)[i], l) (List.mem_iff_getElem?.mpr ⟨i, by rw [List.getElem?_zip_eq_some]; exact ⟨List.getElem?_eq_getElem _, hi⟩⟩)
    have h4 := gift_len h1.pos
    have h5 := h1.sum
    have h6 := h2.hi
    dsimp only at h4 h5 h6
    omega
  refine ⟨few_ch th hs hpl, chs_iff.mpr hc, hc, by show (wantsOf (sheetOf things places) choice).length ≤ 1000; omega, ⟨de.ln, by show (wantsOf (sheetOf things places) choice).length ≤ 1000; omega, fun p hp => ?_, fun p hp => (hz p hp).1.right⟩, ?_, Nat.le_trans (partsOf_len rows) (by omega), ?_, fun l hl => by have := hgl l hl; omega⟩
  · obtain ⟨h1, h2, h4⟩ := hz p hp
    exact ⟨h2, h1.pos, h1.rise, h1.sum, by have := hgl p.2 (List.of_mem_zip hp).2; show p.2.length ≤ 1000; omega⟩
  · unfold lacking
    rw [List.flatten_eq_nil_iff]
    intro l hl
    obtain ⟨e, he, rfl⟩ := List.mem_map.mp hl
    unfold lackOf
    refine if_neg ?_
    have h1 := (parts_mem he).1
    rw [countUp_gv] at h1
    have h2 := dealt_rows de (kP e)
    dsimp only [kP] at h1 h2
    dsimp only
    omega
  · have := flat_len ((wantsOf (sheetOf things places) choice).zip given) 2 givRows fun p hp => by
      have := hgl p.2 (List.of_mem_zip hp).2
      unfold givRows
      rw [List.length_map]
      exact this
    have h5 : ((wantsOf (sheetOf things places) choice).zip given).length ≤ 12 := by rw [List.length_zip]; omega
    show (givenRows (wantsOf (sheetOf things places) choice) given).length ≤ 10000
    unfold givenRows
    omega
end K43
set_option Elab.async false
set_option linter.all false
set_option maxRecDepth 100000
set_option maxHeartbeats 1000000
/-! # KLL: tables of rests, and walks over them -/
namespace K43
open PySem PySem.Spec PyProof.Rows L2 K43S
open C8 (Cal Mak Met pe_c pe_mk pe_mt pe_mt0)
/-! ### few rests -/
def BR (r : Rest) : Prop := ∃ f : Str → Int, r = shadesL.map f ∧ ∀ s ∈ shadesL, 0 ≤ f s ∧ f s ≤ 24
structure GoodL (acc : List Rest) : Prop where
  nd : acc.Nodup
  all : ∀ x ∈ acc, BR x
theorem BR.len {r : Rest} (h : BR r) : r.length = 4 := by
  obtain ⟨f, rfl, _⟩ := h
  rfl
theorem BR.dec {ss : List Str} {r : Rest} {i : Nat} (h : BR r) (hi : i < 4) (ok : okAt ss r i = true) : BR (decAt r i) := by
  obtain ⟨f, rfl, hf⟩ := h
  unfold okAt at ok
  rw [shadesMap_getD hi, Bool.and_eq_true] at ok
  have h1 : 0 < f (shadesL.getD i "") := of_decide_eq_true ok.1
  refine ⟨less f (shadesL.getD i ""), decAt_map hi, fun s hs => ?_⟩
  have := hf s hs
  unfold less
  by_cases e : s = shadesL.getD i ""
  · rw [← e] at h1
    rw [if_pos e]; omega
  · rw [if_neg e]; omega
theorem GoodL.nil : GoodL [] := ⟨by simp, fun x h => by cases h⟩
theorem GoodL.one {ss : List Str} {r : Rest} {acc : List Rest} {i : Nat} (h : GoodL acc) (hr : BR r) (hi : i < 4) : GoodL (growOne ss r acc i) := by
  refine ⟨growOne_nodup h.nd, fun x hx => ?_⟩
  unfold growOne at hx
  split at hx
  · rename_i ok
    rcases addR_mem.mp hx with hx | rfl
    · exact h.all x hx
    · exact hr.dec hi ok
  · exact h.all x hx
theorem GoodL.ones {ss : List Str} {r : Rest} (hr : BR r) : ∀ (l : List Nat) {acc : List Rest}, GoodL acc → (∀ i ∈ l, i < 4) → GoodL (l.foldl (growOne ss r) acc)
  | [], _, h, _ => h
  | a :: l, _, h, hl => GoodL.ones hr l (h.one hr (hl a List.mem_cons_self)) fun i hi => hl i (List.mem_cons_of_mem _ hi)
theorem GoodL.rest {ss : List Str} {r : Rest} {acc : List Rest} (h : GoodL acc) (hr : BR r) : GoodL (growRest ss acc r) := GoodL.ones hr _ h fun i hi => List.mem_range.mp hi
theorem GoodL.rests {ss : List Str} : ∀ (l : List Rest) {acc : List Rest}, GoodL acc → (∀ r ∈ l, BR r) → GoodL (l.foldl (growRest ss) acc)
  | [], _, h, _ => h
  | a :: l, _, h, hl => GoodL.rests l (h.rest (hl a List.mem_cons_self)) fun i hi => hl i (List.mem_cons_of_mem _ hi)
theorem GoodL.grow {ss : List Str} {found : List Rest} (h : GoodL found) : GoodL (grow ss found) := GoodL.rests _ GoodL.nil h.all
theorem GoodL.growN {ss : List Str} {found : List Rest} (h : GoodL found) : ∀ n : Nat, GoodL (growN ss n found)
  | 0 => h
  | n + 1 => (GoodL.growN h n).grow
theorem GoodL.served {form : Str} : ∀ (l : List Want) {found : List Rest}, GoodL found → GoodL (l.foldl (serve form) found)
  | [], _, h => h
  | x :: l, _, h => GoodL.served l (h.growN (unitsOf form x))
def encR (r : Rest) : Nat := (((r.getD 0 0).toNat * 25 + (r.getD 1 0).toNat) * 25 + (r.getD 2 0).toNat) * 25 + (r.getD 3 0).toNat
theorem BR.four {r : Rest} (h : BR r) : ∃ a b c d : Int, r = [a, b, c, d] ∧ (0 ≤ a ∧ a ≤ 24) ∧ (0 ≤ b ∧ b ≤ 24) ∧ (0 ≤ c ∧ c ≤ 24) ∧ (0 ≤ d ∧ d ≤ 24) := by
  obtain ⟨f, rfl, hf⟩ := h
  exact ⟨_, _, _, _, rfl, hf _ (by simp [shadesL]), hf _ (by simp [shadesL]), hf _ (by simp [shadesL]), hf _ (by simp [shadesL])⟩
theorem GoodL.len {acc : List Rest} (h : GoodL acc) : acc.length ≤ 390625 := by
  have := nodup_len 390625 (acc.map encR) ?_ ?_
  · rwa [List.length_map] at this
  · rw [List.Nodup, List.pairwise_map]
    refine List.Pairwise.imp_of_mem ?_ h.nd
    intro x y hx hy hne he
    obtain ⟨a, b, c, d, rfl, h1, h2, h3, h4⟩ := (h.all x hx).four
    obtain ⟨a', b', c', d', rfl, h1', h2', h3', h4'⟩ := (h.all y hy).four
    simp only [encR, List.getD_cons_zero, List.getD_cons_succ] at he
    refine hne ?_
    have e1 : a = a' := by omega
    have e2 : b = b' := by omega
    have e3 : c = c' := by omega
    have e4 : d = d' := by omega
    rw [e1, e2, e3, e4]
  · intro x hx
    obtain ⟨r, hr, rfl⟩ := List.mem_map.mp hx
    obtain ⟨a, b, c, d, rfl, h1, h2, h3, h4⟩ := (h.all r hr).four
    simp only [encR, List.getD_cons_zero, List.getD_cons_succ]
    omega
/-! ### dicts of rests -/
def keyR (r : Rest) : List Key := r.map Sum.inl
def encD (ks : List Rest) : List (List Key × V) := ks.map fun r => (keyR r, V.bl true)
abbrev DcR (ks : List Rest) : Pr := At (.dT (encD ks))
theorem keyR_inj {r s : Rest} (h : keyR r = keyR s) : r = s := by
  unfold keyR at h
  exact (List.map_inj_right fun a b e => Sum.inl.inj e).mp h
theorem keyR_kV (r : Rest) : (keyR r).map kV = r.map V.int := by
  unfold keyR
  rw [List.map_map]
  rfl
theorem encD_any (ks : List Rest) (r : Rest) : ((encD ks).any fun kv => decide (kv.1 = keyR r)) = true ↔ r ∈ ks := by
  unfold encD
  rw [List.any_map, List.any_eq_true]
  constructor
  · rintro ⟨x, hx, e⟩
    have : keyR x = keyR r := of_decide_eq_true e
    exact keyR_inj this ▸ hx
  · intro h
    exact ⟨r, h, decide_eq_true rfl⟩
theorem putK_encD (ks : List Rest) (r : Rest) : putK (encD ks) (keyR r) (.bl true) = encD (addR ks r) := by
  unfold putK addR
  by_cases h : r ∈ ks
  · rw [if_pos ((encD_any ks r).mpr h), if_pos h]
    refine (List.map_congr_left fun kv hkv => ?_).trans (List.map_id _)
    unfold encD at hkv
    obtain ⟨x, _, rfl⟩ := List.mem_map.mp hkv
    split <;> rfl
  · rw [if_neg (fun z => h ((encD_any ks r).mp z)), if_neg h]
    unfold encD
    rw [List.map_append]
    rfl
abbrev RRest (r : Rest) : Pr := TupOf IsI r
theorem rrest_key {r : Rest} {H : Hp} {v : V} (h : RRest r H v) : ∃ b, v = .ref b ∧ H b = some (.tup ((keyR r).map kV)) := by
  obtain ⟨b, vs, rfl, h1, h2⟩ := h
  refine ⟨b, rfl, ?_⟩
  rw [h1, keyR_kV, pp_ints h2]
theorem key_rrest {r : Rest} {H : Hp} {b : Addr} (h : H b = some (.tup ((keyR r).map kV))) : RRest r H (.ref b) := by
  rw [keyR_kV] at h
  refine ⟨b, _, rfl, h, ?_⟩
  have : r.map IsI = (r.map V.int).map IsV := by rw [List.map_map]; rfl
  rw [this]
  exact PP.of_isv
section
variable {K : PySem.W.Frag} {σ : L2.St} {H : Hp} {td ty tx tv te tk : TE} {D : Ends} {tu tz : TS} {ks : List Rest} {r : Rest} {g : TG}
theorem s_dputR {d : Addr} (hd : H d = some (.dT (encD ks))) (hv : EvR tv σ H (IsB true)) (hx : EvR td σ H (IsV (.ref d))) (hy : EvR ty σ H (RRest r)) (hl : ks.length < 1000000) (k : ∀ H1, Same H H1 → D.nx σ (upd H1 d (.dT (encD (addR ks r))))) : sDPut td ty tv D σ H :=
  hv H (Same.refl H) _ fun v H1 e1 r1 => hx H1 e1 _ fun x H2 e2 r2 => hy H2 (e1.trans e2) _ fun y H3 e3 r3 => by
    obtain ⟨b, rfl, h2⟩ := rrest_key r3
    obtain rfl : v = V.bl true := r1
    refine ⟨d, _, r2, DPut.t (((e1.trans e2).trans e3) d _ hd) h2 (by unfold encD; rw [List.length_map, sizeLine_eq]; omega), ?_⟩
    rw [putK_encD]
    exact k H3 ((e1.trans e2).trans e3)
theorem er_dispT (hk : ∀ H1, Same H H1 → EvR tk σ H1 (RRest r)) : EvR (tDispT tk (tC (.bl true))) σ H (DcR [r]) := fun H1 e Q q p hp =>
  hk (upd H1 p (.dT [])) (e.trans (Same.new hp)) _ (Same.refl _) _ fun x H2 e2 r2 => by
    obtain ⟨b, rfl, h2⟩ := rrest_key r2
    have hp2 : H2 p = some (.dT []) := e2 p _ upd_same
    refine ⟨hp2, b, keyR r, .bl true, rfl, h2, q _ _ (((Same.new hp).trans e2).mut hp) ⟨p, rfl, upd_same⟩⟩
theorem er_lenR {d : Addr} (h : EvR te σ H (DcR ks)) : EvR (tCB rLenT (tCons te tNil)) σ H (IsI (ks.length : Int)) := fun H1 e Q q =>
  (ea1 h) H1 e _ fun vs H2 e2 r2 => by
    obtain ⟨v, rfl, a, rfl, g2⟩ := r2.one
    exact ⟨a, _, rfl, g2, q _ _ e2 (by unfold encD; rw [List.length_map]; rfl)⟩
theorem er_intB {b : Bool} (h : EvR te σ H (IsB b)) : EvR (tCB (fun xs H Q => (∃ i, xs = [.int i] ∧ Q (.int i) H) ∨ ∃ k, xs = [.bl k] ∧ Q (.int (if k then 1 else 0)) H) (tCons te tNil)) σ H (IsI (if b then 1 else 0)) := fun H1 e Q q =>
  (ea1 h) H1 e _ fun vs H2 e2 r2 => by
    obtain ⟨v, rfl, g2⟩ := r2.one
    obtain rfl : v = V.bl b := g2
    exact .inr ⟨b, rfl, q _ _ e2 rfl⟩
/-- enumerate of a new list, while one's own things change -/
theorem s_forEN {α : Type} {RA : α → Pr} {xs : List α} [∀ x, MF (RA x)] (h : EvN te σ H (LstOf RA xs)) (Pv : Addr → List V → Nat → L2.St → Hp → Prop)
    (h0 : ∀ a vs H1, Same H H1 → H a = none → H1 a = some (.lst vs) → PP H1 vs (xs.map RA) → Pv a vs 0 σ H1) (hl : ∀ a vs i σ' Hc, i ≤ xs.length → Pv a vs i σ' Hc → Hc a = some (.lst vs))
    (hs : ∀ a vs i x v σ' Hc Hx (N : L2.St → Hp → Prop), xs[i]? = some x → FK H Hc → Pv a vs i σ' Hc → Same Hc Hx → TupP [IsI (i : Int), RA x] Hx v → (∀ σ3 H3, FK Hx H3 → Pv a vs (i + 1) σ3 H3 → N σ3 H3) → EvG g v σ' Hx fun σ2 => tu { D with nx := N, ct := N, bk := D.nx } σ2 Hx)
    (hd : ∀ a vs σ' Hc, FK H Hc → Pv a vs xs.length σ' Hc → D.nx σ' Hc) : tFor (iEnum K (tCons te tNil)) g tu D σ H := h H (Same.refl H) _ fun v H1 e1 ⟨a, vs, h1, h2, h3⟩ nw => ⟨a, vs, by rw [h1], SqL.of h2, by
  have l : xs.length = vs.length := by rw [h3.length, List.length_map]
  refine for_it (l ▸ walk_enum (K := K) (a := a) (xs := vs)) (fun i σ' Hc => FK H1 Hc ∧ Pv a vs i σ' Hc) ⟨FK.refl _, h0 a vs H1 e1 (nw a h1) h2 h3⟩ (fun i σ' Hc hi p => SqL.of (hl a vs i σ' Hc hi p.2)) ?_ ?_
  · rintro i w σ' Hc Hx hlt ⟨f1, p⟩ ⟨T, z1, z2, y1, y2, y3, y4, y5⟩
    have hx : xs[i]? = some xs[i] := List.getElem?_eq_getElem hlt
    obtain ⟨w', g1, g2⟩ := h3.get (map_get hx)
    rw [show vs[i]? = some z2 from y5] at g1
    cases g1
    have e4 : V.int (i : Nat) = z1 := Option.some.inj y4
    subst e4
    subst y1 y3
    have s := Same.new (o := .tup [.int (i : Nat), z2]) y2
    exact hs a vs i xs[i] _ σ' Hc _ _ hx ((Same.fk e1).trans f1) p s ⟨T, _, rfl, upd_same, rfl, MF.mf (Same.fk s) (MF.mf f1 g2), True.intro⟩ (fun σ3 H3 f3 p3 => ⟨(f1.trans (Same.fk s)).trans f3, p3⟩) _ fun σ2 q => q
  · rintro σ' Hc ⟨f1, p⟩
    exact hd a vs σ' Hc ((Same.fk e1).trans f1) p⟩
/-- for k in d, d a dict of rests that is locked meanwhile -/
theorem q_forK {d : Addr} {i j : Nat} (hσ : σ[i]? = some (some (.ref d))) (hd : H d = some (.dT (encD ks))) (Pv : Obj → Nat → L2.St → Hp → Prop)
    (h0 : ∀ od, Pv od 0 σ (upd H d (.frz od (.dT (encD ks))))) (hl : ∀ od n σ' Hc, n ≤ ks.length → Pv od n σ' Hc → Hc d = some (.frz od (.dT (encD ks))))
    (hs : ∀ od n r b σ' Hc (N : L2.St → Hp → Prop) (D' : Ends), ks[n]? = some r → Pv od n σ' Hc → RRest r Hc (.ref b) → (∀ σ3 H3, Pv od (n + 1) σ3 H3 → N σ3 H3) → tu { D' with nx := N, ct := N } (σ'.set j (some (.ref b))) Hc)
    (hk : ∀ od σ' Hc, Pv od ks.length σ' Hc → tz D σ' (upd Hc d (.dT (encD ks)))) : tSeq (tLock (tFor (iKeys (tVar i)) (gName j) tu)) tz D σ H := by
  refine ⟨d, .dT (encD ks), hd, True.intro, fun od => ?_⟩
  refine ⟨_, hσ, d, od, rfl, .inr ⟨encD ks, upd_same, ?_⟩⟩
  have l : ks.length = (encD ks).length := by unfold encD; rw [List.length_map]
  refine for_it (l ▸ walk_keysT) (fun n σ' Hc => Pv od n σ' Hc) (h0 od) (fun n σ' Hc hn p => hl od n σ' Hc hn p) ?_ ?_
  · rintro n v σ' Hc Hx hlt p ⟨y1, k, u, b, y2, y3, y4⟩
    subst y1 y3
    unfold encD at y2
    rw [List.getElem?_map, List.getElem?_eq_getElem hlt] at y2
    have hk' : keyR ks[n] = k := congrArg Prod.fst (Option.some.inj y2)
    rw [← hk'] at y4
    exact hs od n ks[n] b σ' Hx (fun σ' Hc => Pv od (n + 1) σ' Hc) ⟨fun _ _ => True, fun v H' => H' d = some (.frz od (.dT (encD ks))) ∧ D.rt v (upd H' d (.dT (encD ks))), fun σ' H' => H' d = some (.frz od (.dT (encD ks))) ∧ tz D σ' (upd H' d (.dT (encD ks))), fun _ _ => True⟩ (List.getElem?_eq_getElem hlt) p (key_rrest y4) fun σ3 H3 p3 => p3
  · rintro σ' Hc p
    exact ⟨hl od _ σ' Hc (Nat.le_refl _) p, hk od σ' Hc p⟩
end
end K43
set_option Elab.async false
set_option linter.all false
set_option maxRecDepth 100000
set_option maxHeartbeats 1000000
/-! # KLM: giving out -/
namespace K43
open PySem PySem.Spec PyProof.Rows L2 K43S
open C8 (Cal Mak Met pe_c pe_mk pe_mt pe_mt0)
def stk (g : List (Part × Int)) (form s : Str) : Int := gv g (form, s)
structure GoC (i : List (Part × Int) × List Want) : Prop where
  st : ∀ form s, 0 ≤ stk i.1 form s ∧ stk i.1 form s ≤ 24
  ws : ∀ x ∈ i.2, 0 ≤ x.many ∧ x.many ≤ 1000
theorem relock {H Hc : Hp} {d : Addr} {u : HO} (e : Same (wo d H) Hc) (h : H d = some u) : Same H (upd Hc d u) := fun a o ha => by
  by_cases z : a = d
  · subst z
    rw [h] at ha
    cases ha
    exact upd_same
  · rw [upd_ne z]
    exact e a o (by rw [wo_ne z]; exact ha)
theorem start_good {g : List (Part × Int)} (h : ∀ form s, 0 ≤ stk g form s ∧ stk g form s ≤ 24) (form : Str) : GoodL [startR (stk g) form] := ⟨by simp, fun x hx => by
  rw [List.mem_singleton.mp hx]
  exact ⟨stk g form, rfl, fun s _ => h form s⟩⟩
section
variable {K : PySem.W.Frag} {σ : L2.St} {H : Hp} {t9 t11 : TE} {ss : List Str} {r : Rest} {i : Nat}
theorem er_decAt (h9 : EvR t9 σ H (RRest r)) (h11 : EvR t11 σ H (IsI (i : Int))) (hl : r.length = 4) (hi : i < 4) :
    EvR (tOp (rCatA K) (tOp (rCatA K) (tSl (rSlA K) t9 tNoPart (tPart t11)) (tTup (tCons (tOp (rI0 fun i j => V.int (i - j)) (tOp (rIxT K) t9 t11) (tC (.int 1))) tNil))) (tSl (rSlA K) t9 (tPart (tOp (rI0 fun i j => V.int (i + j)) t11 (tC (.int 1)))) tNoPart)) σ H (RRest (decAt r i)) := by
  have h1 := er_slT (K := K) h9 eo_none (eo_some h11)
  rw [cutP_to (by rw [List.length_map]; omega), ← List.map_take] at h1
  have h2 : EvR (tTup (tCons (tOp (rI0 fun i j => V.int (i - j)) (tOp (rIxT K) t9 t11) (tC (.int 1))) tNil)) σ H (RRest [r.getD i 0 - 1]) := er_tup (ps := [IsI (r.getD i 0 - 1)]) (ea1 (er_I0 (er_ixTO (R := IsI) (x := r.getD i 0) h9 h11 (by omega) (by simpa using getD_of (d := 0) (show i < r.length by omega))) er_c)) (by simp)
  have h3 := er_slT (K := K) h9 (eo_some (i := ((i + 1 : Nat) : Int)) (EvR.is (er_I0 (g := fun i j => V.int (i + j)) h11 (er_c (v := .int 1))) (by show V.int ((i : Int) + 1) = _; congr 1))) eo_none
  rw [cutP_from (by rw [List.length_map]; omega), ← List.map_drop] at h3
  exact er_catTO (er_catTO h1 h2 (by rw [List.length_take]; simp; omega)) h3 (by rw [List.length_append, List.length_take, List.length_drop]; simp; omega)
end
theorem units_eq (form : Str) (x : Want) (h : 0 ≤ x.many) : (x.many * (if decide (V.str x.form = V.str form) = true then 1 else 0)).toNat = unitsOf form x := by
  unfold unitsOf
  by_cases e : x.form = form
  · rw [if_pos (by rw [e]; exact decide_eq_true rfl), if_pos e, Int.mul_one]
  · rw [if_neg (fun z => e (by have := of_decide_eq_true z; exact V.str.inj this)), if_neg e, Int.mul_zero]
    rfl
section
variable {P : Program} {w : World} {K : PySem.W.Frag} {mg : Str → Option Value} {base : Heap}
-- slots: 0 _law_stock_here (cell), 1 _law_wants_here, 2 _law_form (cell), 3 _law_found, 4 _law_own, 5 _law_shades_here, 6 _law_many, 7 _law_k, 8 _law_grown, 9 _law_rest, 10 _law_shade, 11 _law_at
abbrev N__law_given_out : List Str := ["_law_stock_here", "_law_wants_here", "_law_form", "_law_found", "_law_own", "_law_shades_here", "_law_many", "_law_k", "_law_grown", "_law_rest", "_law_shade", "_law_at"]
theorem sc__law_given_out : FnScope N__law_given_out ["_law_stock_here", "_law_wants_here"] (defScope s__law_given_out) := ⟨rfl, rfl, rfl, by decide +kernel, rfl, by decide +kernel, by decide +kernel⟩
abbrev spGO : Sp := PSp (ι := List (Part × Int) × List Want) (fun i => [DcT i.1, RWay i.2]) GoC fun i => IsB (givenOut (stk i.1) i.2)
theorem ok__law_given_out (T : Tx w K mg) : Cal P w K mg base 2 "_law_given_out" spGO [] := by
  refine mk_pure T.f__law_given_out T.g__law_given_out sc__law_given_out (fun _ _ _ _ _ _ us hl => match us, hl with | [_, _], _ => rfl) (fun _ => rfl) (fun cdv A outer s H vs Q E i hr hp hc q => ?_)
  obtain ⟨v0, v1, rfl, h0, h1⟩ := PP.two hp
  obtain ⟨g, wants⟩ := i
  obtain ⟨hst, hws⟩ := hc
  dsimp only at hst hws h0 h1
  refine ⟨_, (pss_cons (ps_for PassesOwn.never rfl (kx_pi_list K (pe_c0 (ok__law_forms T) hr (by decide) rfl)) (pg_name (i := 2) sc__law_given_out.nd rfl (.inr rfl))
      (pss_cons (ps_set (i := 3) sc__law_given_out.nd rfl (.inl rfl) (pe_dispT (hu_of hr) (pe_callTy (T := "tuple") (kx_tuple K) (by rfl) T.b_tuple (by decide +kernel) (pa_cons (pe_lc (own := [("_law_shade", 10)]) (g := gName 10) (by rfl) sc__law_given_out.nd (kx_pi_list K (pe_c0 (ok__law_shades T) hr (by decide) rfl)) (blkOk_by (N := N__law_given_out) (sc := defScope s__law_given_out) (by decide +kernel)) (fun _ _ _ _ _ => (pg_name (i := 10) sc__law_given_out.nd rfl (.inl rfl))) (fun _ _ _ _ _ => pts_nil) (fun _ _ _ _ _ => (pe_dget2 (hu_of hr) (pv 0) (pe_tup (pa_cons (pv 2) (pa_cons (pv 10) pa_nil))) pe_int ⟨rfl, rfl, rfl, rfl⟩))) pa_nil)) pe_bl))
    (pss_cons (ps_for PassesOwn.never rfl (kx_pi_tup K (pv 1)) (kx_tup K (by rfl) (pgs_cons (pg_name (i := 4) sc__law_given_out.nd rfl (.inl rfl)) (pgs_cons (pg_name (i := 5) sc__law_given_out.nd rfl (.inl rfl)) (pgs_cons (pg_name (i := 6) sc__law_given_out.nd rfl (.inl rfl)) pgs_nil))))
      (pss_one (ps_for PassesOwn.never rfl (pi_range1 rfl T.b_range (pa_cons (pe_op op_mul (pv 6) (pe_callTy (T := "int") call_int1 (by rfl) T.b_int (by decide +kernel) (pa_cons (pe_cmpR op_eq (pv 4) (pv 2) (nomark _)) pa_nil))) pa_nil)) (pg_name (i := 7) sc__law_given_out.nd rfl (.inl rfl))
      (pss_cons (ps_set (i := 8) sc__law_given_out.nd rfl (.inl rfl) pe_dnewT)
    (pss_cons (ps_lock (ps_for PassesOwn.never rfl (pi_keys (pv 3)) (pg_name (i := 9) sc__law_given_out.nd rfl (.inl rfl))
      (pss_one (ps_for PassesOwn.never rfl (kx_pi_enum K rfl T.b_enumerate (pa_cons (pe_c0 (ok__law_shades T) hr (by decide) rfl) pa_nil)) (kx_tup K (by rfl) (pgs_cons (pg_name (i := 11) sc__law_given_out.nd rfl (.inl rfl)) (pgs_cons (pg_name (i := 10) sc__law_given_out.nd rfl (.inl rfl)) pgs_nil)))
      (pss_one (ps_if (PW.pt (pw_and (pt_cmpR op_gt (pe_ix (kx_ixT K) (pv 9) (pv 11) (fun _ _ => rfl)) pe_int (nomark _)) (pw_and1 (PW.pt (pw_or (pt_cmpR (kx_eqET K hr.units0) (pv 5) (pe_tup pa_nil) (nomark _)) (pw_or1 (pt_cmpR (kx_in K) (pv 10) (pv 5) (by rfl)))))))) (pss_one (ps_dput (hu_of hr) (pv 8) (pe_op (kx_catA K) (pe_op (kx_catA K) (pe_slice (kx_slT K) (pv 9) po_none (po_some (pv 11))) (pe_tup (pa_cons (pe_op op_sub (pe_ix (kx_ixT K) (pv 9) (pv 11) (fun _ _ => rfl)) pe_int) pa_nil))) (pe_slice (kx_slT K) (pv 9) (po_some (pe_op op_add (pv 11) pe_int)) po_none)) pe_bl rfl)) pss_nil))))))
    (pss_one (ps_set (i := 3) sc__law_given_out.nd rfl (.inl rfl) (pv 8))))))))
    (pss_one (ps_if (pt_cmpR op_eq (pe_callB (id := "len") call_len_dT (by rfl) T.b_len (by decide +kernel) (pa_cons (pv 3) pa_nil)) pe_int (nomark _)) (pss_one (ps_ret pe_bl)) pss_nil)))))
    (pss_one (ps_ret pe_bl))), ?_⟩
  refine q_forS (ei_lstX (RA := RStr) (xs := formsL) (en_call () ea_nil True.intro).ev) (fun j σ' Hc => (∃ v2 v3 v4 v5 v6 v7 v8 v9 v10 v11, σ' = [some v0, some v1, v2, v3, v4, v5, v6, v7, v8, v9, v10, v11]) ∧ ((formsL.take j).all fun form => !(served (stk g) form wants).isEmpty) = true)
    (fun H1 e1 => ⟨⟨_, _, _, _, _, _, _, _, _, _, rfl⟩, rfl⟩) ?_ ?_
  · rintro jf form v σ' Hc Hx N hxf sc ⟨⟨v2, v3, v4, v5, v6, v7, v8, v9, v10, v11, rfl⟩, hall⟩ sx rv n
    obtain rfl : v = V.str form := rv
    have s0 := sc.trans sx
    refine eg_name (q_set (R := DcR [startR (stk g) form]) (er_dispT (r := startR (stk g) form) fun H1 e1 => ev_tuple (er_lcM (RB := IsI) (fun s => stk g form s) (ei_lstX (RA := RStr) (xs := shadesL) (en_call () ea_nil True.intro).ev) (by decide) fun s v H2 hs e2 r => eg_name ⟨rfl, er_dget2T (n := 0) (g := g) (p := (form, s)) (er_var (MX.mx ((s0.trans e1).trans e2) h0)) (er_tup (ps := [IsS form, IsS s]) (ea2 er_v (er_var r)) (by simp)) er_c⟩)) fun v3' H1 e1 r1 => ?_)
    obtain ⟨d0, rfl, hd0⟩ := r1
    have s1 := s0.trans e1
    refine q_forS (ei_tup (RA := RWant) (xs := wants) (er_var (MX.mx s1 h1))).same (fun j σ' Hc => ∃ d v4 v5 v6 v7 v8 v9 v10 v11, σ' = [some v0, some v1, some (.str form), some (.ref d), v4, v5, v6, v7, v8, v9, v10, v11] ∧ Hc d = some (.dT (encD ((wants.take j).foldl (serve form) [startR (stk g) form]))))
      (fun H2 e2 => ⟨d0, _, _, _, _, _, _, _, _, rfl, e2 d0 _ hd0⟩) ?_ ?_
    · rintro jw x v σ' Hd Hy N2 hxw sd ⟨d, v4, v5, v6, v7, v8, v9, v10, v11, rfl, hd⟩ sy rx n2
      have hxm := List.mem_of_getElem? hxw
      have hmany := hws x hxm
      have hd1 := sy d _ hd
      have gf0 : GoodL ((wants.take jw).foldl (serve form) [startR (stk g) form]) := GoodL.served _ (start_good hst form)
      refine eg_tup3 rx fun u4 u5 u6 g4 g5 g6 => ?_
      obtain rfl : u4 = V.str x.form := g4
      obtain rfl : u6 = V.int x.many := g6
      have hun := units_eq form x hmany.1
      have hrng : 0 ≤ x.many * (if decide (V.str x.form = V.str form) = true then 1 else 0) ∧ x.many * (if decide (V.str x.form = V.str form) = true then 1 else 0) ≤ 1000 := by
        split <;> omega
      refine s_forS (ei_rng (n := x.many * (if decide (V.str x.form = V.str form) = true then 1 else 0)) (ea1 (er_I (C := CMul) (i := x.many) (j := if decide (V.str x.form = V.str form) = true then 1 else 0) er_v (er_intB (er_eq (x := V.str x.form) (y := V.str form) er_v er_v rfl)) (.inl ⟨by omega, by omega⟩))) (by omega) (by omega))
        (fun k σ' Hc => ∃ d v7 v8 v9 v10 v11, σ' = [some v0, some v1, some (.str form), some (.ref d), some (.str x.form), some u5, some (.int x.many), v7, v8, v9, v10, v11] ∧ Hc d = some (.dT (encD (growN x.shades k ((wants.take jw).foldl (serve form) [startR (stk g) form])))))
        (fun H2 e2 => ⟨d, _, _, _, _, _, rfl, e2 d _ hd1⟩) ?_ ?_
      · rintro k kk v σ' He Hz N3 hxk se ⟨d, v7, v8, v9, v10, v11, rfl, hde⟩ sz rk n3
        have hd2 := sz d _ hde
        have g5z := MX.mx (se.trans sz) g5
        generalize hks : growN x.shades k ((wants.take jw).foldl (serve form) [startR (stk g) form]) = ks at hde hd2
        have gk : GoodL ks := by rw [← hks]; exact gf0.growN k
        refine eg_name (fun gd hgd => ?_)
        have hne : gd ≠ d := fun z => by subst z; rw [hd2] at hgd; cases hgd
        refine q_forK (i := 3) (j := 9) (d := d) (ks := ks) rfl (by rw [upd_ne (Ne.symm hne)]; exact hd2) (fun od m σ' Hc => (∃ v9 v10 v11, σ' = [some v0, some v1, some (.str form), some (.ref d), some (.str x.form), some u5, some (.int x.many), some v, some (.ref gd), v9, v10, v11]) ∧ Same (wo d Hz) Hc ∧ Hc d = some (.frz od (.dT (encD ks))) ∧ Hc gd = some (.dT (encD ((ks.take m).foldl (growRest x.shades) []))))
          (fun od => ⟨⟨_, _, _, rfl⟩, fun a o ha => ?_, upd_same, ?_⟩) (fun od m σ' Hc _ h => h.2.2.1) ?_ ?_
        · have za : a ≠ d := fun z => by subst z; unfold wo at ha; rw [if_pos rfl] at ha; cases ha
          rw [wo_ne za] at ha
          have zg : a ≠ gd := fun z => by subst z; rw [hgd] at ha; cases ha
          rw [upd_ne za, upd_ne zg]
          exact ha
        · rw [upd_ne hne, upd_same]
          rfl
        · rintro od m r b σ' Hc N4 D' hr ⟨⟨v9, v10, v11, rfl⟩, sw, hfr, hg⟩ rr n4
          have hrm := List.mem_of_getElem? hr
          have br := gk.all r hrm
          have gacc : GoodL ((ks.take m).foldl (growRest x.shades) []) := GoodL.rests _ GoodL.nil fun r hr => gk.all r (List.mem_of_mem_take hr)
          generalize hacc : (ks.take m).foldl (growRest x.shades) [] = acc0 at hg gacc
          have g5c : TupOf RStr x.shades Hc u5 := MF.mf (fun a o fx ha => sw a o (by rw [wo_ne (fun z => by subst z; rw [hd2] at ha; cases ha; exact fx.elim)]; exact ha)) g5z
          refine s_forEN (RA := RStr) (xs := shadesL) (en_call () ea_nil True.intro) (fun a vs i σ' Hd => (∃ v10 v11, σ' = [some v0, some v1, some (.str form), some (.ref d), some (.str x.form), some u5, some (.int x.many), some v, some (.ref gd), some (.ref b), v10, v11]) ∧ Same (wo d Hz) Hd ∧ Hd d = some (.frz od (.dT (encD ks))) ∧ Hd gd = some (.dT (encD ((List.range i).foldl (growOne x.shades r) acc0))) ∧ Hd a = some (.lst vs) ∧ a ≠ gd)
            (fun a vs H1 e1 hn ha _ => ⟨⟨_, _, rfl⟩, sw.trans e1, e1 d _ hfr, e1 gd _ hg, ha, fun z => by subst z; rw [hg] at hn; cases hn⟩) (fun a vs i σ' Hc _ h => h.2.2.2.2.1) ?_ ?_
          · rintro a vs i s v' σ' Hf Hh N5 hxs fkf ⟨⟨v10, v11, rfl⟩, sw2, hfr2, hg2, ha2, hag⟩ sh rv n5
            have hi4 : i < 4 := (List.getElem?_eq_some_iff.mp hxs).1
            have hsi : shadesL.getD i "" = s := by rw [List.getD_eq_getElem?_getD, hxs]; rfl
            refine eg_tup2 rv fun w1 w2 k1 k2 => ?_
            obtain rfl : w1 = V.int i := k1
            obtain rfl : w2 = V.str s := k2
            have fkh : FK Hc Hh := fkf.trans (Same.fk sh)
            have rrh : RRest r Hh (.ref b) := MF.mf fkh rr
            have g5h : TupOf RStr x.shades Hh u5 := MF.mf fkh g5c
            have hl4 := br.len
            have gai : GoodL ((List.range i).foldl (growOne x.shades r) acc0) := GoodL.ones br _ gacc fun j hj => by have := List.mem_range.mp hj; omega
            have hgl := gai.len
            refine s_when (b := okAt x.shades r i) (EvB.is (eb_and (a := decide (r.getD i 0 > 0)) (b := x.shades.isEmpty || x.shades.contains s) (eb_test (EvR.is (er_I0 (er_ixTO (R := IsI) (x := r.getD i 0) (er_var rrh) er_v (by omega) (by simpa using getD_of (d := 0) (show i < r.length by omega))) er_c) rfl)) fun _ => eb_or (a := x.shades.isEmpty) (b := x.shades.contains s) (eb_test (EvR.is (ev_eqET (ps := x.shades.map RStr) (er_var g5h) (er_tup ea_nil (by decide))) (by rw [map_isEmpty]))) fun _ => eb_test (EvR.is (er_inT (g := V.str) (xs := x.shades) er_v (er_var g5h) rfl fun _ => rfl) (by rw [inV_str]))) (by unfold okAt; rw [hsi])) (fun ok H4 e4 => ?_) fun nok H4 e4 => ?_
            · have hg4 := (sh.trans e4) gd _ hg2
              refine s_dputR (ks := (List.range i).foldl (growOne x.shades r) acc0) (r := decAt r i) hg4 er_c er_v (er_decAt (er_var (MF.mf (Same.fk e4) rrh)) er_v hl4 hi4) (by omega) fun H5 e5 => ?_
              have hg5 := e5 gd _ hg4
              have s25 : Same (wo d Hz) H5 := ((sw2.trans sh).trans e4).trans e5
              refine n5 _ _ (((Same.fk e4).trans (Same.fk e5)).trans (FK.upd hg5 fun z => z)) ⟨⟨_, _, rfl⟩, s25.mut (by rw [wo_ne hne]; exact hgd), ?_, ?_, ?_, hag⟩
              · rw [upd_ne (Ne.symm hne)]
                exact ((sh.trans e4).trans e5) d _ hfr2
              · rw [upd_same, List.range_succ, List.foldl_append]
                show _ = some (HO.dT (encD (growOne x.shades r _ i)))
                unfold growOne
                rw [if_pos ok]
              · rw [upd_ne hag]
                exact ((sh.trans e4).trans e5) a _ ha2
            · refine n5 _ _ (Same.fk e4) ⟨⟨_, _, rfl⟩, (sw2.trans sh).trans e4, (sh.trans e4) d _ hfr2, ?_, (sh.trans e4) a _ ha2, hag⟩
              rw [List.range_succ, List.foldl_append]
              show _ = some (HO.dT (encD (growOne x.shades r _ i)))
              unfold growOne
              rw [if_neg (by rw [nok]; decide)]
              exact (sh.trans e4) gd _ hg2
          · rintro a vs σ' Hf fkf ⟨⟨v10, v11, rfl⟩, sw2, hfr2, hg2, ha2, hag⟩
            refine n4 _ _ ⟨⟨_, _, _, rfl⟩, sw2, hfr2, ?_⟩
            rw [take_snoc hr, List.foldl_append, hacc]
            exact hg2
        · rintro od σ' Hc ⟨⟨v9, v10, v11, rfl⟩, sw, hfr, hg⟩
          rw [List.take_length] at hg
          have hs2 := relock sw hd2
          have hg2 : upd Hc d (.dT (encD ks)) gd = some (.dT (encD (growN x.shades (k + 1) ((wants.take jw).foldl (serve form) [startR (stk g) form])))) := by
            rw [upd_ne hne, hg]
            show _ = some (HO.dT (encD (grow x.shades (growN x.shades k _))))
            rw [hks]
            rfl
          refine s_set (R := IsV (.ref gd)) er_v fun vz H4 e4 r4 => ?_
          obtain rfl : vz = V.ref gd := r4
          exact n3 _ _ (hs2.trans e4) ⟨gd, _, _, _, _, _, rfl, e4 gd _ hg2⟩
      · rintro σ' He se ⟨d, v7, v8, v9, v10, v11, rfl, hde⟩
        rw [List.length_range, hun] at hde
        refine n2 _ _ se ⟨d, _, _, _, _, _, _, _, _, rfl, ?_⟩
        rw [take_snoc hxw, List.foldl_append]
        exact hde
    · rintro σ' Hd sd ⟨d, v4, v5, v6, v7, v8, v9, v10, v11, rfl, hd⟩
      rw [List.take_length] at hd
      have hds : Hd d = some (.dT (encD (served (stk g) form wants))) := hd
      refine s_when (b := (served (stk g) form wants).isEmpty) (eb_test (EvR.is (er_eq (x := .int ((served (stk g) form wants).length : Int)) (y := .int 0) (er_lenR (d := d) (er_var (R := DcR (served (stk g) form wants)) ⟨d, rfl, hds⟩)) er_c rfl) ?_)) (fun he H2 e2 => ?_) fun he H2 e2 => ?_
      · congr 1
        cases served (stk g) form wants with
        | nil => rfl
        | cons a l =>
          show decide _ = false
          refine decide_eq_false fun z => ?_
          have := V.int.inj z
          simp at this
          omega
      · refine s_ret (R := IsB false) er_c fun v H3 e3 r3 => q v H3 (((s1.trans sd).trans e2).trans e3) ?_
        obtain rfl : v = V.bl false := r3
        show V.bl false = V.bl (givenOut (stk g) wants)
        congr 1
        symm
        unfold givenOut
        rw [List.all_eq_false]
        exact ⟨form, List.mem_of_getElem? hxf, by rw [he]; decide⟩
      · refine n _ _ ((e1.trans sd).trans e2) ⟨⟨_, _, _, _, _, _, _, _, _, _, rfl⟩, ?_⟩
        rw [take_snoc hxf, List.all_append, hall]
        simp [he]
  · rintro σ' Hc sc ⟨⟨v2, v3, v4, v5, v6, v7, v8, v9, v10, v11, rfl⟩, hall⟩
    rw [List.take_length] at hall
    refine s_ret (R := IsB true) er_c fun v H3 e3 r3 => q v H3 (sc.trans e3) ?_
    obtain rfl : v = V.bl true := r3
    show V.bl true = V.bl (givenOut (stk g) wants)
    unfold givenOut
    rw [hall]
end
end K43
set_option Elab.async false
set_option linter.all false
set_option maxRecDepth 100000
set_option maxHeartbeats 1000000
/-! # KLN: the law -/
namespace K43
open PySem PySem.Spec PyProof.Rows L2 K43S
open C8 (Cal Mak Met pe_c pe_mk pe_mt pe_mt0)
/-! ### the greatest so far -/
abbrev Cand := List Nat × List Nat
structure MaxP (ok : Cand → Bool) (l : List Cand) (m : Int) : Prop where
  up : ∀ p ∈ l, ok p = true → (p.1.length : Int) ≤ m
  at_ : m = 0 ∨ ∃ p ∈ l, ok p = true ∧ (p.1.length : Int) = m
theorem MaxP.nil {ok : Cand → Bool} : MaxP ok [] 0 := ⟨(fun p h => by cases h), .inl rfl⟩
theorem MaxP.yes {ok : Cand → Bool} {l : List Cand} {m : Int} (h : MaxP ok l m) {p : Cand} (h1 : (p.1.length : Int) > m) (h2 : ok p = true) : MaxP ok (l ++ [p]) (p.1.length : Int) := by
  refine ⟨fun q hq ho => ?_, .inr ⟨p, by simp, h2, rfl⟩⟩
  rcases List.mem_append.mp hq with hq | hq
  · have := h.up q hq ho; omega
  · rw [List.mem_singleton.mp hq]; exact Int.le_refl _
theorem MaxP.no {ok : Cand → Bool} {l : List Cand} {m : Int} (h : MaxP ok l m) {p : Cand} (h1 : (decide ((p.1.length : Int) > m) && ok p) = false) : MaxP ok (l ++ [p]) m := by
  refine ⟨fun q hq ho => ?_, ?_⟩
  · rcases List.mem_append.mp hq with hq | hq
    · exact h.up q hq ho
    · rw [List.mem_singleton.mp hq] at ho ⊢
      rw [ho, Bool.and_true] at h1
      have := of_decide_eq_false h1
      omega
  · rcases h.at_ with h | ⟨q, h1, h2, h3⟩
    · exact .inl h
    · exact .inr ⟨q, List.mem_append_left _ h1, h2, h3⟩
def candsOf (things : Things) (s : List Nat) : List Cand := (chs (sheetOf things s)).map fun c => (s, c)
def okC (things : Things) (stock : Str → Str → Int) (p : Cand) : Bool := givenOut stock (wantsOf (sheetOf things p.1) p.2)
theorem max_is {things : Things} {stock : Str → Str → Int} {sets : List (List Nat)} {m : Int} (h : MaxP (okC things stock) ((sets.map (candsOf things)).flatten) m) : MaxIs things stock sets m := by
  have mem : ∀ p : Cand, p ∈ (sets.map (candsOf things)).flatten ↔ p.1 ∈ sets ∧ p.2 ∈ chs (sheetOf things p.1) := fun p => by
    rw [List.mem_flatten]
    constructor
    · rintro ⟨l, hl, hp⟩
      obtain ⟨s, hs, rfl⟩ := List.mem_map.mp hl
      obtain ⟨c, hc, rfl⟩ := List.mem_map.mp hp
      exact ⟨hs, hc⟩
    · rintro ⟨h1, h2⟩
      exact ⟨_, List.mem_map.mpr ⟨p.1, h1, rfl⟩, List.mem_map.mpr ⟨p.2, h2, rfl⟩⟩
  refine ⟨fun s hs c hc ho => h.up (s, c) ((mem (s, c)).mpr ⟨hs, hc⟩) ho, ?_⟩
  rcases h.at_ with h | ⟨p, h1, h2, h3⟩
  · exact .inl h
  · exact .inr ⟨p.1, ((mem p).mp h1).1, p.2, ((mem p).mp h1).2, h2, h3⟩
theorem sets_short {n : Nat} {s : List Nat} (h : s ∈ setsOf n) : s.length ≤ n := by
  have h2 := List.length_filter_le (fun k => decide (k ∈ s)) (List.range n)
  rwa [sets_filter h, List.length_range] at h2
/-! ### the input -/
theorem things_ok {things : Things} (h1 : things.length ≤ 3) (h2 : ∀ s ∈ things, SheetM s) : ThOk things where
  few := h1
  rows := fun s hs => (h2 s hs).few
  ways := fun s hs r hr => ⟨((h2 s hs).all r hr).lo, ((h2 s hs).all r hr).hi⟩
  wants := fun s hs r hr y hy => (((h2 s hs).all r hr).all y hy).few
  sh := fun s hs r hr y hy x hx => by have := ((((h2 s hs).all r hr).all y hy).all x hx).len; omega
  pos := fun s hs r hr y hy x hx => by have := ((((h2 s hs).all r hr).all y hy).all x hx).lo; omega
theorem things_l {things : Things} (h2 : ∀ s ∈ things, SheetM s) : ThL things := fun s hs r hr y hy x hx => (((h2 s hs).all r hr).all y hy).all x hx
theorem things_w {things : Things} (h1 : things.length ≤ 3) (h2 : ∀ s ∈ things, SheetM s) : ThW things where
  ok := things_ok h1 h2
  form := fun s hs r hr y hy x hx => form_word (things_l h2 s hs r hr y hy x hx).form
  shw := fun s hs r hr y hy x hx z hz => shade_word ((things_l h2 s hs r hr y hy x hx).sh z hz)
theorem cnt_le {rows : List Prt} (h : ∀ e ∈ rows, PrtL e) (p : Part) : cntRows rows p ≤ 2 * (rows.length : Int) := by
  induction rows with
  | nil => exact Int.le_refl _
  | cons e l ih =>
    have := ih fun x hx => h x (List.mem_cons_of_mem _ hx)
    have h0 := h e List.mem_cons_self
    have h1 := h0.lo
    have h2 := h0.hi
    rw [cntRows_cons, List.length_cons]
    split <;> omega
theorem stk_few {rows : List Prt} (hl : rows.length ≤ 12) (h : ∀ e ∈ rows, PrtL e) (form s : Str) : 0 ≤ stk (countUp rows) form s ∧ stk (countUp rows) form s ≤ 24 := by
  unfold stk
  rw [countUp_gv]
  have h1 := cnt_le h (form, s)
  have h2 := cntRows_nn (fun e he => by have := (h e he).lo; omega) (rows := rows) (form, s)
  omega
theorem rows_pos {rows : List Prt} (h : ∀ e ∈ rows, PrtL e) : ∀ e ∈ rows, 0 ≤ e.2.2 := fun e he => by have := (h e he).lo; omega
theorem go_ok {rows : List Prt} (hl : rows.length ≤ 12) (h : ∀ e ∈ rows, PrtL e) {things : Things} (tl : ThL things) {s : List Nat} (hs : ∀ p ∈ s, p < things.length) {c : List Nat} (hc : OkCh (sheetOf things s) c) : GoC (countUp rows, wantsOf (sheetOf things s) c) where
  st := stk_few hl h
  ws := fun x hx => by
    obtain ⟨t, h1, r, h2, y, h3, h4⟩ := wantsOf_mem hs hc hx
    have w := tl t h1 r h2 y h3 x h4
    have := w.lo
    have := w.hi
    exact ⟨by omega, by omega⟩
/-! ### rules -/
instance {i : List Prt × Things} : MX (RBest i) := ⟨fun e ⟨p, c, g, t, b, h⟩ => ⟨p, c, g, t, b, MX.mx e h⟩⟩
instance {i : List Prt × Things} : MX (RMost i) := ⟨fun e ⟨p, c, g, t, b, h⟩ => ⟨p, c, g, t, b, MX.mx e h⟩⟩
section
variable {K : PySem.W.Frag} {l0 ta : Addr} {W H : Hp} {σ : L2.St} {t1 t2 t3 te : TE} {D : Ends} {tz : TS} {R S : Pr} {ts : TA}
theorem et_callI {ι : Type} {Ar : ι → List V} {C : ι → Prop} {R : ι → Pr} {E : XK} (n : Nat) (i : ι) (hc : C i) (hv : σ[n]? = some (some (.ref ta))) (ha : EvA ts σ W ((Ar i).map IsV)) : EvT l0 ta (tCall (spT Ar C R) [] E (tCons (tVar n) ts)) σ W (R i) := fun H1 e t Q q =>
  ⟨_, hv, ha H1 e _ fun vs H2 e2 r => by
    have := r.isv
    subst this
    refine ⟨l0, ta, i, by rw [List.append_nil], t.mono e2, hc, fun v H3 e3 f3 t3 r3 => q v H3 ((same_wo e2).trans e3) ((Same.fk e2).trans f3) t3 r3⟩⟩
theorem et_callI2 {ι : Type} {Ar : ι → List V} {C : ι → Prop} {R : ι → Pr} {S : Pr} {E : XK} {p : V → Prop} {a : V} (n : Nat) (hW : W ta = none) (hv : σ[n]? = some (some (.ref ta))) (h1 : EvT l0 ta t1 σ W (CV p)) (h2 : EvR t2 σ W (IsV a))
    (hA : ∀ v, p v → ∃ i, Ar i = [v, a] ∧ C i ∧ ∀ H v, R i H v → S H v) : EvT l0 ta (tCall (spT Ar C R) [] E (tCons (tVar n) (tCons t1 (tCons t2 tNil)))) σ W S := fun H1 e t Q q =>
  ⟨_, hv, h1 H1 e t _ fun x1 H2 e2 f2 t2' r1 => h2 H2 ((new_wo e hW).trans e2) _ fun x2 H3 e3 r2 => by
    obtain rfl : x2 = a := r2
    obtain ⟨i, k1, k2, k3⟩ := hA x1 r1
    refine ⟨l0, ta, i, by rw [List.append_nil, k1], t2'.mono e3, k2, fun v H5 e5 f5 t5 r5 => q v H5 (wo_step (e2.trans e3) e5) ((f2.trans (Same.fk e3)).trans f5) t5 (k3 _ _ r5)⟩⟩
theorem q_par2 {i j : Nat} {p q : Pr} (h : EvA ts σ H [p, q]) (k : ∀ u v H1, Same H H1 → p H1 u → q H1 v → tz D ((σ.set i (some u)).set j (some v)) H1) : tSeq (tPar i j ts) tz D σ H := h H (Same.refl _) _ fun vs H1 e r => by
  obtain ⟨v, w, rfl, r1, r2⟩ := r.two
  exact ⟨v, w, rfl, k v w H1 e r1 r2⟩
theorem er_callX {ι : Type} {A : ι → List Pr} {C : ι → Prop} {R : ι → Pr} {E : XK} {ps : List Pr} (ha : EvA ts σ H ps) (w : ∀ H' vs, PP H' vs ps → ∃ i, PP H' vs (A i) ∧ C i ∧ ∀ H'' v, R i H'' v → S H'' v) : EvR (tCall (PSp A C R) [] E ts) σ H S := fun H1 e Q q =>
  ha H1 e _ fun vs H2 e2 r => by
    obtain ⟨i, k1, k2, k3⟩ := w H2 vs r
    exact ⟨i, by rw [List.append_nil]; exact k1, k2, fun v H3 e3 r3 => q v H3 (e2.trans e3) (k3 _ _ r3)⟩
theorem dct_wo {g : List (Part × Int)} {v : V} (t : TapeR l0 ta H) (h : DcT g H v) : DcT g (wo ta H) v := by
  obtain ⟨d, rfl, hd⟩ := h
  refine ⟨d, rfl, ?_⟩
  rw [wo_ne (fun z => by
    obtain ⟨_, _, _, _, k1, _⟩ := t.ex
    subst z
    rw [k1] at hd
    cases hd)]
  exact hd
/-- len(most(..)[0]) -/
theorem er_len0 {i : List Prt × Things} {m : Int} (h : EvR te σ H (RMost i)) (w : ∀ places choice given t, BestOk i.1 i.2 places choice given t → (places.length : Int) = m) : EvR (tCB (rLenQ K) (tCons (tOp (rIxT K) te (tC (.int 0))) tNil)) σ H (IsI m) := fun H1 e Q q =>
  h H1 e _ fun v H2 e2 ⟨places, choice, given, t, b, hv⟩ => by
    obtain ⟨a, vs, rfl, g1, g2⟩ := hv
    obtain ⟨x, y, rfl, hx, _⟩ := g2.two
    obtain ⟨c, ws, rfl, k1, k2⟩ := hx
    refine ⟨a, [.ref c, y], 0, .ref c, rfl, rfl, SqT.of g1, rfl, c, ws, rfl, .inr (SqT.of k1), q _ H2 e2 ?_⟩
    have hl := k2.length
    rw [List.length_map] at hl
    rw [hl, w places choice given t b]
    rfl
end
abbrev RSet (s : List Nat) : Pr := TupOf RNat s
section
variable {P : Program} {w : World} {K : PySem.W.Frag} {mg : Str → Option Value} {base : Heap}
def spLaw (K : PySem.W.Frag) : Sp := fun vs H Q _ => ∃ (a : Addr) (ns : List Int), vs = [.ref a] ∧ SqL K H a (ns.map V.int) ∧ ∀ H', Q (.bl true) H'
theorem q_tape {σ : L2.St} {H : Hp} {D : Ends} {tz : TS} {E : XK} {a : Addr} {ns : List Int} (h0 : σ[0]? = some (some (.ref a))) (hS : SqL K H a (ns.map V.int)) (k : ∀ l0 ta H1, Same H H1 → H l0 = none → H ta = none → TapeR l0 ta H1 → tz D (σ.set 1 (some (.ref ta))) H1) :
    tSeq (tAsg (tCall (spTape K) [] E (tCons (tVar 0) tNil)) (gName 1)) tz D σ H := ⟨_, h0, a, ns, rfl, hS, fun l0 ta H1 e1 n0 nt t1 => k l0 ta H1 e1 n0 nt t1⟩
theorem mk_fn {x : Str} {st : Stmt} {f : Addr} {fd : FuncData} {N ps : List Str} {k : Nat} {sp : Sp} (F : FunD K x x (defArgs st) (defBody st) (defScope st) [] [] f fd) (S : FnScope N ps (defScope st))
    (len : ∀ vs H Q E, sp vs H Q E → vs.length = ps.length)
    (hbody : ∀ (cdv : Value) (A : Around) (outer : List Env) (s : Shared) (H : Hp) (vs : List V) (Q : VK) (E : XK), Room k (A.deeper (envOfC x (defScope st) s.heap.objs.size f cdv)) → sp vs H Q E →
      ∃ t, PSs (cxOf CX0 P w K mg base N x (defScope st) f cdv A outer s H E).nox (defBody st) t ∧ t { nx := fun _ H' => Q .non H', rt := Q } (start N vs) H) : FnOk P w K mg base CX0 (k + 1) f fd ps sp := by
  refine F.ok S len fun cdv A outer s H vs Q E hr hsp => ?_
  obtain ⟨t, h, q⟩ := hbody cdv A outer s H vs Q E hr hsp
  exact ⟨t, h.nox, q⟩
-- slots: 0 _law_script, 1 _law_tape_here, 2 _law_rows_here, 3 _law_things_here, 4 _law_place (cell), 5 _law_some, 6 _law_heap, 7 _law_stock_here, 8 _law_sets, 9 _law_many, 10 _law_sheet_here, 11 _law_choice
abbrev N_law : List Str := ["_law_script", "_law_tape_here", "_law_rows_here", "_law_things_here", "_law_place", "_law_some", "_law_heap", "_law_stock_here", "_law_sets", "_law_many", "_law_sheet_here", "_law_choice"]
theorem sc_law : FnScope N_law ["_law_script"] (defScope s_law) := ⟨rfl, rfl, rfl, by decide +kernel, rfl, by decide +kernel, by decide +kernel⟩
theorem ok_law (T : Tx w K mg) {fd : FuncData} (F : FunD K "law" "law" (defArgs s_law) (defBody s_law) (defScope s_law) [] [] (He.fAd K ("law", none)) fd) : FnOk P w K mg base CX0 32 (He.fAd K ("law", none)) fd ["_law_script"] (spLaw K) := by
  refine mk_fn F sc_law (fun vs H Q E ⟨_, _, h, _⟩ => by rw [h]; rfl) (fun cdv A outer s H vs Q E hr h => ?_)
  obtain ⟨a0, ns, rfl, hS, q⟩ := h
  refine ⟨_, (pss_cons (ps_set (i := 1) sc_law.nd rfl (.inl rfl) (pe_c (ok__law_tape T) hr (by decide) rfl (pa_cons (pv 0) pa_nil)))
    (pss_cons (ps_set (i := 2) sc_law.nd rfl (.inl rfl) (pe_c (ok__law_rows T) hr (by decide) rfl (pa_cons (pv 1) (pa_cons pe_int pa_nil))))
    (pss_cons (ps_par (i := 6) (j := 7) (by rfl) sc_law.nd rfl rfl (by decide) rfl rfl (pa_cons (pe_mk (Mak_Heap T) hr (by decide) rfl (pa_cons (pv 2) pa_nil)) (pa_cons (pe_c (ok__law_stock T) hr (by decide) rfl (pa_cons (pv 2) pa_nil)) pa_nil)) (by rfl))
    (pss_cons (ps_set (i := 3) sc_law.nd rfl (.inl rfl) (pe_c (ok__law_things T) hr (by decide) rfl (pa_cons (pv 1) (pa_cons (pe_c (ok_pickT T) hr (by decide) rfl (pa_cons (pv 1) (pa_cons pe_int pa_nil))) (pa_cons pe_int pa_nil)))))
    (pss_cons (ps_par (i := 8) (j := 9) (by rfl) sc_law.nd rfl rfl (by decide) rfl rfl (pa_cons (pe_lst (pa_cons (pe_tup pa_nil) pa_nil)) (pa_cons pe_int pa_nil)) (by rfl))
    (pss_cons (ps_for PassesOwn.never rfl (pi_range1 rfl T.b_range (pa_cons (pe_callB (id := "len") (kx_len K) (by rfl) T.b_len (by decide +kernel) (pa_cons (pv 3) pa_nil)) pa_nil)) (pg_name (i := 4) sc_law.nd rfl (.inr rfl))
      (pss_one (ps_set (i := 8) sc_law.nd rfl (.inl rfl) (pe_op op_cat (pv 8) (pe_lc (own := [("_law_some", 5)]) (g := gName 5) (by rfl) sc_law.nd (kx_pi_list K (pv 8)) (blkOk_by (N := N_law) (sc := defScope s_law) (by decide +kernel)) (fun _ _ _ _ _ => (pg_name (i := 5) sc_law.nd rfl (.inl rfl))) (fun _ _ _ _ _ => pts_nil) (fun _ _ _ _ _ => (pe_op (kx_catA K) (pv 5) (pe_tup (pa_cons (pv 4) pa_nil)))))))))
    (pss_cons (ps_for PassesOwn.never rfl (kx_pi_list K (pv 8)) (pg_name (i := 5) sc_law.nd rfl (.inl rfl))
      (pss_cons (ps_set (i := 10) sc_law.nd rfl (.inl rfl) (pe_c (ok__law_sheet_of T) hr (by decide) rfl (pa_cons (pv 3) (pa_cons (pv 5) pa_nil))))
    (pss_one (ps_for PassesOwn.never rfl (kx_pi_list K (pe_c (ok__law_choices T) hr (by decide) rfl (pa_cons (pv 10) pa_nil))) (pg_name (i := 11) sc_law.nd rfl (.inl rfl))
      (pss_one (ps_if (PW.pt (pw_and (pt_cmpR op_gt (pe_callB (id := "len") (kx_len K) (by rfl) T.b_len (by decide +kernel) (pa_cons (pv 5) pa_nil)) (pv 9) (nomark _)) (pw_and1 (pt_val (pe_c (ok__law_given_out T) hr (by decide) rfl (pa_cons (pv 7) (pa_cons (pe_c (ok__law_wants T) hr (by decide) rfl (pa_cons (pv 10) (pa_cons (pv 11) pa_nil))) pa_nil))))))) (pss_one (ps_set (i := 9) sc_law.nd rfl (.inl rfl) (pe_callB (id := "len") (kx_len K) (by rfl) T.b_len (by decide +kernel) (pa_cons (pv 5) pa_nil)))) pss_nil))))))
    (pss_cons (ps_if (pt_cmpR op_ne (pe_c (ok_lets_most T) hr (by decide) rfl (pa_cons (pv 6) (pa_cons (pv 3) (pa_cons (pe_c (ok_most_paper T) hr (by decide) rfl (pa_cons (pv 6) (pa_cons (pv 3) pa_nil))) pa_nil)))) (pv 9) (nomark _)) (pss_one (ps_ret pe_bl)) pss_nil)
    (pss_one (ps_ret (pe_cmpR op_eq (pe_callB (id := "len") (kx_len K) (by rfl) T.b_len (by decide +kernel) (pa_cons (pe_ix (kx_ixT K) (pe_c (ok_most T) hr (by decide) rfl (pa_cons (pv 6) (pa_cons (pv 3) pa_nil))) pe_int (fun _ _ => rfl)) pa_nil)) (pv 9) (nomark _)))))))))))), ?_⟩
  refine q_tape rfl hS fun l0 ta H1 e1 n0 nt t1 => ?_
  refine q_setT (W := wo ta H1) (R := RowsR) (et_callI 1 () True.intro rfl (ea1 er_c)) (if_pos rfl) wo_same t1 fun v2 H2 W2 d2 s2 nW2 t2 f2 ⟨rows, hrows, hrl, rr⟩ => ?_
  have rr2 := MX.mx s2 rr
  refine q_par2 (p := RHeap (CH K) (partsOf rows)) (q := DcT (countUp rows)) (ea2 (er_heap (er_var rr2) (by omega)) (er_call rows (ea1 (er_var rr2)) (by show rows.length ≤ 10000; omega))) fun v6 v7 H3 e3 r6 r7 => ?_
  have t3 := t2.mono e3
  have r6w := MF.mf t3.wo r6
  have r7w := dct_wo t3 r7
  refine q_setT (W := wo ta H3) (R := ThingsR) (et_callI2 (p := fun v => ∃ r : Int, v = .int r ∧ 0 ≤ r ∧ r < 4) 1 (if_pos rfl) rfl (et_callI 1 (4 : Int) ⟨by decide, by decide⟩ rfl (ea1 er_c)) (er_c (v := .int 2)) fun v ⟨r, g1, g2, g3⟩ => ⟨r, by rw [g1], ⟨g2, by omega⟩, fun _ _ h => h⟩) (if_pos rfl) wo_same t3 fun v3 H4 W4 d4 s4 nW4 t4 f4 ⟨things, htl, hth, rt⟩ => ?_
  have s34 := d4.trans s4
  have r6' := MX.mx s34 r6w
  have r7' := MX.mx s34 r7w
  have rt' := MX.mx s4 rt
  have tok := things_ok htl hth
  have tl := things_l hth
  have tw := things_w htl hth
  have hok := heap_ok hrl (rows_pos hrows)
  have hst : ∀ form s, manyP (partsOf rows) form (some s) = stk (countUp rows) form s := fun form s => parts_many hrl (rows_pos hrows) form s
  have hsh : ∀ p ∈ (partsOf rows).map kP, p.2 ∈ shadesL := fun p hp => by
    obtain ⟨e, he, rfl⟩ := parts_key hp
    exact (hrows e he).sh
  refine q_par2 (p := LstOf RSet (setsOf 0)) (q := IsI 0) (ea2 (er_lst (ps := [RSet []]) (ea1 (er_tup ea_nil (by decide))) (by decide)) er_c) fun v8 v9 H5 e5 r8 r9 => ?_
  obtain rfl : v9 = V.int 0 := r9
  have r6 := MX.mx e5 r6'
  have r7 := MX.mx e5 r7'
  have rt := MX.mx e5 rt'
  refine q_forS (ei_rng (n := (things.length : Int)) (ea1 (ev_lenTO (R := RSheet) (xs := things) (er_var rt))) (by omega) (by omega)) (fun i σ' Hc => ∃ v4 v8, σ' = [some (.ref a0), some (.ref ta), some v2, some v3, v4, none, some v6, some v7, some v8, some (.int 0), none, none] ∧ LstOf RSet (setsOf i) Hc v8)
    (fun H6 e6 => ⟨none, v8, rfl, MX.mx e6 r8⟩) ?_ ?_
  · rintro i x v σ' Hc Hx N hx sc ⟨v4, v8, rfl, r8⟩ sx rv n
    obtain ⟨hil, rfl⟩ : i < things.length ∧ i = x := by
      obtain ⟨h5, h6⟩ := List.getElem?_eq_some_iff.mp hx
      rw [List.getElem_range] at h6
      rw [List.length_range] at h5
      exact ⟨by omega, h6⟩
    obtain rfl : v = V.int i := rv
    have r8x := MX.mx sx r8
    have hsl : (setsOf i).length ≤ 8 := by
      rw [sets_len]
      have h3 : i ≤ 3 := by omega
      exact Nat.le_trans (Nat.pow_le_pow_right (by decide) h3) (by decide)
    refine eg_name (s_set (R := LstOf RSet (setsOf (i + 1))) (er_catLO (R := RSet) (er_var r8x) (er_lcM (RB := RSet) (fun s : List Nat => s ++ [i]) (ei_lstX (RA := RSet) (er_var r8x)) (by omega) fun s v H7 hs e7 r => eg_name ⟨rfl, er_catTO (R := RNat) (ys := [i]) (er_var r) (er_tup (ps := [RNat i]) (ea1 er_v) (by simp)) (by have := sets_short hs; simp; omega)⟩) (by rw [List.length_map]; omega)) fun v8' H7 e7 r8' => ?_)
    exact n _ _ e7 ⟨_, v8', rfl, r8'⟩
  rintro σ' Hc sc ⟨v4, v8, rfl, r8⟩
  rw [List.length_range, Int.toNat_natCast] at r8
  have r6 := MX.mx sc r6
  have r7 := MX.mx sc r7
  have rt := MX.mx sc rt
  clear n0 nt
  refine q_forS (ei_lstX (RA := RSet) (xs := setsOf things.length) (er_var r8)) (fun j σ' Hd => ∃ v5 m v10 v11, σ' = [some (.ref a0), some (.ref ta), some v2, some v3, v4, v5, some v6, some v7, some v8, some (.int m), v10, v11] ∧ MaxP (okC things (stk (countUp rows))) ((((setsOf things.length).take j).map (candsOf things)).flatten) m)
    (fun H6 e6 => ⟨_, 0, _, _, rfl, MaxP.nil⟩) ?_ ?_
  · rintro j s v5 σ' Hd Hx N hxs sd ⟨v5', m, v10, v11, rfl, hm⟩ sx rs n
    have hsm := List.mem_of_getElem? hxs
    have hlt := sets_lt hsm
    have hsl := sets_short hsm
    have sH := sd.trans sx
    have hshl := sheet_len tok hlt
    refine eg_name (q_set (R := RSheet (sheetOf things s)) (er_call (things, s) (ea2 (er_var (MX.mx sH rt)) (er_var rs)) ⟨hlt, by show (sheetOf things s).length ≤ 1000; omega⟩) fun v10' H7 e7 r10 => ?_)
    have few := few_ch tok hlt (by omega)
    refine s_forS (ei_lstX (RA := RChoice) (xs := chs (sheetOf things s)) (er_call (sheetOf things s) (ea1 (er_var r10)) few)) (fun i σ' He => ∃ m v11, σ' = [some (.ref a0), some (.ref ta), some v2, some v3, v4, some v5, some v6, some v7, some v8, some (.int m), some v10', v11] ∧ MaxP (okC things (stk (countUp rows))) ((((setsOf things.length).take j).map (candsOf things)).flatten ++ ((chs (sheetOf things s)).take i).map fun c => (s, c)) m)
      (fun H8 e8 => ⟨m, _, rfl, by rw [List.take_zero, List.map_nil, List.append_nil]; exact hm⟩) ?_ ?_
    · rintro i c v11 σ' He Hy N2 hxc se ⟨m, v11', rfl, hm⟩ sy rc n2
      have hc := chs_iff.mp (List.mem_of_getElem? hxc)
      have s7 := se.trans sy
      have s57 := (sH.trans e7).trans s7
      have rs7 := MX.mx (e7.trans s7) rs
      have hwf := wants_few tok hlt (by omega) hc
      have hstep : (((setsOf things.length).take j).map (candsOf things)).flatten ++ ((chs (sheetOf things s)).take (i + 1)).map (fun c => (s, c)) = ((((setsOf things.length).take j).map (candsOf things)).flatten ++ ((chs (sheetOf things s)).take i).map fun c => (s, c)) ++ [(s, c)] := by
        rw [take_snoc hxc, List.map_append, List.append_assoc]
        rfl
      refine eg_name (s_when (b := decide ((s.length : Int) > m) && okC things (stk (countUp rows)) (s, c)) (eb_and (eb_test (EvR.is (er_I0 (ev_lenTO (R := RNat) (xs := s) (er_var rs7)) er_v) rfl)) fun _ => eb_B (er_call (countUp rows, wantsOf (sheetOf things s) c) (ea2 (er_var (MX.mx s57 r7)) (er_call (sheetOf things s, c) (ea2 (er_var (MX.mx s7 r10)) (er_var rc)) ⟨hc, by show (wantsOf (sheetOf things s) c).length ≤ 1000; omega⟩)) (go_ok hrl hrows tl hlt hc))) (fun hb H8 e8 => ?_) fun hb H8 e8 => ?_)
      · rw [Bool.and_eq_true] at hb
        refine s_set (R := IsI (s.length : Int)) (ev_lenTO (R := RNat) (xs := s) (er_var (MX.mx e8 rs7))) fun v9' H9 e9 r9 => ?_
        obtain rfl : v9' = V.int (s.length : Int) := r9
        refine n2 _ _ (e8.trans e9) ⟨_, _, rfl, ?_⟩
        rw [hstep]
        exact hm.yes (p := (s, c)) (of_decide_eq_true hb.1) hb.2
      · refine n2 _ _ e8 ⟨_, _, rfl, ?_⟩
        rw [hstep]
        exact hm.no (p := (s, c)) hb
    · rintro σ' He se ⟨m, v11', rfl, hm⟩
      rw [List.take_length] at hm
      refine n _ _ (e7.trans se) ⟨_, m, _, _, rfl, ?_⟩
      rw [take_snoc hxs, List.map_append, List.flatten_append]
      simpa [candsOf] using hm
  rintro σ' Hd sd ⟨v5, m, v10, v11, rfl, hm⟩
  rw [List.take_length] at hm
  have hmx := max_is hm
  have hbest : ∀ places choice given t, BestOk (partsOf rows) things places choice given t → (places.length : Int) = m := fun places choice given t b => (max_best hok.pos hst hsh tl b hmx).symm
  have r6 := MX.mx sd r6
  have rt := MX.mx sd rt
  refine q_when (b := false) (eb_test (EvR.is (er_ne (x := .int m) (y := .int m) (er_callX (S := IsI m) (ps := [RHeap (CH K) (partsOf rows), RThings things, RBest (partsOf rows, things)]) (ea_cons (er_var r6) (ea2 (er_var rt) (er_call (partsOf rows, things) (ea2 (er_var r6) (er_var rt)) ⟨hok, tok⟩))) fun H' vs hp => ?_) er_v rfl) (by simp))) (fun z => by cases z) fun _ H7 e7 => ?_
  · obtain ⟨x1, x2, x3, rfl, k1, k2, places, choice, given, t, b, k3⟩ := hp.three
    exact ⟨(partsOf rows, things, places, choice, given, t), ⟨k1, k2, k3, True.intro⟩, ⟨hok, tw, b, best_deal hrl hrows tok tl b⟩, fun H'' v hv => by
      obtain rfl : v = V.int (places.length : Int) := hv
      show V.int _ = V.int m
      rw [hbest places choice given t b]⟩
  · refine s_ret (R := IsB true) (EvR.is (er_eq (x := .int m) (y := .int m) (er_len0 (i := (partsOf rows, things)) (er_call (partsOf rows, things) (ea2 (er_var (MX.mx e7 r6)) (er_var (MX.mx e7 rt))) ⟨hok, tok⟩) hbest) er_v rfl) (by simp)) fun v H8 e8 r8 => ?_
    obtain rfl : v = V.bl true := r8
    exact q H8
end
end K43
set_option Elab.async false
set_option linter.all false
set_option maxRecDepth 100000
set_option maxHeartbeats 0
/-! # KZ: the end -/
namespace K43
open PySem PySem.Spec PyProof.Rows L2
theorem facts {P : Program} {w : World} {K : PySem.W.Frag} {h h2 : Heap} {mg : Str → Option Value} {f : Addr} (X : K.In h) (G : h.Ns mainGlobals mg) (hfa : mg ("law" : Str) = some (.ref f)) (c : He.SaysX fa fn tabs [] exB w h2 K) :
    ∃ fd : FuncData, (∀ (s : Shared) (v : Value), BindsTo s fd ⟨[v], []⟩ [("_law_script", v)]) ∧ ∀ base : Heap, K.In base → base.Ns mainGlobals mg → FnOk P w K mg base CX0 32 f fd ["_law_script"] (spLaw K) := by
  have T : Tx w K mg := ⟨c.t.d, ⟨h, X, G⟩, c.t.tab 0 rfl, c.more⟩
  obtain ⟨fd, F⟩ := T.f_law
  have e := hfa.symm.trans T.g_law
  cases e
  have b := FunD.bindsA (ps := ["_law_script"]) F fun _ _ _ _ _ _ us hl => match us, hl with | [_], _ => rfl
  exact ⟨fd, fun s v => b s [v] rfl, fun base _ _ => ok_law T F⟩
end K43
open PySem PySem.W PySem.Calls PyProof.Rows
theorem PySem.Challenge.cw_partkits_k43_whole_most_by_all_sets_holds : PySem.Challenge.rw_partkits_k43_whole_most_by_all_sets.Holds := by
  w_on; o_law
  refine HandSHeadRun.head_any (r := OpenLaw.row PySem.Challenge.rw_partkits_k43_whole_most_by_all_sets) (q := view (OpenLaw.row PySem.Challenge.rw_partkits_k43_whole_most_by_all_sets).prog [K43.lawAt]) (H := K43.hdH) (ob := K43.hdO) (M := 4000) (loose := K43.names) (d := HandSHeadRun.topDef (OpenLaw.row PySem.Challenge.rw_partkits_k43_whole_most_by_all_sets).prog K43.lawAt) (kwd := []) K43.hdO_eq
    (by kernel_rfl) (fun s => by kernel_rfl) K43.hd_run (by kernel_rfl) (by kernel_rfl) (by kernel_rfl) (by rfl) (by first | assumption | decide +kernel) (by decide +kernel) ⟨rfl, rfl, rfl, rfl, rfl, by decide +kernel⟩ ?hw ?hc
  case hw => w_witness2
  case hc =>
    refine L2.walk_ofE (l := PySem.Challenge.rw_partkits_k43_whole_most_by_all_sets) (n := 63) (k := 32) (x := "_law_script") (CX := L2.CX0) rfl (by decide) (by kernel_rfl) ⟨rfl, by decide, by decide⟩ ?F (fun _ _ _ _ z => z)
    intro w mg fa h Y G hmg0
    obtain ⟨K, KX, c⟩ := Y
    have hmg : mg ("law" : PySem.Str) = some (.ref fa) := by
      have e : (HandSHeadRun.topDef (OpenLaw.row PySem.Challenge.rw_partkits_k43_whole_most_by_all_sets).prog K43.lawAt).name = ("law" : PySem.Str) := by kernel_rfl
      rw [← e]
      exact hmg0
    obtain ⟨fd, hb, hF⟩ := K43.facts (P := (PySem.Challenge.rw_partkits_k43_whole_most_by_all_sets).prog) (w := w) KX G hmg c
    exact ⟨K, fd, K43.spLaw K, KX, hb, fun H a ns hl _ hS => ⟨a, ns, rfl, hS, fun _ => rfl⟩, hF⟩
