import PyProof.Rows.All
import Wide.All
import OpenK.AllK
import Wide.FinOn
import HandS.ForMost
import KE.KStateDown
import HandS.More
import HandS.Defaults
import KE.HD0
import KE.HD1
import KE.HD2
import KE.HD3
import HandS.HeadEnd
import HandS.HeadHook1
import HandS.HeadHook2
import HandS.Conv
import HandS.IsInst
import HandS.Flow
import HandS.Zip
import HandS.Exc
import HandS.TupAny
import HandS.SetFor
import HandS.Style
import HandS.Strs
import HandS.Deep
import HandS.WideBits
import HandS.Gcd
import HandS.SortInts
import HandS.Text
import HandS.SetBool
import HandS.TupSets
import PyProof.Rows.SortStr
import PyProof.Rows.SeqMore
import HandS.ListItems
import HandS.Small
import HandS.SortRule
import HandS.ExcOwn
import HandS.ExcIs
import HandS.WordsExc
import OpenK.KMore
import HandS.EndBits
import PySem.Challenge.RW_eachinturn_k82_whole_lengths_beside_one
set_option Elab.async false
set_option linter.all false
set_option maxRecDepth 100000
/-! text Txt -/
section
namespace EIT
open PySem PySem.Spec PyProof.Rows L2
def topS (i : Nat) : Stmt := PySem.Challenge.pw_eachinturn_k82_whole_lengths_beside_one.main.body.getD i (.Pass ⟨0, 0, 0, 0⟩)
abbrev s_is_integer : Stmt := topS 12
abbrev s_is_within : Stmt := topS 13
abbrev s_is_name : Stmt := topS 14
abbrev s_is_row_of : Stmt := topS 15
abbrev s_are_unlike : Stmt := topS 16
abbrev s_are_numbers : Stmt := topS 17
abbrev s_power : Stmt := topS 18
abbrev s_are_places : Stmt := topS 22
abbrev s_is_road : Stmt := topS 23
abbrev s_is_web_form : Stmt := topS 24
abbrev s_is_order : Stmt := topS 25
abbrev s_need_order : Stmt := topS 26
abbrev s_have_road : Stmt := topS 27
abbrev s_neighbours_of : Stmt := topS 28
abbrev s_is_table : Stmt := topS 35
abbrev s_is_sum_table : Stmt := topS 36
abbrev s_is_rule_for : Stmt := topS 37
abbrev s_is_rule : Stmt := topS 38
abbrev s_is_hall_form : Stmt := topS 39
abbrev s_need_hall : Stmt := topS 40
abbrev s_number_of_digits : Stmt := topS 42
abbrev s_digits_of : Stmt := topS 43
abbrev s_next_by_word : Stmt := topS 44
abbrev s_neighbour_numbers : Stmt := topS 45
abbrev s_table_in : Stmt := topS 46
abbrev s_all_states : Stmt := topS 47
abbrev s_index_at : Stmt := topS 49
abbrev s_numbers_of : Stmt := topS 50
abbrev s_steps_at : Stmt := topS 51
abbrev s_steps_in : Stmt := topS 52
abbrev s_day_numbers : Stmt := topS 53
abbrev s_last_ones : Stmt := topS 55
abbrev s_ring_from : Stmt := topS 56
abbrev s_rings_in : Stmt := topS 57
abbrev s_joined_hall : Stmt := topS 59
abbrev s_can_join : Stmt := topS 60
abbrev s_are_turns : Stmt := topS 61
abbrev s_woven : Stmt := topS 62
abbrev s_are_lengths : Stmt := topS 63
abbrev s_lengths_beside : Stmt := topS 64
abbrev s_need_both : Stmt := topS 66
abbrev s_beside : Stmt := topS 67
abbrev s_woven_order : Stmt := topS 68
abbrev s_beside_lengths : Stmt := topS 69
abbrev s_need_two : Stmt := topS 71
abbrev s_ring_lengths : Stmt := topS 72
abbrev s_law_feed : Stmt := topS 74
abbrev s_law_draw : Stmt := topS 75
abbrev s_law_one : Stmt := topS 76
abbrev s_law_mixed : Stmt := topS 77
abbrev s_law_names : Stmt := topS 78
abbrev s_law_web : Stmt := topS 79
abbrev s_law_neighbours : Stmt := topS 80
abbrev s_law_rule : Stmt := topS 81
abbrev s_law_hall : Stmt := topS 82
abbrev s_law_order : Stmt := topS 83
abbrev s_law_renamed : Stmt := topS 88
abbrev s_law_common : Stmt := topS 89
abbrev s_law_due : Stmt := topS 90
abbrev s_law_drawn : Stmt := topS 91
abbrev s_law_states_on : Stmt := topS 92
abbrev s_law_bad_lengths : Stmt := topS 93
abbrev s_law_word : Stmt := topS 94
abbrev s_law_lists_right : Stmt := topS 95
abbrev s_law_halls_right : Stmt := topS 96
abbrev s_law : Stmt := topS 97
abbrev s_Days_init : Stmt := inClass (topS 54) 0
end EIT
end
/-! text HeadF -/
section
set_option maxHeartbeats 0
namespace EIT
open PySem PySem.Spec PyProof.Rows L2
def d0 : He.DefD := ⟨("is_integer", none), "is_integer", "is_integer", defArgs s_is_integer, defBody s_is_integer, defScope s_is_integer, [], []⟩
def d1 : He.DefD := ⟨("is_within", none), "is_within", "is_within", defArgs s_is_within, defBody s_is_within, defScope s_is_within, [], []⟩
def d2 : He.DefD := ⟨("is_name", none), "is_name", "is_name", defArgs s_is_name, defBody s_is_name, defScope s_is_name, [], []⟩
def d3 : He.DefD := ⟨("is_row_of", none), "is_row_of", "is_row_of", defArgs s_is_row_of, defBody s_is_row_of, defScope s_is_row_of, [], []⟩
def d4 : He.DefD := ⟨("are_unlike", none), "are_unlike", "are_unlike", defArgs s_are_unlike, defBody s_are_unlike, defScope s_are_unlike, [], []⟩
def d5 : He.DefD := ⟨("are_numbers", none), "are_numbers", "are_numbers", defArgs s_are_numbers, defBody s_are_numbers, defScope s_are_numbers, [], []⟩
def d6 : He.DefD := ⟨("power", none), "power", "power", defArgs s_power, defBody s_power, defScope s_power, [], []⟩
def d7 : He.DefD := ⟨("are_places", none), "are_places", "are_places", defArgs s_are_places, defBody s_are_places, defScope s_are_places, [], []⟩
def d8 : He.DefD := ⟨("is_road", none), "is_road", "is_road", defArgs s_is_road, defBody s_is_road, defScope s_is_road, [], []⟩
def d9 : He.DefD := ⟨("is_web_form", none), "is_web_form", "is_web_form", defArgs s_is_web_form, defBody s_is_web_form, defScope s_is_web_form, [], []⟩
def d10 : He.DefD := ⟨("is_order", none), "is_order", "is_order", defArgs s_is_order, defBody s_is_order, defScope s_is_order, [], []⟩
def d11 : He.DefD := ⟨("need_order", none), "need_order", "need_order", defArgs s_need_order, defBody s_need_order, defScope s_need_order, [], []⟩
def d12 : He.DefD := ⟨("have_road", none), "have_road", "have_road", defArgs s_have_road, defBody s_have_road, defScope s_have_road, [], []⟩
def d13 : He.DefD := ⟨("neighbours_of", none), "neighbours_of", "neighbours_of", defArgs s_neighbours_of, defBody s_neighbours_of, defScope s_neighbours_of, [], []⟩
def d14 : He.DefD := ⟨("is_table", none), "is_table", "is_table", defArgs s_is_table, defBody s_is_table, defScope s_is_table, [], []⟩
def d15 : He.DefD := ⟨("is_sum_table", none), "is_sum_table", "is_sum_table", defArgs s_is_sum_table, defBody s_is_sum_table, defScope s_is_sum_table, [], []⟩
def d16 : He.DefD := ⟨("is_rule_for", none), "is_rule_for", "is_rule_for", defArgs s_is_rule_for, defBody s_is_rule_for, defScope s_is_rule_for, [], []⟩
def d17 : He.DefD := ⟨("is_rule", none), "is_rule", "is_rule", defArgs s_is_rule, defBody s_is_rule, defScope s_is_rule, [], []⟩
def d18 : He.DefD := ⟨("is_hall_form", none), "is_hall_form", "is_hall_form", defArgs s_is_hall_form, defBody s_is_hall_form, defScope s_is_hall_form, [], []⟩
def d19 : He.DefD := ⟨("need_hall", none), "need_hall", "need_hall", defArgs s_need_hall, defBody s_need_hall, defScope s_need_hall, [], []⟩
def d20 : He.DefD := ⟨("number_of_digits", none), "number_of_digits", "number_of_digits", defArgs s_number_of_digits, defBody s_number_of_digits, defScope s_number_of_digits, [], []⟩
def d21 : He.DefD := ⟨("digits_of", none), "digits_of", "digits_of", defArgs s_digits_of, defBody s_digits_of, defScope s_digits_of, [], []⟩
def d22 : He.DefD := ⟨("next_by_word", none), "next_by_word", "next_by_word", defArgs s_next_by_word, defBody s_next_by_word, defScope s_next_by_word, [], []⟩
def d23 : He.DefD := ⟨("neighbour_numbers", none), "neighbour_numbers", "neighbour_numbers", defArgs s_neighbour_numbers, defBody s_neighbour_numbers, defScope s_neighbour_numbers, [], []⟩
def d24 : He.DefD := ⟨("table_in", none), "table_in", "table_in", defArgs s_table_in, defBody s_table_in, defScope s_table_in, [], []⟩
def d25 : He.DefD := ⟨("all_states", none), "all_states", "all_states", defArgs s_all_states, defBody s_all_states, defScope s_all_states, [], []⟩
def d26 : He.DefD := ⟨("index_at", none), "index_at", "index_at", defArgs s_index_at, defBody s_index_at, defScope s_index_at, [], []⟩
def d27 : He.DefD := ⟨("numbers_of", none), "numbers_of", "numbers_of", defArgs s_numbers_of, defBody s_numbers_of, defScope s_numbers_of, [], []⟩
def d28 : He.DefD := ⟨("steps_at", none), "steps_at", "steps_at", defArgs s_steps_at, defBody s_steps_at, defScope s_steps_at, [], []⟩
def d29 : He.DefD := ⟨("steps_in", none), "steps_in", "steps_in", defArgs s_steps_in, defBody s_steps_in, defScope s_steps_in, [], []⟩
def d30 : He.DefD := ⟨("day_numbers", none), "day_numbers", "day_numbers", defArgs s_day_numbers, defBody s_day_numbers, defScope s_day_numbers, [], []⟩
def d31 : He.DefD := ⟨("last_ones", none), "last_ones", "last_ones", defArgs s_last_ones, defBody s_last_ones, defScope s_last_ones, [], []⟩
def d32 : He.DefD := ⟨("ring_from", none), "ring_from", "ring_from", defArgs s_ring_from, defBody s_ring_from, defScope s_ring_from, [], []⟩
def d33 : He.DefD := ⟨("rings_in", none), "rings_in", "rings_in", defArgs s_rings_in, defBody s_rings_in, defScope s_rings_in, [], []⟩
def d34 : He.DefD := ⟨("joined_hall", none), "joined_hall", "joined_hall", defArgs s_joined_hall, defBody s_joined_hall, defScope s_joined_hall, [], []⟩
def d35 : He.DefD := ⟨("can_join", none), "can_join", "can_join", defArgs s_can_join, defBody s_can_join, defScope s_can_join, [], []⟩
def d36 : He.DefD := ⟨("are_turns", none), "are_turns", "are_turns", defArgs s_are_turns, defBody s_are_turns, defScope s_are_turns, [], []⟩
def d37 : He.DefD := ⟨("woven", none), "woven", "woven", defArgs s_woven, defBody s_woven, defScope s_woven, [], []⟩
def d38 : He.DefD := ⟨("are_lengths", none), "are_lengths", "are_lengths", defArgs s_are_lengths, defBody s_are_lengths, defScope s_are_lengths, [], []⟩
def d39 : He.DefD := ⟨("lengths_beside", none), "lengths_beside", "lengths_beside", defArgs s_lengths_beside, defBody s_lengths_beside, defScope s_lengths_beside, [], []⟩
def d40 : He.DefD := ⟨("need_both", none), "need_both", "need_both", defArgs s_need_both, defBody s_need_both, defScope s_need_both, [], []⟩
def d41 : He.DefD := ⟨("beside", none), "beside", "beside", defArgs s_beside, defBody s_beside, defScope s_beside, [], []⟩
def d42 : He.DefD := ⟨("woven_order", none), "woven_order", "woven_order", defArgs s_woven_order, defBody s_woven_order, defScope s_woven_order, [], []⟩
def d43 : He.DefD := ⟨("beside_lengths", none), "beside_lengths", "beside_lengths", defArgs s_beside_lengths, defBody s_beside_lengths, defScope s_beside_lengths, [], []⟩
def d44 : He.DefD := ⟨("need_two", none), "need_two", "need_two", defArgs s_need_two, defBody s_need_two, defScope s_need_two, [], []⟩
def d45 : He.DefD := ⟨("ring_lengths", none), "ring_lengths", "ring_lengths", defArgs s_ring_lengths, defBody s_ring_lengths, defScope s_ring_lengths, [], []⟩
def d46 : He.DefD := ⟨("_law_feed", none), "_law_feed", "_law_feed", defArgs s_law_feed, defBody s_law_feed, defScope s_law_feed, [], []⟩
def d47 : He.DefD := ⟨("_law_draw", none), "_law_draw", "_law_draw", defArgs s_law_draw, defBody s_law_draw, defScope s_law_draw, [], []⟩
def d48 : He.DefD := ⟨("_law_one", none), "_law_one", "_law_one", defArgs s_law_one, defBody s_law_one, defScope s_law_one, [], []⟩
def d49 : He.DefD := ⟨("_law_mixed", none), "_law_mixed", "_law_mixed", defArgs s_law_mixed, defBody s_law_mixed, defScope s_law_mixed, [], []⟩
def d50 : He.DefD := ⟨("_law_names", none), "_law_names", "_law_names", defArgs s_law_names, defBody s_law_names, defScope s_law_names, [], []⟩
def d51 : He.DefD := ⟨("_law_web", none), "_law_web", "_law_web", defArgs s_law_web, defBody s_law_web, defScope s_law_web, [], []⟩
def d52 : He.DefD := ⟨("_law_neighbours", none), "_law_neighbours", "_law_neighbours", defArgs s_law_neighbours, defBody s_law_neighbours, defScope s_law_neighbours, [], []⟩
def d53 : He.DefD := ⟨("_law_rule", none), "_law_rule", "_law_rule", defArgs s_law_rule, defBody s_law_rule, defScope s_law_rule, [], []⟩
def d54 : He.DefD := ⟨("_law_hall", none), "_law_hall", "_law_hall", defArgs s_law_hall, defBody s_law_hall, defScope s_law_hall, [], []⟩
def d55 : He.DefD := ⟨("_law_order", none), "_law_order", "_law_order", defArgs s_law_order, defBody s_law_order, defScope s_law_order, [], []⟩
def d56 : He.DefD := ⟨("_law_renamed", none), "_law_renamed", "_law_renamed", defArgs s_law_renamed, defBody s_law_renamed, defScope s_law_renamed, [], []⟩
def d57 : He.DefD := ⟨("_law_common", none), "_law_common", "_law_common", defArgs s_law_common, defBody s_law_common, defScope s_law_common, [], []⟩
def d58 : He.DefD := ⟨("_law_due", none), "_law_due", "_law_due", defArgs s_law_due, defBody s_law_due, defScope s_law_due, [], []⟩
def d59 : He.DefD := ⟨("_law_drawn", none), "_law_drawn", "_law_drawn", defArgs s_law_drawn, defBody s_law_drawn, defScope s_law_drawn, [], []⟩
def d60 : He.DefD := ⟨("_law_states_on", none), "_law_states_on", "_law_states_on", defArgs s_law_states_on, defBody s_law_states_on, defScope s_law_states_on, [], []⟩
def d61 : He.DefD := ⟨("_law_bad_lengths", none), "_law_bad_lengths", "_law_bad_lengths", defArgs s_law_bad_lengths, defBody s_law_bad_lengths, defScope s_law_bad_lengths, [], []⟩
def d62 : He.DefD := ⟨("_law_word", none), "_law_word", "_law_word", defArgs s_law_word, defBody s_law_word, defScope s_law_word, [], []⟩
def d63 : He.DefD := ⟨("_law_lists_right", none), "_law_lists_right", "_law_lists_right", defArgs s_law_lists_right, defBody s_law_lists_right, defScope s_law_lists_right, [], []⟩
def d64 : He.DefD := ⟨("_law_halls_right", none), "_law_halls_right", "_law_halls_right", defArgs s_law_halls_right, defBody s_law_halls_right, defScope s_law_halls_right, [], []⟩
def d65 : He.DefD := ⟨("law", none), "law", "law", defArgs s_law, defBody s_law, defScope s_law, [], []⟩
def d66 : He.DefD := ⟨("Days", some "__init__"), "__init__", "Days.__init__", defArgs s_Days_init, defBody s_Days_init, defScope s_Days_init, [], []⟩
def fn : List He.DefD := [d0, d1, d2, d3, d4, d5, d6, d7, d8, d9, d10, d11, d12, d13, d14, d15, d16, d17, d18, d19, d20, d21, d22, d23, d24, d25, d26, d27, d28, d29, d30, d31, d32, d33, d34, d35, d36, d37, d38, d39, d40, d41, d42, d43, d44, d45, d46, d47, d48, d49, d50, d51, d52, d53, d54, d55, d56, d57, d58, d59, d60, d61, d62, d63, d64, d65, d66]
def fa0 : List He.Fa := [(.glo "is_integer"), (.glo "is_within"), (.glo "is_name"), (.glo "is_row_of"), (.glo "are_unlike"), (.glo "are_numbers"), (.glo "power"), (.glo "are_places"), (.glo "is_road"), (.glo "is_web_form"), (.glo "is_order"), (.glo "need_order"), (.glo "have_road"), (.glo "neighbours_of"), (.glo "is_table"), (.glo "is_sum_table"), (.glo "is_rule_for"), (.glo "is_rule"), (.glo "is_hall_form"), (.glo "need_hall"), (.glo "number_of_digits"), (.glo "digits_of"), (.glo "next_by_word"), (.glo "neighbour_numbers"), (.glo "table_in"), (.glo "all_states"), (.glo "index_at"), (.glo "numbers_of"), (.glo "steps_at"), (.glo "steps_in")]
def fa1 : List He.Fa := [(.glo "day_numbers"), (.glo "last_ones"), (.glo "ring_from"), (.glo "rings_in"), (.glo "joined_hall"), (.glo "can_join"), (.glo "are_turns"), (.glo "woven"), (.glo "are_lengths"), (.glo "lengths_beside"), (.glo "need_both"), (.glo "beside"), (.glo "woven_order"), (.glo "beside_lengths"), (.glo "need_two"), (.glo "ring_lengths"), (.glo "_law_feed"), (.glo "_law_draw"), (.glo "_law_one"), (.glo "_law_mixed"), (.glo "_law_names"), (.glo "_law_web"), (.glo "_law_neighbours"), (.glo "_law_rule"), (.glo "_law_hall"), (.glo "_law_order"), (.glo "_law_renamed"), (.glo "_law_common"), (.glo "_law_due"), (.glo "_law_drawn")]
def fa2 : List He.Fa := [(.glo "_law_states_on"), (.glo "_law_bad_lengths"), (.glo "_law_word"), (.glo "_law_lists_right"), (.glo "_law_halls_right"), (.glo "law"), (.glo "Days"), (.glo "PLAIN"), (.glo "BadLengths"), (.glo "TurnError"), (.free "isinstance"), (.free "len"), (.free "all"), (.free "any"), (.free "set"), (.free "tuple"), (.free "sorted"), (.free "range"), (.free "zip"), (.free "min"), (.free "max"), (.free "sum"), (.free "int"), (.free "list"), (.free "enumerate"), (.free "dict"), (.free "repr"), (.free "bool"), (.free "str"), (.int "MOST_SIGNS" 8)]
def fa3 : List He.Fa := [(.int "MOST_PLACES" 8), (.int "MOST_ROADS" 14), (.int "MOST_STATES" 256), (.int "LEAST_KIND" 2), (.int "MOST_KIND" 3), (.int "MOST_NEEDED" 9), (.str "LETTERS" "abcdefghijklmnopqrstuvwxyz"), (.str "DIGITS" "0123456789"), (.cls "Days"), (.mkr "Days"), (.noat "Days" "held_hall"), (.noat "Days" "states"), (.noat "Days" "table"), (.exc "BadLengths"), (.exm "BadLengths" "TurnError" true), (.exm "BadLengths" "BadLengths" true), (.keep "BadLengths"), (.keep "TurnError")]
def fa : List He.Fa := fa0 ++ fa1 ++ fa2 ++ fa3
def exB (K : PySem.W.Frag) (C : Addr) : Bool := He.eqO (PySem.W.findIn K (.ref C) "__getattribute__") (some (some (.builtin "BaseException.__getattribute__"))) && (He.eqO (PySem.W.findIn K (.ref C) "__getattr__") (some none) && (PySem.W.hasDictIn K C && (He.eqO (PySem.W.findIn K (.ref C) "__class__") (some (some (.builtin "object.__class__"))) && (He.eqO (PySem.W.specialIn K (.builtin "object.__class__") "__get__") (some (some (.builtin "getset_descriptor.__get__"))) && (decide (PySem.W.takesIn K (.builtin "object.__class__") = some true) && (decide (PySem.W.mroIn K C (.type "object") = some true) && decide (PySem.W.kitOne K (.ref C) (.ref C) = some true)))))))
def ex (K : PySem.W.Frag) : Bool := He.tupB K "PLAIN" [.str "keep", .str "least", .str "greatest", .str "odd"] && decide (PySem.W.nsIn K mainGlobals "gcd" = some (some (.builtin "math.gcd"))) && exB K (He.ga K "BadLengths")
def loose0 : List Str := ["TurnError", "BadHall", "BadOrder", "BadJoin", "BadTurns", "BadLengths", "LETTERS", "DIGITS", "MOST_SIGNS", "is_integer", "is_within", "is_name", "is_row_of", "are_unlike", "are_numbers", "power", "MOST_PLACES", "MOST_ROADS", "are_places", "is_road", "is_web_form", "is_order", "need_order", "have_road", "neighbours_of", "MOST_STATES", "LEAST_KIND", "MOST_KIND", "MOST_NEEDED", "PLAIN"]
def loose1 : List Str := ["is_table", "is_sum_table", "is_rule_for", "is_rule", "is_hall_form", "need_hall", "number_of_digits", "digits_of", "next_by_word", "neighbour_numbers", "table_in", "all_states", "number_in", "index_at", "numbers_of", "steps_at", "steps_in", "day_numbers", "Days", "last_ones", "ring_from", "rings_in", "joined_hall", "can_join", "are_turns", "woven", "are_lengths", "lengths_beside", "need_both", "beside"]
def loose2 : List Str := ["woven_order", "beside_lengths", "need_two", "ring_lengths", "_law_feed", "_law_draw", "_law_one", "_law_mixed", "_law_names", "_law_web", "_law_neighbours", "_law_rule", "_law_hall", "_law_order", "_law_state", "_law_next", "_law_step", "_law_states", "_law_renamed", "_law_common", "_law_due", "_law_drawn", "_law_states_on", "_law_bad_lengths", "_law_word", "_law_lists_right", "_law_halls_right"]
def loose : List Str := loose0 ++ loose1 ++ loose2
abbrev AlK : Type := He.AlD × Bool
/-- what the module's names reach, level by level (nothing is looked for twice, so doubles stay) -/
def lvl (g : Addr → Option Obj) (as : List Addr) : List Addr := as.flatMap fun a => match g a with
  | some o => He.refsD o
  | none => []
def asL (g : Addr → Option Obj) : Nat → List Addr → List Addr
  | 0, as => as
  | n + 1, as => as ++ asL g n (lvl g as)
def obsKG (g : Addr → Option Obj) : AlK := (He.obsD fa fn (He.frG g (asL g 4 [mainGlobals])), ex (He.frG g (asL g 4 [mainGlobals])))
def hk : PySem.W.Hook where
  α := AlK
  obs := fun s => obsKG s.heap.get?
  val := fun _ => (He.valD fn, true)
  says := fun _ h => ∃ K : PySem.W.Frag, K.In h ∧ He.SaysD fa fn K ∧ ex K = true
  of := fun _ _ e => ⟨_, He.frG_in, congrArg (fun z : AlK => z.1) e, congrArg (fun z : AlK => z.2) e⟩
  keeps := fun _ _ _ ⟨K, hK, c⟩ k => ⟨K, PySem.W.Frag.In.keeps hK k, c⟩
abbrev R : PySem.W.OpenRow := PySem.W.OpenLaw.row PySem.Challenge.rw_eachinturn_k82_whole_lengths_beside_one
def ob (s : PySem.W.SharedT) : AlK := obsKG (HeadRun.getT s)
theorem ob_eq (s : PySem.W.SharedT) : ob s = hk.obs s.abs := by
  have e : HeadRun.getT s = s.abs.heap.get? := funext (HeadRun.getT_eq s)
  show obsKG (HeadRun.getT s) = obsKG s.abs.heap.get?
  rw [e]
/-! the run, looked at in four ways (each alone takes less memory) -/
theorem runA (w : World) : (HeadRun.wholeF (fun p => HeadRun.stepQ (HeadRun.denQ HeadRun.tabQ) p w) HeadRun.fenceQ 8000 R.prog).map (fun x => HeadRun.looksF R.prog x.1.heap x.2.abs) = some true := by
  kernel_rfl
theorem runB (w : World) : (HeadRun.wholeF (fun p => HeadRun.stepQ (HeadRun.denQ HeadRun.tabQ) p w) HeadRun.fenceQ 8000 R.prog).map (fun x => HeadRun.seenQ (PySem.W.view R.prog [0, 97]) loose (PySem.importedModules R.prog.main.body) (fun s => PySem.W.xlAt (PySem.W.view R.prog [0, 97]) [] s && PySem.W.recOk R.toRowW.records s) x.2.abs) = some (PySem.W.openGood (PySem.W.view R.prog [0, 97]) loose) := by
  kernel_rfl
theorem runC (w : World) : (HeadRun.wholeF (fun p => HeadRun.stepQ (HeadRun.denQ HeadRun.tabQ) p w) HeadRun.fenceQ 8000 R.prog).map (fun x => (ob x.2).1) = some (He.valD fn) := by
  kernel_rfl
theorem runD (w : World) : (HeadRun.wholeF (fun p => HeadRun.stepQ (HeadRun.denQ HeadRun.tabQ) p w) HeadRun.fenceQ 8000 R.prog).map (fun x => (ob x.2).2) = some true := by
  kernel_rfl
theorem run_of {α β γ : Type} {o : Option α} {f : α → Bool} {g : α → β} {h : α → γ × Bool} {p : Bool} {q : β} {r : γ} {t : Bool} (ha : o.map f = some p) (hb : o.map g = some q) (hc : o.map (fun x => (h x).1) = some r) (hd : o.map (fun x => (h x).2) = some t) : o.map (fun x => (f x, g x, h x)) = some (p, q, (r, t)) := by
  cases o with
  | none => cases ha
  | some x =>
    have ha := Option.some.inj ha
    have hb := Option.some.inj hb
    have hc := Option.some.inj hc
    have hd := Option.some.inj hd
    subst ha hb hc hd
    rfl
theorem run (w : World) : HeadRun.RunEqI R (PySem.W.view R.prog [0, 97]) hk ob 8000 loose w := by
  unfold HeadRun.RunEqI
  exact run_of (runA w) (runB w) (runC w) (runD w)
end EIT
end
/-! text Dat -/
section
set_option maxHeartbeats 4000000
/-! What an expression comes to, told as data: a value v stands for the data d in the part of the heap that no one changes (the mask M names the lists that are being changed). -/
namespace EIT
open PySem PySem.Spec PyProof.Rows L2

/-! ### the mask -/
abbrev Mk : Type := Addr → Bool
def Hm (M : Mk) (H : Hp) : Hp := fun a => if M a = true then none else H a
theorem hm_some {M : Mk} {H : Hp} {a : Addr} {o : HO} (h : Hm M H a = some o) : M a = false ∧ H a = some o := by
  unfold Hm at h
  by_cases e : M a = true
  · rw [if_pos e] at h; cases h
  · rw [if_neg e] at h; exact ⟨by simpa using e, h⟩
theorem hm_of {M : Mk} {H : Hp} {a : Addr} {o : HO} (e : M a = false) (h : H a = some o) : Hm M H a = some o := by
  unfold Hm
  rw [if_neg (by rw [e]; decide)]; exact h
theorem hm_sub (M : Mk) (H : Hp) : Same (Hm M H) H := fun _ _ h => (hm_some h).2
theorem hm_mono {M : Mk} {H H' : Hp} (e : Same H H') : Same (Hm M H) (Hm M H') := fun a o h => hm_of (hm_some h).1 (e a o (hm_some h).2)
/-- what is masked stands there -/
def Wd (M : Mk) (H : Hp) : Prop := ∀ a, M a = true → H a ≠ none
theorem Wd.mono {M : Mk} {H H' : Hp} (w : Wd M H) (e : Same H H') : Wd M H' := fun a ha hn => by
  cases q : H a with
  | none => exact w a ha q
  | some o => rw [e a o q] at hn; cases hn
theorem Wd.new {M : Mk} {H : Hp} {p : Addr} (w : Wd M H) (h : H p = none) : M p = false := by
  cases e : M p with
  | false => rfl
  | true => exact absurd h (w p e)
def noM : Mk := fun _ => false
theorem wd_no (H : Hp) : Wd noM H := fun _ h => Bool.noConfusion h
theorem hm_no (H : Hp) : Hm noM H = H := by
  funext a; unfold Hm noM; rw [if_neg Bool.false_ne_true]
/-- one more -/
def addM (M : Mk) (p : Addr) : Mk := fun a => M a || decide (a = p)
theorem addM_same {M : Mk} {p : Addr} : addM M p p = true := by unfold addM; rw [decide_eq_true rfl, Bool.or_true]
theorem addM_old {M : Mk} {p a : Addr} (h : M a = true) : addM M p a = true := by unfold addM; rw [h, Bool.true_or]
theorem addM_ne {M : Mk} {p a : Addr} (h : a ≠ p) : addM M p a = M a := by unfold addM; rw [decide_eq_false h, Bool.or_false]
theorem wd_add {M : Mk} {H : Hp} {p : Addr} (w : Wd M H) (h : H p ≠ none) : Wd (addM M p) H := fun a ha => by
  unfold addM at ha
  rcases Bool.or_eq_true_iff.mp ha with k | k
  · exact w a k
  · rw [of_decide_eq_true k]; exact h
theorem hm_add_sub (M : Mk) (p : Addr) (H : Hp) : Same (Hm (addM M p) H) (Hm M H) := fun a o h => by
  obtain ⟨h1, h2⟩ := hm_some h
  refine hm_of ?_ h2
  unfold addM at h1
  exact (Bool.or_eq_false_iff.mp h1).1
/-- a change of what is masked is not seen -/
theorem hm_upd {M : Mk} {H : Hp} {p : Addr} {o : HO} (h : M p = true) : Hm M (upd H p o) = Hm M H := by
  funext a
  unfold Hm
  by_cases e : a = p
  · subst e; rw [if_pos h, if_pos h]
  · rw [upd_ne e]
/-- at a new place, masked from now on -/
theorem hm_new {M : Mk} {H : Hp} {p : Addr} {o : HO} (h : H p = none) : Same (Hm M H) (Hm (addM M p) (upd H p o)) := fun a u e => by
  obtain ⟨e1, e2⟩ := hm_some e
  have ne : a ≠ p := ne_of_none e2 h
  refine hm_of (by rw [addM_ne ne]; exact e1) ?_
  rw [upd_ne ne]; exact e2
theorem same_new {H : Hp} {p : Addr} {o : HO} (h : H p = none) : Same H (upd H p o) := fun b x e => by
  rw [upd_ne (ne_of_none e h)]; exact e
/-- an object that the elder heap does not know may change -/
theorem same_mut {H H' : Hp} {p : Addr} {o : HO} (e : Same H H') (h : H p = none) : Same H (upd H' p o) := fun a u ha => by
  rw [upd_ne (ne_of_none ha h)]; exact e a u ha

/-! ### data -/
section
variable {K : PySem.W.Frag} {H H' : Hp}
theorem sqT_mono {a : Addr} {xs : List V} (e : Same H H') (h : SqT K H a xs) : SqT K H' a xs := by
  rcases h with (h | ⟨o, h⟩) | h
  · exact .inl (.inl (e _ _ h))
  · exact .inl (.inr ⟨o, e _ _ h⟩)
  · exact .inr h
theorem sqL_mono {a : Addr} {xs : List V} (e : Same H H') (h : SqL K H a xs) : SqL K H' a xs := e.seq h
mutual
theorem dp_mono (e : Same H H') : ∀ (d : PyData) (v : V), Dp K H v d → Dp K H' v d
  | .none, _, h => by cases h; exact .non
  | .bool _, _, h => by cases h; exact .bl _
  | .int _, _, h => by cases h; exact .int _
  | .str _, _, h => by cases h; exact .str _
  | .list ds, _, h => by
    cases h with
    | lst hs ha => exact .lst (sqL_mono e hs) (dps_mono e ds _ ha)
  | .tuple ds, _, h => by
    cases h with
    | tup hs ha => exact .tup (sqT_mono e hs) (dps_mono e ds _ ha)
  | .dict _, _, h => by cases h
theorem dps_mono (e : Same H H') : ∀ (ds : List PyData) (vs : List V), DpAll K H vs ds → DpAll K H' vs ds
  | [], _, h => by cases h; exact .nil
  | d :: ds, _, h => by
    cases h with
    | cons h1 h2 => exact .cons (dp_mono e d _ h1) (dps_mono e ds _ h2)
end
theorem _root_.L2.Dp.up {v : V} {d : PyData} (h : Dp K H v d) (e : Same H H') : Dp K H' v d := dp_mono e d v h
theorem _root_.L2.DpAll.up {vs : List V} {ds : List PyData} (h : DpAll K H vs ds) (e : Same H H') : DpAll K H' vs ds := dps_mono e ds vs h
theorem dps_len : ∀ {vs : List V} {ds : List PyData}, DpAll K H vs ds → vs.length = ds.length
  | _, _, .nil => rfl
  | _, _, .cons _ t => by rw [List.length_cons, List.length_cons, dps_len t]
theorem dps_get : ∀ {vs : List V} {ds : List PyData} {i : Nat} {d : PyData}, DpAll K H vs ds → ds[i]? = some d → ∃ v, vs[i]? = some v ∧ Dp K H v d
  | _, _, _, _, .nil, e => by simp at e
  | _, _, 0, _, .cons h _, e => by simp at e; subst e; exact ⟨_, rfl, h⟩
  | _, _, i + 1, d, .cons _ t, e => by
    obtain ⟨v, h1, h2⟩ := dps_get (i := i) (d := d) t (by simpa using e)
    exact ⟨v, by simpa using h1, h2⟩
theorem dps_at : ∀ {vs : List V} {ds : List PyData} {i : Nat} {v : V}, DpAll K H vs ds → vs[i]? = some v → ∃ d, ds[i]? = some d ∧ Dp K H v d
  | _, _, _, _, .nil, e => by simp at e
  | _, _, 0, _, .cons h _, e => by simp at e; subst e; exact ⟨_, rfl, h⟩
  | _, _, i + 1, v, .cons _ t, e => by
    obtain ⟨d, h1, h2⟩ := dps_at (i := i) (v := v) t (by simpa using e)
    exact ⟨d, by simpa using h1, h2⟩
theorem dps_append : ∀ {vs ws : List V} {ds es : List PyData}, DpAll K H vs ds → DpAll K H ws es → DpAll K H (vs ++ ws) (ds ++ es)
  | _, _, _, _, .nil, h => h
  | _, _, _, _, .cons h t, k => .cons h (dps_append t k)
theorem dps_one {v : V} {d : PyData} (h : Dp K H v d) : DpAll K H [v] [d] := .cons h .nil
theorem dps_drop : ∀ {vs : List V} {ds : List PyData} (n : Nat), DpAll K H vs ds → DpAll K H (vs.drop n) (ds.drop n)
  | _, _, 0, h => h
  | _, _, _ + 1, .nil => .nil
  | _, _, n + 1, .cons _ t => dps_drop n t
theorem dps_take : ∀ {vs : List V} {ds : List PyData} (n : Nat), DpAll K H vs ds → DpAll K H (vs.take n) (ds.take n)
  | _, _, 0, _ => .nil
  | _, _, _ + 1, .nil => .nil
  | _, _, n + 1, .cons h t => .cons h (dps_take n t)
theorem dps_reverse : ∀ {vs : List V} {ds : List PyData}, DpAll K H vs ds → DpAll K H vs.reverse ds.reverse
  | _, _, .nil => .nil
  | _, _, .cons h t => by
    rw [List.reverse_cons, List.reverse_cons]
    exact dps_append (dps_reverse t) (dps_one h)
theorem dps_erase : ∀ {vs : List V} {ds : List PyData} (i : Nat), DpAll K H vs ds → DpAll K H (vs.eraseIdx i) (ds.eraseIdx i)
  | _, _, _, .nil => .nil
  | _, _, 0, .cons _ t => t
  | _, _, i + 1, .cons h t => .cons h (dps_erase i t)
/-- of plain things the values are told -/
theorem dp_int {v : V} {i : Int} (h : Dp K H v (.int i)) : v = .int i := by cases h; rfl
theorem dp_str {v : V} {x : Str} (h : Dp K H v (.str x)) : v = .str x := by cases h; rfl
theorem dp_bl {v : V} {b : Bool} (h : Dp K H v (.bool b)) : v = .bl b := by cases h; rfl
theorem dp_non {v : V} (h : Dp K H v .none) : v = .non := by cases h; rfl
theorem dp_lst {v : V} {ds : List PyData} (h : Dp K H v (.list ds)) : ∃ a xs, v = .ref a ∧ SqL K H a xs ∧ DpAll K H xs ds := by
  cases h with
  | lst hs ha => exact ⟨_, _, rfl, hs, ha⟩
theorem dp_tup {v : V} {ds : List PyData} (h : Dp K H v (.tuple ds)) : ∃ a xs, v = .ref a ∧ SqT K H a xs ∧ DpAll K H xs ds := by
  cases h with
  | tup hs ha => exact ⟨_, _, rfl, hs, ha⟩
theorem dps_ints : ∀ {ns : List Int} {vs : List V}, DpAll K H vs (ns.map PyData.int) → vs = ns.map V.int
  | [], _, h => by cases h; rfl
  | n :: r, _, h => by
    cases h with
    | cons h1 h2 => rw [dp_int h1, dps_ints h2]; rfl
theorem dps_of_ints (ns : List Int) : DpAll K H (ns.map V.int) (ns.map PyData.int) := by
  induction ns with
  | nil => exact .nil
  | cons n r ih => exact .cons (.int n) ih
theorem dps_strs : ∀ {ns : List Str} {vs : List V}, DpAll K H vs (ns.map PyData.str) → vs = ns.map V.str
  | [], _, h => by cases h; rfl
  | n :: r, _, h => by
    cases h with
    | cons h1 h2 => rw [dp_str h1, dps_strs h2]; rfl
theorem dps_of_strs (ns : List Str) : DpAll K H (ns.map V.str) (ns.map PyData.str) := by
  induction ns with
  | nil => exact .nil
  | cons n r ih => exact .cons (.str n) ih
theorem dps_bls : ∀ {ns : List Bool} {vs : List V}, DpAll K H vs (ns.map PyData.bool) → vs = ns.map V.bl
  | [], _, h => by cases h; rfl
  | n :: r, _, h => by
    cases h with
    | cons h1 h2 => rw [dp_bl h1, dps_bls h2]; rfl
theorem dps_of_bls (ns : List Bool) : DpAll K H (ns.map V.bl) (ns.map PyData.bool) := by
  induction ns with
  | nil => exact .nil
  | cons n r ih => exact .cons (.bl n) ih
theorem dps_all {ds : List PyData} {P : V → PyData → Prop} : ∀ {vs : List V}, DpAll K H vs ds → (∀ v d, d ∈ ds → Dp K H v d → P v d) → ∀ (i : Nat) (v : V) (d : PyData), vs[i]? = some v → ds[i]? = some d → P v d := by
  intro vs h k i v d hv hd
  obtain ⟨d', e, q⟩ := dps_at h hv
  rw [hd] at e
  cases e
  exact k v d (List.mem_of_getElem? hd) q
end

/-! ### expressions -/
def EvP (te : TE) (σ : L2.St) (H : Hp) (P : V → Hp → Prop) : Prop := ∀ H1, Same H H1 → ∀ Q : VK, (∀ v H2, Same H1 H2 → P v H2 → Q v H2) → te σ H1 Q
def EvT (tt : TT) (σ : L2.St) (H : Hp) (b : Bool) : Prop := ∀ H1, Same H H1 → ∀ Q : Bool → Hp → Prop, (∀ H2, Same H1 H2 → Q b H2) → tt σ H1 Q
def PD (K : PySem.W.Frag) (M : Mk) (d : PyData) : V → Hp → Prop := fun v H => Dp K (Hm M H) v d
def EvD (K : PySem.W.Frag) (M : Mk) (te : TE) (σ : L2.St) (H : Hp) (d : PyData) : Prop := EvP te σ H (PD K M d)
/-- it comes to this very value -/
def EvV (te : TE) (σ : L2.St) (H : Hp) (v : V) : Prop := EvP te σ H (fun w _ => w = v)
def EvA (K : PySem.W.Frag) (M : Mk) (ta : TA) (σ : L2.St) (H : Hp) (ds : List PyData) : Prop := ∀ H1, Same H H1 → ∀ Q : List V → Hp → Prop, (∀ vs H2, Same H1 H2 → DpAll K (Hm M H2) vs ds → Q vs H2) → ta σ H1 Q
def EvO (to : TO) (σ : L2.St) (H : Hp) (o : Option Int) : Prop := ∀ H1, Same H H1 → ∀ Q : Option Int → Hp → Prop, (∀ H2, Same H1 H2 → Q o H2) → to σ H1 Q
section
variable {K : PySem.W.Frag} {M : Mk} {σ : L2.St} {H H' : Hp} {ta tb tc te : TE} {t u : TT} {v : V} {d e : PyData} {P : V → Hp → Prop}
theorem EvP.use {Q : VK} (h : EvP te σ H P) (k : ∀ v H2, Same H H2 → P v H2 → Q v H2) : te σ H Q := h H (Same.refl H) Q k
theorem EvT.use {b : Bool} {Q : Bool → Hp → Prop} (h : EvT t σ H b) (k : ∀ H2, Same H H2 → Q b H2) : t σ H Q := h H (Same.refl H) Q k
theorem EvP.mono (h : EvP te σ H P) (e : Same H H') : EvP te σ H' P := fun H1 a Q q => h H1 (e.trans a) Q q
theorem EvD.mono (h : EvD K M te σ H d) (e : Same H H') : EvD K M te σ H' d := EvP.mono h e
theorem EvT.mono {b : Bool} (h : EvT t σ H b) (e : Same H H') : EvT t σ H' b := fun H1 a Q q => h H1 (e.trans a) Q q
theorem EvA.mono {t : TA} {ds : List PyData} (h : EvA K M t σ H ds) (e : Same H H') : EvA K M t σ H' ds := fun H1 a Q q => h H1 (e.trans a) Q q
theorem PD.up (h : PD K M d v H) (e : Same H H') : PD K M d v H' := Dp.up h (hm_mono e)
theorem EvD.eq (h : EvD K M te σ H d) (q : d = e) : EvD K M te σ H e := q ▸ h
theorem EvT.eq {b c : Bool} (h : EvT t σ H b) (q : b = c) : EvT t σ H c := q ▸ h
theorem EvV.to (h : EvV te σ H v) (q : Dp K (Hm M H) v d) : EvD K M te σ H d := fun H1 e Q k => h H1 e Q fun w H2 e2 hw => k w H2 e2 (by
  cases hw
  exact q.up (hm_mono (e.trans e2)))

theorem ev_var {i : Nat} (h : σ[i]? = some (some v)) : EvV (tVar i) σ H v := fun H1 _ _ q => ⟨v, h, q v H1 (Same.refl H1) rfl⟩
theorem ev_c : EvV (tC v) σ H v := fun H1 _ _ q => q v H1 (Same.refl H1) rfl
theorem ed_var {i : Nat} (h : σ[i]? = some (some v)) (hd : Dp K (Hm M H) v d) : EvD K M (tVar i) σ H d := (ev_var h).to hd
theorem ed_c (hd : Dp K (Hm M H) v d) : EvD K M (tC v) σ H d := ev_c.to hd
theorem ed_int {i : Int} : EvD K M (tC (.int i)) σ H (.int i) := ed_c (.int i)
theorem ed_str {x : Str} : EvD K M (tC (.str x)) σ H (.str x) := ed_c (.str x)
theorem ed_bl {b : Bool} : EvD K M (tC (.bl b)) σ H (.bool b) := ed_c (.bl b)
theorem ed_non : EvD K M (tC .non) σ H .none := ed_c .non

theorem ed_op2 {r : R2} {a b : PyData} (ha : EvD K M ta σ H a) (hb : EvD K M tb σ H b) (k : ∀ x y H1, Same H H1 → Dp K (Hm M H1) x a → Dp K (Hm M H1) y b → ∀ Q : VK, (∀ v H2, Same H1 H2 → Dp K (Hm M H2) v d → Q v H2) → r x y H1 Q) : EvD K M (tOp r ta tb) σ H d := fun H1 e Q q =>
  ha H1 e _ fun x H2 e2 hx => hb H2 (e.trans e2) _ fun y H3 e3 hy => k x y H3 ((e.trans e2).trans e3) (PD.up hx e3) hy Q fun w H4 e4 hw => q w H4 ((e2.trans e3).trans e4) hw
theorem ed_I0 {g : Int → Int → Int} {i j : Int} (ha : EvD K M ta σ H (.int i)) (hb : EvD K M tb σ H (.int j)) : EvD K M (tOp (rI0 fun i j => V.int (g i j)) ta tb) σ H (.int (g i j)) :=
  ed_op2 ha hb fun x y H1 _ hx hy Q q => by
    rw [dp_int hx, dp_int hy]
    exact ⟨i, j, rfl, rfl, q _ H1 (Same.refl H1) (.int _)⟩
theorem ed_IB {g : Int → Int → Bool} {i j : Int} (ha : EvD K M ta σ H (.int i)) (hb : EvD K M tb σ H (.int j)) : EvD K M (tOp (rI0 fun i j => V.bl (g i j)) ta tb) σ H (.bool (g i j)) :=
  ed_op2 ha hb fun x y H1 _ hx hy Q q => by
    rw [dp_int hx, dp_int hy]
    exact ⟨i, j, rfl, rfl, q _ H1 (Same.refl H1) (.bl _)⟩
theorem ed_IC {C : Int → Int → Prop} {g : Int → Int → Int} {i j : Int} (ha : EvD K M ta σ H (.int i)) (hb : EvD K M tb σ H (.int j)) (c : C i j) : EvD K M (tOp (rI C fun i j => V.int (g i j)) ta tb) σ H (.int (g i j)) :=
  ed_op2 ha hb fun x y H1 _ hx hy Q q => by
    rw [dp_int hx, dp_int hy]
    exact ⟨i, j, rfl, rfl, c, q _ H1 (Same.refl H1) (.int _)⟩
theorem ed_eqI {i j : Int} (ha : EvD K M ta σ H (.int i)) (hb : EvD K M tb σ H (.int j)) : EvD K M (tOp rEq ta tb) σ H (.bool (decide (i = j))) :=
  ed_op2 ha hb fun x y H1 _ hx hy Q q => by
    rw [dp_int hx, dp_int hy]
    refine ⟨rfl, ?_⟩
    have e : decide (V.int i = V.int j) = decide (i = j) := by
      by_cases z : i = j
      · rw [decide_eq_true z, decide_eq_true (congrArg V.int z)]
      · rw [decide_eq_false z, decide_eq_false fun q => z (V.int.inj q)]
    rw [e]
    exact q _ H1 (Same.refl H1) (.bl _)
theorem ed_neI {i j : Int} (ha : EvD K M ta σ H (.int i)) (hb : EvD K M tb σ H (.int j)) : EvD K M (tOp rNe ta tb) σ H (.bool (!decide (i = j))) :=
  ed_op2 ha hb fun x y H1 _ hx hy Q q => by
    rw [dp_int hx, dp_int hy]
    refine ⟨rfl, ?_⟩
    have e : decide (V.int i = V.int j) = decide (i = j) := by
      by_cases z : i = j
      · rw [decide_eq_true z, decide_eq_true (congrArg V.int z)]
      · rw [decide_eq_false z, decide_eq_false fun q => z (V.int.inj q)]
    rw [e]
    exact q _ H1 (Same.refl H1) (.bl _)
theorem ed_eqS {i j : Str} (ha : EvD K M ta σ H (.str i)) (hb : EvD K M tb σ H (.str j)) : EvD K M (tOp rEq ta tb) σ H (.bool (decide (i = j))) :=
  ed_op2 ha hb fun x y H1 _ hx hy Q q => by
    rw [dp_str hx, dp_str hy]
    refine ⟨rfl, ?_⟩
    have e : decide (V.str i = V.str j) = decide (i = j) := by
      by_cases z : i = j
      · rw [decide_eq_true z, decide_eq_true (congrArg V.str z)]
      · rw [decide_eq_false z, decide_eq_false fun q => z (V.str.inj q)]
    rw [e]
    exact q _ H1 (Same.refl H1) (.bl _)
/-- data compared -/
theorem ed_eqD {a b : PyData} (ha : EvD K M ta σ H a) (hb : EvD K M tb σ H b) (sa : SeqAt.shaped a = true) (sb : SeqAt.shaped b = true) : EvD K M (tOp (rEqD K) ta tb) σ H (.bool (PyData.eqv a b)) :=
  ed_op2 ha hb fun x y H1 _ hx hy Q q => ⟨a, b, hx.up (hm_sub M H1), hy.up (hm_sub M H1), sa, sb, q _ H1 (Same.refl H1) (.bl _)⟩
theorem ed_neD {a b : PyData} (ha : EvD K M ta σ H a) (hb : EvD K M tb σ H b) (sa : SeqAt.shaped a = true) (sb : SeqAt.shaped b = true) : EvD K M (tOp (rNeD K) ta tb) σ H (.bool (!PyData.eqv a b)) :=
  ed_op2 ha hb fun x y H1 _ hx hy Q q => ⟨a, b, hx.up (hm_sub M H1), hy.up (hm_sub M H1), sa, sb, q _ H1 (Same.refl H1) (.bl _)⟩
/-- items -/
theorem ed_ixT {ds : List PyData} {i : Int} {j : Nat} (ha : EvD K M ta σ H (.tuple ds)) (hb : EvD K M tb σ H (.int i)) (hj : i = (j : Int)) (h : ds[j]? = some d) : EvD K M (tOp (rIxT K) ta tb) σ H d :=
  ed_op2 ha hb fun x y H1 _ hx hy Q q => by
    obtain ⟨a, xs, rfl, hs, hall⟩ := dp_tup hx
    obtain ⟨z, e1, e2⟩ := dps_get hall h
    rw [dp_int hy, hj]
    exact ⟨a, xs, j, z, rfl, rfl, sqT_mono (hm_sub M H1) hs, atI_nat e1, q z H1 (Same.refl H1) e2⟩
theorem ed_ixL {ds : List PyData} {i : Int} {j : Nat} (ha : EvD K M ta σ H (.list ds)) (hb : EvD K M tb σ H (.int i)) (hj : i = (j : Int)) (h : ds[j]? = some d) : EvD K M (tOp (rIxL K) ta tb) σ H d :=
  ed_op2 ha hb fun x y H1 _ hx hy Q q => by
    obtain ⟨a, xs, rfl, hs, hall⟩ := dp_lst hx
    obtain ⟨z, e1, e2⟩ := dps_get hall h
    rw [dp_int hy, hj]
    exact ⟨a, xs, j, z, rfl, rfl, sqL_mono (hm_sub M H1) hs, atI_nat e1, q z H1 (Same.refl H1) e2⟩
/-- a list that is being changed, read -/
theorem ed_ixM {l : Addr} {xs : List V} {i : Int} (ha : EvV ta σ H (.ref l)) (hb : EvD K M tb σ H (.int i)) (hl : H l = some (.lst xs)) (hi : atI xs i = some v) (hd : Dp K (Hm M H) v d) : EvD K M (tOp (rIxL K) ta tb) σ H d := fun H1 e Q q =>
  ha H1 e _ fun x H2 e2 hx => hb H2 (e.trans e2) _ fun y H3 e3 hy => by
    cases hx
    rw [dp_int hy]
    have e4 := (e.trans e2).trans e3
    exact ⟨l, xs, i, v, rfl, rfl, .inl (.inl (e4 _ _ hl)), hi, q v H3 (e2.trans e3) (hd.up (hm_mono e4))⟩

/-! truth -/
theorem et_B {b : Bool} (h : EvD K M te σ H (.bool b)) : EvT (tB te) σ H b := fun H1 e _ q => h H1 e _ fun v H2 e2 hv => ⟨b, dp_bl hv, q H2 e2⟩
theorem et_test {b : Bool} (h : EvD K M te σ H (.bool b)) : EvT (tTest te) σ H b := fun H1 e _ q => h H1 e _ fun v H2 e2 hv => ⟨b, dp_bl hv, q H2 e2⟩
theorem et_and {a b : Bool} (h1 : EvT t σ H a) (h2 : a = true → EvT u σ H b) : EvT (tAnd t u) σ H (a && b) := fun H1 e Q q => h1 H1 e _ fun H2 e2 => by
  cases a with
  | true => exact iteT (h2 rfl H2 (e.trans e2) Q fun H3 e3 => q H3 (e2.trans e3))
  | false => exact iteF (q H2 e2)
theorem et_or {a b : Bool} (h1 : EvT t σ H a) (h2 : a = false → EvT u σ H b) : EvT (tOr t u) σ H (a || b) := fun H1 e Q q => h1 H1 e _ fun H2 e2 => by
  cases a with
  | true => exact iteT (q H2 e2)
  | false => exact iteF (h2 rfl H2 (e.trans e2) Q fun H3 e3 => q H3 (e2.trans e3))
theorem et_not {a : Bool} (h1 : EvT t σ H a) : EvT (tNot t) σ H (!a) := fun H1 e _ q => h1 H1 e _ fun H2 e2 => q H2 e2
theorem et_yes : EvT tYes σ H true := fun H1 _ _ q => q H1 (Same.refl H1)
theorem ed_and {a b : Bool} (h1 : EvD K M ta σ H (.bool a)) (h2 : a = true → EvD K M tb σ H (.bool b)) : EvD K M (tAndV ta tb) σ H (.bool (a && b)) := fun H1 e Q q => h1 H1 e _ fun v H2 e2 hv => ⟨a, dp_bl hv, by
  cases a with
  | true => exact iteT (h2 rfl H2 (e.trans e2) Q fun w H3 e3 hw => q w H3 (e2.trans e3) hw)
  | false => exact iteF (q _ H2 e2 (.bl _))⟩
theorem ed_or {a b : Bool} (h1 : EvD K M ta σ H (.bool a)) (h2 : a = false → EvD K M tb σ H (.bool b)) : EvD K M (tOrV ta tb) σ H (.bool (a || b)) := fun H1 e Q q => h1 H1 e _ fun v H2 e2 hv => ⟨a, dp_bl hv, by
  cases a with
  | true => exact iteT (q _ H2 e2 (.bl _))
  | false => exact iteF (h2 rfl H2 (e.trans e2) Q fun w H3 e3 hw => q w H3 (e2.trans e3) hw)⟩
theorem ed_not {a : Bool} (h1 : EvD K M ta σ H (.bool a)) : EvD K M (tNotV ta) σ H (.bool (!a)) := fun H1 e _ q => h1 H1 e _ fun v H2 e2 hv => ⟨a, dp_bl hv, q _ H2 e2 (.bl _)⟩
theorem ed_if {b : Bool} (h : EvT t σ H b) (h1 : b = true → EvD K M ta σ H d) (h2 : b = false → EvD K M tb σ H d) : EvD K M (tIf t ta tb) σ H d := fun H1 e Q q => h H1 e _ fun H2 e2 => by
  cases b with
  | true => exact iteT (h1 rfl H2 (e.trans e2) Q fun w H3 e3 hw => q w H3 (e2.trans e3) hw)
  | false => exact iteF (h2 rfl H2 (e.trans e2) Q fun w H3 e3 hw => q w H3 (e2.trans e3) hw)
/-- a < b < c -/
theorem ed_chain {g g' : Int → Int → Bool} {i j k : Int} (ha : EvD K M ta σ H (.int i)) (hb : EvD K M tb σ H (.int j)) (hc : EvD K M tc σ H (.int k)) :
    EvD K M (tChain (rI0 fun i j => V.bl (g i j)) (rI0 fun i j => V.bl (g' i j)) ta tb tc) σ H (.bool (g i j && g' j k)) := fun H1 e Q q =>
  ha H1 e _ fun x H2 e2 hx => hb H2 (e.trans e2) _ fun y H3 e3 hy => by
    rw [dp_int hx, dp_int hy]
    refine ⟨i, j, rfl, rfl, g i j, rfl, ?_⟩
    cases hg : g i j with
    | true =>
      refine iteT (hc H3 ((e.trans e2).trans e3) _ fun z H4 e4 hz => ?_)
      rw [dp_int hz]
      refine ⟨j, k, rfl, rfl, q _ H4 ((e2.trans e3).trans e4) ?_⟩
      rw [hg]
      exact .bl _
    | false =>
      refine iteF (q _ H3 (e2.trans e3) ?_)
      rw [hg]
      exact .bl _

/-! arguments, displays, calls -/
theorem ea_nil : EvA K M tNil σ H [] := fun H1 _ _ q => q [] H1 (Same.refl H1) .nil
theorem ea_cons {tr : TA} {ds : List PyData} (h : EvD K M te σ H d) (hr : EvA K M tr σ H ds) : EvA K M (tCons te tr) σ H (d :: ds) := fun H1 e _ q =>
  h H1 e _ fun x H2 e2 hx => hr H2 (e.trans e2) _ fun xs H3 e3 hxs => q _ H3 (e2.trans e3) (.cons (PD.up hx e3) hxs)
theorem sz_ok {n : Nat} (h : n ≤ 100000) : n ≤ sizeLine := Nat.le_trans h (by decide)
theorem sz_lt {n : Nat} (h : n < 100000) : n < sizeLine := Nat.lt_of_lt_of_le h (by decide)
theorem ed_tup {tr : TA} {ds : List PyData} (wd : Wd M H) (h : EvA K M tr σ H ds) (hl : Nat.ble ds.length 100000 = true := by rfl) : EvD K M (tTup tr) σ H (.tuple ds) := fun H1 e _ q =>
  h H1 e _ fun xs H2 e2 hxs => ⟨sz_ok (by rw [dps_len hxs]; exact Nat.le_of_ble_eq_true hl), fun p hp => q _ _ (e2.trans (same_new hp)) (by
    have hm : M p = false := (wd.mono (e.trans e2)).new hp
    exact .tup (.of (hm_of hm upd_same)) (hxs.up (hm_mono (same_new hp))))⟩
theorem ed_lst {tr : TA} {ds : List PyData} (wd : Wd M H) (h : EvA K M tr σ H ds) (hl : Nat.ble ds.length 100000 = true := by rfl) : EvD K M (tLst tr) σ H (.list ds) := fun H1 e _ q =>
  h H1 e _ fun xs H2 e2 hxs => ⟨sz_ok (by rw [dps_len hxs]; exact Nat.le_of_ble_eq_true hl), fun p hp => q _ _ (e2.trans (same_new hp)) (by
    have hm : M p = false := (wd.mono (e.trans e2)).new hp
    exact .lst (.of (hm_of hm upd_same)) (hxs.up (hm_mono (same_new hp))))⟩
/-- the promise of a def that reads data and hands back data -/
def spF (K : PySem.W.Frag) {ι : Type} (args : ι → List PyData) (pre : ι → Prop) (res : ι → PyData) : Sp := fun vs H Q _ =>
  ∃ (M : Mk) (x : ι), Wd M H ∧ DpAll K (Hm M H) vs (args x) ∧ pre x ∧ ∀ v H', Same H H' → Dp K (Hm M H') v (res x) → Q v H'
theorem ed_call {ι : Type} {args : ι → List PyData} {pre : ι → Prop} {res : ι → PyData} {E : XK} {tr : TA} (x : ι) (wd : Wd M H) (h : EvA K M tr σ H (args x)) (hp : pre x) : EvD K M (tCall (spF K args pre res) [] E tr) σ H (res x) := fun H1 e Q q =>
  h H1 e _ fun vs H2 e2 hvs => by
    refine ⟨M, x, wd.mono (e.trans e2), ?_, hp, fun v H' e3 hv => q v H' (e2.trans e3) hv⟩
    rw [List.append_nil]
    exact hvs
theorem ed_cb {r : List V → Hp → VK → Prop} {tr : TA} {ds : List PyData} (h : EvA K M tr σ H ds) (k : ∀ vs H1, Same H H1 → DpAll K (Hm M H1) vs ds → ∀ Q : VK, (∀ v H2, Same H1 H2 → Dp K (Hm M H2) v d → Q v H2) → r vs H1 Q) : EvD K M (tCB r tr) σ H d := fun H1 e Q q =>
  h H1 e _ fun vs H2 e2 hvs => k vs H2 (e.trans e2) hvs Q fun v H3 e3 hv => q v H3 (e2.trans e3) hv
end
end EIT
end
/-! text Dat2 -/
section
set_option maxHeartbeats 4000000
/-! What is walked, told as data; comprehensions, loops, statements over it. -/
namespace EIT
open PySem PySem.Spec PyProof.Rows L2 RZ

/-! ### what is walked -/
/-- J yields things that stand for the items of ds, as long as the data of H2 stand -/
def Wlk (K : PySem.W.Frag) (M : Mk) (J : It) (H2 : Hp) (ds : List PyData) : Prop := ∀ (M' : Mk) (i : Nat) (H' : Hp), Same (Hm M H2) (Hm M' H') → Wd M' H' →
  (i < ds.length → J.go i H' ∧ ∀ x H'', J.yld i H' x H'' → Same H' H'' ∧ ∃ d, ds[i]? = some d ∧ Dp K (Hm M' H'') x d) ∧ (i = ds.length → J.stop i H')
def Src (K : PySem.W.Frag) (M : Mk) (wi : TI) (σ : L2.St) (H : Hp) (ds : List PyData) : Prop := ∀ H1, Same H H1 → ∀ R : It → Hp → Prop, (∀ J H2, Same H1 H2 → Wlk K M J H2 ds → R J H2) → wi σ H1 R
section
variable {K : PySem.W.Frag} {M : Mk} {σ : L2.St} {H H' : Hp} {ta tl te : TE} {tt : TT} {tr : TA} {ds es : List PyData} {J : It} {g : TG} {wi : TI}
theorem Wlk.mono {H3 : Hp} (h : Wlk K M J H ds) (e : Same (Hm M H) (Hm M H3)) : Wlk K M J H3 ds := fun M' i H' e' w => h M' i H' (e.trans e') w
theorem dpT_mono {M' : Mk} (e : Same (Hm M H) (Hm M' H')) {v : V} {d : PyData} (h : Dp K (Hm M H) v d) : Dp K (Hm M' H') v d := h.up e
theorem wlk_list {a : Addr} {xs : List V} (hs : SqL K (Hm M H) a xs) (ha : DpAll K (Hm M H) xs ds) : Wlk K M (Itl K a) H ds := fun M' i H' e w => by
  have hs' : SqL K H' a xs := sqL_mono (hm_sub M' H') (sqL_mono e hs)
  have ha' := ha.up e
  have hl := dps_len ha
  refine ⟨fun hi => ?_, fun hi => ⟨xs, hs', by omega⟩⟩
  have hx : i < xs.length := by omega
  refine ⟨⟨xs, xs[i], hs', List.getElem?_eq_getElem hx⟩, fun x H'' y => ?_⟩
  obtain ⟨rfl, f⟩ := y
  obtain ⟨d, e1, e2⟩ := dps_at ha' (f xs hs')
  exact ⟨Same.refl _, d, e1, e2⟩
theorem wlk_tup {a : Addr} {xs : List V} (hs : SqT K (Hm M H) a xs) (ha : DpAll K (Hm M H) xs ds) : Wlk K M (Itt K a) H ds := fun M' i H' e w => by
  have hs' : SqT K H' a xs := sqT_mono (hm_sub M' H') (sqT_mono e hs)
  have ha' := ha.up e
  have hl := dps_len ha
  refine ⟨fun hi => ?_, fun hi => ⟨xs, hs', by omega⟩⟩
  have hx : i < xs.length := by omega
  refine ⟨⟨xs, xs[i], hs', List.getElem?_eq_getElem hx⟩, fun x H'' y => ?_⟩
  obtain ⟨rfl, f⟩ := y
  obtain ⟨d, e1, e2⟩ := dps_at ha' (f xs hs')
  exact ⟨Same.refl _, d, e1, e2⟩
theorem wlk_range {n : Nat} {lo : Int} : Wlk K M (Itr lo n) H ((List.range n).map fun i : Nat => PyData.int (lo + (i : Nat))) := fun M' i H' e w => by
  refine ⟨fun hi => ?_, fun hi => ?_⟩
  · rw [List.length_map, List.length_range] at hi
    refine ⟨hi, fun x H'' y => ?_⟩
    obtain ⟨rfl, rfl⟩ := y
    refine ⟨Same.refl _, _, ?_, .int _⟩
    rw [List.getElem?_map, List.getElem?_range hi]
    rfl
  · rw [List.length_map, List.length_range] at hi
    exact Nat.le_of_eq hi.symm
/-- pairs as data -/
def pairs2 (ds es : List PyData) : List PyData := (ds.zip es).map fun p => .tuple [p.1, p.2]
theorem pairs2_len (ds es : List PyData) : (pairs2 ds es).length = min ds.length es.length := by
  unfold pairs2; rw [List.length_map, List.length_zip]
theorem pairs2_get {ds es : List PyData} {i : Nat} {d e : PyData} (h1 : ds[i]? = some d) (h2 : es[i]? = some e) : (pairs2 ds es)[i]? = some (.tuple [d, e]) := by
  unfold pairs2
  rw [List.getElem?_map]
  have : (ds.zip es)[i]? = some (d, e) := by
    rw [List.getElem?_zip_eq_some]; exact ⟨h1, h2⟩
  rw [this]; rfl
theorem new_pair {T : Addr} {x y : V} {d e : PyData} (wd : Wd M H) (hT : H T = none) (h1 : Dp K (Hm M H) x d) (h2 : Dp K (Hm M H) y e) : Same H (upd H T (.tup [x, y])) ∧ Dp K (Hm M (upd H T (.tup [x, y]))) (.ref T) (.tuple [d, e]) := by
  have s := same_new (o := .tup [x, y]) hT
  exact ⟨s, .tup (.of (hm_of (wd.new hT) upd_same)) (.cons (h1.up (hm_mono s)) (.cons (h2.up (hm_mono s)) .nil))⟩
theorem wlk_zipL {a b : Addr} {xs ys : List V} (hs : SqL K (Hm M H) a xs) (hs2 : SqL K (Hm M H) b ys) (ha : DpAll K (Hm M H) xs ds) (hb : DpAll K (Hm M H) ys es) : Wlk K M (Itz K a b) H (pairs2 ds es) := fun M' i H' e w => by
  have h1 : SqL K H' a xs := sqL_mono (hm_sub M' H') (sqL_mono e hs)
  have h2 : SqL K H' b ys := sqL_mono (hm_sub M' H') (sqL_mono e hs2)
  have hl1 := dps_len ha
  have hl2 := dps_len hb
  rw [pairs2_len]
  refine ⟨fun hi => ?_, fun hi => ⟨xs, ys, h1, h2, by omega⟩⟩
  have i1 : i < xs.length := by omega
  have i2 : i < ys.length := by omega
  refine ⟨⟨xs, ys, xs[i], ys[i], h1, h2, List.getElem?_eq_getElem i1, List.getElem?_eq_getElem i2⟩, fun x H'' y => ?_⟩
  obtain ⟨T, x, y, rfl, hT, rfl, f1, f2⟩ := y
  obtain ⟨d, e1, e2⟩ := dps_at (ha.up e) (f1 xs h1)
  obtain ⟨d', e3, e4⟩ := dps_at (hb.up e) (f2 ys h2)
  obtain ⟨q1, q2⟩ := new_pair w hT e2 e4
  exact ⟨q1, _, pairs2_get e1 e3, q2⟩
theorem wlk_zipT {a b : Addr} {xs ys : List V} (hs : SqT K (Hm M H) a xs) (hs2 : SqT K (Hm M H) b ys) (ha : DpAll K (Hm M H) xs ds) (hb : DpAll K (Hm M H) ys es) : Wlk K M (ItzT K a b) H (pairs2 ds es) := fun M' i H' e w => by
  have h1 : SqT K H' a xs := sqT_mono (hm_sub M' H') (sqT_mono e hs)
  have h2 : SqT K H' b ys := sqT_mono (hm_sub M' H') (sqT_mono e hs2)
  have hl1 := dps_len ha
  have hl2 := dps_len hb
  rw [pairs2_len]
  refine ⟨fun hi => ?_, fun hi => ⟨xs, ys, h1, h2, by omega⟩⟩
  have i1 : i < xs.length := by omega
  have i2 : i < ys.length := by omega
  refine ⟨⟨xs, ys, xs[i], ys[i], h1, h2, List.getElem?_eq_getElem i1, List.getElem?_eq_getElem i2⟩, fun x H'' y => ?_⟩
  obtain ⟨T, x, y, rfl, hT, rfl, f1, f2⟩ := y
  obtain ⟨d, e1, e2⟩ := dps_at (ha.up e) (f1 xs h1)
  obtain ⟨d', e3, e4⟩ := dps_at (hb.up e) (f2 ys h2)
  obtain ⟨q1, q2⟩ := new_pair w hT e2 e4
  exact ⟨q1, _, pairs2_get e1 e3, q2⟩
def enumD (ds : List PyData) : List PyData := ds.zipIdx.map fun p => .tuple [.int (p.2 : Nat), p.1]
theorem enumD_len (ds : List PyData) : (enumD ds).length = ds.length := by unfold enumD; rw [List.length_map, List.length_zipIdx]
theorem enumD_get {ds : List PyData} {i : Nat} {d : PyData} (h : ds[i]? = some d) : (enumD ds)[i]? = some (.tuple [.int (i : Nat), d]) := by
  unfold enumD
  rw [List.getElem?_map, List.getElem?_zipIdx, h]
  show some (PyData.tuple [.int ((0 + i : Nat) : Int), d]) = _
  rw [Nat.zero_add]
theorem wlk_enum {a : Addr} {xs : List V} (hs : SqL K (Hm M H) a xs) (ha : DpAll K (Hm M H) xs ds) : Wlk K M (Ite K a) H (enumD ds) := fun M' i H' e w => by
  have h1 : SqL K H' a xs := sqL_mono (hm_sub M' H') (sqL_mono e hs)
  have hl1 := dps_len ha
  rw [enumD_len]
  refine ⟨fun hi => ?_, fun hi => ⟨xs, h1, by omega⟩⟩
  have i1 : i < xs.length := by omega
  refine ⟨⟨xs, xs[i], h1, List.getElem?_eq_getElem i1⟩, fun x H'' y => ?_⟩
  obtain ⟨T, x, rfl, hT, rfl, f1⟩ := y
  obtain ⟨d, e1, e2⟩ := dps_at (ha.up e) (f1 xs h1)
  obtain ⟨q1, q2⟩ := new_pair w hT (.int (i : Nat)) e2
  exact ⟨q1, _, enumD_get e1, q2⟩

theorem src_list (h : EvD K M tl σ H (.list ds)) : Src K M (iList K tl) σ H ds := fun H1 e R q => h H1 e _ fun v H2 e2 hv => by
  obtain ⟨a, xs, rfl, hs, ha⟩ := dp_lst hv
  exact ⟨a, rfl, ⟨xs, sqL_mono (hm_sub M H2) hs⟩, q _ H2 e2 (wlk_list hs ha)⟩
theorem src_tup (h : EvD K M tl σ H (.tuple ds)) : Src K M (iTup K tl) σ H ds := fun H1 e R q => h H1 e _ fun v H2 e2 hv => by
  obtain ⟨a, xs, rfl, hs, ha⟩ := dp_tup hv
  exact ⟨a, rfl, ⟨xs, sqT_mono (hm_sub M H2) hs⟩, q _ H2 e2 (wlk_tup hs ha)⟩
theorem src_rng {n : Nat} {z : Int} (h : EvA K M tr σ H [.int z]) (hz : z = (n : Int)) (hn : n ≤ 16777216) : Src K M (iRng1 tr) σ H ((List.range n).map fun i : Nat => PyData.int (i : Nat)) := fun H1 e R q => h H1 e _ fun vs H2 e2 hv => by
  subst hz
  have ev : vs = [.int (n : Int)] := by
    cases hv with
    | cons a b => cases b; rw [dp_int a]
  subst ev
  refine ⟨(n : Int), rfl, by omega, by omega, q _ H2 e2 ?_⟩
  have w := wlk_range (K := K) (M := M) (H := H2) (n := n) (lo := 0)
  rw [Int.toNat_natCast]
  have e3 : (List.range n).map (fun i : Nat => PyData.int ((i : Nat) : Int)) = (List.range n).map (fun i : Nat => PyData.int ((0 : Int) + (i : Nat))) := List.map_congr_left fun i _ => by rw [Int.zero_add]
  rw [e3]
  exact w
theorem two_of {vs : List V} {a b : PyData} (h : DpAll K H vs [a, b]) : ∃ v w, vs = [v, w] ∧ Dp K H v a ∧ Dp K H w b := by
  cases h with
  | cons h1 t =>
    cases t with
    | cons h2 t => cases t; exact ⟨_, _, rfl, h1, h2⟩
theorem one_of {vs : List V} {a : PyData} (h : DpAll K H vs [a]) : ∃ v, vs = [v] ∧ Dp K H v a := by
  cases h with
  | cons h1 t => cases t; exact ⟨_, rfl, h1⟩
theorem three_of {vs : List V} {a b c : PyData} (h : DpAll K H vs [a, b, c]) : ∃ u v w, vs = [u, v, w] ∧ Dp K H u a ∧ Dp K H v b ∧ Dp K H w c := by
  cases h with
  | cons h1 t => obtain ⟨v, w, rfl, h2, h3⟩ := two_of t; exact ⟨_, _, _, rfl, h1, h2, h3⟩
theorem four_of {vs : List V} {a b c d : PyData} (h : DpAll K H vs [a, b, c, d]) : ∃ t u v w, vs = [t, u, v, w] ∧ Dp K H t a ∧ Dp K H u b ∧ Dp K H v c ∧ Dp K H w d := by
  cases h with
  | cons h1 t => obtain ⟨u, v, w, rfl, h2, h3, h4⟩ := three_of t; exact ⟨_, _, _, _, rfl, h1, h2, h3, h4⟩
theorem five_of {vs : List V} {a b c d e : PyData} (h : DpAll K H vs [a, b, c, d, e]) : ∃ s t u v w, vs = [s, t, u, v, w] ∧ Dp K H s a ∧ Dp K H t b ∧ Dp K H u c ∧ Dp K H v d ∧ Dp K H w e := by
  cases h with
  | cons h1 t => obtain ⟨t, u, v, w, rfl, h2, h3, h4, h5⟩ := four_of t; exact ⟨_, _, _, _, _, rfl, h1, h2, h3, h4, h5⟩
theorem src_zipL (h : EvA K M tr σ H [.list ds, .list es]) : Src K M (iZipA K tr) σ H (pairs2 ds es) := fun H1 e R q => h H1 e _ fun vs H2 e2 hv => by
  obtain ⟨v, w, rfl, h1, h2⟩ := two_of hv
  obtain ⟨a, xs, rfl, hs, ha⟩ := dp_lst h1
  obtain ⟨b, ys, rfl, hs2, hb⟩ := dp_lst h2
  exact ⟨a, b, xs, ys, rfl, .inl ⟨sqL_mono (hm_sub M H2) hs, sqL_mono (hm_sub M H2) hs2, q _ H2 e2 (wlk_zipL hs hs2 ha hb)⟩⟩
theorem src_zipT (h : EvA K M tr σ H [.tuple ds, .tuple es]) : Src K M (iZipA K tr) σ H (pairs2 ds es) := fun H1 e R q => h H1 e _ fun vs H2 e2 hv => by
  obtain ⟨v, w, rfl, h1, h2⟩ := two_of hv
  obtain ⟨a, xs, rfl, hs, ha⟩ := dp_tup h1
  obtain ⟨b, ys, rfl, hs2, hb⟩ := dp_tup h2
  exact ⟨a, b, xs, ys, rfl, .inr ⟨sqT_mono (hm_sub M H2) hs, sqT_mono (hm_sub M H2) hs2, q _ H2 e2 (wlk_zipT hs hs2 ha hb)⟩⟩
theorem src_enum (h : EvA K M tr σ H [.list ds]) : Src K M (iEnum K tr) σ H (enumD ds) := fun H1 e R q => h H1 e _ fun vs H2 e2 hv => by
  obtain ⟨v, rfl, h1⟩ := one_of hv
  obtain ⟨a, xs, rfl, hs, ha⟩ := dp_lst h1
  exact ⟨a, xs, rfl, sqL_mono (hm_sub M H2) hs, q _ H2 e2 (wlk_enum hs ha)⟩
theorem Src.eq (h : Src K M wi σ H ds) (e : ds = es) : Src K M wi σ H es := e ▸ h
theorem Src.mono {H1 : Hp} (h : Src K M wi σ H ds) (e : Same H H1) : Src K M wi σ H1 ds := fun H2 e2 R q => h H2 (e.trans e2) R q

/-! ### loops -/
theorem for_wlk {tb : TS} {D : Ends} (w : Wlk K M J H ds) (Pv : Nat → L2.St → Hp → Prop) (h0 : Pv 0 σ H) (hk : ∀ i σ' H', Pv i σ' H' → Same (Hm M H) (Hm M H') ∧ Wd M H')
    (hs : ∀ (i : Nat) d x σ' H' H'', ds[i]? = some d → Pv i σ' H' → Same H' H'' → Dp K (Hm M H'') x d → g x σ' H'' fun σ2 H2 => tb { D with nx := Pv (i + 1), ct := Pv (i + 1), bk := D.nx } σ2 H2) (hd : ∀ σ' H', Pv ds.length σ' H' → D.nx σ' H') :
    ∃ W : Nat → Nat → L2.St → Hp → Prop, (∃ m, W 0 m σ H) ∧ ∀ i m σ H, W i m σ H →
      (J.stop i H ∧ D.nx σ H) ∨ (J.go i H ∧ ∃ N : L2.St → Hp → Prop, (∀ σ' H', N σ' H' → ∃ m', m' < m ∧ W (i + 1) m' σ' H') ∧ ∀ x H', J.yld i H x H' → g x σ H' fun σ2 H2 => tb { D with nx := N, ct := N, bk := D.nx } σ2 H2) := by
  refine ⟨fun i m σ H => m = ds.length - i ∧ i ≤ ds.length ∧ Pv i σ H, ⟨ds.length, by omega, Nat.zero_le _, h0⟩, ?_⟩
  rintro i m σ' H' ⟨rfl, hi, p⟩
  obtain ⟨k1, k2⟩ := hk i σ' H' p
  obtain ⟨w1, w2⟩ := w M i H' k1 k2
  by_cases hlt : i < ds.length
  · obtain ⟨go, y⟩ := w1 hlt
    refine .inr ⟨go, Pv (i + 1), fun σ'' H'' p' => ⟨ds.length - (i + 1), by omega, rfl, hlt, p'⟩, fun x H'' hy => ?_⟩
    obtain ⟨e, d, hd1, hd2⟩ := y x H'' hy
    exact hs i d x σ' H' H'' hd1 p e hd2
  · have e : i = ds.length := by omega
    subst e
    exact .inl ⟨w2 rfl, hd σ' H' p⟩
/-- a for, then the rest: what is known between the turns is said behind the reckoning of what is walked -/
theorem s_for {tb : TS} {D : Ends} (hsr : Src K M wi σ H ds) (k : ∀ H2, Same H H2 → ∃ Pv : Nat → L2.St → Hp → Prop, Pv 0 σ H2 ∧ (∀ i σ' H', Pv i σ' H' → Same (Hm M H2) (Hm M H') ∧ Wd M H') ∧
    (∀ (i : Nat) d x σ' H' H'', ds[i]? = some d → Pv i σ' H' → Same H' H'' → Dp K (Hm M H'') x d → g x σ' H'' fun σ2 H2 => tb { D with nx := Pv (i + 1), ct := Pv (i + 1), bk := D.nx } σ2 H2) ∧
    (∀ σ' H', Pv ds.length σ' H' → D.nx σ' H')) : tFor wi g tb D σ H :=
  hsr H (Same.refl H) _ fun J H2 e w => by
    obtain ⟨Pv, h0, hk, hs, hd⟩ := k H2 e
    exact for_wlk w Pv h0 hk hs hd
theorem q_for {tb tz : TS} {D : Ends} (hsr : Src K M wi σ H ds) (k : ∀ H2, Same H H2 → ∃ Pv : Nat → L2.St → Hp → Prop, Pv 0 σ H2 ∧ (∀ i σ' H', Pv i σ' H' → Same (Hm M H2) (Hm M H') ∧ Wd M H') ∧
    (∀ (i : Nat) d x σ' H' H'', ds[i]? = some d → Pv i σ' H' → Same H' H'' → Dp K (Hm M H'') x d → g x σ' H'' fun σ2 H2 => tb { D with nx := Pv (i + 1), ct := Pv (i + 1), bk := tz D } σ2 H2) ∧
    (∀ σ' H', Pv ds.length σ' H' → tz D σ' H')) : tSeq (tFor wi g tb) tz D σ H := s_for (D := { D with nx := tz D }) hsr k

/-! ### targets -/
theorem g_two {i j : Nat} {v : V} {a b : PyData} {Q : L2.St → Hp → Prop} (h : Dp K (Hm M H) v (.tuple [a, b])) (q : ∀ x y, Dp K (Hm M H) x a → Dp K (Hm M H) y b → Q ((σ.set i (some x)).set j (some y)) H) :
    gTup K 2 (gCons (gName i) (gCons (gName j) gNil)) v σ H Q := by
  obtain ⟨p, xs, rfl, hs, ha⟩ := dp_tup h
  obtain ⟨x, y, rfl, h1, h2⟩ := two_of ha
  exact ⟨p, _, rfl, sqT_mono (hm_sub M H) hs, rfl, x, [y], rfl, y, [], rfl, rfl, q x y h1 h2⟩
theorem g_three {i j l : Nat} {v : V} {a b c : PyData} {Q : L2.St → Hp → Prop} (h : Dp K (Hm M H) v (.tuple [a, b, c])) (q : ∀ x y z, Dp K (Hm M H) x a → Dp K (Hm M H) y b → Dp K (Hm M H) z c → Q (((σ.set i (some x)).set j (some y)).set l (some z)) H) :
    gTup K 3 (gCons (gName i) (gCons (gName j) (gCons (gName l) gNil))) v σ H Q := by
  obtain ⟨p, xs, rfl, hs, ha⟩ := dp_tup h
  obtain ⟨x, y, z, rfl, h1, h2, h3⟩ := three_of ha
  exact ⟨p, _, rfl, sqT_mono (hm_sub M H) hs, rfl, x, [y, z], rfl, y, [z], rfl, z, [], rfl, rfl, q x y z h1 h2 h3⟩

/-! ### statements -/
variable {D : Ends} {tu tw tz : TS} {d : PyData}
theorem s_asg {i : Nat} (h : EvD K M te σ H d) (k : ∀ v H1, Same H H1 → Dp K (Hm M H1) v d → D.nx (σ.set i (some v)) H1) : tAsg te (gName i) D σ H := EvP.use h fun v H1 e hv => k v H1 e hv
theorem q_asg {i : Nat} (h : EvD K M te σ H d) (k : ∀ v H1, Same H H1 → Dp K (Hm M H1) v d → tz D (σ.set i (some v)) H1) : tSeq (tAsg te (gName i)) tz D σ H := EvP.use h fun v H1 e hv => k v H1 e hv
theorem q_asg2 {i j : Nat} {a b : PyData} (h : EvD K M te σ H (.tuple [a, b])) (k : ∀ x y H1, Same H H1 → Dp K (Hm M H1) x a → Dp K (Hm M H1) y b → tz D ((σ.set i (some x)).set j (some y)) H1) :
    tSeq (tAsg te (gTup K 2 (gCons (gName i) (gCons (gName j) gNil)))) tz D σ H := EvP.use h fun v H1 e hv => g_two hv fun x y hx hy => k x y H1 e hx hy
theorem q_asg3 {i j l : Nat} {a b c : PyData} (h : EvD K M te σ H (.tuple [a, b, c])) (k : ∀ x y z H1, Same H H1 → Dp K (Hm M H1) x a → Dp K (Hm M H1) y b → Dp K (Hm M H1) z c → tz D (((σ.set i (some x)).set j (some y)).set l (some z)) H1) :
    tSeq (tAsg te (gTup K 3 (gCons (gName i) (gCons (gName j) (gCons (gName l) gNil))))) tz D σ H := EvP.use h fun v H1 e hv => g_three hv fun x y z hx hy hz => k x y z H1 e hx hy hz
theorem q_par {i j : Nat} {a b : PyData} (h : EvA K M tr σ H [a, b]) (k : ∀ x y H1, Same H H1 → Dp K (Hm M H1) x a → Dp K (Hm M H1) y b → tz D ((σ.set i (some x)).set j (some y)) H1) :
    tSeq (tPar i j tr) tz D σ H := h H (Same.refl H) _ fun vs H1 e hv => by
  obtain ⟨x, y, rfl, hx, hy⟩ := two_of hv
  exact ⟨x, y, rfl, k x y H1 e hx hy⟩
theorem s_ret (h : EvD K M te σ H d) (k : ∀ v H1, Same H H1 → Dp K (Hm M H1) v d → D.rt v H1) : tRet te D σ H := EvP.use h fun v H1 e hv => k v H1 e hv
theorem s_drop (h : EvD K M te σ H d) (k : ∀ H1, Same H H1 → D.nx σ H1) : tDrop te D σ H := EvP.use h fun v H1 e _ => k H1 e
theorem q_drop (h : EvD K M te σ H d) (k : ∀ H1, Same H H1 → tz D σ H1) : tSeq (tDrop te) tz D σ H := EvP.use h fun v H1 e _ => k H1 e
theorem s_if {b : Bool} (h : EvT tt σ H b) (h1 : b = true → ∀ H1, Same H H1 → tu D σ H1) (h2 : b = false → ∀ H1, Same H H1 → tw D σ H1) : tIfS tt tu tw D σ H := h.use fun H1 e => by
  cases b with
  | true => exact iteT (h1 rfl H1 e)
  | false => exact iteF (h2 rfl H1 e)
theorem q_if {b : Bool} (h : EvT tt σ H b) (h1 : b = true → ∀ H1, Same H H1 → tu { D with nx := tz D } σ H1) (h2 : b = false → ∀ H1, Same H H1 → tw { D with nx := tz D } σ H1) : tSeq (tIfS tt tu tw) tz D σ H := s_if (D := { D with nx := tz D }) h h1 h2
/-- a way that is not taken, one that is -/
theorem q_no (h : EvT tt σ H false) (k : ∀ H1, Same H H1 → tz D σ H1) : tSeq (tIfS tt tu tNext) tz D σ H := q_if h (fun z => Bool.noConfusion z) fun _ H1 e => k H1 e
theorem q_yes (h : EvT tt σ H true) (k : ∀ H1, Same H H1 → tu { D with nx := tz D } σ H1) : tSeq (tIfS tt tu tw) tz D σ H := q_if h (fun _ H1 e => k H1 e) fun z => Bool.noConfusion z

/-! ### comprehensions -/
/-- f what is kept, r what it becomes: the turn's reading -/
def LcOk (K : PySem.W.Frag) (M : Mk) {ι : Type} (xs : List ι) (enc : ι → PyData) (f : ι → Bool) (r : ι → PyData) (g : TG) (tt : TT) (te : TE) (vs : List Nat) (σ : L2.St) (H : Hp) : Prop :=
  ∀ (a : ι), a ∈ xs → ∀ (M' : Mk) (H1 : Hp) (v : V), Same H H1 → Same (Hm M H) (Hm M' H1) → Wd M' H1 → Dp K (Hm M' H1) v (enc a) →
    ∃ σ2, (∀ Q : L2.St → Hp → Prop, Q σ2 H1 → g v (wipe σ vs) H1 Q) ∧ wipe σ2 vs = wipe σ vs ∧ EvT tt σ2 H1 (f a) ∧ (f a = true → EvD K M' te σ2 H1 (r a))
theorem ed_lc {ι : Type} {xs : List ι} {enc : ι → PyData} {f : ι → Bool} {r : ι → PyData} {vs : List Nat} (wd : Wd M H) (hsr : Src K M wi σ H (xs.map enc)) (hz : xs.length ≤ 100000) (h : LcOk K M xs enc f r g tt te vs σ H) :
    EvD K M (tLc wi g tt te vs) σ H (.list ((xs.filter f).map r)) := fun H1 e1 Q q => hsr H1 e1 _ fun J H2 e2 w => by
  intro D hD
  have e12 := e1.trans e2
  have wd2 : Wd M H2 := wd.mono e12
  have hmD : M D = false := wd2.new hD
  -- what is known between the turns
  let P : Nat → Hp → Prop := fun i H' => Same H2 H' ∧ Same (Hm M H2) (Hm (addM M D) H') ∧ Wd (addM M D) H' ∧ ∃ acc, H' D = some (.lst acc) ∧ DpAll K (Hm (addM M D) H') acc (((xs.take i).filter f).map r)
  have p0 : P 0 (upd H2 D (.lst [])) := by
    refine ⟨same_new hD, hm_new hD, wd_add (wd2.mono (same_new hD)) (by rw [upd_same]; intro z; cases z), [], upd_same, ?_⟩
    rw [List.take_zero]
    exact .nil
  refine ⟨fun i m H' => m = xs.length - i ∧ i ≤ xs.length ∧ P i H', ⟨xs.length, by omega, Nat.zero_le _, p0⟩, ?_⟩
  rintro i m H' ⟨rfl, hi, e3, e4, wd3, acc, hacc, hall⟩
  obtain ⟨w1, w2⟩ := w (addM M D) i H' e4 wd3
  rw [List.length_map] at w1 w2
  by_cases hlt : i < xs.length
  · obtain ⟨go, y⟩ := w1 hlt
    refine .inr ⟨go, P (i + 1), fun H'' p' => ⟨xs.length - (i + 1), by omega, rfl, hlt, p'⟩, fun x H'' hy => ?_⟩
    obtain ⟨e5, d, hd1, hd2⟩ := y x H'' hy
    have ex : xs[i]? = some xs[i] := List.getElem?_eq_getElem hlt
    rw [List.getElem?_map, ex] at hd1
    have hd3 : enc xs[i] = d := Option.some.inj hd1
    subst hd3
    -- the item, in the part that the new list is not of
    have wd4 : Wd (addM M D) H'' := wd3.mono e5
    have sD : Same (Hm M H2) (Hm (addM M D) H'') := e4.trans (hm_mono e5)
    have hx : Dp K (Hm (addM M D) H'') x (enc xs[i]) := hd2
    have e6 : Same H H'' := (e12.trans e3).trans e5
    obtain ⟨σ2, g1, g2, t1, t2⟩ := h xs[i] (List.getElem_mem hlt) (addM M D) H'' x e6 ((hm_mono e12).trans sD) wd4 hx
    refine g1 _ ⟨g2, t1.use fun H3 e7 => ?_⟩
    have hsucc : (xs.take (i + 1)).filter f = (xs.take i).filter f ++ (if f xs[i] = true then [xs[i]] else []) := by
      rw [List.take_succ_eq_append_getElem hlt, List.filter_append, List.filter_cons, List.filter_nil]
    cases hf : f xs[i] with
    | true =>
      refine iteT (EvP.use (EvD.mono (t2 hf) e7) fun z H4 e8 hz2 => ?_)
      have e9 : Same H'' H4 := e7.trans e8
      have hD4 : H4 D = some (.lst acc) := e9 _ _ (e5 _ _ hacc)
      have hlen : acc.length ≤ xs.length := by
        rw [dps_len hall, List.length_map]
        exact Nat.le_trans (List.length_filter_le _ _) (by rw [List.length_take]; omega)
      refine ⟨acc, hD4, sz_lt (by
        have : acc.length ≤ i := by
          rw [dps_len hall, List.length_map]
          exact Nat.le_trans (List.length_filter_le _ _) (by rw [List.length_take]; omega)
        omega), ?_⟩
      have hup : Hm (addM M D) (upd H4 D (.lst (acc ++ [z]))) = Hm (addM M D) H4 := hm_upd addM_same
      refine ⟨?_, ?_, ?_, acc ++ [z], upd_same, ?_⟩
      · exact same_mut ((e3.trans e5).trans e9) hD
      · rw [hup]; exact sD.trans (hm_mono e9)
      · intro a ha
        by_cases ea : a = D
        · rw [ea, upd_same]; intro z; cases z
        · rw [upd_ne ea]; exact (wd4.mono e9) a ha
      · rw [hup, hsucc, if_pos hf, List.map_append]
        exact dps_append (hall.up (hm_mono (e5.trans e9))) (dps_one hz2)
    | false =>
      refine iteF ⟨(e3.trans e5).trans e7, sD.trans (hm_mono e7), wd4.mono e7, acc, e7 _ _ (e5 _ _ hacc), ?_⟩
      rw [hsucc, if_neg (by rw [hf]; decide), List.append_nil]
      exact hall.up (hm_mono (e5.trans e7))
  · have e : i = xs.length := by omega
    subst e
    refine .inl ⟨w2 rfl, q _ _ (e2.trans e3) ?_⟩
    rw [List.take_length] at hall
    have hm2 : Same (Hm (addM M D) H') (Hm M H') := hm_add_sub M D H'
    exact .lst (.of (hm_of hmD hacc)) (hall.up hm2)
/-- one name, no test -/
theorem ed_map {ι : Type} {xs : List ι} {enc : ι → PyData} {r : ι → PyData} {j : Nat} {vs : List Nat} (wd : Wd M H) (hsr : Src K M wi σ H (xs.map enc)) (hz : xs.length ≤ 100000) (hw : ∀ x, wipe ((wipe σ vs).set j (some x)) vs = wipe σ vs)
    (h : ∀ (a : ι), a ∈ xs → ∀ (M' : Mk) (H1 : Hp) (v : V), Same H H1 → Same (Hm M H) (Hm M' H1) → Wd M' H1 → Dp K (Hm M' H1) v (enc a) → EvD K M' te ((wipe σ vs).set j (some v)) H1 (r a)) :
    EvD K M (tLc wi (gName j) tYes te vs) σ H (.list (xs.map r)) := by
  have z := ed_lc (te := te) (tt := tYes) (g := gName j) (vs := vs) (f := fun _ => true) (r := r) wd hsr hz fun a ha M' H1 v e1 e2 w2 hv => ⟨(wipe σ vs).set j (some v), fun _ q => q, hw v, et_yes, fun _ => h a ha M' H1 v e1 e2 w2 hv⟩
  rw [List.filter_eq_self.mpr fun _ _ => rfl] at z
  exact z
/-- one name, a test -/
theorem ed_filter {ι : Type} {xs : List ι} {enc : ι → PyData} {f : ι → Bool} {r : ι → PyData} {j : Nat} {vs : List Nat} (wd : Wd M H) (hsr : Src K M wi σ H (xs.map enc)) (hz : xs.length ≤ 100000) (hw : ∀ x, wipe ((wipe σ vs).set j (some x)) vs = wipe σ vs)
    (h : ∀ (a : ι), a ∈ xs → ∀ (M' : Mk) (H1 : Hp) (v : V), Same H H1 → Same (Hm M H) (Hm M' H1) → Wd M' H1 → Dp K (Hm M' H1) v (enc a) → EvT tt ((wipe σ vs).set j (some v)) H1 (f a) ∧ EvD K M' te ((wipe σ vs).set j (some v)) H1 (r a)) :
    EvD K M (tLc wi (gName j) tt te vs) σ H (.list ((xs.filter f).map r)) :=
  ed_lc wd hsr hz fun a ha M' H1 v e1 e2 w2 hv => ⟨(wipe σ vs).set j (some v), fun _ q => q, hw v, (h a ha M' H1 v e1 e2 w2 hv).1, fun _ => (h a ha M' H1 v e1 e2 w2 hv).2⟩
/-- two names, no test -/
theorem ed_map2 {ι : Type} {xs : List ι} {ea eb : ι → PyData} {r : ι → PyData} {i j : Nat} {vs : List Nat} (wd : Wd M H) (hsr : Src K M wi σ H (xs.map fun a => .tuple [ea a, eb a])) (hz : xs.length ≤ 100000) (hw : ∀ x y, wipe (((wipe σ vs).set i (some x)).set j (some y)) vs = wipe σ vs)
    (h : ∀ (a : ι), a ∈ xs → ∀ (M' : Mk) (H1 : Hp) (x y : V), Same H H1 → Same (Hm M H) (Hm M' H1) → Wd M' H1 → Dp K (Hm M' H1) x (ea a) → Dp K (Hm M' H1) y (eb a) → EvD K M' te (((wipe σ vs).set i (some x)).set j (some y)) H1 (r a)) :
    EvD K M (tLc wi (gTup K 2 (gCons (gName i) (gCons (gName j) gNil))) tYes te vs) σ H (.list (xs.map r)) := by
  have z := ed_lc (te := te) (tt := tYes) (g := gTup K 2 (gCons (gName i) (gCons (gName j) gNil))) (vs := vs) (f := fun _ => true) (r := r) wd hsr hz fun a ha M' H1 v e1 e2 w2 hv => by
    obtain ⟨p, ws, rfl, hs, hall⟩ := dp_tup hv
    obtain ⟨x, y, rfl, h1, h2⟩ := two_of hall
    exact ⟨((wipe σ vs).set i (some x)).set j (some y), fun Q q => ⟨p, _, rfl, sqT_mono (hm_sub M' H1) hs, rfl, x, [y], rfl, y, [], rfl, rfl, q⟩, hw x y, et_yes, fun _ => h a ha M' H1 x y e1 e2 w2 h1 h2⟩
  rw [List.filter_eq_self.mpr fun _ _ => rfl] at z
  exact z
end
end EIT
end
/-! text Tx -/
section
set_option maxHeartbeats 4000000
/-! What the top has left, as one structure; the call of a def by its promise. -/
namespace EIT
open PySem PySem.Spec PyProof.Rows L2
/-- a def of the top -/
def Df (K : PySem.W.Frag) (mg : Str → Option Value) (x qual : Str) (st : Stmt) : Prop := ∃ f fd, FunD K x qual (defArgs st) (defBody st) (defScope st) [] [] f fd ∧ mg x = some (.ref f)
structure Tx (K : PySem.W.Frag) (mg : Str → Option Value) : Prop where
  d_is_integer : Df K mg "is_integer" "is_integer" s_is_integer
  d_is_within : Df K mg "is_within" "is_within" s_is_within
  d_is_name : Df K mg "is_name" "is_name" s_is_name
  d_is_row_of : Df K mg "is_row_of" "is_row_of" s_is_row_of
  d_are_unlike : Df K mg "are_unlike" "are_unlike" s_are_unlike
  d_are_numbers : Df K mg "are_numbers" "are_numbers" s_are_numbers
  d_power : Df K mg "power" "power" s_power
  d_are_places : Df K mg "are_places" "are_places" s_are_places
  d_is_road : Df K mg "is_road" "is_road" s_is_road
  d_is_web_form : Df K mg "is_web_form" "is_web_form" s_is_web_form
  d_is_order : Df K mg "is_order" "is_order" s_is_order
  d_need_order : Df K mg "need_order" "need_order" s_need_order
  d_have_road : Df K mg "have_road" "have_road" s_have_road
  d_neighbours_of : Df K mg "neighbours_of" "neighbours_of" s_neighbours_of
  d_is_table : Df K mg "is_table" "is_table" s_is_table
  d_is_sum_table : Df K mg "is_sum_table" "is_sum_table" s_is_sum_table
  d_is_rule_for : Df K mg "is_rule_for" "is_rule_for" s_is_rule_for
  d_is_rule : Df K mg "is_rule" "is_rule" s_is_rule
  d_is_hall_form : Df K mg "is_hall_form" "is_hall_form" s_is_hall_form
  d_need_hall : Df K mg "need_hall" "need_hall" s_need_hall
  d_number_of_digits : Df K mg "number_of_digits" "number_of_digits" s_number_of_digits
  d_digits_of : Df K mg "digits_of" "digits_of" s_digits_of
  d_next_by_word : Df K mg "next_by_word" "next_by_word" s_next_by_word
  d_neighbour_numbers : Df K mg "neighbour_numbers" "neighbour_numbers" s_neighbour_numbers
  d_table_in : Df K mg "table_in" "table_in" s_table_in
  d_all_states : Df K mg "all_states" "all_states" s_all_states
  d_index_at : Df K mg "index_at" "index_at" s_index_at
  d_numbers_of : Df K mg "numbers_of" "numbers_of" s_numbers_of
  d_steps_at : Df K mg "steps_at" "steps_at" s_steps_at
  d_steps_in : Df K mg "steps_in" "steps_in" s_steps_in
  d_day_numbers : Df K mg "day_numbers" "day_numbers" s_day_numbers
  d_last_ones : Df K mg "last_ones" "last_ones" s_last_ones
  d_ring_from : Df K mg "ring_from" "ring_from" s_ring_from
  d_rings_in : Df K mg "rings_in" "rings_in" s_rings_in
  d_joined_hall : Df K mg "joined_hall" "joined_hall" s_joined_hall
  d_can_join : Df K mg "can_join" "can_join" s_can_join
  d_are_turns : Df K mg "are_turns" "are_turns" s_are_turns
  d_woven : Df K mg "woven" "woven" s_woven
  d_are_lengths : Df K mg "are_lengths" "are_lengths" s_are_lengths
  d_lengths_beside : Df K mg "lengths_beside" "lengths_beside" s_lengths_beside
  d_need_both : Df K mg "need_both" "need_both" s_need_both
  d_beside : Df K mg "beside" "beside" s_beside
  d_woven_order : Df K mg "woven_order" "woven_order" s_woven_order
  d_beside_lengths : Df K mg "beside_lengths" "beside_lengths" s_beside_lengths
  d_need_two : Df K mg "need_two" "need_two" s_need_two
  d_ring_lengths : Df K mg "ring_lengths" "ring_lengths" s_ring_lengths
  d_law_feed : Df K mg "_law_feed" "_law_feed" s_law_feed
  d_law_draw : Df K mg "_law_draw" "_law_draw" s_law_draw
  d_law_one : Df K mg "_law_one" "_law_one" s_law_one
  d_law_mixed : Df K mg "_law_mixed" "_law_mixed" s_law_mixed
  d_law_names : Df K mg "_law_names" "_law_names" s_law_names
  d_law_web : Df K mg "_law_web" "_law_web" s_law_web
  d_law_neighbours : Df K mg "_law_neighbours" "_law_neighbours" s_law_neighbours
  d_law_rule : Df K mg "_law_rule" "_law_rule" s_law_rule
  d_law_hall : Df K mg "_law_hall" "_law_hall" s_law_hall
  d_law_order : Df K mg "_law_order" "_law_order" s_law_order
  d_law_renamed : Df K mg "_law_renamed" "_law_renamed" s_law_renamed
  d_law_common : Df K mg "_law_common" "_law_common" s_law_common
  d_law_due : Df K mg "_law_due" "_law_due" s_law_due
  d_law_drawn : Df K mg "_law_drawn" "_law_drawn" s_law_drawn
  d_law_states_on : Df K mg "_law_states_on" "_law_states_on" s_law_states_on
  d_law_bad_lengths : Df K mg "_law_bad_lengths" "_law_bad_lengths" s_law_bad_lengths
  d_law_word : Df K mg "_law_word" "_law_word" s_law_word
  d_law_lists_right : Df K mg "_law_lists_right" "_law_lists_right" s_law_lists_right
  d_law_halls_right : Df K mg "_law_halls_right" "_law_halls_right" s_law_halls_right
  d_law : Df K mg "law" "law" s_law
  b_isinstance : mg "isinstance" = none
  b_len : mg "len" = none
  b_all : mg "all" = none
  b_any : mg "any" = none
  b_set : mg "set" = none
  b_tuple : mg "tuple" = none
  b_sorted : mg "sorted" = none
  b_range : mg "range" = none
  b_zip : mg "zip" = none
  b_min : mg "min" = none
  b_max : mg "max" = none
  b_sum : mg "sum" = none
  b_int : mg "int" = none
  b_list : mg "list" = none
  b_enumerate : mg "enumerate" = none
  b_dict : mg "dict" = none
  b_repr : mg "repr" = none
  b_bool : mg "bool" = none
  b_str : mg "str" = none
  i_MOST_SIGNS : ∃ t, mg "MOST_SIGNS" = some (.int 8 t)
  i_MOST_PLACES : ∃ t, mg "MOST_PLACES" = some (.int 8 t)
  i_MOST_ROADS : ∃ t, mg "MOST_ROADS" = some (.int 14 t)
  i_MOST_STATES : ∃ t, mg "MOST_STATES" = some (.int 256 t)
  i_LEAST_KIND : ∃ t, mg "LEAST_KIND" = some (.int 2 t)
  i_MOST_KIND : ∃ t, mg "MOST_KIND" = some (.int 3 t)
  i_MOST_NEEDED : ∃ t, mg "MOST_NEEDED" = some (.int 9 t)
  s_LETTERS : ∃ t, mg "LETTERS" = some (.str "abcdefghijklmnopqrstuvwxyz" t)
  s_DIGITS : ∃ t, mg "DIGITS" = some (.str "0123456789" t)
  g_gcd : mg "gcd" = some (.builtin "math.gcd")
  plain : ∃ a, mg "PLAIN" = some (.ref a) ∧ ∀ H : Hp, SqT K H a [.str "keep", .str "least", .str "greatest", .str "odd"]
  days : ∃ C f fd, mg "Days" = some (.ref C) ∧ Cls K C ∧ L2.Mk K C f ∧ NoAttr K C "held_hall" ∧ NoAttr K C "states" ∧ NoAttr K C "table" ∧ FunD K "__init__" "Days.__init__" (defArgs s_Days_init) (defBody s_Days_init) (defScope s_Days_init) [] [] f fd
  bad : ∃ C T, mg "BadLengths" = some (.ref C) ∧ mg "TurnError" = some (.ref T) ∧ PySem.W.excIn K C He.veBase "ValueError.__new__" = true ∧ PySem.W.keepIn K (.ref C) = true ∧ PySem.W.subIn K (.ref C) (.type "BaseException") = some true ∧ PySem.W.typeIn K (.ref C) = some (.type "type") ∧ PySem.W.exmOne K (.ref C) (.ref T) = some true ∧ PySem.W.exmOne K (.ref C) (.ref C) = some true ∧ PySem.W.keepIn K (.ref T) = true
/-- the module's name x stands for a def that keeps the promise sp -/
def Cal (P : Program) (w : World) (K : PySem.W.Frag) (mg : Str → Option Value) (base : Heap) (k : Nat) (x : Str) (ps : List Str) (sp : Sp) : Prop :=
  ∃ f fd, FnOk P w K mg base CX0 k f fd ps sp ∧ mg x = some (.ref f) ∧ PySem.W.keepIn K (.ref f) = true ∧ Binds K fd ps []
section
variable {X : Cx} {x : Str} {k : Nat} {ps : List Str} {sp : Sp} {e : Expr} {es : List Expr} {t : TA} {p pos : Pos}
theorem pe_cal (c : Cal X.prog X.w X.K X.mg X.base k x ps sp) (hr : Room k X.A) (hg : Gl X x) (ha : PA X (e :: es) t) (hdb : (x == ("__debug__" : Str)) = false := by decide)
    (he : starEach (e :: es) X.env = (false, eval e X.env) :: starEach es X.env := by rfl) (hpl : (backTo pos (starEach es X.env)).any (·.1) = false := by rfl) : PE X (.Call (.Name x p) (e :: es) [] pos) (tCall sp [] E0 t) := by
  obtain ⟨f, fd, F, g, kp, b⟩ := c
  exact pe_call F hr hg g kp b .nil pass0 ha (hdb := hdb) (he := he) (hpl := hpl)
theorem pe_gint {i : Int} (h : ∃ t, X.mg x = some (.int i t)) (hg : Gl X x) (hdb : (x == ("__debug__" : Str)) = false := by decide) : PE X (.Name x pos) (tC (.int i)) := by
  obtain ⟨t, h⟩ := h
  exact pe_glob hg h ⟨_, rfl⟩ (hd := hdb)
theorem pe_gstr {i : Str} (h : ∃ t, X.mg x = some (.str i t)) (hg : Gl X x) (hdb : (x == ("__debug__" : Str)) = false := by decide) : PE X (.Name x pos) (tC (.str i)) := by
  obtain ⟨t, h⟩ := h
  exact pe_glob hg h ⟨_, rfl⟩ (hd := hdb)
end
section
variable {P : Program} {w : World} {K : PySem.W.Frag} {mg : Str → Option Value} {base : Heap} {x qual : Str} {st : Stmt} {N ps : List Str} {k : Nat}
/-- a def that reads data and hands back data -/
theorem mkF {ι : Type} {args : ι → List PyData} {pre : ι → Prop} {res : ι → PyData} (F : Df K mg x qual st) (S : FnScope N ps (defScope st)) (hl : ∀ i, (args i).length = ps.length)
    (hb : ∀ (kV doc pm : Value) (an : Option Addr) (cdv ct : Value) (us : List Value), us.length = ps.length → bindArgs (PySem.W.fnOf x qual (defArgs st) (defBody st) (defScope st) .none kV doc pm an cdv ct) ⟨us, []⟩ = pure (ps.zip us))
    (body : ∀ (f : Addr) (cdv : Value) (A : Around) (outer : List Env) (s : Shared) (H : Hp) (vs : List V) (Q : VK) (E : XK), Room k (A.deeper (envOfC qual (defScope st) s.heap.objs.size f cdv)) → ∀ (M : Mk) (i : ι), Wd M H → DpAll K (Hm M H) vs (args i) → pre i →
      (∀ v H', Same H H' → Dp K (Hm M H') v (res i) → Q v H') →
      ∃ t, PSs (cxOf CX0 P w K mg base N qual (defScope st) f cdv A outer s H E).nox (defBody st) t ∧ t { nx := fun _ H' => Q .non H', rt := Q } (start N vs) H) :
    Cal P w K mg base (k + 1) x ps (spF K args pre res) := by
  obtain ⟨f, fd, F, g⟩ := F
  refine ⟨f, fd, F.ok S (fun vs H Q E h => ?_) (fun cdv A outer s H vs Q E hr h => ?_), g, F.kp, F.bindsN hb⟩
  · obtain ⟨M, i, wd, hv, _⟩ := h
    rw [dps_len hv, hl]
  · obtain ⟨M, i, wd, hv, hp, q⟩ := h
    obtain ⟨t, h1, h2⟩ := body f cdv A outer s H vs Q E hr M i wd hv hp q
    exact ⟨t, h1.nox, h2⟩
/-- any promise -/
theorem mkS {sp : Sp} (F : Df K mg x qual st) (S : FnScope N ps (defScope st)) (hl : ∀ vs H Q E, sp vs H Q E → vs.length = ps.length)
    (hb : ∀ (kV doc pm : Value) (an : Option Addr) (cdv ct : Value) (us : List Value), us.length = ps.length → bindArgs (PySem.W.fnOf x qual (defArgs st) (defBody st) (defScope st) .none kV doc pm an cdv ct) ⟨us, []⟩ = pure (ps.zip us))
    (body : ∀ (f : Addr) (cdv : Value) (A : Around) (outer : List Env) (s : Shared) (H : Hp) (vs : List V) (Q : VK) (E : XK), Room k (A.deeper (envOfC qual (defScope st) s.heap.objs.size f cdv)) → sp vs H Q E →
      ∃ t, PSs (cxOf CX0 P w K mg base N qual (defScope st) f cdv A outer s H E).nox (defBody st) t ∧ t { nx := fun _ H' => Q .non H', rt := Q } (start N vs) H) :
    Cal P w K mg base (k + 1) x ps sp := by
  obtain ⟨f, fd, F, g⟩ := F
  refine ⟨f, fd, F.ok S hl (fun cdv A outer s H vs Q E hr h => ?_), g, F.kp, F.bindsN hb⟩
  obtain ⟨t, h1, h2⟩ := body f cdv A outer s H vs Q E hr h
  exact ⟨t, h1.nox, h2⟩
end
end EIT
end
/-! text R0 -/
section
set_option maxHeartbeats 4000000
/-! The layer's rules with the written part as a letter (within a comprehension's block it must not hang on the block). -/
namespace EIT
open PySem PySem.Spec PyProof.Rows L2 RZ
section
variable {X : Cx} (K : PySem.W.Frag)
theorem call_isiK' (hK : X.K = K := by rfl) : CallR X (.builtin "isinstance") (rIsi K) := by subst hK; exact call_isi
theorem op_in_seqK (hK : X.K = K := by rfl) : OpR X (compareOp .In) (rIn K false) := by subst hK; exact op_in_seq
theorem op_notIn_seqK (hK : X.K = K := by rfl) : OpR X (compareOp .NotIn) (rIn K true) := by subst hK; exact op_notIn_seq
theorem ix_seqK (hK : X.K = K := by rfl) : IxR X (rIx K) := by subst hK; exact ix_seq
theorem call_tuple_ofK (hK : X.K = K := by rfl) : CallR X (.type "tuple") (fun xs H Q => ∃ p ys, xs = [V.ref p] ∧ ((SqL K H p ys ∧ ∀ l, H l = none → Q (.ref l) (upd H l (.tup ys))) ∨ (SqT K H p ys ∧ Q (.ref p) H))) := by subst hK; exact call_tuple_of
theorem call_list_ofK (hK : X.K = K := by rfl) : CallR X (.type "list") (fun xs H Q => ∃ p ys, xs = [V.ref p] ∧ (SqL K H p ys ∨ SqT K H p ys) ∧ ∀ l, H l = none → Q (.ref l) (upd H l (.lst ys))) := by subst hK; exact call_list_of
theorem call_len_seqK (hK : X.K = K := by rfl) : CallR X (.builtin "len") (fun xs H Q => ∃ p ys, xs = [V.ref p] ∧ (SqL K H p ys ∨ SqT K H p ys) ∧ Q (.int ys.length) H) := by subst hK; exact call_len_seq
theorem cr_allK (hc : X.calm = true) (hK : X.K = K := by rfl) : CallR X (.builtin "all") (rAll K) := by subst hK; exact cr_all hc
theorem cr_anyK (hc : X.calm = true) (hK : X.K = K := by rfl) : CallR X (.builtin "any") (rAny K) := by subst hK; exact cr_any hc
theorem cr_sumK (hc : X.calm = true) (hK : X.K = K := by rfl) : CallR X (.builtin "sum") (rSum K) := by subst hK; exact cr_sum hc
theorem cr_maxK (hc : X.calm = true) (hK : X.K = K := by rfl) : CallR X (.builtin "max") (rMax K) := by subst hK; exact cr_max hc
theorem cr_minK' (hc : X.calm = true) (hK : X.K = K := by rfl) : CallR X (.builtin "min") (rMin K) := by subst hK; exact cr_min hc
theorem sl_listK (hK : X.K = K := by rfl) : SlR X (rSlL K) := by subst hK; exact sl_list
theorem sl_tupAK (hK : X.K = K := by rfl) : SlR X (rSlA K) := by subst hK; exact sl_tupA
theorem op_catAK (hK : X.K = K := by rfl) : OpR X (binaryOp .Add) (rCatA K) := by subst hK; exact op_catA
theorem op_eqDK (hu : X.A.units + 64 < cLine) (hK : X.K = K := by rfl) : OpR X (compareOp .Eq) (rEqD K) := by subst hK; exact op_eqD hu
theorem op_neDK (hu : X.A.units + 64 < cLine) (hK : X.K = K := by rfl) : OpR X (compareOp .NotEq) (rNeD K) := by subst hK; exact op_neD hu
theorem mt_tup_indexK (hK : X.K = K := by rfl) : MtR X "tuple.index" (fun x xs H Q => ∃ p, ∃ ys : List Str, ∃ z j, x = V.ref p ∧ xs = [.str z] ∧ SqT K H p (ys.map V.str) ∧ ys[j]? = some z ∧ (∀ m, m < j → ys[m]? ≠ some z) ∧ Q (.int (j : Nat)) H) := by subst hK; exact mt_tup_index
theorem mt_indexK (hK : X.K = K := by rfl) : MtR X "list.index" (rIndex K) := by subst hK; exact mt_index
theorem mt_lcountK (hK : X.K = K := by rfl) : MtR X "list.count" (rCntI K) := by subst hK; exact mt_lcount
theorem cr_sortedIK (hK : X.K = K := by rfl) : CallR X (.builtin "sorted") (rSortedI K) := by subst hK; exact cr_sortedI
theorem pi_listK {tg l : Expr} {tl : TE} (hl : PE X l tl) (hK : X.K = K := by rfl) : PI X tg l (iList K tl) := by subst hK; exact pi_list hl
theorem pi_tupK {tg l : Expr} {tl : TE} (hl : PE X l tl) (hK : X.K = K := by rfl) : PI X tg l (iTup K tl) := by subst hK; exact pi_tup hl
theorem pi_zipK {e e2 : Expr} {ta : TA} {p pos tpos : Pos} {elts : List Expr} {kk : Nat} (hg : Gl X "zip") (hm : X.mg "zip" = none) (ha : PA X [e, e2] ta) (hs : starEach [e, e2] X.env = (false, eval e X.env) :: starEach [e2] X.env := by rfl) (hs2 : (backTo pos (starEach [e2] X.env)).any (·.1) = false := by rfl) (hK : X.K = K := by rfl) : PI X (.Tuple elts kk tpos) (.Call (.Name "zip" p) [e, e2] [] pos) (iZipA K ta) := by subst hK; exact pi_zipA hg hm ha hs hs2
theorem pi_enumK {e : Expr} {ta : TA} {p pos tpos : Pos} {elts : List Expr} {kk : Nat} (hg : Gl X "enumerate") (hm : X.mg "enumerate" = none) (ha : PA X [e] ta) (hs : starEach [e] X.env = [(false, eval e X.env)] := by rfl) (hK : X.K = K := by rfl) : PI X (.Tuple elts kk tpos) (.Call (.Name "enumerate" p) [e] [] pos) (iEnum K ta) := by subst hK; exact pi_enum hg hm ha hs
theorem pe_revLK {e : Expr} {te : TE} {k : Nat} {p1 p2 p3 pos : Pos} (he : PE X e te) (hK : X.K = K := by rfl) : PE X (.Subscript e (.Slice none none (some (.UnaryOp .USub (.Constant (.int 1) k p1) p2)) p3) pos) (tRevL K te) := by subst hK; exact pe_revL he
theorem pg_tupK {es : List Expr} {k : Nat} {t : TGs} {n : Nat} {pos : Pos} (hc : X.calm = true) (h : PGs X es t) (hn : (assignEach es X.env).length = n := by rfl) (hst : (assignEach es X.env).findIdx? (·.1) = none := by rfl) (hK : X.K = K := by rfl) : PG X (.Tuple es k pos) (gTup K n t) := by subst hK; exact pg_tup hc h hn hst
theorem pe_bmK {T : String} {name : Str} {id : String} {r : V → List V → Hp → VK → Prop} {o e : Expr} {es : List Expr} {to : TE} {t : TA} {apos cpos : Pos} (pa : PlainAttrs T) (slot : Slot T name id) (hty : typeOf (.builtin id) = pure (.type "method_descriptor")) (hm : MtR X id r) (ho : PE X o to) (ha : PA X (e :: es) t)
    (hbase : attributeBase o name X.env (eval o X.env) = eval o X.env := by rfl)
    (hfew : ((backTo cpos (starEach (e :: es) X.env)).all (fun x => !x.1) && (backToKw cpos (keywordEach [] X.env)).all (fun x => x.1.isSome)
      && decide ((e :: es).length + ([] : List Keyword).length + (if ([] : List Keyword).isEmpty then 0 else 1) < 30)) = true := by rfl)
    (hline : (apos.endLine == cpos.line) = true := by rfl) (hs : starEach (e :: es) X.env = (false, eval e X.env) :: starEach es X.env := by rfl) (hplain : (backTo cpos (starEach es X.env)).any (·.1) = false := by rfl) (hK : X.K = K := by rfl) :
    PE X (.Call (.Attribute o name apos) (e :: es) [] cpos) (tBM K T r to t) := by
  subst hK
  exact pe_bm pa slot hty hm ho ha hbase hfew hline hs hplain
theorem pe_bm0K {T : String} {name : Str} {id : String} {r : V → List V → Hp → VK → Prop} {o : Expr} {to : TE} {apos cpos : Pos} (pa : PlainAttrs T) (slot : Slot T name id) (hty : typeOf (.builtin id) = pure (.type "method_descriptor")) (hm : MtR X id r) (ho : PE X o to)
    (hbase : attributeBase o name X.env (eval o X.env) = eval o X.env := by rfl) (hline : (apos.endLine == cpos.line) = true := by rfl) (hK : X.K = K := by rfl) :
    PE X (.Call (.Attribute o name apos) [] [] cpos) (tBM0 K T r to) := by
  subst hK
  exact pe_bm0 pa slot hty hm ho hbase hline
end
end EIT
end
/-! text Ev2 -/
section
set_option maxHeartbeats 4000000
/-! More expressions over data: isinstance, len, items, all, any, sums. -/
namespace EIT
open PySem PySem.Spec PyProof.Rows L2
section
variable {K : PySem.W.Frag} {M : Mk} {σ : L2.St} {H H' : Hp} {ta tb te : TE} {tr : TA} {d e : PyData} {ds es : List PyData}
def tyN : PyData → String
  | .none => "NoneType"
  | .bool _ => "bool"
  | .int _ => "int"
  | .str _ => "str"
  | .list _ => "list"
  | .tuple _ => "tuple"
  | .dict _ => "dict"
theorem tyx_of {v : V} (h : Dp K H v d) : TyX K H v (.type (tyN d)) := by
  cases h with
  | non => exact .base .non
  | bl b => exact .base (.bl b)
  | int i => exact .base (.int i)
  | str x => exact .base (.str x)
  | lst hs _ =>
    rcases hs with (h | ⟨o, h⟩) | ⟨o, its, n, h, hc, _⟩
    · exact .base (.lst h)
    · exact .base (.frz h)
    · exact .kList h hc
  | tup hs _ =>
    rcases hs with (h | ⟨o, h⟩) | ⟨o, its, n, h, hc, _⟩
    · exact .base (.tup h)
    · exact .fTuple h
    · exact .kTuple h hc
def isIntB : PyData → Bool
  | .int _ => true
  | .bool _ => true
  | _ => false
def isBool : PyData → Bool
  | .bool _ => true
  | _ => false
def isStr : PyData → Bool
  | .str _ => true
  | _ => false
def isTup : PyData → Bool
  | .tuple _ => true
  | _ => false
def isLst : PyData → Bool
  | .list _ => true
  | _ => false
theorem ed_isi {n : String} {b : Bool} (h : EvD K M ta σ H d) (hk : kitB (tyN d) n = some b) : EvD K M (tCB (rIsi K) (tCons ta (tCons (tC (.ty n)) tNil))) σ H (.bool b) := fun H1 e Q q =>
  h H1 e _ fun v H2 e2 hv => ⟨v, .ty n, _, _, b, rfl, .ty n, tyx_of (Dp.up hv (hm_sub M H2)), kit_ty hk, q _ H2 e2 (.bl _)⟩
theorem ed_isInt (h : EvD K M ta σ H d) : EvD K M (tCB (rIsi K) (tCons ta (tCons (tC (.ty "int")) tNil))) σ H (.bool (isIntB d)) := ed_isi h (by
  cases d <;> (simp only [tyN, isIntB, isBool, isStr, isTup, isLst]; decide +kernel))
theorem ed_isBool (h : EvD K M ta σ H d) : EvD K M (tCB (rIsi K) (tCons ta (tCons (tC (.ty "bool")) tNil))) σ H (.bool (isBool d)) := ed_isi h (by
  cases d <;> (simp only [tyN, isIntB, isBool, isStr, isTup, isLst]; decide +kernel))
theorem ed_isStr (h : EvD K M ta σ H d) : EvD K M (tCB (rIsi K) (tCons ta (tCons (tC (.ty "str")) tNil))) σ H (.bool (isStr d)) := ed_isi h (by
  cases d <;> (simp only [tyN, isIntB, isBool, isStr, isTup, isLst]; decide +kernel))
theorem ed_isTup (h : EvD K M ta σ H d) : EvD K M (tCB (rIsi K) (tCons ta (tCons (tC (.ty "tuple")) tNil))) σ H (.bool (isTup d)) := ed_isi h (by
  cases d <;> (simp only [tyN, isIntB, isBool, isStr, isTup, isLst]; decide +kernel))
theorem ed_isLst (h : EvD K M ta σ H d) : EvD K M (tCB (rIsi K) (tCons ta (tCons (tC (.ty "list")) tNil))) σ H (.bool (isLst d)) := ed_isi h (by
  cases d <;> (simp only [tyN, isIntB, isBool, isStr, isTup, isLst]; decide +kernel))
theorem dp_nodict {v : V} (h : Dp K H v d) : ∀ kvs, d ≠ .dict kvs := fun kvs z => by subst z; cases h
/-- len -/
def rLenS (K : PySem.W.Frag) : List V → Hp → VK → Prop := fun xs H Q => ∃ p ys, xs = [.ref p] ∧ (SqL K H p ys ∨ SqT K H p ys) ∧ Q (.int ys.length) H
theorem ed_lenL (h : EvD K M ta σ H (.list ds)) : EvD K M (tCB (fun xs H Q => ∃ p ys, xs = [.ref p] ∧ (SqL K H p ys ∨ SqT K H p ys) ∧ Q (.int ys.length) H) (tCons ta tNil)) σ H (.int ds.length) := fun H1 e Q q =>
  h H1 e _ fun v H2 e2 hv => by
    obtain ⟨a, xs, rfl, hs, ha⟩ := dp_lst hv
    refine ⟨a, xs, rfl, .inl (sqL_mono (hm_sub M H2) hs), q _ H2 e2 ?_⟩
    rw [dps_len ha]
    exact .int _
theorem ed_lenT (h : EvD K M ta σ H (.tuple ds)) : EvD K M (tCB (fun xs H Q => ∃ p ys, xs = [.ref p] ∧ (SqL K H p ys ∨ SqT K H p ys) ∧ Q (.int ys.length) H) (tCons ta tNil)) σ H (.int ds.length) := fun H1 e Q q =>
  h H1 e _ fun v H2 e2 hv => by
    obtain ⟨a, xs, rfl, hs, ha⟩ := dp_tup hv
    refine ⟨a, xs, rfl, .inr (sqT_mono (hm_sub M H2) hs), q _ H2 e2 ?_⟩
    rw [dps_len ha]
    exact .int _
/-- of a list that is being changed -/
theorem ed_lenM {l : Addr} {xs : List V} (h : EvV ta σ H (.ref l)) (hl : H l = some (.lst xs)) : EvD K M (tCB (fun xs H Q => ∃ p ys, xs = [.ref p] ∧ (SqL K H p ys ∨ SqT K H p ys) ∧ Q (.int ys.length) H) (tCons ta tNil)) σ H (.int xs.length) := fun H1 e Q q =>
  h H1 e _ fun v H2 e2 hv => by
    cases hv
    exact ⟨l, xs, rfl, .inl (.inl (.inl (e2 _ _ (e _ _ hl)))), q _ H2 e2 (.int _)⟩
/-- items, of whichever kind -/
theorem ed_ixT' {i : Int} {j : Nat} (ha : EvD K M ta σ H (.tuple ds)) (hb : EvD K M tb σ H (.int i)) (hj : i = (j : Int)) (h : ds[j]? = some d) : EvD K M (tOp (rIx K) ta tb) σ H d :=
  ed_op2 ha hb fun x y H1 _ hx hy Q q => by
    obtain ⟨a, xs, rfl, hs, hall⟩ := dp_tup hx
    obtain ⟨z, e1, e2⟩ := dps_get hall h
    rw [dp_int hy, hj]
    exact .inr (.inl ⟨a, xs, j, z, rfl, rfl, sqT_mono (hm_sub M H1) hs, atI_nat e1, q z H1 (Same.refl H1) e2⟩)
theorem ed_ixL' {i : Int} {j : Nat} (ha : EvD K M ta σ H (.list ds)) (hb : EvD K M tb σ H (.int i)) (hj : i = (j : Int)) (h : ds[j]? = some d) : EvD K M (tOp (rIx K) ta tb) σ H d :=
  ed_op2 ha hb fun x y H1 _ hx hy Q q => by
    obtain ⟨a, xs, rfl, hs, hall⟩ := dp_lst hx
    obtain ⟨z, e1, e2⟩ := dps_get hall h
    rw [dp_int hy, hj]
    exact .inl ⟨a, xs, j, z, rfl, rfl, sqL_mono (hm_sub M H1) hs, atI_nat e1, q z H1 (Same.refl H1) e2⟩
theorem ed_ixS' {s : Str} {i : Int} {j : Nat} {c : Nat} (ha : EvD K M ta σ H (.str s)) (hb : EvD K M tb σ H (.int i)) (hj : i = (j : Int)) (hz : s.length ≤ sizeLine) (h : s.cps.toList[j]? = some c) : EvD K M (tOp (rIx K) ta tb) σ H (.str ⟨#[c]⟩) :=
  ed_op2 ha hb fun x y H1 _ hx hy Q q => by
    rw [dp_str hx, dp_int hy, hj]
    exact .inr (.inr ⟨s, j, c, rfl, rfl, hz, atI_nat h, q _ H1 (Same.refl H1) (.str _)⟩)
theorem ed_ixM' {l : Addr} {xs : List V} {i : Int} {v : V} (ha : EvV ta σ H (.ref l)) (hb : EvD K M tb σ H (.int i)) (hl : H l = some (.lst xs)) (hi : atI xs i = some v) (hd : Dp K (Hm M H) v d) : EvD K M (tOp (rIx K) ta tb) σ H d := fun H1 e Q q =>
  ha H1 e _ fun x H2 e2 hx => hb H2 (e.trans e2) _ fun y H3 e3 hy => by
    cases hx
    rw [dp_int hy]
    have e4 := (e.trans e2).trans e3
    exact .inl ⟨l, xs, i, v, rfl, rfl, .inl (.inl (e4 _ _ hl)), hi, q v H3 (e2.trans e3) (hd.up (hm_mono e4))⟩
/-- all, any, sum, max, min of a list -/
theorem ed_all {bs : List Bool} (h : EvD K M ta σ H (.list (bs.map .bool))) : EvD K M (tCB (rAll K) (tCons ta tNil)) σ H (.bool (bs.all id)) := fun H1 e Q q =>
  h H1 e _ fun v H2 e2 hv => by
    obtain ⟨a, xs, rfl, hs, ha⟩ := dp_lst hv
    cases dps_bls ha
    exact ⟨a, bs, rfl, sqL_mono (hm_sub M H2) hs, q _ H2 e2 (.bl _)⟩
theorem ed_allP {α : Type} {xs : List α} {p : α → Bool} (h : EvD K M ta σ H (.list (xs.map fun a => .bool (p a)))) (hp : ∀ a ∈ xs, p a = true) : EvD K M (tCB (rAll K) (tCons ta tNil)) σ H (.bool true) := by
  have z := ed_all (bs := xs.map p) (h.eq (by rw [List.map_map]; rfl))
  refine z.eq ?_
  rw [List.all_map]
  congr 1
  exact List.all_eq_true.mpr fun a ha => hp a ha
theorem ed_any {bs : List Bool} (h : EvD K M ta σ H (.list (bs.map .bool))) : EvD K M (tCB (rAny K) (tCons ta tNil)) σ H (.bool (bs.any id)) := fun H1 e Q q =>
  h H1 e _ fun v H2 e2 hv => by
    obtain ⟨a, xs, rfl, hs, ha⟩ := dp_lst hv
    cases dps_bls ha
    exact ⟨a, bs, rfl, sqL_mono (hm_sub M H2) hs, q _ H2 e2 (.bl _)⟩
theorem ed_sum {ns : List Int} (h : EvD K M ta σ H (.list (ns.map .int))) : EvD K M (tCB (rSum K) (tCons ta tNil)) σ H (.int ns.sum) := fun H1 e Q q =>
  h H1 e _ fun v H2 e2 hv => by
    obtain ⟨a, xs, rfl, hs, ha⟩ := dp_lst hv
    cases dps_ints ha
    exact ⟨a, ns, rfl, sqL_mono (hm_sub M H2) hs, q _ H2 e2 (.int _)⟩
/-- x in (a, b, ..): texts -/
theorem flat_strV (ys : List Str) : (ys.map V.str).all flatV = true := by
  rw [List.all_map, List.all_eq_true]
  intro x _
  rfl
theorem inV_str (x : Str) (ys : List Str) : inV (.str x) (ys.map V.str) = decide (x ∈ ys) := by
  unfold inV
  rw [List.any_map]
  induction ys with
  | nil => rfl
  | cons y r ih =>
    rw [List.any_cons, ih]
    have e : (eqV · (V.str x)) (V.str y) = (y == x) := by
      show eqV (.str y) (.str x) = _
      rfl
    show (eqV (.str y) (.str x) || decide (x ∈ r)) = _
    rw [show eqV (.str y) (.str x) = (y == x) from rfl]
    by_cases h : x = y
    · subst h; simp
    · have h2 : (y == x) = false := by
        rw [beq_eq_false_iff_ne]; exact fun z => h z.symm
      rw [h2, Bool.false_or]
      by_cases h3 : x ∈ r
      · rw [decide_eq_true h3, decide_eq_true (List.mem_cons_of_mem _ h3)]
      · rw [decide_eq_false h3, decide_eq_false fun z => by
          rcases List.mem_cons.mp z with q | q
          · exact h q
          · exact h3 q]
theorem ed_inT {x : Str} {ys : List Str} (ha : EvD K M ta σ H (.str x)) (hb : EvD K M tb σ H (.tuple (ys.map .str))) : EvD K M (tOp (rIn K false) ta tb) σ H (.bool (decide (x ∈ ys))) :=
  ed_op2 ha hb fun v y H1 _ hx hy Q q => by
    obtain ⟨a, xs, rfl, hs, hall⟩ := dp_tup hy
    cases dps_strs hall
    rw [dp_str hx]
    refine ⟨a, _, rfl, .inr (sqT_mono (hm_sub M H1) hs), rfl, flat_strV ys, ?_⟩
    rw [if_neg Bool.false_ne_true, inV_str]
    exact q _ H1 (Same.refl H1) (.bl _)
end
end EIT
end
/-! text W1 -/
section
set_option maxHeartbeats 4000000
/-! kinds. -/
namespace EIT
open PySem PySem.Spec PyProof.Rows L2
section
variable {P : Program} {w : World} {K : PySem.W.Frag} {mg : Str → Option Value} {base : Heap}
def isInt : PyData → Bool
  | .int _ => true
  | _ => false
theorem sc_is_integer : FnScope ["thing"] ["thing"] (defScope s_is_integer) := ⟨rfl, rfl, rfl, by decide +kernel, rfl, by decide +kernel, by decide +kernel⟩
theorem ok_is_integer (T : Tx K mg) : Cal P w K mg base 1 "is_integer" ["thing"] (spF K (ι := PyData) (fun d => [d]) (fun _ => True) (fun d => .bool (isInt d))) := by
  refine mkF T.d_is_integer sc_is_integer (fun _ => rfl) (fun _ _ _ _ _ _ us hl => match us, hl with | [_], _ => rfl) fun f cdv A outer s H vs Q E hr M d wd hv _ q => ?_
  obtain ⟨v, rfl, h0⟩ := one_of hv
  refine ⟨_, (pss_one (ps_ret (pe_and (pe_callB (call_isiK' K) (by rfl) T.b_isinstance (by decide +kernel) (pa_cons (pv 0) (pa_cons (pe_bltn (v := .ty "int") (by rfl) T.b_int (by decide +kernel) rfl) pa_nil))) (pe_one (pe_not (pe_callB (call_isiK' K) (by rfl) T.b_isinstance (by decide +kernel) (pa_cons (pv 0) (pa_cons (pe_bltn (v := .ty "bool") (by rfl) T.b_bool (by decide +kernel) rfl) pa_nil)))))))), ?_⟩
  exact s_ret ((ed_and (ed_isInt (ed_var rfl h0)) fun _ => ed_not (ed_isBool (ed_var rfl h0))).eq (by cases d <;> rfl)) q

def within (lo hi : Int) : PyData → Bool
  | .int i => decide (lo ≤ i) && decide (i ≤ hi)
  | _ => false
theorem sc_is_within : FnScope ["thing", "least", "most"] ["thing", "least", "most"] (defScope s_is_within) := ⟨rfl, rfl, rfl, by decide +kernel, rfl, by decide +kernel, by decide +kernel⟩
theorem ok_is_within (T : Tx K mg) : Cal P w K mg base 2 "is_within" ["thing", "least", "most"] (spF K (ι := PyData × Int × Int) (fun x => [x.1, .int x.2.1, .int x.2.2]) (fun _ => True) (fun x => .bool (within x.2.1 x.2.2 x.1))) := by
  refine mkF T.d_is_within sc_is_within (fun _ => rfl) (fun _ _ _ _ _ _ us hl => match us, hl with | [_, _, _], _ => rfl) fun f cdv A outer s H vs Q E hr M x wd hv _ q => ?_
  obtain ⟨d, lo, hi⟩ := x
  obtain ⟨v0, v1, v2, rfl, h0, h1, h2⟩ := three_of hv
  refine ⟨_, (pss_one (ps_ret (pe_and (pe_cal (ok_is_integer T) (hr.mono (by decide)) (by rfl) (pa_cons (pv 0) pa_nil)) (pe_one (pe_chain op_le op_le (pv 1) (pv 0) (pv 2)))))), ?_⟩
  exact s_ret ((ed_and (a := isInt d) (b := within lo hi d) (ed_call d wd (ea_cons (ed_var rfl h0) ea_nil) trivial) fun z => by
    cases d with
    | int i => exact ed_chain (ed_var rfl h1) (ed_var rfl h0) (ed_var rfl h2)
    | _ => exact Bool.noConfusion z).eq (by cases d <;> rfl)) q

def rowOf (lo hi : Int) : PyData → Bool
  | .tuple ds => decide (lo ≤ (ds.length : Int)) && decide ((ds.length : Int) ≤ hi)
  | _ => false
theorem sc_is_row_of : FnScope ["thing", "least", "most"] ["thing", "least", "most"] (defScope s_is_row_of) := ⟨rfl, rfl, rfl, by decide +kernel, rfl, by decide +kernel, by decide +kernel⟩
theorem ok_is_row_of (T : Tx K mg) : Cal P w K mg base 1 "is_row_of" ["thing", "least", "most"] (spF K (ι := PyData × Int × Int) (fun x => [x.1, .int x.2.1, .int x.2.2]) (fun _ => True) (fun x => .bool (rowOf x.2.1 x.2.2 x.1))) := by
  refine mkF T.d_is_row_of sc_is_row_of (fun _ => rfl) (fun _ _ _ _ _ _ us hl => match us, hl with | [_, _, _], _ => rfl) fun f cdv A outer s H vs Q E hr M x wd hv _ q => ?_
  obtain ⟨d, lo, hi⟩ := x
  obtain ⟨v0, v1, v2, rfl, h0, h1, h2⟩ := three_of hv
  refine ⟨_, (pss_one (ps_ret (pe_and (pe_callB (call_isiK' K) (by rfl) T.b_isinstance (by decide +kernel) (pa_cons (pv 0) (pa_cons (pe_bltn (v := .ty "tuple") (by rfl) T.b_tuple (by decide +kernel) rfl) pa_nil))) (pe_one (pe_chain op_le op_le (pv 1) (pe_callB (call_len_seqK K) (by rfl) T.b_len (by decide +kernel) (pa_cons (pv 0) pa_nil)) (pv 2)))))), ?_⟩
  exact s_ret ((ed_and (a := isTup d) (b := rowOf lo hi d) (ed_isTup (ed_var rfl h0)) fun z => by
    cases d with
    | tuple ds => exact ed_chain (ed_var rfl h1) (ed_lenT (ed_var rfl h0)) (ed_var rfl h2)
    | _ => exact Bool.noConfusion z).eq (by cases d <;> rfl)) q

/-! power -/
theorem sc_power : FnScope ["number", "many", "found", "turn"] ["number", "many"] (defScope s_power) := ⟨rfl, rfl, rfl, by decide +kernel, rfl, by decide +kernel, by decide +kernel⟩
theorem ok_power (T : Tx K mg) : Cal P w K mg base 1 "power" ["number", "many"] (spF K (ι := Int × Nat) (fun x => [.int x.1, .int x.2]) (fun x => x.1.natAbs < 2 ^ 64 ∧ x.2 ≤ 1000) (fun x => .int (x.1 ^ x.2))) := by
  refine mkF T.d_power sc_power (fun _ => rfl) (fun _ _ _ _ _ _ us hl => match us, hl with | [_, _], _ => rfl) fun f cdv A outer s H vs Q E hr M x wd hv hp q => ?_
  obtain ⟨n, m⟩ := x
  obtain ⟨v0, v1, rfl, h0, h1⟩ := two_of hv
  have e0 := dp_int h0
  have e1 := dp_int h1
  subst e0 e1
  refine ⟨_, (pss_cons (ps_set (i := 2) sc_power.nd rfl (.inl rfl) pe_int)
      (pss_cons (ps_for PassesOwn.never rfl (pi_range1 (by rfl) T.b_range (pa_cons (pv 1) pa_nil)) (pg_name (i := 3) sc_power.nd rfl (.inl rfl)) (pss_one (ps_set (i := 2) sc_power.nd rfl (.inl rfl) (pe_op op_mul (pv 2) (pv 0)))))
      (pss_one (ps_ret (pv 2))))), ?_⟩
  obtain ⟨hp1, hp2⟩ := hp
  simp only at hp1 hp2
  refine q_asg (K := K) (M := M) ed_int fun v H1 e hv => ?_
  have ev := dp_int hv
  subst ev
  refine q_for (K := K) (M := M) (src_rng (ea_cons (ed_var rfl (.int _)) ea_nil) rfl (by show m ≤ 16777216; omega)) fun H2 e2 => ⟨fun i σ' H' => ∃ y, σ' = [some (.int n), some (.int (m : Int)), some (.int (n ^ i)), y] ∧ Same H2 H', ?_, ?_, ?_, ?_⟩
  · exact ⟨none, by rw [Int.pow_zero]; rfl, Same.refl _⟩
  · rintro i σ' H' ⟨y, rfl, e3⟩
    exact ⟨hm_mono e3, ((wd.mono e).mono e2).mono e3⟩
  · rintro i d x σ' H' H'' hd ⟨y, rfl, e3⟩ e4 hx
    show tAsg _ (gName 2) _ _ _
    refine s_asg (K := K) (M := M) (ed_IC (ed_var rfl (.int _)) (ed_var rfl (.int _)) ?_) fun v H3 e5 hv2 => ?_
    · exact .inr ⟨by omega, by omega⟩
    · rw [dp_int hv2]
      exact ⟨some x, by rw [Int.pow_succ]; rfl, (e3.trans e4).trans e5⟩
  · rintro σ' H' ⟨y, rfl, e3⟩
    rw [List.length_map, List.length_range]
    exact s_ret (ed_var (K := K) (M := M) rfl (.int _)) fun v H3 e5 hv2 => q v H3 (((e.trans e2).trans e3).trans e5) hv2
end
end EIT
end
/-! text E1 -/
section
set_option maxHeartbeats 4000000
/-! set(list), set(tuple) whatever the items are; sets of ints by a comprehension; sorted of them, any number. -/
namespace EIT
open PySem PySem.Spec PyProof.Rows L2
section
variable {P : Program} {w : World} {A : Around} {E : Value → Shared → Prop} {s : Shared}
/-- the loop of set.update, what the set holds told by PP -/
theorem upd_gen {I : Addr} {fp wr : List Addr} {G : Array GenState → Array GenState → Prop} {n : Nat} {Pv : Nat → Value → Prop} {St : Nat → Shared → Prop} {R : Result → Shared → Prop}
    (W : WalksS P w A.in1 I fp wr G n Pv St) (S : Addr) (hSf : S ∉ fp) (PP : Nat → Heap → Prop) (stay : ∀ i h h', PP i h → (∀ b o, b ∉ wr → h.get? b = some o → h'.get? b = some o) → PP i h')
    (add : ∀ i v (s : Shared) (Q : Bool → Shared → Prop) (E : Value → Shared → Prop), i < n → Pv i v → PP i s.heap → (∀ r h' tk, s.toks ≤ tk → Heap.SameBut S s.heap h' → PP (i + 1) h' → Q r { s with heap := h', toks := tk }) → wpAny (model P w) A.in1 (setAdd S v) Q E s) :
    ∀ (k i : Nat) (s : Shared), n - i = k → i ≤ n → St i s → PP i s.heap → (∀ s', Moved (S :: wr) G s s' → PP n s'.heap → R (.ok (.ret .none)) s') →
      codeAny (model P w) A (.builtin "set.update.loop" ⟨[.ref S, .ref I], []⟩) R s := by
  have hsub : ∀ b ∈ wr, b ∈ S :: wr := fun b hb => List.mem_cons_of_mem _ hb
  intro k
  induction k with
  | zero =>
    intro i s hk hi hst hS hR
    have hin : i = n := by omega
    subst hin
    refine codeAny_builtin PyProof.Rows.F.entry_set_update_loop ?_
    rw [Around.under_plainId PyProof.Rows.F.plain_set_update_loop _]
    show wpAny _ A.in1 (pyNext (.ref I) >>= _) _ _ s
    refine wpAny_bind (W.done s _ _ hst fun s' hm => ?_)
    show wpAny _ A.in1 (ret Value.none) _ _ s'
    exact wpAny_pure (hR s' (hm.mono hsub) (stay _ _ _ hS hm.heap))
  | succ k ih =>
    intro i s hk hi hst hS hR
    have hlt : i < n := by omega
    refine codeAny_builtin PyProof.Rows.F.entry_set_update_loop ?_
    rw [Around.under_plainId PyProof.Rows.F.plain_set_update_loop _]
    show wpAny _ A.in1 (pyNext (.ref I) >>= _) _ _ s
    refine wpAny_bind (W.item i s _ _ hlt hst fun v s' hP hst' hm => ?_)
    show wpAny _ A.in1 (holding [v] (setAdd S v) >>= _) _ _ s'
    refine wpAny_bind (wpAny_holding (add i v s' _ _ hlt hP (stay _ _ _ hS hm.heap) fun r h' tk ht hsb hS3 => ?_))
    refine wpAny_pure ⟨plainId_quiet PyProof.Rows.F.plain_set_update_loop _, ih (i + 1) _ (by omega) hlt (W.frame _ s' _ _ hst' ht fun b hb o e => ?_) hS3 fun s'' hm'' hS'' => ?_⟩
    · rw [hsb.2 b (fun h : b = S => hSf (by rw [← h]; exact hb))]; exact e
    · refine hR s'' (Moved.trans W.gtrans ((hm.mono hsub).then_heap ht fun b o hb e => ?_) hm'') hS''
      rw [hsb.2 b (fun h : b = S => hb (by rw [h]; exact List.mem_cons_self))]; exact e
/-- a new set's object -/
def freshS (w : World) : Obj := { cls := .type "set", dict := none, data := .set #[] 0 (.fresh 0 0 (!w.params.followText "set-order")) }
/-- set(l), l a list -/
theorem set_ofL {l : Addr} {items : Array Value} {Q : Value → Shared → Prop} (hh : A.handled = none) (hl : s.heap.IsList l items) (PP : Nat → Heap → Prop)
    (p0 : ∀ h : Heap, h.get? s.heap.objs.size = some (freshS w) → (∀ b o, s.heap.get? b = some o → h.get? b = some o) → PP 0 h)
    (stay : ∀ i h h', PP i h → (∀ b o, b ≠ s.heap.objs.size + 1 → h.get? b = some o → h'.get? b = some o) → PP i h')
    (add : ∀ i v (s1 : Shared) (Q : Bool → Shared → Prop) (E : Value → Shared → Prop), i < items.size → items[i]? = some v → PP i s1.heap → (∀ r h' tk, s1.toks ≤ tk → Heap.SameBut s.heap.objs.size s1.heap h' → PP (i + 1) h' → Q r { s1 with heap := h', toks := tk }) → wpAny (model P w) A.in1.in1.in1 (setAdd s.heap.objs.size v) Q E s1)
    (h : ∀ (h' : Heap) (tk : Nat), PP items.size h' → (∀ b o, s.heap.get? b = some o → h'.get? b = some o) → Q (.ref s.heap.objs.size) { s with heap := h', toks := tk }) :
    wpAny (model P w) A (call (.type "set") [.ref l]) Q E s := by
  obtain ⟨c, tl, hmro⟩ := PySem.F.called_set.mro
  have hmade := PySem.F.called_set.made
  have hsub := PySem.F.called_set.sub
  refine wpAny_call (codeAny_of_tree ?_)
  show wpAny _ _ (callAny (.type "set") _) _ _ _
  refine wpAny_pure ⟨Code.quiet_builtin _ (by decide +kernel), codeAny_builtin PySem.F.entry_type_call ?_⟩
  rw [Around.under_plain (weight_type_call_type "set" [.ref l] []) rfl]
  have h1 := PySem.F.called_set.notType
  have h2 := PySem.F.called_set.canCreate
  have hct := PySem.F.typeCall_set_1 (.ref l)
  repeat (any_goals (first | assumption | wp_step))
  refine codeAny_mono (code_set_led1 (.ref l) (E := E) (Q₁ := fun obj s₁ => obj = .ref s.heap.objs.size ∧ s₁ = { s with heap := s.heap.push (freshS w) }) ⟨rfl, rfl⟩) fun r s₁ hr => ?_
  cases r with
  | error e => exact hr
  | ok fl =>
    cases fl with
    | ret obj =>
      obtain ⟨rfl, rfl⟩ := hr
      have hS : (s.heap.push (freshS w)).get? s.heap.objs.size = some (freshS w) := Heap.get?_push_size _ rfl
      have hT : Shared.TypeIs { s with heap := s.heap.push (freshS w) } (.ref s.heap.objs.size) "set" := ⟨_, hS, rfl⟩
      have hli := PySem.F.called_set.init.lookup
      have hbi := PySem.F.called_set.init.bind (.ref s.heap.objs.size)
      repeat (any_goals (first | assumption | wp_step))
      refine codeAny_mono (codeAny_call_builtin (R := wants (fun r s₂ => r = .none ∧ ∃ h' tk, s₂ = { s with heap := h', toks := tk } ∧ PP items.size h' ∧ (∀ b o, s.heap.get? b = some o → h'.get? b = some o)) E) PySem.F.called_set.init.plain PySem.F.entry_set_init (check_set_init_1 hT ?_)) fun r₂ s₂ hr₂ => ?_
      · obtain ⟨ol, hol, hcl, nl, hdl⟩ := hl
        obtain ⟨ocls, odict, odata, oslots⟩ := ol
        simp only at hcl hdl
        subst hcl; subst hdl
        have hol' : (s.heap.push (freshS w)).get? l = some { cls := .type "list", dict := odict, data := .seq items nl, slots := oslots } := Heap.get?_push_of_some _ hol
        have hsls := PySem.F.sub_list_set
        have hslf := PySem.F.sub_list_frozenset
        have hne : (Value.type "list" == Value.type "dict") = false := by decide
        have hl1 : (s.heap.push (freshS w)).IsList l items := ⟨_, hol', rfl, nl, rfl⟩
        unfold Builtin.«set.__init__» noKeywords Builtin.Frozenset.updateFrom
        generalize hPI : pyIter = PI
        wp_walk
        subst hPI
        refine wpAny_pyIter_list hl1 ?_
        refine wpAny_bind (wpAny_runValue ?_)
        have hlS : l < s.heap.objs.size := Heap.lt_size hol
        have hh3 : A.in1.in1.in1.handled = none := by simp [hh]
        have hz : (s.heap.push (freshS w)).objs.size = s.heap.objs.size + 1 := Heap.size_push ..
        have hneI : l ≠ (s.heap.push (freshS w)).objs.size := by rw [hz]; exact Nat.ne_of_lt (Nat.lt_succ_of_lt hlS)
        have hSf : s.heap.objs.size ∉ [(s.heap.push (freshS w)).objs.size, l] := by
          rw [hz]; simp only [List.mem_cons, List.mem_singleton, List.not_mem_nil, or_false, not_or]
          exact ⟨Nat.ne_of_lt (Nat.lt_succ_self _), Nat.ne_of_gt hlS⟩
        refine upd_gen ((Walks.list hh3 _ l hneI items).toS) s.heap.objs.size hSf PP (fun i h h' p k => stay i h h' p fun b o hb e => k b o (by rw [hz, List.mem_singleton]; exact hb) e) (fun i v s Q E hi hv => add i v s Q E hi hv) (items.size - 0) 0 _ (by omega) (Nat.zero_le _)
          ⟨⟨_, Heap.get?_push_size _ rfl, rfl, rfl⟩, (hl1.push _)⟩ (p0 _ (Heap.get?_push_of_some _ hS) fun b o e => Heap.get?_push_of_some _ (Heap.get?_push_of_some _ e)) ?_
        intro s' hm hS'
        obtain ⟨h', g2, d', tk', os'⟩ := s'
        have eg : g2 = s.gens := hm.gens
        have ed : d' = s.drawn := hm.drawn
        have eo : os' = s.os := hm.os
        subst eg; subst ed; subst eo
        show wpAny _ _ _ _ _ _
        refine wpAny_pure ?_
        show wpAny _ _ (ret Value.none) _ _ _
        refine wpAny_pure ⟨rfl, h', tk', rfl, hS', fun b o e => ?_⟩
        have hb0 : b < s.heap.objs.size := Heap.lt_size e
        have hb1 : b ≠ s.heap.objs.size := Nat.ne_of_lt hb0
        have hb2 : b ≠ (s.heap.push (freshS w)).objs.size := by rw [hz]; exact Nat.ne_of_lt (Nat.lt_succ_of_lt hb0)
        exact hm.heap b o (by simp only [List.mem_cons, List.mem_singleton, List.not_mem_nil, or_false, not_or]; exact ⟨hb1, hb2⟩) (Heap.get?_push_of_some _ (Heap.get?_push_of_some _ e))
      · cases r₂ with
        | error e => exact hr₂
        | ok fl₂ =>
          cases fl₂ with
          | ret r =>
            obtain ⟨rfl, h', tk, rfl, hS', hk'⟩ := hr₂
            repeat (any_goals (first | assumption | wp_step))
            exact h _ _ hS' hk'
          | _ => exact hr₂.elim
    | _ => exact hr.elim
end
end EIT
end
/-! text E2 -/
section
set_option maxHeartbeats 4000000
/-! sets of ints: set(list), {e for x in l}, sorted, any number. -/
namespace EIT
open PySem PySem.Spec PyProof.Rows L2
section
variable {P : Program} {w : World} {A : Around} {E : Value → Shared → Prop} {s : Shared}
theorem sorted_setN {a : Addr} {S : Int → Bool} {n : Nat} {Q : Value → Shared → Prop} (R : SetR w s.heap a S n) (hh : A.handled = none) (hz : n ≤ 100000)
    (hQ : ∀ s' p (out : Array Value) (c : Nat) (ns : List Int), (∀ b o, s.heap.get? b = some o → s'.heap.get? b = some o) → s'.gens = s.gens → s'.os = s.os → s.heap.objs.size ≤ p →
      s'.heap.get? p = some (seqObj "list" out c) → IntsAre out.toList ns → ns.Pairwise (· < ·) → (∀ k, k ∈ ns ↔ S k = true) → ns.length = n → Q (.ref p) s') :
    wpAny (model P w) A (call (.builtin "sorted") [.ref a]) Q E s := by
  obtain ⟨o, es, ep, t, ho, hex, hd, g, nd, hm, hb, hf, hn, hr, hl⟩ := R
  refine Calls.call_function_entry kind_sorted plain_sorted entry_sorted (args_sorted1 _) ?_
  unfold Builtin.«sorted»
  refine wpAny_bind (m := checkCount "sorted" 1 1 _) (wpAny_pure ?_)
  refine wpAny_bind (collect_set (A := A.in1) hh ⟨o, ho, hex.1, hd⟩ hf hb hr hl fun s1 vs k1 hz1 g1 o1 pm => ?_)
  have hvl : vs.length = n := by rw [pm.length_eq, List.length_map, Array.length_toList]; exact hn
  have hI : IntsAre vs (vs.map Builtin.Re.reRawOf) := ints_of vs fun v hv => by
    obtain ⟨e, he, q⟩ := List.mem_map.mp (pm.mem_iff.mp hv)
    obtain ⟨k, tk, h1, _⟩ := g e he
    exact ⟨k, tk, by rw [← q]; exact h1⟩
  have pk : (vs.map Builtin.Re.reRawOf).Perm (es.toList.map keyOf) := by
    have q := pm.map Builtin.Re.reRawOf
    rw [List.map_map] at q
    exact q
  have hsz : vs.length ≤ sizeLine := by rw [hvl]; exact sz_ok hz
  refine wpAny_bind (wpAny_newList ?_ (by rw [hvl]; exact sz_ok hz))
  have hoL : (s1.heap.push (seqObj "list" vs.toArray 0)).get? s1.heap.objs.size = some (seqObj "list" vs.toArray 0) := Heap.get?_push_size _ rfl
  refine wpAny_bind (wpAny_holding (wpAny_call_entry slot_list_sort ⟨_, hoL, rfl⟩ entry_list_sort (SrtO.list_sort_ord SrtO.swo_int hoL hsz (fun h2 => SrtO.ints_sortable hI h2) fun out h1 h2 => ⟨_, rfl, ?_⟩) (args_list_sort _)))
  obtain ⟨k1', k2', k3'⟩ := SrtO.ints_out hI h1 h2
  obtain ⟨c, hc⟩ := sortedHeap_at (vs := vs) (out := out.toArray) hoL
  have pn : (out.map SrtO.iv).Perm (es.toList.map keyOf) := k2'.trans pk
  refine wpAny_pure ⟨_, rfl, hQ _ s1.heap.objs.size out.toArray c (out.map SrtO.iv) (fun b u e => ?_) g1 o1 hz1 hc (by simpa using k1') (lt_of_le_nodup _ k3' (pn.nodup_iff.mpr nd)) (fun k => by rw [pn.mem_iff, ← hm k]) ?_⟩
  · have q := k1 b u e
    have hlt := Heap.lt_size q
    show (sortedHeap (s1.heap.push (seqObj "list" vs.toArray 0)) s1.heap.objs.size vs out.toArray).get? b = some u
    rw [sortedHeap_old (Nat.ne_of_lt hlt) (by rw [size_push']; exact Nat.lt_succ_of_lt hlt)]
    exact Heap.get?_push_of_some _ q
  · rw [pn.length_eq, List.length_map, Array.length_toList]; exact hn
end
section
variable {X : Cx}
def rSortSetN (w : World) : List V → Hp → VK → Prop := fun vs H Q => ∃ (a : Addr) (S : Int → Bool) (n : Nat), vs = [V.ref a] ∧ H a = some (SetO w a S n) ∧ n ≤ 100000 ∧
  ∀ (ns : List Int) (p : Addr), ns.Pairwise (· < ·) → (∀ k : Int, k ∈ ns ↔ S k = true) → H p = none → Q (.ref p) (upd H p (.lst (ns.map V.int)))
theorem cr_sortSetN (w : World) (hc : X.calm = true) (hw : X.w = w := by rfl) : CallR X (.builtin "sorted") (rSortSetN w) := by
  subst hw
  intro pins s σ H vs us Q I r h
  obtain ⟨a, S, n, rfl, ha, hz, q⟩ := h
  have R := setO_get I ha
  rw [Vals.ref1 r]
  refine sorted_setN R (I.ok.hd hc) hz fun s' p out c ns k g o hp hg hi hs hm hl => ?_
  have hlen : (ns.map V.int).length ≤ sizeLine := by rw [List.length_map, hl]; exact sz_ok hz
  have hn : H p = none := I.hok.fresh hp
  have J : Inv X pins σ (upd H p (.lst (ns.map V.int))) { s with heap := s'.heap, gens := s'.gens, drawn := s'.drawn, toks := s'.toks } :=
    I.call (ch := []) (Un.laid k hp hn) (I.hok.laid k hp ⟨hlen, out.toList, c, vals_of_ints hi, hg⟩) (by rw [g]; exact I.bare) (fun _ z => nomatch z)
  have e : s' = { s with heap := s'.heap, gens := s'.gens, drawn := s'.drawn, toks := s'.toks } := by
    cases s'
    cases s
    cases o
    rfl
  rw [e]
  exact ⟨.ref p, _, J, rfl, q ns p hs hm hn⟩
/-- set(l), l a list of ints -/
def rSetLI (w : World) (K : PySem.W.Frag) : List V → Hp → VK → Prop := fun vs H Q => ∃ (a : Addr) (ns : List Int), vs = [V.ref a] ∧ SqL K H a (ns.map V.int) ∧ ns.length < 4000 ∧
  ∀ p n, n ≤ ns.length → H p = none → Q (.ref p) (upd H p (SetO w p (fun j => decide (j ∈ ns)) n))
theorem cr_setLI (w : World) (K : PySem.W.Frag) (hc : X.calm = true) (hw : X.w = w := by rfl) (hK : X.K = K := by rfl) : CallR X (.type "set") (rSetLI w K) := by
  subst hw hK
  intro pins s σ H vs us Q I r h
  obtain ⟨a, ns, rfl, hs, hz, q⟩ := h
  rw [Vals.ref1 r]
  obtain ⟨its, rv, hl, _⟩ := I.list hs
  have hi := rv.ints
  have hsz : its.length = ns.length := by rw [← rv.length, List.length_map]
  have hsz2 : its.toArray.size = ns.length := by rw [List.size_toArray, hsz]
  refine set_ofL (I.ok.hd hc) hl.isList (fun i h => ∃ c, c ≤ i ∧ SetR X.w h s.heap.objs.size (fun j => decide (j ∈ ns.take i)) c) (fun h e _ => ⟨0, Nat.le_refl _, setR_new_at e⟩)
    (fun i h h' ⟨c, h1, h2⟩ k => ⟨c, h1, h2.at fun o e => k _ o (Nat.ne_of_lt (Nat.lt_succ_self _)) e⟩) (fun i v s1 Q E hi1 hv ⟨c, h1, h2⟩ k => ?_) fun h' tk ⟨c, h1, h2⟩ kk => ?_
  · have hin : i < ns.length := by rw [← hsz2]; exact hi1
    obtain ⟨t, e⟩ := PyProof.Rows.IntsAre.int_at hi i v (by simpa using hv)
    rw [List.getD_eq_getElem?_getD, List.getElem?_eq_getElem hin, Option.getD_some] at e
    subst e
    unfold setAdd
    refine wpAny_holding ?_
    refine wpAny_bind ((intKind X.prog X.w).pyHash (k := ns[i]) (intKind_is _ _ _ _) ?_)
    refine setR_add_hashed (s := { s1 with toks := s1.toks + 1 }) h2 (by unfold scanBound; omega) fun h' hsb hS2 => ?_
    refine k _ h' (s1.toks + 1) (Nat.le_succ _) hsb ⟨_, ?_, hS2.congr fun j => ?_⟩
    · refine Nat.le_trans ?_ (Nat.succ_le_succ h1)
      split
      · exact Nat.le_succ _
      · exact Nat.le_refl _
    · rw [List.take_succ_eq_append_getElem hin]
      simp only [List.mem_append, List.mem_singleton, Bool.decide_or]
  · rw [hsz2] at h1 h2
    rw [List.take_length] at h2
    exact ⟨.ref s.heap.objs.size, _, I.laid (t' := tk) kk (Nat.le_refl _) (setO_new h2), rfl, q _ c h1 (I.hok.fresh (Nat.le_refl _))⟩
/-- {elt for tg in iter}, elt an int -/
def tScI (w : World) (wi : TI) (g : TG) (te : TE) (vs : List Nat) : TE := fun σ H Q => wi σ H fun J H1 => ∀ D, H1 D = none → ∃ W : Nat → Nat → Hp → Prop, (∃ m, W 0 m (upd H1 D (SetO w D (fun _ => false) 0))) ∧ ∀ i m H, W i m H →
  (J.stop i H ∧ Q (.ref D) H) ∨ (J.go i H ∧ ∃ Nx : Hp → Prop, (∀ H', Nx H' → ∃ m', m' < m ∧ W (i + 1) m' H') ∧ ∀ x H', J.yld i H x H' → g x (wipe σ vs) H' fun σ2 H2 => wipe σ2 vs = wipe σ vs ∧
    te σ2 H2 fun y H4 => ∃ (c : Int) (S : Int → Bool) (n : Nat), y = .int c ∧ H4 D = some (SetO w D S n) ∧ n + 1 < scanBound ∧ Nx (upd H4 D (SetO w D (fun j => S j || decide (j = c)) (if S c = true then n else n + 1))))
theorem addI_ok {pins : List (Addr × Obj)} {σ : L2.St} {H : Hp} {s : Shared} {E : Value → Shared → Prop} {D : Addr} {S : Int → Bool} {n : Nat} {y : Int} {t : Tok} {Q : Value → Shared → Prop} (I : Inv X pins σ H s) (hD : H D = some (SetO X.w D S n)) (room : n + 1 < scanBound)
    (h : ∀ s', Inv X pins σ (upd H D (SetO X.w D (fun j => S j || decide (j = y)) (if S y = true then n else n + 1))) s' → Q .none s') : wpAny (model X.prog X.w) X.A (call (.builtin "set.add") [.ref D, .int y t]) Q E s := by
  have R := setO_get I hD
  refine setR_add R room fun h' sb new => ?_
  have he : ∃ u, h'.get? D = some u := by
    have ⟨o, _, _, _, ho, _⟩ := new
    exact ⟨o, ho⟩
  exact h _ (I.write (e := D) (t' := s.toks + 1) (by rw [hD]; trivial) (.inl rfl) (fun b u hb hu => (sb.2 b hb).trans hu) he (setO_new new))
theorem pe_scI (w : World) {elt tg iter : Expr} {scope : Scope} {own : List (PySem.Str × Nat)} {pos : Pos} {wi : TI} {g : TG} {te : TE} (hc : X.calm = true) (hN : X.N.Nodup) (hi : PI X tg iter wi) (ok : BlkOk X.N X.env.scope scope own)
    (hg : ∀ (s : Shared) (H : Hp) (C : Addr) (cl : List (PySem.Str × Addr)) (fp : List Addr), PG (X.blk s H scope (compEnvC scope cl C X.env) fp) tg g)
    (he : ∀ (s : Shared) (H : Hp) (C : Addr) (cl : List (PySem.Str × Addr)) (fp : List Addr), PE (X.blk s H scope (compEnvC scope cl C X.env) fp) elt te) (hs : ∀ x, foldedSetIterable iter X.env x = pure x := by intro _; rfl) (hw : X.w = w := by rfl) :
    PE X (.SetComp elt [⟨tg, iter, [], 0⟩] scope pos) (tScI w wi g te (own.map (·.2))) := by
  subst hw
  refine ⟨fun pins s σ H Q I h => ?_⟩
  rw [PpSet.eval_SetComp]
  have hfree : ∀ y ∈ scope.names, y.2 = .free → ∃ c, X.env.cells.lookup y.1 = some c := fun y hy e => by
    rcases ok.free y hy e with k | k
    · exact I.ok.has _ (.inl k)
    · exact I.ok.has _ (.inr k)
  refine wpAny_comprehension_free (use := none) rfl hs (closure_ok hfree) ok.kind (fun y hy e => by rw [ok.uniq y hy, e])
    (thn (hi.run pins s σ H _ I h) fun xv s1 hx => thn hx fun itv s2 h2 => ?_)
  obtain ⟨it, fp, tn, J, H2, e, I2, T, st2, f2, q⟩ := h2
  subst e
  refine PpSet.newSet_ok (newEnv_comp ?_)
  generalize hD : s2.heap.objs.size = D
  obtain ⟨W, ⟨m0, w0⟩, turn⟩ := q D (I2.hok.fresh (Nat.le_of_eq hD))
  generalize hs3 : ({ s2 with heap := s2.heap.push { cls := .type "set", dict := none, data := .set #[] 0 (.fresh 0 0 (!X.w.params.followText "set-order")) } } : Shared) = s3
  have I3 : Inv X pins σ (upd H2 D (SetO X.w D (fun _ => false) 0)) s3 := by
    rw [← hs3]
    refine I2.laid (t' := s2.toks) (fun b o e => Heap.get?_push_of_some _ e) (Nat.le_of_eq hD) ?_
    rw [← hD]
    exact setO_new (setR_fresh X.w)
  have h3 : s3.heap = s2.heap.push { cls := .type "set", dict := none, data := .set #[] 0 (.fresh 0 0 (!X.w.params.followText "set-order")) } := by rw [← hs3]
  have f3 : ∀ b ∈ fp, FpOk X pins (upd H2 D (SetO X.w D (fun _ => false) 0)) b ∧ b < s3.heap.objs.size := fun b hb => by
    obtain ⟨o, e, _⟩ := T.obj _ _ st2 b hb
    have hlt := Heap.lt_size e
    refine ⟨⟨?_, (f2 b hb).2⟩, by rw [h3, Heap.size_push]; exact Nat.lt_succ_of_lt hlt⟩
    rw [upd_ne (by rw [← hD]; exact Nat.ne_of_lt hlt)]
    exact (f2 b hb).1
  have st3 : tn 0 s3.heap := T.keep _ _ _ st2 fun b _ o e => by rw [h3]; exact Heap.get?_push_of_some _ e
  have I4 := block_start I3 ok hN f3
  have pg := hg s3 (upd H2 D (SetO X.w D (fun _ => false) 0)) s3.heap.objs.size (cellsFrom (s3.heap.objs.size + 1) scope.names (cloFrom X.env.cells scope.names [])) fp
  have pe := he s3 (upd H2 D (SetO X.w D (fun _ => false) 0)) s3.heap.objs.size (cellsFrom (s3.heap.objs.size + 1) scope.names (cloFrom X.env.cells scope.names [])) fp
  have nfp : ∀ b ∈ fp, (upd H2 D (SetO X.w D (fun _ => false) 0)) b = none := fun b hb => (f3 b hb).1.1
  have fin0 : ∀ C s' m H', Inv X pins σ H' s' → Q (.ref D) H' → s'.heap.Ns C m → FpOk X pins H' C → compPost (model X.prog X.w) X.A X.xe none (EP X pins σ Q) (.ref D) C (.ok .next) s' := fun C s' m H' I' q hn f => ⟨m, hn, fun h'' sb => by
    obtain ⟨a0, a1, a2, a3, a4, a5⟩ := f
    exact ⟨.ref D, H', I'.turned (t' := s'.toks) (fun b o hb e => (sb.2 b hb).trans e) a0 a1 a3 a4 a5, rfl, q⟩⟩
  show codeAny _ _ (.compStart (.SetComp elt [⟨tg, iter, [], 0⟩] scope pos) 0 (.ref it) (.ref D) (compEnvC scope (cellsFrom (s3.heap.objs.size + 1) scope.names (cloFrom X.env.cells scope.names [])) s3.heap.objs.size X.env)) (compPost (model X.prog X.w) X.A X.xe none (EP X pins σ Q) (.ref D) s3.heap.objs.size) { s3 with heap := pushCells (s3.heap.push { cls := .type "dict", data := .dict #[] }) scope.names }
  generalize hce : compEnvC scope (cellsFrom (s3.heap.objs.size + 1) scope.names (cloFrom X.env.cells scope.names [])) s3.heap.objs.size X.env = ce at I4 pg pe ⊢
  have cL : ce.locals = s3.heap.objs.size := by subst hce; rfl
  generalize upd H2 D (SetO X.w D (fun _ => false) 0) = H3 at I3 I4 pg pe w0 nfp f3
  generalize hs4 : ({ s3 with heap := pushCells (s3.heap.push { cls := .type "dict", data := .dict #[] }) scope.names } : Shared) = s4 at I4 ⊢
  have st4 : tn 0 s4.heap := T.keep _ _ _ st3 fun b _ o e => by rw [← hs4]; exact pushCells_keeps _ _ _ _ (Heap.get?_push_of_some _ e)
  have stat : ∀ {σ' : L2.St} {H' : Hp} {s' : Shared}, Inv (X.blk s3 H3 scope ce fp) [] σ' H' s' → (∀ b ∈ fp, H' b = none) → ∀ b ∈ fp, FpOk (X.blk s3 H3 scope ce fp) [] H' b := fun {σ' H' s'} I' hn b hb =>
    ⟨hn b hb, (I'.ok.exf b hb).1, I'.ok.exfs b hb, .inl hb, fun x c e => (I'.ok.exf b hb).2 x c e, fun p hp => absurd (show p ∈ ([] : List (Addr × Obj)) ++ [] from hp) (by simp)⟩
  refine PpSet.codeAny_compStart_set ?_ (T.self X.A 0 _ _ _ st4 ?_)
  all_goals
    refine PpSet.compLoopS_any (fun n s' => ∃ i H', Inv (X.blk s3 H3 scope ce fp) [] (wipe σ (own.map (·.2))) H' s' ∧ tn i s'.heap ∧ (∀ b ∈ fp, H' b = none) ∧ W i n H') ?_ m0 ⟨0, H3, I4, st4, nfp, w0⟩
    rintro n s5 ⟨i, H5, I5, st5, n5, w5⟩
    rcases turn i n H5 w5 with ⟨stop, qq⟩ | ⟨go, Nx, hNx, step⟩
    · refine thnF (T.done (X.blk s3 H3 scope ce fp) rfl rfl rfl hc i [] s5 _ H5 (fun _ _ => False) I5 (stat I5 n5) st5 stop) fun r s6 ⟨hr, I6⟩ => ?_
      subst hr
      have I7 : Inv X pins σ H5 s6 := I3.call' (ch := fp) I6.os I6.base I6.hok I6.bare fun b hb => ⟨(f3 b hb).1.2.2.2.1, (f3 b hb).1.2.1, (f3 b hb).1.2.2.2.2.1, (f3 b hb).1.2.2.2.2.2⟩
      have nC : H5 ce.locals = none := I6.free
      obtain ⟨m, hn, _⟩ := I6.loc
      have hn : s6.heap.Ns ce.locals m := hn
      rw [cL] at hn nC
      exact fin0 s3.heap.objs.size s6 m H5 I7 qq hn (I3.fpOk (Nat.le_refl _) nC)
    · refine thnF (T.item (X.blk s3 H3 scope ce fp) rfl rfl rfl hc i [] s5 _ H5 (fun _ _ => False) I5 (stat I5 n5) st5 go) fun r s6 ⟨u, hr, h6⟩ => ?_
      subst hr
      refine thnF h6 fun _ s7 ⟨x, H7, I7, r7, y7, st7, n7⟩ => ?_
      have I7' := I7.pinned (stat I7 n7) (T.obj _ _ st7)
      refine thnF (pg.run _ s7 _ H7 x u _ I7' r7 (step x H7 y7)) fun _ s8 ⟨σ8, H8, I8, hw8, q8⟩ => ?_
      show wpAny _ _ (pure true) _ _ _
      refine wpAny_pure ?_
      simp only [if_true]
      refine thnF (pe.run _ s8 σ8 H8 _ I8 q8) fun z s10 ⟨yv, H10, I10, r10, cb, S0, n0, ey, hD10, hz10, nx⟩ => ?_
      subst ey
      obtain ⟨tk, rfl⟩ := r10
      refine addI_ok (X := X.blk s3 H3 scope ce fp) I10 hD10 hz10 fun s11 I11 => ?_
      obtain ⟨m', hm, w'⟩ := hNx _ nx
      have pin' : ∀ b ∈ fp, ∀ o, s7.heap.get? b = some o → s11.heap.get? b = some o ∧ (upd H10 D (SetO X.w D (fun j => S0 j || decide (j = cb)) (if S0 cb = true then n0 else n0 + 1))) b = none := fun b hb o e =>
        let z := I11.pin (b, o) (List.mem_append_right _ (List.mem_append_right _ (mem_pinsAt hb e)))
        ⟨z.1, z.2.1⟩
      have hl : (wipe σ (own.map (·.2))).length = σ8.length := by rw [← hw8, wipe_length]
      refine ⟨m', hm, i + 1, _, (I11.unpinned (pins := [])).weak hl (fun j v e => ?_), T.keep _ _ _ st7 fun b hb o e => (pin' b hb o e).1, fun b hb => ?_, w'⟩
      · rw [← hw8] at e
        exact (wipe_some e).1
      · obtain ⟨o, e, _⟩ := T.obj _ _ st7 b hb
        exact (pin' b hb o e).2
end
end EIT
end
/-! text E1T -/
section
set_option maxHeartbeats 4000000
/-! set(tuple). -/
namespace EIT
open PySem PySem.Spec PyProof.Rows L2
section
variable {P : Program} {w : World} {A : Around} {E : Value → Shared → Prop} {s : Shared}
/-- set(l), l a tuple -/
theorem set_ofT {l : Addr} {items : Array Value} {Q : Value → Shared → Prop} (hh : A.handled = none) (hl : s.heap.IsTuple l items) (PP : Nat → Heap → Prop)
    (p0 : ∀ h : Heap, h.get? s.heap.objs.size = some (freshS w) → (∀ b o, s.heap.get? b = some o → h.get? b = some o) → PP 0 h)
    (stay : ∀ i h h', PP i h → (∀ b o, b ≠ s.heap.objs.size + 1 → h.get? b = some o → h'.get? b = some o) → PP i h')
    (add : ∀ i v (s1 : Shared) (Q : Bool → Shared → Prop) (E : Value → Shared → Prop), i < items.size → items[i]? = some v → PP i s1.heap → (∀ r h' tk, s1.toks ≤ tk → Heap.SameBut s.heap.objs.size s1.heap h' → PP (i + 1) h' → Q r { s1 with heap := h', toks := tk }) → wpAny (model P w) A.in1.in1.in1 (setAdd s.heap.objs.size v) Q E s1)
    (h : ∀ (h' : Heap) (tk : Nat), PP items.size h' → (∀ b o, s.heap.get? b = some o → h'.get? b = some o) → Q (.ref s.heap.objs.size) { s with heap := h', toks := tk }) :
    wpAny (model P w) A (call (.type "set") [.ref l]) Q E s := by
  obtain ⟨c, tl, hmro⟩ := PySem.F.called_set.mro
  have hmade := PySem.F.called_set.made
  have hsub := PySem.F.called_set.sub
  refine wpAny_call (codeAny_of_tree ?_)
  show wpAny _ _ (callAny (.type "set") _) _ _ _
  refine wpAny_pure ⟨Code.quiet_builtin _ (by decide +kernel), codeAny_builtin PySem.F.entry_type_call ?_⟩
  rw [Around.under_plain (weight_type_call_type "set" [.ref l] []) rfl]
  have h1 := PySem.F.called_set.notType
  have h2 := PySem.F.called_set.canCreate
  have hct := PySem.F.typeCall_set_1 (.ref l)
  repeat (any_goals (first | assumption | wp_step))
  refine codeAny_mono (code_set_led1 (.ref l) (E := E) (Q₁ := fun obj s₁ => obj = .ref s.heap.objs.size ∧ s₁ = { s with heap := s.heap.push (freshS w) }) ⟨rfl, rfl⟩) fun r s₁ hr => ?_
  cases r with
  | error e => exact hr
  | ok fl =>
    cases fl with
    | ret obj =>
      obtain ⟨rfl, rfl⟩ := hr
      have hS : (s.heap.push (freshS w)).get? s.heap.objs.size = some (freshS w) := Heap.get?_push_size _ rfl
      have hT : Shared.TypeIs { s with heap := s.heap.push (freshS w) } (.ref s.heap.objs.size) "set" := ⟨_, hS, rfl⟩
      have hli := PySem.F.called_set.init.lookup
      have hbi := PySem.F.called_set.init.bind (.ref s.heap.objs.size)
      repeat (any_goals (first | assumption | wp_step))
      refine codeAny_mono (codeAny_call_builtin (R := wants (fun r s₂ => r = .none ∧ ∃ h' tk, s₂ = { s with heap := h', toks := tk } ∧ PP items.size h' ∧ (∀ b o, s.heap.get? b = some o → h'.get? b = some o)) E) PySem.F.called_set.init.plain PySem.F.entry_set_init (check_set_init_1 hT ?_)) fun r₂ s₂ hr₂ => ?_
      · obtain ⟨ol, hol, hcl, nl, hdl⟩ := hl
        obtain ⟨ocls, odict, odata, oslots⟩ := ol
        simp only at hcl hdl
        subst hcl; subst hdl
        have hol' : (s.heap.push (freshS w)).get? l = some { cls := .type "tuple", dict := odict, data := .seq items nl, slots := oslots } := Heap.get?_push_of_some _ hol
        have hsls := PySem.F.sub_tuple_set
        have hslf := PySem.F.sub_tuple_frozenset
        have hne : (Value.type "tuple" == Value.type "dict") = false := by decide
        have hl1 : (s.heap.push (freshS w)).IsTuple l items := ⟨_, hol', rfl, nl, rfl⟩
        unfold Builtin.«set.__init__» noKeywords Builtin.Frozenset.updateFrom
        generalize hPI : pyIter = PI
        wp_walk
        subst hPI
        refine wpAny_pyIter_tuple hl1 ?_
        refine wpAny_bind (wpAny_runValue ?_)
        have hlS : l < s.heap.objs.size := Heap.lt_size hol
        have hh3 : A.in1.in1.in1.handled = none := by simp [hh]
        have hz : (s.heap.push (freshS w)).objs.size = s.heap.objs.size + 1 := Heap.size_push ..
        have hneI : l ≠ (s.heap.push (freshS w)).objs.size := by rw [hz]; exact Nat.ne_of_lt (Nat.lt_succ_of_lt hlS)
        have hSf : s.heap.objs.size ∉ [(s.heap.push (freshS w)).objs.size, l] := by
          rw [hz]; simp only [List.mem_cons, List.mem_singleton, List.not_mem_nil, or_false, not_or]
          exact ⟨Nat.ne_of_lt (Nat.lt_succ_self _), Nat.ne_of_gt hlS⟩
        refine upd_gen ((Walks.tuple hh3 _ l hneI items).toS) s.heap.objs.size hSf PP (fun i h h' p k => stay i h h' p fun b o hb e => k b o (by rw [hz, List.mem_singleton]; exact hb) e) (fun i v s Q E hi hv => add i v s Q E hi hv) (items.size - 0) 0 _ (by omega) (Nat.zero_le _)
          ⟨⟨_, Heap.get?_push_size _ rfl, rfl, rfl⟩, (hl1.push _)⟩ (p0 _ (Heap.get?_push_of_some _ hS) fun b o e => Heap.get?_push_of_some _ (Heap.get?_push_of_some _ e)) ?_
        intro s' hm hS'
        obtain ⟨h', g2, d', tk', os'⟩ := s'
        have eg : g2 = s.gens := hm.gens
        have ed : d' = s.drawn := hm.drawn
        have eo : os' = s.os := hm.os
        subst eg; subst ed; subst eo
        show wpAny _ _ _ _ _ _
        refine wpAny_pure ?_
        show wpAny _ _ (ret Value.none) _ _ _
        refine wpAny_pure ⟨rfl, h', tk', rfl, hS', fun b o e => ?_⟩
        have hb0 : b < s.heap.objs.size := Heap.lt_size e
        have hb1 : b ≠ s.heap.objs.size := Nat.ne_of_lt hb0
        have hb2 : b ≠ (s.heap.push (freshS w)).objs.size := by rw [hz]; exact Nat.ne_of_lt (Nat.lt_succ_of_lt hb0)
        exact hm.heap b o (by simp only [List.mem_cons, List.mem_singleton, List.not_mem_nil, or_false, not_or]; exact ⟨hb1, hb2⟩) (Heap.get?_push_of_some _ (Heap.get?_push_of_some _ e))
      · cases r₂ with
        | error e => exact hr₂
        | ok fl₂ =>
          cases fl₂ with
          | ret r =>
            obtain ⟨rfl, h', tk, rfl, hS', hk'⟩ := hr₂
            repeat (any_goals (first | assumption | wp_step))
            exact h _ _ hS' hk'
          | _ => exact hr₂.elim
    | _ => exact hr.elim
end
end EIT
end
/-! text E3 -/
section
set_option maxHeartbeats 4000000
/-! A set of tuples of texts, all unlike, gets one more. -/
namespace EIT
open PySem PySem.Spec PyProof.Rows L2
abbrev SK (P : Program) (w : World) : KeyKind P w Str := strKind P w
abbrev sh (P : Program) (w : World) (k : List Str) : Int := tupleKeyHash (SK P w) k
abbrev IsS (P : Program) (w : World) (h : Heap) (k : List Str) (a : Addr) : Prop := IsTupleKey (SK P w) h k a
section
variable {P : Program} {w : World} {A : Around} {E : Value → Shared → Prop} {s : Shared}
theorem items_strs {k : List Str} {vs : List Value} (h : ItemsAre (SK P w) k vs) : ∀ v ∈ vs, ∃ x t, v = Value.str x t := by
  induction h with
  | nil => intro v hv; cases hv
  | @cons k0 v' ks vs h1 _ ih =>
    intro v hv
    rcases List.mem_cons.mp hv with e | hv
    · obtain ⟨t, e2⟩ := Value.isStrOf_shape h1
      exact ⟨k0, t, e.trans e2⟩
    · exact ih v hv
/-- a walk over texts that asks each and goes on -/
theorem ask_each {f : Value → Sem Bool} {items : Array Value} {b : Bool} {g : Value → Option Bool × PUnit → Sem (ForInStep (Option Bool × PUnit))} {Q : Option Bool × PUnit → Shared → Prop} (hall : ∀ v ∈ items.toList, ∃ x t, v = Value.str x t)
    (hg : ∀ v r s (Q : ForInStep (Option Bool × PUnit) → Shared → Prop), (∃ x t, v = Value.str x t) → r.1 = none → (∀ r', r'.1 = none → Q (.yield r') s) → wpAny (model P w) A (g v r) Q E s) (h : ∀ r, r.1 = none → Q r s) :
    wpAny (model P w) A (forIn items (none, PUnit.unit) g) Q E s := by
  rw [← Array.forIn_toList]
  refine wpAny_forIn_list _ (fun rest r s' => r.1 = none ∧ s' = s ∧ ∀ v ∈ rest, ∃ x t, v = Value.str x t) _ ?_ ?_ _ _ ⟨rfl, rfl, hall⟩
  · rintro v rest r s' ⟨hr, rfl, hall⟩
    exact hg v r s' _ (hall v List.mem_cons_self) hr fun r' h' => ⟨h', rfl, fun u hu' => hall u (List.mem_cons_of_mem _ hu')⟩
  · rintro r s' ⟨hr, rfl, _⟩
    exact h r hr
theorem class_str (n : Nat) (x : Str) (t : Tok) : ofAClassStatement n (.str x t) = pure false := by
  cases n <;> rfl
theorem class_tup {k : List Str} {b : Addr} {Q : Bool → Shared → Prop} (hk : IsS P w s.heap k b) (h : Q false s) : wpAny (model P w) A (ofAClassStatement 8 (.ref b)) Q E s := by
  have hT := hk.typeIs
  obtain ⟨o, items, n, ho, _, hd, hi⟩ := hk
  unfold ofAClassStatement
  refine wpAny_bind (wpAny_typeOf hT ?_)
  dsimp only
  have e : (("tuple" : String) == "tuple") = true := by decide
  simp only [e, if_true, Bool.not_true, Bool.false_eq_true, if_false]
  try refine wpAny_bind (wpAny_pure ?_)
  try simp only [Bool.not_true, Bool.false_eq_true, if_false]
  show wpAny _ _ (seqItems? (.ref b) >>= _) _ _ s
  refine wpAny_bind (wpAny_seqItems ho hd ?_)
  dsimp only
  refine wpAny_bind ?_
  refine ask_each (f := fun v => ofAClassStatement 7 v) (b := false) (items_strs hi) (fun v r s Q ⟨x, t, ev⟩ hr hQ => ?_) fun r hr => ?_
  · subst ev
    rw [class_str]
    refine wpAny_bind (wpAny_pure ?_)
    simp only [Bool.false_eq_true, if_false]
    exact wpAny_pure (hQ _ rfl)
  · obtain ⟨r1, r2⟩ := r
    simp only at hr
    subst hr
    exact wpAny_pure h
/-- whether a tuple's hash is by value: whichever -/
theorem hash_any {k : List Str} {b : Addr} {Q : Bool → Shared → Prop} (hk : IsS P w s.heap k b) (h : ∀ r, Q r s) : wpAny (model P w) A (hashByValue 8 (.ref b)) Q E s := by
  have hT := hk.typeIs
  obtain ⟨o, items, n, ho, _, hd, hi⟩ := hk
  unfold hashByValue
  refine wpAny_bind (wpAny_specialOf hT PySem.F.slot_tuple_hash.lookup ?_)
  show wpAny _ _ (seqItems? (.ref b) >>= _) _ _ s
  refine wpAny_bind (wpAny_seqItems ho hd ?_)
  refine wpAny_bind ?_
  show wpAny _ _ (forIn items _ _) _ _ s
  rw [← Array.forIn_toList]
  refine wpAny_forIn_list _ (fun rest r s' => r.1 = none ∧ s' = s ∧ ∀ v ∈ rest, ∃ x t, v = Value.str x t) _ ?_ ?_ _ _ ⟨rfl, rfl, items_strs hi⟩
  · rintro v rest r s' ⟨hr, rfl, hall⟩
    obtain ⟨x, t, rfl⟩ := hall v List.mem_cons_self
    have e : hashByValue 7 (.str x t) = pure false := rfl
    rw [e]
    refine wpAny_bind (wpAny_pure ?_)
    simp only [Bool.not_false, if_true]
    exact wpAny_pure (wpAny_pure (h false))
  · rintro ⟨r1, r2⟩ s' ⟨hr, rfl, _⟩
    simp only at hr
    subst hr
    exact wpAny_pure (h true)
/-- a search among tuples of texts shows nothing -/
theorem seen_no {k : List Str} {b : Addr} {Q : Bool → Shared → Prop} (hk : IsS P w s.heap k b) {ys : List Value} (hy : ∀ y ∈ ys, ∃ k' c, y = Value.ref c ∧ IsS P w s.heap k' c) (h : Q false s) :
    wpAny (model P w) A (searchCouldBeSeen (.ref b) ys) Q E s := by
  unfold searchCouldBeSeen
  refine wpAny_bind ?_
  refine wpAny_forIn_list _ (fun rest r s' => r.1 = none ∧ s' = s ∧ ∀ y ∈ rest, ∃ k' c, y = Value.ref c ∧ IsS P w s.heap k' c) _ ?_ ?_ _ _ ⟨rfl, rfl, hy⟩
  · rintro v rest r s' ⟨hr, rfl, hall⟩
    obtain ⟨k', c, rfl, hc⟩ := hall v List.mem_cons_self
    have rest' : ∀ y ∈ rest, ∃ k' c, y = Value.ref c ∧ IsS P w s'.heap k' c := fun u hu' => hall u (List.mem_cons_of_mem _ hu')
    dsimp only
    by_cases hv : (b == c || (carriedByValue (.ref b) && carriedByValue (.ref c))) = true
    · exact wp_if_pos hv (wpAny_pure ⟨rfl, rfl, rest'⟩)
    · refine wp_if_neg hv (wpAny_bind (wpAny_eqIsQuiet_tuple hk ?_))
      simp only [Bool.not_true, Bool.false_eq_true, if_false]
      refine wpAny_bind (wpAny_eqIsQuiet_tuple hc ?_)
      simp only [Bool.not_true, Bool.false_eq_true, if_false]
      refine wpAny_bind (class_tup hk ?_)
      simp only [Bool.false_eq_true, if_false]
      refine wpAny_bind (class_tup hc ?_)
      simp only [Bool.false_eq_true, if_false]
      exact wpAny_pure ⟨rfl, rfl, rest'⟩
  · rintro ⟨r1, r2⟩ s' ⟨hr, rfl, _⟩
    simp only at hr
    subst hr
    exact wpAny_pure h

/-! ### the set -/
def rowsS (P : Program) (w : World) (L : List (Addr × List Str)) : List (Int × Value) := L.map fun p => (sh P w p.2, Value.ref p.1)
structure SetS (P : Program) (w : World) (h : Heap) (a : Addr) (L : List (Addr × List Str)) (es : Array (Int × Value)) (ep : Nat) (t : SetTable) : Prop where
  ob : ∃ o, h.get? a = some o ∧ o.ExactSet ∧ o.data = .set es ep t
  rows : es.toList = rowsS P w L
  tab : TabOk t (L.map fun p => sh P w p.2)
  tup : ∀ p ∈ L, IsS P w h p.2 p.1
  room : L.length * 5 < t.mask * 3
variable {a : Addr} {L : List (Addr × List Str)} {es : Array (Int × Value)} {ep : Nat} {t : SetTable}
theorem rowsS_len : (rowsS P w L).length = L.length := by unfold rowsS; rw [List.length_map]
theorem SetS.size (R : SetS P w s.heap a L es ep t) : es.size = L.length := by rw [← Array.length_toList, R.rows, rowsS_len]
theorem SetS.places (R : SetS P w s.heap a L es ep t) : t.place.toList.length = L.length := by
  have h := R.tab.sz
  rw [List.length_map] at h
  rw [Array.length_toList, h]
theorem fits_of {t : SetTable} {n : Nat} (hd : t.dummies = #[]) (h1 : t.place.size = n) (h2 : n ≤ t.mask) : t.fits n = true := by
  unfold SetTable.fits SetTable.fill
  rw [hd, Bool.and_eq_true, beq_iff_eq, decide_eq_true_eq]
  show t.place.size = n ∧ t.place.size + 0 ≤ t.mask
  omega
theorem SetS.fits (R : SetS P w s.heap a L es ep t) : t.fits es.size = true := by
  have h1 := R.places
  rw [Array.length_toList] at h1
  have h3 := R.room
  exact fits_of R.tab.dm (by rw [h1, R.size]) (by rw [R.size]; omega)
theorem SetS.entry (R : SetS P w s.heap a L es ep t) {i : Nat} {p : Addr × List Str} (h : L[i]? = some p) : es[i]? = some (sh P w p.2, Value.ref p.1) := by
  rw [← Array.getElem?_toList, R.rows]
  unfold rowsS
  rw [List.getElem?_map, h]
  rfl
theorem SetS.gw (R : SetS P w s.heap a L es ep t) : ¬ t.gaveWay = true := by
  unfold SetTable.gaveWay
  rw [mask_odd R.tab.mok]
  decide
theorem dummy_none (m : Nat) : ∀ (n : Nat) (p : SetTable.Probe), p.dummy = none → (nth m p n).dummy = none
  | 0, _, h => h
  | n + 1, p, h => dummy_none m n (adv m p) (by unfold adv; split <;> exact h)
/-- the probe after c steps of the way of h -/
abbrev pr (m : Nat) (h : Int) (c : Nat) : SetTable.Probe := nth m (runAt m (SetTable.bits h % (m + 1)) (SetTable.bits h)) c
theorem pr_add (m : Nat) (h : Int) (c q : Nat) : nth m (pr m h c) q = pr m h (c + q) := (nth_add m c _ q).symm
/-- the search for what is not there ends at the way's first empty slot -/
theorem seek (R : SetS P w s.heap a L es ep t) {x : Addr} {k : List Str} (hx : IsS P w s.heap k x) (hu : A.units < cLine) (hk : k ∉ L.map (·.2)) {K : Nat} (hKf : K < 10 * SetTable.turns t.mask)
    (hK : way t.mask (sh P w k) K ∉ t.place.toList) (hKb : ∀ c, c < K → way t.mask (sh P w k) c ∈ t.place.toList) {Q : SetFound → Shared → Prop} (hout : Q (.free (way t.mask (sh P w k) K) false) s) :
    ∀ (f c : Nat) (stand : Option SetTable.Probe), stand.getD (t.probeStart (sh P w k)) = pr t.mask (sh P w k) c → c ≤ K → K - c < f → wpAny (model P w) A (setSearchFrom a (.ref x) (sh P w k) true f stand) Q E s := by
  intro f
  induction f with
  | zero => intro c stand _ _ hf; exact absurd hf (Nat.not_lt_zero _)
  | succ f ih =>
    intro c stand hst hc hf
    obtain ⟨o, ho, hex, hd⟩ := R.ob
    rw [setSearchFrom_succ]
    refine wpAny_bind (wpAny_setState_of ho hd R.fits ?_)
    dsimp only
    refine wp_if_neg R.gw ?_
    try refine wpAny_bind (wpAny_pure ?_)
    have e1 : ∀ q, (nth t.mask (pr t.mask (sh P w k) c) q).j = way t.mask (sh P w k) (c + q) := fun q => congrArg SetTable.Probe.j (pr_add t.mask (sh P w k) c q)
    have spec := go_spec t R.tab.ris R.tab.dm (fun i => (es[i]?.map (·.1)).getD 0) (sh P w k) (10 * SetTable.turns t.mask) (K - c) (pr t.mask (sh P w k) c) (dummy_none t.mask c _ rfl) (by omega)
      (fun q hq => by rw [e1]; exact hKb (c + q) (by omega)) (by rw [e1, show c + (K - c) = K by omega]; exact hK)
    rcases spec with ⟨q, i, hq, hi, hh, hno, hpr⟩ | ⟨hno, hpr⟩
    · have hpr' : t.probe (fun i => (es[i]?.map (·.1)).getD 0) (sh P w k) (stand.getD (t.probeStart (sh P w k))) = some (.candidate (way t.mask (sh P w k) (c + q)) i (pr t.mask (sh P w k) (c + (q + 1)))) := by
        rw [hst, ← e1, ← pr_add]
        exact hpr
      rw [hpr']
      dsimp only
      rw [e1] at hi
      have hil : i < L.length := by
        have h1 : i < t.place.toList.length := (List.getElem?_eq_some_iff.mp hi).1
        rw [R.places] at h1
        exact h1
      have hp : L[i]? = some L[i] := List.getElem?_eq_getElem hil
      have hmem : L[i] ∈ L := List.getElem_mem hil
      generalize L[i] = p at hp hmem
      have hpt := R.tup p hmem
      have hne : ¬ p.2 = k := fun z => hk (List.mem_map.mpr ⟨p, hmem, z⟩)
      have rest : wpAny (model P w) A (searchRest a (.ref x) (sh P w k) true f es t (way t.mask (sh P w k) (c + q)) i (pr t.mask (sh P w k) (c + (q + 1)))) Q E s := by
        unfold searchRest
        rw [R.entry hp]
        dsimp only
        refine wpAny_bind (wpAny_holding (wpAny_eqBool_tuple hu hpt hx ?_))
        refine wpAny_bind (wpAny_setState_of ho hd R.fits ?_)
        dsimp only
        refine wp_if_neg (by simp [hne]) ?_
        try refine wpAny_bind (wpAny_pure ?_)
        rw [sameMem]
        dsimp only
        have hsl : t.slot (way t.mask (sh P w k) (c + q)) = .live i := slot_live R.tab.ris hi
        simp only [if_true, hsl, R.entry hp]
        refine wpAny_bind (wpAny_isSame_ref_self (wpAny_bind (wpAny_pure ?_)))
        simp only [if_true]
        refine wp_if_neg (by simp [hne]) ?_
        exact ih (c + (q + 1)) _ rfl (by omega) (by omega)
      by_cases hl : t.led = true
      · refine wp_if_neg (by simp [hl]) ?_
        try refine wpAny_bind (wpAny_pure ?_)
        exact rest
      · refine wp_if_pos (by simp [hl]) ?_
        refine wpAny_bind (seen_no hx (fun y hy => ?_) ?_)
        · obtain ⟨e, he, ee⟩ := List.mem_map.mp hy
          have he1 : e ∈ es ∧ e.1 = sh P w k := by simpa using he
          have he2 : e ∈ es.toList := by simpa using he1.1
          rw [R.rows] at he2
          obtain ⟨p2, hp2, e2⟩ := List.mem_map.mp he2
          exact ⟨p2.2, p2.1, by rw [← ee, ← e2], R.tup p2 hp2⟩
        · refine wp_if_neg (by decide) ?_
          try refine wpAny_bind (wpAny_pure ?_)
          exact rest
    · have hpr' : t.probe (fun i => (es[i]?.map (·.1)).getD 0) (sh P w k) (stand.getD (t.probeStart (sh P w k))) = some (.empty (way t.mask (sh P w k) K) none) := by
        have e2 : way t.mask (sh P w k) K = (nth t.mask (pr t.mask (sh P w k) c) (K - c)).j := by rw [e1, show c + (K - c) = K by omega]
        rw [hst, e2]
        exact hpr
      rw [hpr']
      dsimp only
      exact wpAny_pure hout
theorem seek_all (R : SetS P w s.heap a L es ep t) {x : Addr} {k : List Str} (hx : IsS P w s.heap k x) (hu : A.units < cLine) (hk : k ∉ L.map (·.2)) {Q : SetFound → Shared → Prop}
    (hout : ∀ K, way t.mask (sh P w k) K ∉ t.place.toList → (∀ c, c < K → way t.mask (sh P w k) c ∈ t.place.toList) → Q (.free (way t.mask (sh P w k) K) false) s) : wpAny (model P w) A (setSearch a (.ref x) (sh P w k) true) Q E s := by
  have hroom := R.room
  obtain ⟨K, hKf, hK, hKb⟩ := R.tab.first (by rw [List.length_map]; omega) (sh P w k)
  have hbig : K < 100000 := by
    have : 10 * SetTable.turns t.mask ≤ 1420 := by
      unfold SetTable.turns
      rcases R.tab.mok with e | e | e <;> omega
    omega
  unfold setSearch
  exact seek R hx hu hk hKf hK hKb (hout K hK hKb) 100000 0 none rfl (Nat.zero_le _) (by omega)
theorem isS_same {h h' : Heap} {k : List Str} {a b : Addr} {o : Obj} {es : Array (Int × Value)} {ep : Nat} {t : SetTable} (hb : IsS P w h k b) (ho : h.get? a = some o) (hd : o.data = .set es ep t) (hs : Heap.SameBut a h h') : IsS P w h' k b := by
  obtain ⟨o', items, n, ho', hc, hd', hi⟩ := hb
  have hne : b ≠ a := by
    rintro rfl
    obtain rfl : o' = o := Option.some.inj (ho'.symm.trans ho)
    rw [hd] at hd'
    exact nomatch hd'
  exact ⟨o', items, n, (hs.2 b hne).trans ho', hc, hd', hi⟩
end
end EIT
end
/-! text E4 -/
section
set_option maxHeartbeats 4000000
/-! One more tuple of texts, the table laid anew where it is full; len(set(..)). -/
namespace EIT
open PySem PySem.Spec PyProof.Rows L2
theorem pick_map {α β : Type} (L : List α) (g : α → β) : ∀ (l : List Nat), (∀ i ∈ l, i < L.length) → l.filterMap (fun i => (L.map g)[i]?) = (l.filterMap fun i => L[i]?).map g ∧ (l.filterMap fun i => L[i]?).length = l.length
  | [], _ => ⟨rfl, rfl⟩
  | i :: l, h => by
    have hi := h i List.mem_cons_self
    obtain ⟨h1, h2⟩ := pick_map L g l fun j hj => h j (List.mem_cons_of_mem _ hj)
    have e : L[i]? = some L[i] := List.getElem?_eq_getElem hi
    have e2 : (L.map g)[i]? = some (g L[i]) := by rw [List.getElem?_map, e]; rfl
    rw [List.filterMap_cons_some e, List.filterMap_cons_some e2, h1, List.map_cons, List.length_cons, List.length_cons, h2]
    exact ⟨rfl, rfl⟩
theorem pick_all {α : Type} (L : List α) : (List.range L.length).filterMap (fun i => L[i]?) = L := by
  have key : ∀ n, n ≤ L.length → (List.range n).filterMap (fun i => L[i]?) = L.take n := by
    intro n
    induction n with
    | zero => intro _; rfl
    | succ n ih =>
      intro hn
      have e : L[n]? = some L[n] := List.getElem?_eq_getElem hn
      rw [List.range_succ, List.filterMap_append, ih (Nat.le_of_succ_le hn), List.take_succ_eq_append_getElem hn, List.filterMap_cons_some e]
      rfl
  rw [key L.length (Nat.le_refl _), List.take_length]
section
variable {P : Program} {w : World} {A : Around} {E : Value → Shared → Prop} {s : Shared} {a : Addr} {L : List (Addr × List Str)} {es : Array (Int × Value)} {ep : Nat} {t : SetTable}
theorem order_rowsS (hr : es.toList = rowsS P w L) {order : Array Nat} (hp : order.toList.Perm (List.range L.length)) :
    ∃ L2, (order.filterMap (es[·]?)).toList = rowsS P w L2 ∧ L2.Perm L ∧ (L2.map fun p => sh P w p.2) = order.toList.map fun i => (es.map (·.1)).getD i 0 := by
  have hlt : ∀ i ∈ order.toList, i < L.length := fun i hi => List.mem_range.mp (hp.mem_iff.mp hi)
  have ent : ∀ i, es[i]? = (rowsS P w L)[i]? := fun i => by rw [← Array.getElem?_toList, hr]
  obtain ⟨h1, _⟩ := pick_map L (fun p : Addr × List Str => (sh P w p.2, Value.ref p.1)) order.toList hlt
  refine ⟨order.toList.filterMap fun i => L[i]?, ?_, ?_, ?_⟩
  · rw [Array.toList_filterMap]
    have e : (fun i => es[i]?) = fun i => (rowsS P w L)[i]? := funext ent
    rw [show (fun x => es[x]?) = fun i => (rowsS P w L)[i]? from e]
    exact h1
  · have h2 := hp.filterMap fun i => L[i]?
    rw [pick_all] at h2
    exact h2
  · have key : ∀ l : List Nat, (∀ i ∈ l, i < L.length) → ((l.filterMap fun i => L[i]?).map fun p => sh P w p.2) = l.map fun i => (es.map (·.1)).getD i 0 := by
      intro l
      induction l with
      | nil => intro _; rfl
      | cons i l ih =>
        intro hl
        have hi := hl i List.mem_cons_self
        have e : L[i]? = some L[i] := List.getElem?_eq_getElem hi
        rw [List.filterMap_cons_some e, List.map_cons, List.map_cons, ih fun j hj => hl j (List.mem_cons_of_mem _ hj)]
        congr 1
        have e5 : (es.map (·.1))[i]? = some (sh P w (L[i]).2) := by
          rw [Array.getElem?_map, ent]
          unfold rowsS
          rw [List.getElem?_map, e]
          rfl
        rw [Array.getD_eq_getD_getElem?, e5]
        rfl
    exact key _ hlt
/-- laid anew, larger -/
theorem relayS {o : Obj} (ho : s.heap.get? a = some o) (hex : o.ExactSet) (hd : o.data = .set es ep t) (hrows : es.toList = rowsS P w L) (hsz : t.place.size = es.size) (hdm : t.dummies = #[]) (hfl : es.size ≤ t.mask)
    (tup : ∀ p ∈ L, IsS P w s.heap p.2 p.1) {wanted : Nat} (hw : SetTable.sizeAbove wanted = 32) (hn : L.length < 18) {Q : Unit → Shared → Prop}
    (hQ : ∀ h' L' es' ep' t', Heap.SameBut a s.heap h' → SetS P w h' a L' es' ep' t' → L'.Perm L → Q () { s with heap := h' }) : wpAny (model P w) A (setRelay a wanted) Q E s := by
  have hsl : es.size = L.length := by rw [← Array.length_toList, hrows, rowsS_len]
  obtain ⟨t', order, e, hp, T, em, el, ep', ed⟩ := relaid_ok t (hs := es.map (·.1)) (wanted := wanted) (M := 31) (by rw [hw]) (.inr (.inl rfl)) (by rw [Array.size_map, hsl]; omega)
  rw [Array.size_map, hsl] at hp
  obtain ⟨L2, r1, r2, r3⟩ := order_rowsS hrows hp
  rw [← r3] at T
  have hs2 : (order.filterMap (es[·]?)).size = es.size := by
    rw [← Array.length_toList, r1, rowsS_len, r2.length_eq, hsl]
  rw [setRelay_eq]
  refine wpAny_bind (wpAny_setState_of ho hd (fits_of hdm hsz hfl) ?_)
  dsimp only
  refine wp_if_neg (by rw [hw, sizeLine_eq]; decide) ?_
  try refine wpAny_bind (wpAny_pure ?_)
  rw [e]
  dsimp only
  refine wpAny_bind ?_
  refine wp_if_neg (by rw [hs2]; simp) ?_
  try refine wpAny_bind (wpAny_pure ?_)
  refine wpAny_pure ?_
  dsimp only
  refine wpAny_storeSet_of ho hd ?_ (by rw [hs2, hsl, sizeLine_eq]; omega)
  have sb : Heap.SameBut a s.heap (s.heap.update a (Obj.putSet (order.filterMap (es[·]?)) t')) := Heap.SameBut.update ..
  exact hQ _ L2 (order.filterMap (es[·]?)) (ep + 1) t' sb ⟨⟨_, store_at ho hd, ⟨hex.1, hex.2.1, hex.2.2⟩, rfl⟩, r1, T, fun p hpm => isS_same (tup p (r2.mem_iff.mp hpm)) ho hd sb, by rw [r2.length_eq, em]; omega⟩ r2
theorem tab_plain {t : SetTable} {hs : List Int} (T : TabOk t hs) (b : Bool) : TabOk (if b = true then t else { t with plain := false }) hs := by
  split
  · exact T
  · exact ⟨T.ris, T.dm, T.sz, T.mok, T.bd, T.reach⟩
/-- one more, unlike all -/
theorem addS (R : SetS P w s.heap a L es ep t) {x : Addr} {k : List Str} (hx : IsS P w s.heap k x) (hu : A.units < cLine) (hk : k ∉ L.map (·.2)) (hfew : L.length < 17) {Q : Bool → Shared → Prop}
    (hQ : ∀ h' L' es' ep' t', Heap.SameBut a s.heap h' → SetS P w h' a L' es' ep' t' → L'.Perm ((x, k) :: L) → Q true { s with heap := h' }) : wpAny (model P w) A (setAddHashed a (.ref x) (sh P w k)) Q E s := by
  obtain ⟨o, ho, hex, hd⟩ := R.ob
  have hsl := R.size
  have hroom := R.room
  unfold setAddHashed
  refine wpAny_holding ?_
  rw [show (100000 : Nat) = 99999 + 1 from rfl, setAddHashedIn_succ]
  refine wpAny_bind (wpAny_setState_of ho hd R.fits ?_)
  dsimp only
  refine wp_if_neg (by simp [byScan, Value.scannable]) ?_
  try refine wpAny_bind (wpAny_pure ?_)
  refine wpAny_bind (seek_all R hx hu hk fun K hK hb => ?_)
  dsimp only
  refine wpAny_bind (wpAny_setState_of ho hd R.fits ?_)
  dsimp only
  obtain ⟨q1, q2, q3, q4, q5, q6, q7, q8, q9⟩ := R.tab.put hK hb
  generalize t.put (way t.mask (sh P w k) K) = pt at q1 q3 q4 q5 q6 q7 q8 q9 ⊢
  obtain ⟨t1, p⟩ := pt
  dsimp only at q1 q3 q4 q5 q6 q7 q8 q9 ⊢
  subst q1
  have hin : (SetTable.insertAt es (SetTable.below t.place (way t.mask (sh P w k) K)) (sh P w k, Value.ref x)).toList = rowsS P w (L.take (SetTable.below t.place (way t.mask (sh P w k) K)) ++ (x, k) :: L.drop (SetTable.below t.place (way t.mask (sh P w k) K))) := by
    rw [SetTable.toList_insertAt, R.rows]
    unfold rowsS
    rw [List.map_append, List.map_cons, List.map_take, List.map_drop]
  generalize SetTable.below t.place (way t.mask (sh P w k) K) = p at q2 q3 hin ⊢
  have pm := put_perm L p (x, k)
  have hlen : (L.take p ++ (x, k) :: L.drop p).length = L.length + 1 := pm.length_eq
  have hhs : (L.take p ++ (x, k) :: L.drop p).map (fun p => sh P w p.2) = (L.map fun p => sh P w p.2).take p ++ sh P w k :: (L.map fun p => sh P w p.2).drop p := by
    rw [List.map_append, List.map_cons, List.map_take, List.map_drop]
  rw [← hhs] at q3
  have hes : (SetTable.insertAt es p (sh P w k, Value.ref x)).size = L.length + 1 := by rw [← Array.length_toList, hin, rowsS_len, hlen]
  generalize SetTable.insertAt es p (sh P w k, Value.ref x) = es1 at hin hes ⊢
  generalize L.take p ++ (x, k) :: L.drop p = L1 at pm hlen q3 hin
  -- behind the question whether the hash is by value
  have after : ∀ bv : Bool, wpAny (model P w) A (do
      storeSet a es1 (if bv = true then t1 else { t1 with plain := false })
      if !false && (if bv = true then t1 else { t1 with plain := false }).tooFull then setRelay a (SetTable.grown (es.size + 1))
      return true) Q E s := fun bv => by
    have T2 := tab_plain q3 bv
    have m2 : (if bv = true then t1 else { t1 with plain := false }).mask = t.mask := by rw [← q4]; split <;> rfl
    have f2 : (if bv = true then t1 else { t1 with plain := false }).fill = L.length + 1 := by
      rw [List.length_map] at q9
      rw [← q9]; split <;> rfl
    generalize (if bv = true then t1 else { t1 with plain := false }) = t2 at T2 m2 f2 ⊢
    refine wpAny_bind (wpAny_storeSet_of ho hd ?_ (by rw [hes, sizeLine_eq]; omega))
    have sb : Heap.SameBut a s.heap (s.heap.update a (Obj.putSet es1 t2)) := Heap.SameBut.update ..
    have ho1 := store_at (es' := es1) (t' := t2) ho hd
    generalize s.heap.update a (Obj.putSet es1 t2) = h1 at sb ho1 ⊢
    have tup1 : ∀ p ∈ L1, IsS P w h1 p.2 p.1 := fun p hp => by
      rcases List.mem_cons.mp (pm.mem_iff.mp hp) with e | hp
      · rw [e]; exact isS_same hx ho hd sb
      · exact isS_same (R.tup p hp) ho hd sb
    by_cases hf : t2.tooFull = true
    · have hfull : (L.length + 1) * 5 ≥ t2.mask * 3 := by
        have h := hf
        unfold SetTable.tooFull at h
        rw [decide_eq_true_eq, f2] at h
        exact h
      have hm7 : t.mask = 7 ∧ L.length = 4 := by
        rcases R.tab.mok with e | e | e
        · rw [m2, e] at hfull; rw [e] at hroom; exact ⟨e, by omega⟩
        · rw [m2, e] at hfull; rw [e] at hroom; omega
        · rw [m2, e] at hfull; omega
      have hsz1 : t2.place.size = es1.size := by
        have h := T2.sz
        rw [List.length_map, hlen] at h
        rw [h, hes]
      have go := relayS (P := P) (w := w) (A := A) (E := E) (s := { s with heap := h1 }) (wanted := SetTable.grown (es.size + 1)) (Q := fun _ s' => wpAny (model P w) A (pure true) Q E s') ho1 ⟨hex.1, hex.2.1, hex.2.2⟩ rfl hin hsz1 T2.dm (by rw [hes, m2]; omega) tup1 (by rw [hsl, hm7.2]; exact size_20) (by rw [hlen]; omega)
        fun h2 L2 es2 ep2 t2 sb2 R2 pm2 => wpAny_pure (hQ h2 L2 es2 ep2 t2 (sb.trans sb2) R2 (pm2.trans pm))
      first
        | (refine wpAny_bind ?_; refine wp_if_pos (by simp [hf]) ?_; exact go)
        | (refine wp_if_pos (by simp [hf]) ?_; exact wpAny_bind go)
    · first
        | (refine wp_if_neg (by simp [hf]) ?_; refine wpAny_pure (hQ h1 L1 es1 (ep + 1) t2 sb ⟨⟨_, ho1, ⟨hex.1, hex.2.1, hex.2.2⟩, rfl⟩, hin, T2, tup1, ?_⟩ pm))
        | (refine wpAny_bind ?_; refine wp_if_neg (by simp [hf]) ?_; refine wpAny_pure ?_; refine wpAny_pure (hQ h1 L1 es1 (ep + 1) t2 sb ⟨⟨_, ho1, ⟨hex.1, hex.2.1, hex.2.2⟩, rfl⟩, hin, T2, tup1, ?_⟩ pm))
      have h := hf
      unfold SetTable.tooFull at h
      rw [decide_eq_true_eq, f2] at h
      rw [hlen]
      omega
  by_cases hp1 : t1.plain = true
  · first
      | (refine wpAny_bind ?_; refine wp_if_pos hp1 ?_; refine hash_any hx fun r => ?_; exact after r)
      | (refine wp_if_pos hp1 (wpAny_bind (hash_any hx fun r => ?_)); exact after r)
  · first
      | (refine wpAny_bind ?_; refine wp_if_neg hp1 ?_; refine wpAny_pure ?_; exact after true)
      | (refine wp_if_neg hp1 ?_; exact after true)
      | (refine wp_if_neg hp1 (wpAny_bind (wpAny_pure ?_)); exact after true)
end
end EIT
end
/-! text E5 -/
section
set_option maxHeartbeats 4000000
/-! set(..) of unlike texts, of unlike tuples of texts; len of it; sorted of a tuple of texts. -/
namespace EIT
open PySem PySem.Spec PyProof.Rows L2
section
variable {P : Program} {w : World} {A : Around} {E : Value → Shared → Prop} {s : Shared}
theorem collect_tupV {l : Addr} {vs : List Value} {Q : List Value → Shared → Prop} (hl : IsTup s.heap l vs.toArray)
    (h : Q vs { s with heap := (s.heap.push (seqObj "list" #[] 0)).update s.heap.objs.size (Obj.mapSeq (· ++ vs.toArray)) }) (hsz : vs.length ≤ sizeLine) :
    wpAny (model P w) A (collect (.ref l)) Q E s := by
  obtain ⟨o, ho, hc, n, hd⟩ := id hl
  unfold collect
  refine wpAny_bind (wpAny_runValue (codeAny_builtin entry_proto_collect' ?_))
  show wpAny _ _ (do again (.builtin "list.__iadd__" ⟨[← newList [], .ref l], []⟩)) _ _ s
  refine wpAny_bind (wpAny_newList (wpAny_pure ⟨Code.quiet_builtin _ (by decide +kernel), codeAny_builtin entry_list_iadd' ?_⟩))
  show wpAny _ _ (Builtin.List.listExtendWith (.ref s.heap.objs.size) (.ref l) (.ref s.heap.objs.size)) _ _ { s with heap := s.heap.push (seqObj "list" #[] 0) }
  unfold Builtin.List.listExtendWith
  have ho' : (s.heap.push (seqObj "list" #[] 0)).get? l = some o := Heap.get?_push_of_some _ ho
  refine wpAny_bind (wpAny_typeOf (T := "tuple") ⟨o, ho', hc⟩ ?_)
  have ht : (Value.type "tuple" == Value.type "tuple") = true := by rfl
  rw [if_pos (by rw [ht]; simp)]
  refine wpAny_bind (listItems_at ho' hd ?_)
  refine wpAny_bind (listItems_at (xs := #[]) (n := 0) (Heap.get?_push_size _ rfl) rfl ?_)
  rw [if_neg (by simp)]
  refine wpAny_bind (listUpdate_at (xs := #[]) (n := 0) (Heap.get?_push_size _ rfl) rfl ?_ (Nat.zero_le _) (by show (#[] ++ vs.toArray).size ≤ sizeLine + 1; simp only [Array.size_append, List.size_toArray, List.length_nil]; omega))
  refine wpAny_pure ?_
  show wpAny (model P w) A (do
      let o ← load s.heap.objs.size
      match o.data with
      | .seq xs _ => pure xs.toList
      | _ => unsupported "internal:collect") Q E { s with heap := (s.heap.push (seqObj "list" #[] 0)).update s.heap.objs.size (Obj.mapSeq (· ++ vs.toArray)) }
  refine wpAny_bind (wpAny_load (get?_update_seq (Heap.get?_push_size _ rfl) _) ?_)
  show wpAny _ _ (pure ((#[] : Array Value) ++ vs.toArray).toList) Q E _
  rw [show ((#[] : Array Value) ++ vs.toArray).toList = vs by simp]
  exact wpAny_pure h
theorem sorted_tupS {l : Addr} {vs : List Value} {ss : List Str} {Q : Value → Shared → Prop} (hl : IsTup s.heap l vs.toArray) (hS : StrsAre vs ss) (h64 : vs.length < 64)
    (h : ∀ (out : Array Value) (ss' : List Str), StrsAre out.toList ss' → ss'.Perm ss → sortedS ss' = true → Q (.ref (s.heap.objs.size + 1)) { s with heap := sortedAll s.heap vs out }) :
    wpAny (model P w) A (call (.builtin "sorted") [.ref l]) Q E s := by
  have hz : vs.length ≤ sizeLine := by rw [sizeLine_eq]; omega
  refine Calls.call_function_entry kind_sorted plain_sorted entry_sorted (args_sorted1 _) ?_
  unfold Builtin.«sorted»
  refine wpAny_bind (m := checkCount "sorted" 1 1 _) (wpAny_pure ?_)
  refine wpAny_bind (collect_tupV hl ?_ hz)
  refine wpAny_bind (wpAny_newList ?_)
  have hsz : ((s.heap.push (seqObj "list" #[] 0)).update s.heap.objs.size (Obj.mapSeq (· ++ vs.toArray))).objs.size = s.heap.objs.size + 1 := by
    rw [Heap.size_update, size_push']
  have hoL : (((s.heap.push (seqObj "list" #[] 0)).update s.heap.objs.size (Obj.mapSeq (· ++ vs.toArray))).push (seqObj "list" vs.toArray 0)).get? (s.heap.objs.size + 1) = some (seqObj "list" vs.toArray 0) := by
    rw [← hsz]; exact Heap.get?_push_size _ rfl
  show wpAny _ _ _ _ _ { s with heap := ((s.heap.push (seqObj "list" #[] 0)).update s.heap.objs.size (Obj.mapSeq (· ++ vs.toArray))).push (seqObj "list" vs.toArray 0) }
  rw [hsz]
  refine wpAny_bind (wpAny_holding (wpAny_call_entry slot_list_sort ⟨_, hoL, rfl⟩ entry_list_sort (list_sort_treeK strKind_oneLt hoL hS.keysOf (fun v₁ v₂ rest e => keyKind_strs (by rw [← e]; exact hS)) h64 fun st' a1 a2 => ⟨_, rfl, ?_⟩) (args_list_sort _)))
  obtain ⟨ss', h1, h2, h3⟩ := sorted_out_str hS a1 a2
  exact wpAny_pure ⟨_, rfl, h _ ss' h1 h2 h3⟩
end
/-- a set of n things at a -/
def SetN (a : Addr) (n : Nat) : HO := .ext fun h => ∃ o es ep t, h.get? a = some o ∧ o.ExactSet ∧ o.data = .set es ep t ∧ t.fits es.size = true ∧ es.size = n
theorem setN_new {w : World} {P : Program} {H : Hp} {h : Heap} {a : Addr} {n : Nat} {o : Obj} {es : Array (Int × Value)} {ep : Nat} {t : SetTable} (h1 : h.get? a = some o) (h2 : o.ExactSet) (h3 : o.data = .set es ep t) (h4 : t.fits es.size = true) (h5 : es.size = n) : ObjOk P w H h a (SetN a n) :=
  ⟨⟨o, es, ep, t, h1, h2, h3, h4, h5⟩, ⟨o, h1⟩, fun g1 g2 ⟨o', es', ep', t', k1, k⟩ st => ⟨o', es', ep', t', st _ k1, k⟩⟩
theorem nd_inj {α : Type} {l : List α} (nd : l.Nodup) {i j : Nat} {x : α} (h1 : l[i]? = some x) (h2 : l[j]? = some x) : i = j := by
  obtain ⟨a1, a2⟩ := List.getElem?_eq_some_iff.mp h1
  obtain ⟨b1, b2⟩ := List.getElem?_eq_some_iff.mp h2
  have p := List.pairwise_iff_getElem.mp nd
  rcases Nat.lt_trichotomy i j with c | c | c
  · exact absurd (a2.trans b2.symm) (p i j a1 b1 c)
  · exact c
  · exact absurd (b2.trans a2.symm) (p j i b1 a1 c)
section
variable {X : Cx}
/-- set(t): t a tuple of unlike texts, or a list of unlike tuples of texts -/
def rSetX (K : PySem.W.Frag) : List V → Hp → VK → Prop := fun vs H Q => ∃ l, vs = [V.ref l] ∧
  ((∃ xs : List Str, SqT K H l (xs.map V.str) ∧ xs.Nodup ∧ xs.length < 64 ∧ ∀ p, H p = none → Q (.ref p) (upd H p (SetN p xs.length))) ∨
   (∃ ks : List (Addr × List Str), SqL K H l (ks.map fun p => V.ref p.1) ∧ (∀ p ∈ ks, SqT K H p.1 (p.2.map V.str)) ∧ (ks.map (·.2)).Nodup ∧ ks.length < 17 ∧ ∀ p, H p = none → Q (.ref p) (upd H p (SetN p ks.length))))
theorem strsAt : ∀ {vs : List Value} {xs : List Str}, StrsAre vs xs → ∀ (i : Nat) (v : Value), vs[i]? = some v → ∃ x t, xs[i]? = some x ∧ v = .str x t
  | _, _, .nil, i, v, h => by simp at h
  | _, _, .cons x t r, 0, v, h => by simp at h; exact ⟨x, t, rfl, h.symm⟩
  | _, _, .cons x t r, i + 1, v, h => by
    obtain ⟨y, t', e1, e2⟩ := strsAt r i v (by simpa using h)
    exact ⟨y, t', by simpa using e1, e2⟩
theorem items_of_vals {P : Program} {w : World} : ∀ {xs : List Str} {us : List Value}, Vals (xs.map V.str) us → ItemsAre (strKind P w) xs us
  | [], _, h => by cases h; exact .nil
  | x :: xs, _, h => by
    cases h with
    | cons r t =>
      obtain ⟨tk, rfl⟩ := r
      exact .cons (strKind_is _ _ _ _) (items_of_vals t)
theorem call_setX (K : PySem.W.Frag) (hc : X.calm = true) (hu : X.A.units + 64 < cLine) (hK : X.K = K := by rfl) : CallR X (.type "set") (rSetX K) := by
  subst hK
  intro pins s σ H vs us Q I r h
  obtain ⟨l, rfl, h⟩ := h
  rw [Vals.ref1 r]
  rcases h with ⟨xs, hs, nd, hz, q⟩ | ⟨ks, hs, ht, nd, hz, q⟩
  · obtain ⟨its, rv, hl, _⟩ := I.tuple hs
    have hS := rv.strs
    have hsz : its.length = xs.length := by rw [← rv.length, List.length_map]
    have hsz2 : its.toArray.size = xs.length := by rw [List.size_toArray, hsz]
    refine set_ofT (I.ok.hd hc) hl (fun i h => h.SetOf (strKind X.prog X.w) s.heap.objs.size (fun k' => decide (k' ∈ xs.take i)) (min i xs.length)) (fun h e _ => ?_) (fun i h h' R k => ?_) (fun i v s1 Q E hi1 hv R k => ?_) fun h' tk R kk => ?_
    · exact SetOf_congr ((setObjOf_fresh (knd := strKind X.prog X.w) (!X.w.params.followText "set-order")).setOf e (by unfold scanBound; omega)) (fun _ => rfl) (by simp)
    · obtain ⟨o, es, ep, tb, ho, rest⟩ := R
      exact ⟨o, es, ep, tb, k _ _ (Nat.ne_of_lt (Nat.lt_succ_self _)) ho, rest⟩
    · obtain ⟨x, t, hx, rfl⟩ := strsAt hS i v (by simpa using hv)
      have hin : i < xs.length := (List.getElem?_eq_some_iff.mp hx).1
      unfold setAdd
      refine wpAny_holding ?_
      refine wpAny_bind ((strKind X.prog X.w).pyHash (k := x) (strKind_is _ _ _ _) ?_)
      refine wpAny_setAddHashed_of (knd := strKind X.prog X.w) (s := { s1 with toks := s1.toks + 1 }) (strKind_is _ _ _ _) rfl R (by unfold scanBound; omega) fun h' hsb R2 => ?_
      refine k _ h' (s1.toks + 1) (Nat.le_succ _) hsb (SetOf_congr R2 (fun k' => ?_) ?_)
      · rw [List.take_succ, hx]
        simp only [Option.toList_some, List.mem_append, List.mem_singleton, Bool.decide_or]
      · have hno : x ∉ xs.take i := fun z => by
          obtain ⟨j, hj⟩ := List.getElem?_of_mem z
          rw [List.getElem?_take] at hj
          split at hj
          · rename_i hlt
            have h1 := (List.getElem?_eq_some_iff.mp hj)
            obtain ⟨h2, h3⟩ := h1
            obtain ⟨h4, h5⟩ := List.getElem?_eq_some_iff.mp hx
            have := nd_inj nd (List.getElem?_eq_some_iff.mpr ⟨h2, h3⟩) (List.getElem?_eq_some_iff.mpr ⟨h4, h5⟩)
            omega
          · cases hj
        rw [if_neg (by rw [decide_eq_false hno]; decide)]
        omega
    · rw [hsz2] at R
      obtain ⟨o, es, ep, tb, ho, hex, hd, hel, hmem, hb, hf, hn⟩ := R
      exact ⟨.ref s.heap.objs.size, _, I.laid (t' := tk) kk (Nat.le_refl _) (setN_new ho hex hd hf (by rw [hn]; omega)), rfl, q _ (I.hok.fresh (Nat.le_refl _))⟩
  · obtain ⟨its, rv, hl, _⟩ := I.list hs
    have hsz : its.length = ks.length := by rw [← rv.length, List.length_map]
    have hsz2 : its.toArray.size = ks.length := by rw [List.size_toArray, hsz]
    have hits : ∀ (i : Nat) (v : Value), its[i]? = some v → ∃ p, ks[i]? = some p ∧ v = .ref p.1 := fun i v hv => by
      have hi : i < ks.length := by rw [← hsz]; exact (List.getElem?_eq_some_iff.mp hv).1
      obtain ⟨u, hu', hr⟩ := rv.get (i := i) (x := V.ref (ks[i]).1) (by rw [List.getElem?_map, List.getElem?_eq_getElem hi]; rfl)
      rw [hv] at hu'
      cases hu'
      exact ⟨ks[i], List.getElem?_eq_getElem hi, hr⟩
    have hkt : ∀ p ∈ ks, ∃ o, s.heap.get? p.1 = some o ∧ ∀ h' : Heap, h'.get? p.1 = some o → IsS X.prog X.w h' p.2 p.1 := fun p hp => by
      obtain ⟨its', rv', ⟨o, ho, hc', n, hd⟩, _⟩ := I.tuple (ht p hp)
      exact ⟨o, ho, fun h' e => ⟨o, its'.toArray, n, e, hc', hd, by simpa using items_of_vals rv'⟩⟩
    refine set_ofL (I.ok.hd hc) hl.isList (fun i h => (∀ b o, b < s.heap.objs.size → s.heap.get? b = some o → h.get? b = some o) ∧ ∃ L es ep t, SetS X.prog X.w h s.heap.objs.size L es ep t ∧ L.Perm (ks.take i)) (fun h e k => ⟨fun b o _ => k b o, [], #[], 0, _, ⟨⟨_, e, ⟨rfl, rfl, rfl⟩, rfl⟩, rfl, ?_, fun p hp => (by cases hp), by show 0 * 5 < 7 * 3; decide⟩, by simp⟩) (fun i h h' ⟨k1, L, es, ep, t, R, pm⟩ k => ?_) (fun i v s1 Q E hi1 hv ⟨k1, L, es, ep, t, R, pm⟩ k => ?_) fun h' tk ⟨k1, L, es, ep, t, R, pm⟩ kk => ?_
    · refine ⟨List.Pairwise.nil, rfl, rfl, .inl rfl, (fun x hx => by cases hx), fun i h j hi => by simp at hi⟩
    · have nI : ∀ b, b < s.heap.objs.size + 1 → b ≠ s.heap.objs.size + 1 := fun b hb => Nat.ne_of_lt hb
      refine ⟨fun b o hb e => k b o (nI b (Nat.lt_succ_of_lt hb)) (k1 b o hb e), L, es, ep, t, ⟨?_, R.rows, R.tab, fun p hp => ?_, R.room⟩, pm⟩
      · obtain ⟨o, ho, rest⟩ := R.ob
        exact ⟨o, k _ _ (nI _ (Nat.lt_succ_self _)) ho, rest⟩
      · have hpk : p ∈ ks := List.mem_of_mem_take (pm.mem_iff.mp hp)
        obtain ⟨o, ho, g⟩ := hkt p hpk
        exact g h' (k _ _ (nI _ (Nat.lt_succ_of_lt (Heap.lt_size ho))) (k1 _ _ (Heap.lt_size ho) ho))
    · obtain ⟨p, hp, rfl⟩ := hits i v (by simpa using hv)
      have hin : i < ks.length := (List.getElem?_eq_some_iff.mp hp).1
      have hpk : p ∈ ks := List.mem_of_getElem? hp
      obtain ⟨o, ho, g⟩ := hkt p hpk
      have hx : IsS X.prog X.w s1.heap p.2 p.1 := g _ (k1 _ _ (Heap.lt_size ho) ho)
      have hu1 : X.A.in1.in1.in1.units < cLine := by
        have e : X.A.in1.in1.in1.units ≤ X.A.units + 3 := by show X.A.units + 1 + 1 + 1 ≤ _; omega
        omega
      have hno : p.2 ∉ L.map (·.2) := fun z => by
        obtain ⟨p', hp', e⟩ := List.mem_map.mp z
        have hp2 := pm.mem_iff.mp hp'
        obtain ⟨j, hj⟩ := List.getElem?_of_mem hp2
        rw [List.getElem?_take] at hj
        split at hj
        · rename_i hlt
          have a1 : (ks.map (·.2))[j]? = some p.2 := by rw [List.getElem?_map, hj, ← e]; rfl
          have a2 : (ks.map (·.2))[i]? = some p.2 := by rw [List.getElem?_map, hp]; rfl
          have := nd_inj nd a1 a2
          omega
        · cases hj
      have hLl : L.length = i := by rw [pm.length_eq, List.length_take]; omega
      unfold setAdd
      refine wpAny_holding ?_
      refine wpAny_bind (wpAny_pyHash_tuple hu1 hx ?_)
      refine addS (s := { s1 with toks := s1.toks + (p.2.length + 1) }) R hx hu1 hno (by omega) fun h' L' es' ep' t' hsb R2 pm2 => ?_
      refine k _ h' _ (Nat.le_add_right _ _) hsb ⟨fun b o hb e => ?_, L', es', ep', t', R2, ?_⟩
      · rw [hsb.2 b (Nat.ne_of_lt hb)]
        exact k1 b o hb e
      · have e2 : ks.take (i + 1) = ks.take i ++ [p] := by rw [List.take_succ, hp]; rfl
        rw [e2]
        refine pm2.trans (List.Perm.trans ?_ (List.perm_append_singleton _ _).symm)
        exact List.Perm.cons _ pm
    · rw [hsz2, List.take_length] at pm
      obtain ⟨o, ho, hex, hd⟩ := R.ob
      exact ⟨.ref s.heap.objs.size, _, I.laid (t' := tk) kk (Nat.le_refl _) (setN_new ho hex hd (SetS.fits (s := { s with heap := h' }) R) (by rw [SetS.size (s := { s with heap := h' }) R, pm.length_eq])), rfl, q _ (I.hok.fresh (Nat.le_refl _))⟩
def rLenX : List V → Hp → VK → Prop := fun vs H Q => ∃ p n, vs = [V.ref p] ∧ H p = some (SetN p n) ∧ n < 2 ^ 62 ∧ Q (.int n) H
theorem call_lenX : CallR X (.builtin "len") rLenX := by
  intro pins s σ H vs us Q I r h
  obtain ⟨p, n, rfl, hp, hn, q⟩ := h
  rw [Vals.ref1 r]
  obtain ⟨⟨o, es, ep, t, h1, h2, h3, h4, h5⟩, _⟩ := I.hok _ _ hp
  subst h5
  refine call_len_set h1 h2 h3 h4 (by omega) ⟨.int es.size, H, I.tok _, ⟨_, rfl⟩, q⟩
/-- sorted(t), t a tuple of texts -/
def rSortedTS (K : PySem.W.Frag) : List V → Hp → VK → Prop := fun vs H Q => ∃ (a : Addr) (xs : List Str), vs = [V.ref a] ∧ SqT K H a (xs.map V.str) ∧ xs.length < 64 ∧
  ∀ (ys : List Str) (p : Addr), ys.Perm xs → sortedS ys = true → H p = none → Q (.ref p) (upd H p (.lst (ys.map V.str)))
theorem cr_sortedTS (K : PySem.W.Frag) (hc : X.calm = true) (hK : X.K = K := by rfl) : CallR X (.builtin "sorted") (rSortedTS K) := by
  subst hK
  intro pins s σ H vs us Q I r h
  obtain ⟨a, xs, rfl, hs, h64, q⟩ := h
  obtain ⟨its, rv, hl, _⟩ := I.tuple hs
  rw [Vals.ref1 r]
  have hlen0 := rv.length
  rw [List.length_map] at hlen0
  refine sorted_tupS hl rv.strs (by rw [← hlen0]; exact h64) fun out ys h1 h2 h3 => ?_
  obtain ⟨ep, he'⟩ := PyProof.Rows.sortedAll_at s.heap its out
  have hlen : (ys.map V.str).length ≤ sizeLine := by rw [List.length_map, h2.length_eq]; exact small64 h64
  exact ⟨.ref _, upd H (s.heap.objs.size + 1) (.lst (ys.map V.str)), I.laid (t' := s.toks) (fun _ _ => PyProof.Rows.sortedAll_old) (Nat.le_succ _) ⟨hlen, out.toList, ep, vals_of_strs h1, he'⟩, rfl, q ys _ h2 h3 (I.hok.fresh (Nat.le_succ _))⟩
end
end EIT
end
/-! text R1 -/
section
set_option maxHeartbeats 4000000
/-! Rules that the layer lacks (interfaces; proved in texts of their own). -/
namespace EIT
open PySem PySem.Spec PyProof.Rows L2
section
variable {X : Cx}
/-- len(set(a)), all of a's items being unlike: texts, or tuples of texts -/
def tLenSetX (K : PySem.W.Frag) (ta : TE) : TE := tCB rLenX (tCons (tCB (rSetX K) (tCons ta tNil)) tNil)
theorem pe_lenSetX (K : PySem.W.Frag) {a : Expr} {ta : TE} {p p2 q pos : Pos} (hm : X.mg "len" = none) (hm2 : X.mg "set" = none) (hg : Gl X "len") (hg2 : Gl X "set") (ha : PE X a ta) (hc : X.calm = true := by rfl) (hu : X.A.units + 64 < cLine := by first | exact Room.units (by assumption))
    (na : starEach [a] X.env = (false, eval a X.env) :: starEach [] X.env := by rfl) (hK : X.K = K := by rfl) : PE X (.Call (.Name "len" p) [.Call (.Name "set" p2) [a] [] q] [] pos) (tLenSetX K ta) :=
  pe_callB call_lenX hg hm (by decide +kernel) (pa_cons (pe_callTy (call_setX K hc hu hK) hg2 hm2 (by decide +kernel) (pa_cons ha pa_nil na) (he := na)) pa_nil)
/-- x in a tuple of data -/
def rInDT (K : PySem.W.Frag) : R2 := fun x y H Q => ∃ d ds, Dp K H x d ∧ Dp K H y (.tuple ds) ∧ SeqAt.shaped d = true ∧ SeqAt.shaped (.tuple ds) = true ∧ Q (.bl (ds.any fun z => PyData.eqv z d)) H
theorem op_inDT (K : PySem.W.Frag) (hu : X.A.units + 65 < cLine) (hK : X.K = K := by rfl) : OpR X (compareOp .In) (rInDT K) := by
  subst hK
  intro pins s σ H x y v u Q I rx ry h
  obtain ⟨d, ds, hd, he, sd, se, q⟩ := h
  obtain ⟨as, r1⟩ := Dp.reads I d x v hd rx
  obtain ⟨bs, r2⟩ := Dp.reads I (.tuple ds) y u he ry
  exact SeqAt.in_tuple_reads r2 r1 (SeqAt.canLay_of_shaped se) (SeqAt.canLay_of_shaped sd) (room_in_shaped sd hu) ⟨.bl _, H, I, rfl, q⟩
theorem room65 {k : Nat} {A : Around} (r : Room k A) : A.units + 65 < cLine := by have := r.un; omega
end
section
variable {K : PySem.W.Frag} {M : Mk} {σ : L2.St} {H H' : Hp} {ta tb te : TE} {tr : TA} {d e : PyData} {ds es : List PyData}
theorem dps_tups : ∀ {ks : List (List Str)} {vs : List V}, DpAll K H vs (ks.map fun k => .tuple (k.map .str)) → ∃ ps : List (Addr × List Str), vs = ps.map (fun p => V.ref p.1) ∧ ps.map (·.2) = ks ∧ ∀ p ∈ ps, SqT K H p.1 (p.2.map V.str)
  | [], _, h => by cases h; exact ⟨[], rfl, rfl, fun p hp => nomatch hp⟩
  | k :: ks, _, h => by
    cases h with
    | cons h1 h2 =>
      obtain ⟨a, xs, rfl, hs, ha⟩ := dp_tup h1
      cases dps_strs ha
      obtain ⟨ps, rfl, rfl, hp⟩ := dps_tups h2
      refine ⟨(a, k) :: ps, rfl, rfl, fun p hp' => ?_⟩
      rcases List.mem_cons.mp hp' with z | z
      · rw [z]; exact hs
      · exact hp p z
theorem ed_lenSetT {xs : List Str} (h : EvD K M ta σ H (.tuple (xs.map .str))) (hn : xs.Nodup) (hl : xs.length < 64) : EvD K M (tLenSetX K ta) σ H (.int xs.length) := fun H1 e Q q =>
  h H1 e _ fun v H2 e2 hv => by
    obtain ⟨a, ys, rfl, hs, ha⟩ := dp_tup hv
    cases dps_strs ha
    exact ⟨a, rfl, .inl ⟨xs, sqT_mono (hm_sub M H2) hs, hn, hl, fun p hp => ⟨p, xs.length, rfl, upd_same, by omega, q _ _ (e2.trans (same_new hp)) (.int _)⟩⟩⟩
theorem ed_lenSetP {ks : List (List Str)} (h : EvD K M ta σ H (.list (ks.map fun k => .tuple (k.map .str)))) (hn : ks.Nodup) (hl : ks.length < 17) : EvD K M (tLenSetX K ta) σ H (.int ks.length) := fun H1 e Q q =>
  h H1 e _ fun v H2 e2 hv => by
    obtain ⟨a, ys, rfl, hs, ha⟩ := dp_lst hv
    obtain ⟨ps, rfl, e3, hp⟩ := dps_tups ha
    refine ⟨a, rfl, .inr ⟨ps, sqL_mono (hm_sub M H2) hs, fun p h => sqT_mono (hm_sub M H2) (hp p h), by rw [e3]; exact hn, by rw [← e3, List.length_map] at hl; exact hl, fun p hp => ⟨p, ps.length, rfl, upd_same, ?_, q _ _ (e2.trans (same_new hp)) ?_⟩⟩⟩
    · rw [← e3, List.length_map] at hl; omega
    · rw [← e3, List.length_map]
      exact .int _
theorem ed_inDT {r : Bool} (ha : EvD K M ta σ H d) (hb : EvD K M tb σ H (.tuple ds)) (s1 : SeqAt.shaped d = true) (s2 : SeqAt.shaped (.tuple ds) = true) (hr : (ds.any fun z => PyData.eqv z d) = r) : EvD K M (tOp (rInDT K) ta tb) σ H (.bool r) :=
  ed_op2 ha hb fun x y H1 _ hx hy Q q => ⟨d, ds, hx.up (hm_sub M H1), hy.up (hm_sub M H1), s1, s2, by rw [hr]; exact q _ H1 (Same.refl H1) (.bl _)⟩
theorem ed_notInSign {c : Nat} {z : Str} (ha : EvD K M ta σ H (.str ⟨#[c]⟩)) (hb : EvD K M tb σ H (.str z)) : EvD K M (tOp (fun x y H Q => ∃ (c : Nat) (z : Str), x = .str ⟨#[c]⟩ ∧ y = .str z ∧ Q (.bl (!decide (c ∈ z.cps.toList))) H) ta tb) σ H (.bool (!decide (c ∈ z.cps.toList))) :=
  ed_op2 ha hb fun x y H1 _ hx hy Q q => by
    rw [dp_str hx, dp_str hy]
    exact ⟨c, z, rfl, rfl, q _ H1 (Same.refl H1) (.bl _)⟩
theorem ed_inSign {c : Nat} {z : Str} (ha : EvD K M ta σ H (.str ⟨#[c]⟩)) (hb : EvD K M tb σ H (.str z)) : EvD K M (tOp (fun x y H Q => ∃ (c : Nat) (z : Str), x = .str ⟨#[c]⟩ ∧ y = .str z ∧ Q (.bl (decide (c ∈ z.cps.toList))) H) ta tb) σ H (.bool (decide (c ∈ z.cps.toList))) :=
  ed_op2 ha hb fun x y H1 _ hx hy Q q => by
    rw [dp_str hx, dp_str hy]
    exact ⟨c, z, rfl, rfl, q _ H1 (Same.refl H1) (.bl _)⟩
theorem ed_lenStr {z : Str} (h : EvD K M ta σ H (.str z)) (hz : z.length ≤ sizeLine) : EvD K M (tCB (fun xs H Q => ∃ z, xs = [V.str z] ∧ z.length ≤ sizeLine ∧ Q (.int z.length) H) (tCons ta tNil)) σ H (.int z.length) := fun H1 e Q q =>
  h H1 e _ fun v H2 e2 hv => by
    rw [dp_str hv]
    exact ⟨z, rfl, hz, q _ H2 e2 (.int _)⟩
theorem src_str {x : Str} (h : EvD K M ta σ H (.str x)) : Src K M (iStr ta) σ H (x.cps.toList.map fun c => .str ⟨#[c]⟩) := fun H1 e R q => h H1 e _ fun v H2 e2 hv => by
  rw [dp_str hv]
  refine ⟨x, rfl, q _ H2 e2 fun M' i H' _ _ => ⟨fun hi => ?_, fun hi => ?_⟩⟩
  · rw [List.length_map, Array.length_toList] at hi
    refine ⟨hi, fun z H'' y => ?_⟩
    obtain ⟨rfl, c, hc, rfl⟩ := y
    refine ⟨Same.refl _, _, ?_, .str _⟩
    rw [List.getElem?_map, Array.getElem?_toList, hc]
    rfl
  · rw [List.length_map, Array.length_toList] at hi
    exact Nat.le_of_eq hi.symm
/-- data of pairs of texts compared -/
theorem eqv_str (a b : Str) : PyData.eqv (.str a) (.str b) = (a == b) := by simp only [PyData.eqv]
theorem eqvAll_strs : ∀ (k l : List Str), PyData.eqvAll (k.map .str) (l.map .str) = decide (k = l)
  | [], [] => by simp [PyData.eqvAll]
  | [], b :: l => by simp [PyData.eqvAll]
  | a :: k, [] => by simp [PyData.eqvAll]
  | a :: k, b :: l => by
    simp only [List.map_cons, PyData.eqvAll, eqv_str, eqvAll_strs k l, List.cons.injEq]
    by_cases h : a = b
    · subst h; simp
    · have : (a == b) = false := beq_eq_false_iff_ne.mpr h
      rw [this]; simp [h]
theorem eqv_tupS (k l : List Str) : PyData.eqv (.tuple (k.map .str)) (.tuple (l.map .str)) = decide (k = l) := by
  simp only [PyData.eqv, eqvAll_strs]
/-! tuple(..), sorted(..) -/
theorem ed_tupleOfL (wd : Wd M H) (h : EvD K M ta σ H (.list ds)) : EvD K M (tCB (fun xs H Q => ∃ p ys, xs = [V.ref p] ∧ ((SqL K H p ys ∧ ∀ l, H l = none → Q (.ref l) (upd H l (.tup ys))) ∨ (SqT K H p ys ∧ Q (.ref p) H))) (tCons ta tNil)) σ H (.tuple ds) := fun H1 e Q q =>
  h H1 e _ fun v H2 e2 hv => by
    obtain ⟨a, xs, rfl, hs, ha⟩ := dp_lst hv
    refine ⟨a, xs, rfl, .inl ⟨sqL_mono (hm_sub M H2) hs, fun p hp => q _ _ (e2.trans (same_new hp)) ?_⟩⟩
    have hm : M p = false := (wd.mono (e.trans e2)).new hp
    exact .tup (.of (hm_of hm upd_same)) (ha.up (hm_mono (same_new hp)))
theorem ed_listOfL (wd : Wd M H) (h : EvD K M ta σ H (.list ds)) : EvD K M (tCB (fun xs H Q => ∃ p ys, xs = [V.ref p] ∧ (SqL K H p ys ∨ SqT K H p ys) ∧ ∀ l, H l = none → Q (.ref l) (upd H l (.lst ys))) (tCons ta tNil)) σ H (.list ds) := fun H1 e Q q =>
  h H1 e _ fun v H2 e2 hv => by
    obtain ⟨a, xs, rfl, hs, ha⟩ := dp_lst hv
    refine ⟨a, xs, rfl, .inl (sqL_mono (hm_sub M H2) hs), fun p hp => q _ _ (e2.trans (same_new hp)) ?_⟩
    have hm : M p = false := (wd.mono (e.trans e2)).new hp
    exact .lst (.of (hm_of hm upd_same)) (ha.up (hm_mono (same_new hp)))
theorem ed_listOfT (wd : Wd M H) (h : EvD K M ta σ H (.tuple ds)) : EvD K M (tCB (fun xs H Q => ∃ p ys, xs = [V.ref p] ∧ (SqL K H p ys ∨ SqT K H p ys) ∧ ∀ l, H l = none → Q (.ref l) (upd H l (.lst ys))) (tCons ta tNil)) σ H (.list ds) := fun H1 e Q q =>
  h H1 e _ fun v H2 e2 hv => by
    obtain ⟨a, xs, rfl, hs, ha⟩ := dp_tup hv
    refine ⟨a, xs, rfl, .inr (sqT_mono (hm_sub M H2) hs), fun p hp => q _ _ (e2.trans (same_new hp)) ?_⟩
    have hm : M p = false := (wd.mono (e.trans e2)).new hp
    exact .lst (.of (hm_of hm upd_same)) (ha.up (hm_mono (same_new hp)))
/-- two texts in their order -/
def srt2 (a b : Str) : List Str := if sortedS [a, b] = true then [a, b] else [b, a]
theorem perm_two {α : Type} {a b : α} {ys : List α} (h : ys.Perm [a, b]) : ys = [a, b] ∨ ys = [b, a] := by
  have hl := h.length_eq
  match ys, hl with
  | [x, y], _ =>
    rcases List.mem_cons.mp (h.mem_iff.mp (List.mem_cons_self (a := x))) with e | e
    · subst e
      have h2 := (List.perm_cons x).mp h
      have : y = b := by
        have := h2.mem_iff.mp (List.mem_cons_self (a := y))
        simpa using this
      subst this
      exact .inl rfl
    · have e : x = b := by simpa using e
      subst e
      have h2 : [y].Perm [a] := by
        have h3 : (x :: [y]).Perm (x :: [a]) := h.trans (List.Perm.swap x a [])
        exact (List.perm_cons x).mp h3
      have : y = a := by
        have := h2.mem_iff.mp (List.mem_cons_self (a := y))
        simpa using this
      subst this
      exact .inr rfl
end
end EIT
end
/-! text W1b -/
section
set_option maxHeartbeats 4000000
/-! kinds: names, numbers, unlike things. -/
namespace EIT
open PySem PySem.Spec PyProof.Rows L2
section
variable {P : Program} {w : World} {K : PySem.W.Frag} {mg : Str → Option Value} {base : Heap}
def lets : Str := "abcdefghijklmnopqrstuvwxyz"
def digs : Str := "0123456789"
structure NameOk (x : Str) : Prop where
  lo : 1 ≤ x.length
  hi : x.length ≤ 8
  first : ∃ c, x.cps.toList[0]? = some c ∧ c ∈ lets.cps.toList
  all : ∀ c ∈ x.cps.toList, c ∈ lets.cps.toList ∨ c ∈ digs.cps.toList
theorem sc_is_name : FnScope ["thing", "sign"] ["thing"] (defScope s_is_name) := ⟨rfl, rfl, rfl, by decide +kernel, rfl, by decide +kernel, by decide +kernel⟩
theorem ok_is_name (T : Tx K mg) : Cal P w K mg base 1 "is_name" ["thing"] (spF K (ι := Str) (fun d => [.str d]) NameOk (fun _ => .bool true)) := by
  refine mkF T.d_is_name sc_is_name (fun _ => rfl) (fun _ _ _ _ _ _ us hl => match us, hl with | [_], _ => rfl) fun f cdv A outer s H vs Q E hr M x wd hv hp q => ?_
  obtain ⟨v, rfl, h0⟩ := one_of hv
  refine ⟨_, (pss_cons (ps_if (PW.pt (pw_or (pt_not (pt_val (pe_callB (call_isiK' K) (by rfl) T.b_isinstance (by decide +kernel) (pa_cons (pv 0) (pa_cons (pe_bltn (v := .ty "str") (by rfl) T.b_str (by decide +kernel) rfl) pa_nil))))) (pw_or (pt_not (pt_chain op_le op_le pe_int (pe_callB call_len_str (by rfl) T.b_len (by decide +kernel) (pa_cons (pv 0) pa_nil)) (pe_gint T.i_MOST_SIGNS (by rfl)))) (pw_or1 (pt_cmpR op_notIn_sign (pe_ix (ix_seqK K) (pv 0) pe_int (fun _ _ => rfl)) (pe_gstr T.s_LETTERS (by rfl)) (by rfl)))))) (pss_one (ps_ret pe_bl)) pss_nil)
      (pss_one (ps_ret (pe_callB (cr_allK K rfl) (by rfl) T.b_all (by decide +kernel) (pa_cons (pe_lc (own := [("sign", 1)])  rfl sc_is_name.nd (pi_str (pv 0)) (blkOk_by (N := ["thing", "sign"]) (sc := defScope s_is_name) (own := [("sign", 1)]) (by decide +kernel)) (fun _ _ _ _ _ => pg_name (i := 1) sc_is_name.nd rfl (Or.inl rfl)) (fun _ _ _ _ _ => pts_nil) (fun _ _ _ _ _ => (pe_or (pe_cmpR op_in_sign (pv 1) (pe_gstr T.s_LETTERS (by rfl)) (by rfl)) (pe_one (pe_cmpR op_in_sign (pv 1) (pe_gstr T.s_DIGITS (by rfl)) (by rfl)))))) pa_nil))))), ?_⟩
  obtain ⟨c, hc1, hc2⟩ := hp.first
  have hz : x.length ≤ sizeLine := sz_ok (Nat.le_trans hp.hi (by decide))
  refine q_no (EvT.eq (et_or (et_not (et_B (ed_isStr (ed_var rfl h0)))) fun _ => et_or (et_not (et_B (ed_chain ed_int (ed_lenStr (ed_var rfl h0) hz) ed_int))) fun _ => et_test (ed_notInSign (z := lets) (ed_ixS' (j := 0) (ed_var rfl h0) ed_int rfl hz hc1) ed_str)) ?_) fun H1 e => ?_
  · have h1 := hp.lo
    have h2 := hp.hi
    show (!isStr (.str x) || (!(decide ((1 : Int) ≤ (x.length : Int)) && decide ((x.length : Int) ≤ 8)) || !decide (c ∈ lets.cps.toList))) = false
    rw [decide_eq_true hc2, decide_eq_true (by omega : (1 : Int) ≤ (x.length : Int)), decide_eq_true (by omega : (x.length : Int) ≤ 8)]
    rfl
  · have h1 : Dp K (Hm M H1) v (.str x) := h0.up (hm_mono e)
    refine s_ret (ed_all (bs := x.cps.toList.map fun c => decide (c ∈ lets.cps.toList) || decide (c ∈ digs.cps.toList)) (EvD.eq (ed_map (xs := x.cps.toList) (enc := fun c => .str ⟨#[c]⟩) (r := fun c => PyData.bool (decide (c ∈ lets.cps.toList) || decide (c ∈ digs.cps.toList)))
      (wd.mono e) (src_str (ed_var rfl h1)) (by rw [Array.length_toList]; exact Nat.le_trans hp.hi (by decide)) (fun _ => rfl) fun a _ M' H2 z _ _ _ hz2 =>
        ed_or (ed_inSign (ed_var rfl hz2) (ed_str (x := lets))) fun _ => ed_inSign (ed_var rfl hz2) (ed_str (x := digs))) ?_)) fun v2 H2 e2 hv2 => q v2 H2 (e.trans e2) ?_
    · rw [List.map_map]
      rfl
    · have e3 : (x.cps.toList.map fun c => decide (c ∈ lets.cps.toList) || decide (c ∈ digs.cps.toList)).all id = true := by
        rw [List.all_map, List.all_eq_true]
        intro c hc
        rcases hp.all c hc with h | h
        · show (decide (c ∈ lets.cps.toList) || decide (c ∈ digs.cps.toList)) = true
          rw [decide_eq_true h, Bool.true_or]
        · show (decide (c ∈ lets.cps.toList) || decide (c ∈ digs.cps.toList)) = true
          rw [decide_eq_true h, Bool.or_true]
      rw [e3] at hv2
      exact hv2

theorem sc_are_unlike : FnScope ["things"] ["things"] (defScope s_are_unlike) := ⟨rfl, rfl, rfl, by decide +kernel, rfl, by decide +kernel, by decide +kernel⟩
def unlikeD : List Str ⊕ List (List Str) → PyData
  | .inl xs => .tuple (xs.map .str)
  | .inr ks => .list (ks.map fun k => .tuple (k.map .str))
def unlikeP : List Str ⊕ List (List Str) → Prop
  | .inl xs => xs.Nodup ∧ xs.length < 32
  | .inr ks => ks.Nodup ∧ ks.length < 17
theorem ok_are_unlike (T : Tx K mg) : Cal P w K mg base 1 "are_unlike" ["things"] (spF K (ι := List Str ⊕ List (List Str)) (fun d => [unlikeD d]) unlikeP (fun _ => .bool true)) := by
  refine mkF T.d_are_unlike sc_are_unlike (fun _ => rfl) (fun _ _ _ _ _ _ us hl => match us, hl with | [_], _ => rfl) fun f cdv A outer s H vs Q E hr M x wd hv hp q => ?_
  obtain ⟨v, rfl, h0⟩ := one_of hv
  refine ⟨_, (pss_one (ps_ret (pe_cmpR op_eq (pe_lenSetX K T.b_len T.b_set (by rfl) (by rfl) (pv 0)) (pe_callB (call_len_seqK K) (by rfl) T.b_len (by decide +kernel) (pa_cons (pv 0) pa_nil)) (nomark _)))), ?_⟩
  cases x with
  | inl xs => exact s_ret ((ed_eqI (ed_lenSetT (ed_var rfl h0) hp.1 (Nat.lt_trans hp.2 (by decide))) (ed_lenT (ed_var rfl h0))).eq (by rw [List.length_map, decide_eq_true rfl])) q
  | inr ks => exact s_ret ((ed_eqI (ed_lenSetP (ed_var rfl h0) hp.1 hp.2) (ed_lenL (ed_var rfl h0))).eq (by rw [List.length_map, decide_eq_true rfl])) q

theorem sc_are_numbers : FnScope ["thing", "many", "count", "one"] ["thing", "many", "count"] (defScope s_are_numbers) := ⟨rfl, rfl, rfl, by decide +kernel, rfl, by decide +kernel, by decide +kernel⟩
theorem ok_are_numbers (T : Tx K mg) : Cal P w K mg base 3 "are_numbers" ["thing", "many", "count"] (spF K (ι := List Int × Int) (fun x => [.tuple (x.1.map .int), .int x.1.length, .int x.2]) (fun x => x.1.length ≤ 50000 ∧ ∀ n ∈ x.1, 0 ≤ n ∧ n < x.2) (fun _ => .bool true)) := by
  refine mkF T.d_are_numbers sc_are_numbers (fun _ => rfl) (fun _ _ _ _ _ _ us hl => match us, hl with | [_, _, _], _ => rfl) fun f cdv A outer s H vs Q E hr M x wd hv hp q => ?_
  obtain ⟨ns, cnt⟩ := x
  obtain ⟨v0, v1, v2, rfl, h0, h1, h2⟩ := three_of hv
  obtain ⟨p1, p2⟩ := hp
  simp only at p1 p2
  refine ⟨_, (pss_one (ps_ret (pe_and (pe_cal (ok_is_row_of T) (hr.mono (by decide)) (by rfl) (pa_cons (pv 0) (pa_cons (pv 1) (pa_cons (pv 1) pa_nil)))) (pe_one (pe_callB (cr_allK K rfl) (by rfl) T.b_all (by decide +kernel) (pa_cons (pe_lc (own := [("one", 3)])  rfl sc_are_numbers.nd (pi_tupK K (pv 0)) (blkOk_by (N := ["thing", "many", "count", "one"]) (sc := defScope s_are_numbers) (own := [("one", 3)]) (by decide +kernel)) (fun _ _ _ _ _ => pg_name (i := 3) sc_are_numbers.nd rfl (Or.inl rfl)) (fun _ _ _ _ _ => pts_nil) (fun _ _ _ _ _ => (pe_cal (ok_is_within T) (hr.mono (by decide)) (by rfl) (pa_cons (pv 3) (pa_cons pe_int (pa_cons (pe_op op_sub (pv 2) pe_int) pa_nil)))))) pa_nil)))))), ?_⟩
  refine s_ret ((ed_and (a := true) (b := true) ((ed_call (PyData.tuple (ns.map .int), (ns.length : Int), (ns.length : Int)) wd (ea_cons (ed_var rfl h0) (ea_cons (ed_var rfl h1) (ea_cons (ed_var rfl h1) ea_nil))) trivial).eq ?_) fun _ =>
    EvD.eq (ed_all (bs := ns.map fun n => within 0 (cnt - 1) (.int n)) (EvD.eq (ed_map (xs := ns) (enc := .int) (r := fun n => .bool (within 0 (cnt - 1) (.int n))) wd (src_tup (ed_var rfl h0)) (Nat.le_trans p1 (by decide)) (fun _ => rfl) fun a _ M' H2 z e1 e2 wd2 hz2 =>
      ed_call (PyData.int a, (0 : Int), cnt - 1) wd2 (ea_cons (ed_var rfl hz2) (ea_cons ed_int (ea_cons (ed_I0 (ed_var rfl (h2.up e2)) ed_int) ea_nil))) trivial) ?_)) ?_).eq rfl) q
  rotate_left
  · rw [List.map_map]; rfl
  · rw [List.all_map]
    congr 1
    rw [List.all_eq_true]
    intro n hn
    obtain ⟨q1, q2⟩ := p2 n hn
    show (decide ((0 : Int) ≤ n) && decide (n ≤ cnt - 1)) = true
    rw [decide_eq_true q1, decide_eq_true (by omega : n ≤ cnt - 1)]
    rfl
  show PyData.bool (decide ((ns.length : Int) ≤ ((ns.map PyData.int).length : Int)) && decide (((ns.map PyData.int).length : Int) ≤ (ns.length : Int))) = _
  rw [List.length_map, decide_eq_true (Int.le_refl _)]
  rfl
end
end EIT
end
/-! text W2 -/
section
set_option maxHeartbeats 4000000
/-! webs. -/
namespace EIT
open PySem PySem.Spec PyProof.Rows L2
theorem ltCps_tot : ∀ (a b : List Nat), ltCps a b = false → ltCps b a = false → a = b
  | [], [], _, _ => rfl
  | [], _ :: _, h, _ => by simp [ltCps] at h
  | _ :: _, [], _, h => by simp [ltCps] at h
  | x :: a, y :: b, h1, h2 => by
    simp only [ltCps, Bool.or_eq_false_iff, decide_eq_false_iff_not, Bool.and_eq_false_iff, beq_eq_false_iff_ne] at h1 h2
    have e : x = y := by omega
    subst e
    have h3 : ltCps a b = false := h1.2.resolve_left fun z => z rfl
    have h4 : ltCps b a = false := h2.2.resolve_left fun z => z rfl
    rw [ltCps_tot a b h3 h4]
theorem str_ext {a b : Str} (h : a.cps.toList = b.cps.toList) : a = b := by
  obtain ⟨⟨a⟩⟩ := a
  obtain ⟨⟨b⟩⟩ := b
  simp only at h
  rw [h]
theorem sorted_two {a b : Str} {ys : List Str} (h : ys.Perm [a, b]) (hs : sortedS ys = true) : ys = srt2 a b := by
  unfold srt2
  rcases perm_two h with e | e
  · subst e; rw [if_pos hs]
  · subst e
    by_cases h2 : sortedS [a, b] = true
    · rw [if_pos h2]
      have e : a = b := by
        refine str_ext (ltCps_tot _ _ ?_ ?_)
        · simp only [sortedS, risingS, Bool.and_true, Bool.not_eq_true'] at hs
          exact hs
        · simp only [sortedS, risingS, Bool.and_true, Bool.not_eq_true'] at h2
          exact h2
      rw [e]
    · rw [if_neg h2]
theorem srt2_mem {a b : Str} : srt2 a b = [a, b] ∨ srt2 a b = [b, a] := by
  unfold srt2; split
  · exact .inl rfl
  · exact .inr rfl
theorem srt2_eq {a b c d : Str} (h : srt2 a b = srt2 c d) : (a = c ∧ b = d) ∨ (a = d ∧ b = c) := by
  rcases srt2_mem (a := a) (b := b) with e1 | e1 <;> rcases srt2_mem (a := c) (b := d) with e2 | e2 <;> rw [e1, e2] at h <;> simp only [List.cons.injEq, and_true] at h
  · exact .inl h
  · exact .inr h
  · exact .inr ⟨h.2, h.1⟩
  · exact .inl ⟨h.2, h.1⟩

structure Web where
  ps : List Str
  rs : List (Str × Str)
def strsD (xs : List Str) : PyData := .tuple (xs.map .str)
def roadD (r : Str × Str) : PyData := .tuple [.str r.1, .str r.2]
def Web.enc (w : Web) : PyData := .tuple [strsD w.ps, .tuple (w.rs.map roadD)]
structure WebOk (w : Web) : Prop where
  lo : 1 ≤ w.ps.length
  hi : w.ps.length ≤ 8
  name : ∀ p ∈ w.ps, NameOk p
  nd : w.ps.Nodup
  few : w.rs.length ≤ 14
  road : ∀ r ∈ w.rs, r.1 ∈ w.ps ∧ r.2 ∈ w.ps ∧ r.1 ≠ r.2
  unlike : (w.rs.map fun r => srt2 r.1 r.2).Nodup
def adj (rs : List (Str × Str)) (a b : Str) : Bool := decide ((a, b) ∈ rs) || decide ((b, a) ∈ rs)
def nbs (w : Web) (p : Str) : List Str := w.ps.filter fun o => adj w.rs p o
section
variable {P : Program} {w : World} {K : PySem.W.Frag} {mg : Str → Option Value} {base : Heap}

theorem sc_are_places : FnScope ["places", "thing", "place"] ["places", "thing"] (defScope s_are_places) := ⟨rfl, rfl, rfl, by decide +kernel, rfl, by decide +kernel, by decide +kernel⟩
theorem ok_are_places (T : Tx K mg) : Cal P w K mg base 2 "are_places" ["places", "thing"] (spF K (ι := List Str × List Str) (fun x => [strsD x.1, strsD x.2]) (fun x => (∀ p ∈ x.2, p ∈ x.1) ∧ x.2.Nodup ∧ x.2.length < 32) (fun _ => .bool true)) := by
  refine mkF T.d_are_places sc_are_places (fun _ => rfl) (fun _ _ _ _ _ _ us hl => match us, hl with | [_, _], _ => rfl) fun f cdv A outer s H vs Q E hr M x wd hv hp q => ?_
  obtain ⟨ps, xs⟩ := x
  obtain ⟨v0, v1, rfl, h0, h1⟩ := two_of hv
  obtain ⟨p1, p2, p3⟩ := hp
  simp only at p1 p2 p3
  refine ⟨_, (pss_one (ps_ret (pe_and (pe_callB (cr_allK K rfl) (by rfl) T.b_all (by decide +kernel) (pa_cons (pe_lc (own := [("place", 2)])  rfl sc_are_places.nd (pi_tupK K (pv 1)) (blkOk_by (N := ["places", "thing", "place"]) (sc := defScope s_are_places) (own := [("place", 2)]) (by decide +kernel)) (fun _ _ _ _ _ => pg_name (i := 2) sc_are_places.nd rfl (Or.inl rfl)) (fun _ _ _ _ _ => pts_nil) (fun _ _ _ _ _ => (pe_and (pe_callB (call_isiK' K) (by rfl) T.b_isinstance (by decide +kernel) (pa_cons (pv 2) (pa_cons (pe_bltn (v := .ty "str") (by rfl) T.b_str (by decide +kernel) rfl) pa_nil))) (pe_one (pe_cmpR (op_in_seqK K) (pv 2) (pv 0) (by rfl)))))) pa_nil)) (pe_one (pe_cal (ok_are_unlike T) (hr.mono (by decide)) (by rfl) (pa_cons (pv 1) pa_nil)))))), ?_⟩
  exact s_ret ((ed_and (a := true) (b := true) (ed_allP (ed_map (xs := xs) (enc := .str) (r := fun p => .bool (true && decide (p ∈ ps))) wd (src_tup (ed_var rfl h1)) (by omega) (fun _ => rfl) fun a ha M' H2 z e1 e2 wd2 hz2 =>
      ed_and (ed_isStr (ed_var rfl hz2)) fun _ => ed_inT (ed_var rfl hz2) (ed_var rfl (h0.up e2))) fun a ha => by rw [decide_eq_true (p1 a ha)]; rfl) fun _ => ed_call (Sum.inl xs) wd (ea_cons (ed_var rfl h1) ea_nil) ⟨p2, p3⟩).eq rfl) q

theorem sc_is_road : FnScope ["places", "thing"] ["places", "thing"] (defScope s_is_road) := ⟨rfl, rfl, rfl, by decide +kernel, rfl, by decide +kernel, by decide +kernel⟩
theorem ok_is_road (T : Tx K mg) : Cal P w K mg base 3 "is_road" ["places", "thing"] (spF K (ι := List Str × (Str × Str)) (fun x => [strsD x.1, roadD x.2]) (fun x => x.2.1 ∈ x.1 ∧ x.2.2 ∈ x.1 ∧ x.2.1 ≠ x.2.2) (fun _ => .bool true)) := by
  refine mkF T.d_is_road sc_is_road (fun _ => rfl) (fun _ _ _ _ _ _ us hl => match us, hl with | [_, _], _ => rfl) fun f cdv A outer s H vs Q E hr M x wd hv hp q => ?_
  obtain ⟨ps, a, b⟩ := x
  obtain ⟨v0, v1, rfl, h0, h1⟩ := two_of hv
  obtain ⟨p1, p2, p3⟩ := hp
  simp only at p1 p2 p3
  refine ⟨_, (pss_one (ps_ret (pe_and (pe_cal (ok_is_row_of T) (hr.mono (by decide)) (by rfl) (pa_cons (pv 1) (pa_cons pe_int (pa_cons pe_int pa_nil)))) (pe_one (pe_cal (ok_are_places T) (hr.mono (by decide)) (by rfl) (pa_cons (pv 0) (pa_cons (pv 1) pa_nil))))))), ?_⟩
  exact s_ret ((ed_and (a := true) (b := true) (ed_call (roadD (a, b), (2 : Int), (2 : Int)) wd (ea_cons (ed_var rfl h1) (ea_cons ed_int (ea_cons ed_int ea_nil))) trivial) fun _ =>
    ed_call (ps, [a, b]) wd (ea_cons (ed_var rfl h0) (ea_cons (ed_var rfl h1) ea_nil)) ⟨by simp [p1, p2], by simp [p3], (by show 2 < 32; decide)⟩).eq rfl) q

theorem ed_sortedTS {M : Mk} {σ : L2.St} {H : Hp} {ta : TE} {a b : Str} (wd : Wd M H) (h : EvD K M ta σ H (roadD (a, b))) : EvD K M (tCB (rSortedTS K) (tCons ta tNil)) σ H (.list ((srt2 a b).map .str)) := fun H1 e Q q =>
  h H1 e _ fun v H2 e2 hv => by
    obtain ⟨t, xs, rfl, hs, ha⟩ := dp_tup hv
    cases dps_strs (ns := [a, b]) ha
    refine ⟨t, [a, b], rfl, sqT_mono (hm_sub M H2) hs, (by show 2 < 64; decide), fun ys p hp hso hn => q _ _ (e2.trans (same_new hn)) ?_⟩
    rw [sorted_two hp hso]
    have hm : M p = false := (wd.mono (e.trans e2)).new hn
    exact .lst (.of (hm_of hm upd_same)) (dps_of_strs _)

theorem sc_is_web_form : FnScope ["thing", "places", "roads", "place", "road"] ["thing"] (defScope s_is_web_form) := ⟨rfl, rfl, rfl, by decide +kernel, rfl, by decide +kernel, by decide +kernel⟩
theorem ok_is_web_form (T : Tx K mg) : Cal P w K mg base 4 "is_web_form" ["thing"] (spF K (ι := Web) (fun x => [x.enc]) WebOk (fun _ => .bool true)) := by
  refine mkF T.d_is_web_form sc_is_web_form (fun _ => rfl) (fun _ _ _ _ _ _ us hl => match us, hl with | [_], _ => rfl) fun f cdv A outer s H vs Q E hr M x wd hv hp q => ?_
  obtain ⟨v0, rfl, h0⟩ := one_of hv
  refine ⟨_, (pss_cons (ps_if (PW.pt (pw_or (pt_not (pt_val (pe_cal (ok_is_row_of T) (hr.mono (by decide)) (by rfl) (pa_cons (pv 0) (pa_cons pe_int (pa_cons pe_int pa_nil)))))) (pw_or1 (pt_not (pt_val (pe_cal (ok_is_row_of T) (hr.mono (by decide)) (by rfl) (pa_cons (pe_ix (ix_seqK K) (pv 0) pe_int (fun _ _ => rfl)) (pa_cons pe_int (pa_cons (pe_gint T.i_MOST_PLACES (by rfl)) pa_nil))))))))) (pss_one (ps_ret pe_bl)) pss_nil)
      (pss_cons (ps_asg (pv 0) (pg_tupK (n := 2) K rfl (pgs_cons (pg_name (i := 1) sc_is_web_form.nd rfl (.inr rfl)) (pgs_cons (pg_name (i := 2) sc_is_web_form.nd rfl (.inl rfl)) pgs_nil))))
      (pss_cons (ps_if (PW.pt (pw_or (pt_not (pt_val (pe_callB (cr_allK K rfl) (by rfl) T.b_all (by decide +kernel) (pa_cons (pe_lc (own := [("place", 3)])  rfl sc_is_web_form.nd (pi_tupK K (pv 1)) (blkOk_by (N := ["thing", "places", "roads", "place", "road"]) (sc := defScope s_is_web_form) (own := [("place", 3)]) (by decide +kernel)) (fun _ _ _ _ _ => pg_name (i := 3) sc_is_web_form.nd rfl (Or.inl rfl)) (fun _ _ _ _ _ => pts_nil) (fun _ _ _ _ _ => (pe_cal (ok_is_name T) (hr.mono (by decide)) (by rfl) (pa_cons (pv 3) pa_nil)))) pa_nil)))) (pw_or1 (pt_not (pt_val (pe_cal (ok_are_unlike T) (hr.mono (by decide)) (by rfl) (pa_cons (pv 1) pa_nil))))))) (pss_one (ps_ret pe_bl)) pss_nil)
      (pss_cons (ps_if (PW.pt (pw_or (pt_not (pt_val (pe_cal (ok_is_row_of T) (hr.mono (by decide)) (by rfl) (pa_cons (pv 2) (pa_cons pe_int (pa_cons (pe_gint T.i_MOST_ROADS (by rfl)) pa_nil)))))) (pw_or1 (pt_not (pt_val (pe_callB (cr_allK K rfl) (by rfl) T.b_all (by decide +kernel) (pa_cons (pe_lc (own := [("road", 4)])  rfl sc_is_web_form.nd (pi_tupK K (pv 2)) (blkOk_by (N := ["thing", "places", "roads", "place", "road"]) (sc := defScope s_is_web_form) (own := [("road", 4)]) (by decide +kernel)) (fun _ _ _ _ _ => pg_name (i := 4) sc_is_web_form.nd rfl (Or.inl rfl)) (fun _ _ _ _ _ => pts_nil) (fun _ _ _ _ _ => (pe_cal (ok_is_road T) (hr.mono (by decide)) (by rfl) (pa_cons (pv 1) (pa_cons (pv 4) pa_nil))))) pa_nil))))))) (pss_one (ps_ret pe_bl)) pss_nil)
      (pss_one (ps_ret (pe_cal (ok_are_unlike T) (hr.mono (by decide)) (by rfl) (pa_cons (pe_lc (own := [("road", 4)])  rfl sc_is_web_form.nd (pi_tupK K (pv 2)) (blkOk_by (N := ["thing", "places", "roads", "place", "road"]) (sc := defScope s_is_web_form) (own := [("road", 4)]) (by decide +kernel)) (fun _ _ _ _ _ => pg_name (i := 4) sc_is_web_form.nd rfl (Or.inl rfl)) (fun _ _ _ _ _ => pts_nil) (fun _ _ _ _ _ => (pe_callTy (call_tuple_ofK K) (by rfl) T.b_tuple (by decide +kernel) (pa_cons (pe_callB (cr_sortedTS K rfl) (by rfl) T.b_sorted (by decide +kernel) (pa_cons (pv 4) pa_nil)) pa_nil)))) pa_nil)))))))), ?_⟩
  have l1 := hp.lo
  have l2 := hp.hi
  have l3 := hp.few
  -- the row of two, the row of places
  refine q_no (EvT.eq (et_or (et_not (et_B (ed_call (x.enc, (2 : Int), (2 : Int)) wd (ea_cons (ed_var rfl h0) (ea_cons ed_int (ea_cons ed_int ea_nil))) trivial))) fun _ => et_not (et_B (ed_call (strsD x.ps, (1 : Int), (8 : Int)) wd (ea_cons (ed_ixT' (j := 0) (ed_var rfl h0) ed_int rfl rfl) (ea_cons ed_int (ea_cons ed_int ea_nil))) trivial))) ?_) fun H1 e1 => ?_
  · show (!(decide ((2 : Int) ≤ 2) && decide ((2 : Int) ≤ 2)) || !(decide ((1 : Int) ≤ ((x.ps.map PyData.str).length : Int)) && decide (((x.ps.map PyData.str).length : Int) ≤ 8))) = false
    rw [List.length_map, decide_eq_true (by omega : (1 : Int) ≤ (x.ps.length : Int)), decide_eq_true (by omega : (x.ps.length : Int) ≤ 8)]
    rfl
  have h1 := h0.up (hm_mono e1)
  refine q_asg2 (ed_var rfl h1) fun vp vr H2 e2 hps hrs => ?_
  have wd2 := (wd.mono e1).mono e2
  -- names, no two alike
  refine q_no (EvT.eq (et_or (et_not (et_B (ed_allP (ed_map (xs := x.ps) (enc := .str) (r := fun _ => .bool true) wd2 (src_tup (ed_var rfl hps)) (by omega) (fun _ => rfl) fun a ha M' H3 z e3 e4 wd3 hz =>
      ed_call a wd3 (ea_cons (ed_var rfl hz) ea_nil) (hp.name a ha)) fun _ _ => rfl))) fun _ => et_not (et_B (ed_call (Sum.inl x.ps) wd2 (ea_cons (ed_var rfl hps) ea_nil) ⟨hp.nd, by omega⟩))) rfl) fun H3 e3 => ?_
  have hps3 := hps.up (hm_mono e3)
  have hrs3 := hrs.up (hm_mono e3)
  have wd3 := wd2.mono e3
  -- roads
  refine q_no (EvT.eq (et_or (a := false) (b := false) (EvT.eq (et_not (et_B (ed_call (PyData.tuple (x.rs.map roadD), (0 : Int), (14 : Int)) wd3 (ea_cons (ed_var rfl hrs3) (ea_cons ed_int (ea_cons ed_int ea_nil))) trivial))) ?_) fun _ => EvT.eq (et_not (et_B (ed_allP (ed_map (xs := x.rs) (enc := roadD) (r := fun _ => .bool true) wd3 (src_tup (ed_var rfl hrs3)) (by omega) (fun _ => rfl) fun a ha M' H4 z e4 e5 wd4 hz =>
      ed_call (x.ps, a) wd4 (ea_cons (ed_var rfl (hps3.up e5)) (ea_cons (ed_var rfl hz) ea_nil)) (hp.road a ha)) fun _ _ => rfl))) rfl) rfl) fun H4 e4 => ?_
  · show (!(decide ((0 : Int) ≤ ((x.rs.map roadD).length : Int)) && decide (((x.rs.map roadD).length : Int) ≤ 14))) = false
    rw [List.length_map, decide_eq_true (by omega : (0 : Int) ≤ (x.rs.length : Int)), decide_eq_true (by omega : (x.rs.length : Int) ≤ 14)]
    rfl
  have hrs4 := hrs3.up (hm_mono e4)
  have wd4 := wd3.mono e4
  refine s_ret (ed_call (Sum.inr (x.rs.map fun r => srt2 r.1 r.2)) wd4 (ea_cons (EvD.eq (ed_map (xs := x.rs) (enc := roadD) (r := fun r => .tuple ((srt2 r.1 r.2).map .str)) wd4 (src_tup (ed_var rfl hrs4)) (by omega) (fun _ => rfl) fun a ha M' H5 z e5 e6 wd5 hz =>
      ed_tupleOfL wd5 (ed_sortedTS wd5 (ed_var rfl hz))) ?_) ea_nil) ⟨hp.unlike, ?_⟩) fun v H5 e5 hv5 => q v H5 ((((e1.trans e2).trans e3).trans e4).trans e5) hv5
  · show PyData.list _ = .list _
    rw [List.map_map]; rfl
  · rw [List.length_map]; omega

theorem sc_is_order : FnScope ["web", "thing"] ["web", "thing"] (defScope s_is_order) := ⟨rfl, rfl, rfl, by decide +kernel, rfl, by decide +kernel, by decide +kernel⟩
theorem ok_is_order (T : Tx K mg) : Cal P w K mg base 3 "is_order" ["web", "thing"] (spF K (ι := Web × List Str) (fun x => [x.1.enc, strsD x.2]) (fun x => (∀ p ∈ x.2, p ∈ x.1.ps) ∧ x.2.Nodup ∧ x.2.length = x.1.ps.length ∧ x.2.length < 32) (fun _ => .bool true)) := by
  refine mkF T.d_is_order sc_is_order (fun _ => rfl) (fun _ _ _ _ _ _ us hl => match us, hl with | [_, _], _ => rfl) fun f cdv A outer s H vs Q E hr M x wd hv hp q => ?_
  obtain ⟨web, xs⟩ := x
  obtain ⟨v0, v1, rfl, h0, h1⟩ := two_of hv
  obtain ⟨p1, p2, p3, p4⟩ := hp
  simp only at p1 p2 p3 p4
  refine ⟨_, (pss_one (ps_ret (pe_and (pe_cal (ok_is_row_of T) (hr.mono (by decide)) (by rfl) (pa_cons (pv 1) (pa_cons (pe_callB (call_len_seqK K) (by rfl) T.b_len (by decide +kernel) (pa_cons (pe_ix (ix_seqK K) (pv 0) pe_int (fun _ _ => rfl)) pa_nil)) (pa_cons (pe_callB (call_len_seqK K) (by rfl) T.b_len (by decide +kernel) (pa_cons (pe_ix (ix_seqK K) (pv 0) pe_int (fun _ _ => rfl)) pa_nil)) pa_nil)))) (pe_one (pe_cal (ok_are_places T) (hr.mono (by decide)) (by rfl) (pa_cons (pe_ix (ix_seqK K) (pv 0) pe_int (fun _ _ => rfl)) (pa_cons (pv 1) pa_nil))))))), ?_⟩
  have ln := fun {σ : L2.St} (hσ : σ[0]? = some (some v0)) => ed_lenT (K := K) (M := M) (H := H) (ed_ixT' (j := 0) (ed_var (σ := σ) hσ h0) ed_int rfl rfl)
  refine s_ret ((ed_and (a := true) (b := true) (EvD.eq (ed_call (strsD xs, ((web.ps.map PyData.str).length : Int), ((web.ps.map PyData.str).length : Int)) wd (ea_cons (ed_var rfl h1) (ea_cons (ln rfl) (ea_cons (ln rfl) ea_nil))) trivial) ?_) fun _ =>
    ed_call (web.ps, xs) wd (ea_cons (ed_ixT' (j := 0) (ed_var rfl h0) ed_int rfl rfl) (ea_cons (ed_var rfl h1) ea_nil)) ⟨p1, p2, p4⟩).eq rfl) q
  show PyData.bool (decide (((web.ps.map PyData.str).length : Int) ≤ ((xs.map PyData.str).length : Int)) && decide (((xs.map PyData.str).length : Int) ≤ ((web.ps.map PyData.str).length : Int))) = _
  rw [List.length_map, List.length_map, p3, decide_eq_true (Int.le_refl _)]
  rfl

theorem sc_need_order : FnScope ["web", "order"] ["web", "order"] (defScope s_need_order) := ⟨rfl, rfl, rfl, by decide +kernel, rfl, by decide +kernel, by decide +kernel⟩
theorem ok_need_order (T : Tx K mg) : Cal P w K mg base 4 "need_order" ["web", "order"] (spF K (ι := Web × List Str) (fun x => [x.1.enc, strsD x.2]) (fun x => (∀ p ∈ x.2, p ∈ x.1.ps) ∧ x.2.Nodup ∧ x.2.length = x.1.ps.length ∧ x.2.length < 32) (fun _ => .none)) := by
  refine mkF T.d_need_order sc_need_order (fun _ => rfl) (fun _ _ _ _ _ _ us hl => match us, hl with | [_, _], _ => rfl) fun f cdv A outer s H vs Q E hr M x wd hv hp q => ?_
  obtain ⟨v0, v1, rfl, h0, h1⟩ := two_of hv
  refine ⟨_, (pss_one (ps_if (pt_not (pt_val (pe_cal (ok_is_order T) (hr.mono (by decide)) (by rfl) (pa_cons (pv 0) (pa_cons (pv 1) pa_nil))))) (pss_one ps_never) pss_nil)), ?_⟩
  exact s_if (EvT.eq (et_not (et_B (ed_call x wd (ea_cons (ed_var rfl h0) (ea_cons (ed_var rfl h1) ea_nil)) hp))) rfl) (fun z => Bool.noConfusion z) fun _ H1 e1 => q _ H1 e1 .non

theorem NameOk.str {x : Str} (h : NameOk x) : PyData.strOk x = true := by
  unfold PyData.strOk
  rw [← Array.all_toList, List.all_eq_true]
  intro c hc
  refine decide_eq_true ?_
  have k1 : ∀ c ∈ lets.cps.toList, c < 1114112 := by decide +kernel
  have k2 : ∀ c ∈ digs.cps.toList, c < 1114112 := by decide +kernel
  rcases h.all c hc with z | z
  · exact k1 c z
  · exact k2 c z
theorem lay_road {r : Str × Str} (h1 : PyData.strOk r.1 = true) (h2 : PyData.strOk r.2 = true) : (roadD r).canLay0 = true := by
  show PyData.canLay0 (.tuple [.str r.1, .str r.2]) = true
  simp [PyData.canLay0, PyData.canLayAll0, h1, h2]
theorem depth_road (r : Str × Str) : (roadD r).depth ≤ 2 := by
  show (PyData.tuple [.str r.1, .str r.2]).depth ≤ 2
  simp [PyData.depth, PyData.depthAll]
theorem shaped_road {r : Str × Str} (h1 : PyData.strOk r.1 = true) (h2 : PyData.strOk r.2 = true) : SeqAt.shaped (roadD r) = true := by
  unfold SeqAt.shaped
  rw [lay_road h1 h2, Bool.true_and]
  exact decide_eq_true (Nat.le_trans (depth_road r) (by decide))
theorem canLayAll_roads : ∀ rs : List (Str × Str), (∀ r ∈ rs, PyData.strOk r.1 = true ∧ PyData.strOk r.2 = true) → PyData.canLayAll0 (rs.map roadD) = true
  | [], _ => by simp [PyData.canLayAll0]
  | r :: rs, h => by
    rw [List.map_cons]
    obtain ⟨h1, h2⟩ := h r List.mem_cons_self
    simp only [PyData.canLayAll0, canLayAll_roads rs (fun r hr => h r (List.mem_cons_of_mem _ hr)), Bool.and_true, lay_road h1 h2]
theorem depthAll_roads : ∀ rs : List (Str × Str), PyData.depthAll (rs.map roadD) ≤ 2
  | [] => by simp [PyData.depthAll]
  | r :: rs => by
    rw [List.map_cons]
    have ih := depthAll_roads rs
    have e := depth_road r
    simp only [PyData.depthAll]
    omega
theorem shaped_roads (rs : List (Str × Str)) (h : ∀ r ∈ rs, PyData.strOk r.1 = true ∧ PyData.strOk r.2 = true) : SeqAt.shaped (.tuple (rs.map roadD)) = true := by
  unfold SeqAt.shaped
  rw [Bool.and_eq_true]
  refine ⟨?_, ?_⟩
  · show PyData.canLay0 (.tuple (rs.map roadD)) = true
    simp only [PyData.canLay0]
    exact canLayAll_roads rs h
  · refine decide_eq_true ?_
    have := depthAll_roads rs
    simp only [PyData.depth]
    omega
theorem WebOk.strs {w : Web} (h : WebOk w) : ∀ r ∈ w.rs, PyData.strOk r.1 = true ∧ PyData.strOk r.2 = true := fun r hr => ⟨(h.name _ (h.road r hr).1).str, (h.name _ (h.road r hr).2.1).str⟩
theorem any_road (rs : List (Str × Str)) (r : Str × Str) : ((rs.map roadD).any fun z => PyData.eqv z (roadD r)) = decide (r ∈ rs) := by
  induction rs with
  | nil => rfl
  | cons a rs ih =>
    rw [List.map_cons, List.any_cons, ih]
    have e : PyData.eqv (roadD a) (roadD r) = decide (a = r) := by
      have := eqv_tupS [a.1, a.2] [r.1, r.2]
      show PyData.eqv (.tuple ([a.1, a.2].map .str)) (.tuple ([r.1, r.2].map .str)) = _
      rw [this]
      have : ([a.1, a.2] = [r.1, r.2]) ↔ a = r := by
        rw [List.cons.injEq, List.cons.injEq, Prod.ext_iff]; simp
      exact decide_eq_decide.mpr this
    rw [e]
    by_cases h : a = r
    · subst h; simp
    · rw [decide_eq_false h, Bool.false_or]
      refine decide_eq_decide.mpr ?_
      rw [List.mem_cons]
      exact ⟨.inr, fun z => z.resolve_left fun z => h z.symm⟩

theorem sc_have_road : FnScope ["web", "place", "other"] ["web", "place", "other"] (defScope s_have_road) := ⟨rfl, rfl, rfl, by decide +kernel, rfl, by decide +kernel, by decide +kernel⟩
theorem ok_have_road (T : Tx K mg) : Cal P w K mg base 1 "have_road" ["web", "place", "other"] (spF K (ι := Web × Str × Str) (fun x => [x.1.enc, .str x.2.1, .str x.2.2]) (fun x => WebOk x.1 ∧ x.2.1 ∈ x.1.ps ∧ x.2.2 ∈ x.1.ps) (fun x => .bool (adj x.1.rs x.2.1 x.2.2))) := by
  refine mkF T.d_have_road sc_have_road (fun _ => rfl) (fun _ _ _ _ _ _ us hl => match us, hl with | [_, _, _], _ => rfl) fun f cdv A outer s H vs Q E hr M x wd hv hp q => ?_
  obtain ⟨web, a, b⟩ := x
  obtain ⟨v0, v1, v2, rfl, h0, h1, h2⟩ := three_of hv
  obtain ⟨p1, p2, p3⟩ := hp
  have sa := (p1.name a p2).str
  have sb := (p1.name b p3).str
  refine ⟨_, (pss_one (ps_ret (pe_or (pe_cmpR (op_inDT K (room65 hr)) (pe_tup (pa_cons (pv 1) (pa_cons (pv 2) pa_nil))) (pe_ix (ix_seqK K) (pv 0) pe_int (fun _ _ => rfl)) (by rfl)) (pe_one (pe_cmpR (op_inDT K (room65 hr)) (pe_tup (pa_cons (pv 2) (pa_cons (pv 1) pa_nil))) (pe_ix (ix_seqK K) (pv 0) pe_int (fun _ _ => rfl)) (by rfl)))))), ?_⟩
  exact s_ret (ed_or (ed_inDT (ed_tup wd (ea_cons (ed_var rfl h1) (ea_cons (ed_var rfl h2) ea_nil))) (ed_ixT' (j := 1) (ed_var rfl h0) ed_int rfl rfl) (shaped_road (r := (a, b)) sa sb) (shaped_roads _ p1.strs) (any_road web.rs (a, b))) fun _ =>
    ed_inDT (ed_tup wd (ea_cons (ed_var rfl h2) (ea_cons (ed_var rfl h1) ea_nil))) (ed_ixT' (j := 1) (ed_var rfl h0) ed_int rfl rfl) (shaped_road (r := (b, a)) sb sa) (shaped_roads _ p1.strs) (any_road web.rs (b, a))) q

theorem sc_neighbours_of : FnScope ["web", "place", "other"] ["web", "place"] (defScope s_neighbours_of) := ⟨rfl, rfl, rfl, by decide +kernel, rfl, by decide +kernel, by decide +kernel⟩
theorem ok_neighbours_of (T : Tx K mg) : Cal P w K mg base 2 "neighbours_of" ["web", "place"] (spF K (ι := Web × Str) (fun x => [x.1.enc, .str x.2]) (fun x => WebOk x.1 ∧ x.2 ∈ x.1.ps) (fun x => strsD (nbs x.1 x.2))) := by
  refine mkF T.d_neighbours_of sc_neighbours_of (fun _ => rfl) (fun _ _ _ _ _ _ us hl => match us, hl with | [_, _], _ => rfl) fun f cdv A outer s H vs Q E hr M x wd hv hp q => ?_
  obtain ⟨web, a⟩ := x
  obtain ⟨v0, v1, rfl, h0, h1⟩ := two_of hv
  refine ⟨_, (pss_one (ps_ret (pe_callTy (call_tuple_ofK K) (by rfl) T.b_tuple (by decide +kernel) (pa_cons (pe_lc (own := [("other", 2)])  rfl sc_neighbours_of.nd (pi_tupK K (pe_ix (ix_seqK K) (pv 0) pe_int (fun _ _ => rfl))) (blkOk_by (N := ["web", "place", "other"]) (sc := defScope s_neighbours_of) (own := [("other", 2)]) (by decide +kernel)) (fun _ _ _ _ _ => pg_name (i := 2) sc_neighbours_of.nd rfl (Or.inl rfl)) (fun _ _ _ _ _ => pts_one (pt_val (pe_cal (ok_have_road T) (hr.mono (by decide)) (by rfl) (pa_cons (pv 0) (pa_cons (pv 1) (pa_cons (pv 2) pa_nil)))))) (fun _ _ _ _ _ => (pv 2))) pa_nil)))), ?_⟩
  exact s_ret (ed_tupleOfL wd (ed_filter (xs := web.ps) (enc := .str) (r := .str) wd (src_tup (ed_ixT' (j := 0) (ed_var rfl h0) ed_int rfl rfl)) (Nat.le_trans hp.1.hi (by decide)) (fun _ => rfl) fun b hb M' H3 z e3 e4 wd3 hz =>
    ⟨et_B (ed_call (web, a, b) wd3 (ea_cons (ed_var rfl (h0.up e4)) (ea_cons (ed_var rfl (h1.up e4)) (ea_cons (ed_var rfl hz) ea_nil))) ⟨hp.1, hp.2, hb⟩), ed_var rfl hz⟩)) q
end
end EIT
end
/-! text W3 -/
section
set_option maxHeartbeats 4000000
/-! halls. -/
namespace EIT
open PySem PySem.Spec PyProof.Rows L2
inductive Rule where
  | table (t : List Int) | sum (rows : List (List Int)) | keep | least | greatest | odd | most (n : Int) | copy (p : Str)
def intsD (xs : List Int) : PyData := .tuple (xs.map .int)
def Rule.enc : Rule → PyData
  | .table t => .tuple [.str "table", intsD t]
  | .sum rows => .tuple [.str "sum", .tuple (rows.map intsD)]
  | .keep => .tuple [.str "keep"]
  | .least => .tuple [.str "least"]
  | .greatest => .tuple [.str "greatest"]
  | .odd => .tuple [.str "odd"]
  | .most n => .tuple [.str "most", .int n]
  | .copy p => .tuple [.str "copy", .str p]
def RuleOk (k : Nat) (near : List Str) : Rule → Prop
  | .table t => t.length = k ^ (near.length + 1) ∧ ∀ x ∈ t, 0 ≤ x ∧ x < k
  | .sum rows => rows.length = k ∧ ∀ r ∈ rows, r.length = near.length * (k - 1) + 1 ∧ ∀ x ∈ r, 0 ≤ x ∧ x < k
  | .most n => 0 ≤ n ∧ n ≤ 9
  | .copy p => p ∈ near
  | _ => True
structure Hall where
  k : Nat
  web : Web
  rules : List Rule
def Hall.enc (h : Hall) : PyData := .tuple [.int h.k, h.web.enc, .tuple (h.rules.map Rule.enc)]
structure HallOk (h : Hall) : Prop where
  k : h.k = 2 ∨ h.k = 3
  web : WebOk h.web
  few : h.k ^ h.web.ps.length ≤ 256
  many : h.rules.length = h.web.ps.length
  rule : ∀ (i : Nat) p r, h.web.ps[i]? = some p → h.rules[i]? = some r → RuleOk h.k (nbs h.web p) r
theorem nbs_len {w : Web} (h : WebOk w) (p : Str) : (nbs w p).length ≤ 8 := Nat.le_trans (List.length_filter_le _ _) h.hi
theorem pow_small {k m : Nat} (hk : k ≤ 3) (hm : m ≤ 9) : k ^ m ≤ 19683 := Nat.le_trans (Nat.pow_le_pow_left hk m) (Nat.le_trans (Nat.pow_le_pow_right (by decide) hm) (by decide))
theorem rowOf_self (ds : List PyData) : rowOf ds.length ds.length (.tuple ds) = true := by
  show (decide ((ds.length : Int) ≤ (ds.length : Int)) && decide ((ds.length : Int) ≤ (ds.length : Int))) = true
  rw [decide_eq_true (Int.le_refl _)]
  rfl
section
variable {P : Program} {w : World} {K : PySem.W.Frag} {mg : Str → Option Value} {base : Heap}

theorem sc_is_table : FnScope ["k", "many", "thing"] ["k", "many", "thing"] (defScope s_is_table) := ⟨rfl, rfl, rfl, by decide +kernel, rfl, by decide +kernel, by decide +kernel⟩
theorem ok_is_table (T : Tx K mg) : Cal P w K mg base 4 "is_table" ["k", "many", "thing"] (spF K (ι := Nat × Nat × List Int) (fun x => [.int x.1, .int x.2.1, intsD x.2.2]) (fun x => x.1 ≤ 3 ∧ x.2.1 ≤ 8 ∧ x.2.2.length = x.1 ^ (x.2.1 + 1) ∧ ∀ n ∈ x.2.2, 0 ≤ n ∧ n < x.1) (fun _ => .bool true)) := by
  refine mkF T.d_is_table sc_is_table (fun _ => rfl) (fun _ _ _ _ _ _ us hl => match us, hl with | [_, _, _], _ => rfl) fun f cdv A outer s H vs Q E hr M x wd hv hp q => ?_
  obtain ⟨k, m, t⟩ := x
  obtain ⟨v0, v1, v2, rfl, h0, h1, h2⟩ := three_of hv
  obtain ⟨p1, p2, p3, p4⟩ := hp
  simp only at p1 p2 p3 p4
  refine ⟨_, (pss_one (ps_ret (pe_cal (ok_are_numbers T) (hr.mono (by decide)) (by rfl) (pa_cons (pv 2) (pa_cons (pe_cal (ok_power T) (hr.mono (by decide)) (by rfl) (pa_cons (pv 0) (pa_cons (pe_op op_add (pv 1) pe_int) pa_nil))) (pa_cons (pv 0) pa_nil)))))), ?_⟩
  refine s_ret (ed_call (t, (k : Int)) wd (ea_cons (ed_var rfl h2) (ea_cons (EvD.eq (ed_call ((k : Int), m + 1) wd (ea_cons (ed_var rfl h0) (ea_cons (ed_I0 (ed_var rfl h1) ed_int) ea_nil)) ⟨by show (k : Int).natAbs < 2 ^ 64; omega, by show m + 1 ≤ 1000; omega⟩) ?_) (ea_cons (ed_var rfl h0) ea_nil))) ⟨?_, p4⟩) q
  · show PyData.int ((k : Int) ^ (m + 1)) = .int (t.length : Int)
    rw [p3, Int.natCast_pow]
  · rw [p3]
    exact Nat.le_trans (pow_small p1 (by omega)) (by decide)

theorem sc_is_sum_table : FnScope ["k", "many", "thing", "row"] ["k", "many", "thing"] (defScope s_is_sum_table) := ⟨rfl, rfl, rfl, by decide +kernel, rfl, by decide +kernel, by decide +kernel⟩
theorem ok_is_sum_table (T : Tx K mg) : Cal P w K mg base 4 "is_sum_table" ["k", "many", "thing"] (spF K (ι := Nat × Nat × List (List Int)) (fun x => [.int x.1, .int x.2.1, .tuple (x.2.2.map intsD)]) (fun x => 1 ≤ x.1 ∧ x.1 ≤ 3 ∧ x.2.1 ≤ 8 ∧ x.2.2.length = x.1 ∧ ∀ r ∈ x.2.2, r.length = x.2.1 * (x.1 - 1) + 1 ∧ ∀ n ∈ r, 0 ≤ n ∧ n < x.1) (fun _ => .bool true)) := by
  refine mkF T.d_is_sum_table sc_is_sum_table (fun _ => rfl) (fun _ _ _ _ _ _ us hl => match us, hl with | [_, _, _], _ => rfl) fun f cdv A outer s H vs Q E hr M x wd hv hp q => ?_
  obtain ⟨k, m, t⟩ := x
  obtain ⟨v0, v1, v2, rfl, h0, h1, h2⟩ := three_of hv
  obtain ⟨p0, p1, p2, p3, p4⟩ := hp
  simp only at p0 p1 p2 p3 p4
  refine ⟨_, (pss_one (ps_ret (pe_and (pe_cal (ok_is_row_of T) (hr.mono (by decide)) (by rfl) (pa_cons (pv 2) (pa_cons (pv 0) (pa_cons (pv 0) pa_nil)))) (pe_one (pe_callB (cr_allK K rfl) (by rfl) T.b_all (by decide +kernel) (pa_cons (pe_lc (own := [("row", 3)])  rfl sc_is_sum_table.nd (pi_tupK K (pv 2)) (blkOk_by (N := ["k", "many", "thing", "row"]) (sc := defScope s_is_sum_table) (own := [("row", 3)]) (by decide +kernel)) (fun _ _ _ _ _ => pg_name (i := 3) sc_is_sum_table.nd rfl (Or.inl rfl)) (fun _ _ _ _ _ => pts_nil) (fun _ _ _ _ _ => (pe_cal (ok_are_numbers T) (hr.mono (by decide)) (by rfl) (pa_cons (pv 3) (pa_cons (pe_op op_add (pe_op op_mul (pv 1) (pe_op op_sub (pv 0) pe_int)) pe_int) (pa_cons (pv 0) pa_nil)))))) pa_nil)))))), ?_⟩
  refine s_ret ((ed_and (a := true) (b := true) (EvD.eq (ed_call (PyData.tuple (t.map intsD), (k : Int), (k : Int)) wd (ea_cons (ed_var rfl h2) (ea_cons (ed_var rfl h0) (ea_cons (ed_var rfl h0) ea_nil))) trivial) ?_) fun _ =>
    ed_allP (ed_map (xs := t) (enc := intsD) (r := fun _ => .bool true) wd (src_tup (ed_var rfl h2)) (by omega) (fun _ => rfl) fun a ha M' H2 z e1 e2 wd2 hz2 =>
      ed_call (a, (k : Int)) wd2 (ea_cons (ed_var rfl hz2) (ea_cons (EvD.eq (ed_I0 (ed_IC (ed_var rfl (h1.up e2)) (ed_I0 (ed_var rfl (h0.up e2)) ed_int) (.inl ⟨?_, ?_⟩)) ed_int) ?_) (ea_cons (ed_var rfl (h0.up e2)) ea_nil))) ⟨?_, (p4 a ha).2⟩) fun _ _ => rfl).eq rfl) q
  · have e := rowOf_self (t.map intsD)
    rw [List.length_map, p3] at e
    rw [e]
  · have e := (p4 a ha).1
    show PyData.int ((m : Int) * ((k : Int) - 1) + 1) = .int (a.length : Int)
    rw [e, Int.natCast_add, Int.natCast_mul, Int.natCast_sub p0]
    rfl
  · have e := (p4 a ha).1
    show a.length ≤ 50000
    rw [e]
    have : m * (k - 1) ≤ 8 * 2 := Nat.mul_le_mul p2 (by omega)
    omega
  · show -(2 ^ 64) < (m : Int)
    omega
  · show (m : Int) < 2 ^ 64
    omega

theorem ed_plain {M : Mk} {σ : L2.St} {H : Hp} {a : Addr} (h : ∀ H : Hp, SqT K H a [.str "keep", .str "least", .str "greatest", .str "odd"]) : EvD K M (tC (.ref a)) σ H (strsD ["keep", "least", "greatest", "odd"]) :=
  ed_c (.tup (h _) (dps_of_strs ["keep", "least", "greatest", "odd"]))
theorem sc_is_rule_for : FnScope ["k", "others", "thing", "word", "told"] ["k", "others", "thing"] (defScope s_is_rule_for) := ⟨rfl, rfl, rfl, by decide +kernel, rfl, by decide +kernel, by decide +kernel⟩
theorem ok_is_rule_for (T : Tx K mg) : Cal P w K mg base 5 "is_rule_for" ["k", "others", "thing"] (spF K (ι := Nat × List Str × Rule) (fun x => [.int x.1, strsD x.2.1, x.2.2.enc]) (fun x => (x.1 = 2 ∨ x.1 = 3) ∧ x.2.1.length ≤ 8 ∧ RuleOk x.1 x.2.1 x.2.2) (fun _ => .bool true)) := by
  refine mkF T.d_is_rule_for sc_is_rule_for (fun _ => rfl) (fun _ _ _ _ _ _ us hl => match us, hl with | [_, _, _], _ => rfl) fun f cdv A outer s H vs Q E hr M x wd hv hp q => ?_
  obtain ⟨k, near, r⟩ := x
  obtain ⟨v0, v1, v2, rfl, h0, h1, h2⟩ := three_of hv
  obtain ⟨p1, p2, p3⟩ := hp
  simp only at p1 p2 p3
  obtain ⟨aPLAIN, gPLAIN, sPLAIN⟩ := T.plain
  refine ⟨_, (pss_cons (ps_if (PW.pt (pw_or (pt_not (pt_val (pe_cal (ok_is_row_of T) (hr.mono (by decide)) (by rfl) (pa_cons (pv 2) (pa_cons pe_int (pa_cons pe_int pa_nil)))))) (pw_or1 (pt_not (pt_val (pe_callB (call_isiK' K) (by rfl) T.b_isinstance (by decide +kernel) (pa_cons (pe_ix (ix_seqK K) (pv 2) pe_int (fun _ _ => rfl)) (pa_cons (pe_bltn (v := .ty "str") (by rfl) T.b_str (by decide +kernel) rfl) pa_nil)))))))) (pss_one (ps_ret pe_bl)) pss_nil)
      (pss_cons (ps_if (pt_cmpR op_eq (pe_callB (call_len_seqK K) (by rfl) T.b_len (by decide +kernel) (pa_cons (pv 2) pa_nil)) pe_int (nomark _)) (pss_one (ps_ret (pe_cmpR (op_in_seqK K) (pe_ix (ix_seqK K) (pv 2) pe_int (fun _ _ => rfl)) (pe_glob (v := .ref aPLAIN) (by rfl) gPLAIN rfl) (by rfl)))) pss_nil)
      (pss_cons (ps_asg (pv 2) (pg_tupK (n := 2) K rfl (pgs_cons (pg_name (i := 3) sc_is_rule_for.nd rfl (.inl rfl)) (pgs_cons (pg_name (i := 4) sc_is_rule_for.nd rfl (.inl rfl)) pgs_nil))))
      (pss_cons (ps_if (pt_cmpR op_eq (pv 3) pe_str (nomark _)) (pss_one (ps_ret (pe_cal (ok_is_table T) (hr.mono (by decide)) (by rfl) (pa_cons (pv 0) (pa_cons (pe_callB (call_len_seqK K) (by rfl) T.b_len (by decide +kernel) (pa_cons (pv 1) pa_nil)) (pa_cons (pv 4) pa_nil)))))) pss_nil)
      (pss_cons (ps_if (pt_cmpR op_eq (pv 3) pe_str (nomark _)) (pss_one (ps_ret (pe_cal (ok_is_sum_table T) (hr.mono (by decide)) (by rfl) (pa_cons (pv 0) (pa_cons (pe_callB (call_len_seqK K) (by rfl) T.b_len (by decide +kernel) (pa_cons (pv 1) pa_nil)) (pa_cons (pv 4) pa_nil)))))) pss_nil)
      (pss_cons (ps_if (pt_cmpR op_eq (pv 3) pe_str (nomark _)) (pss_one (ps_ret (pe_cal (ok_is_within T) (hr.mono (by decide)) (by rfl) (pa_cons (pv 4) (pa_cons pe_int (pa_cons (pe_gint T.i_MOST_NEEDED (by rfl)) pa_nil)))))) pss_nil)
      (pss_one (ps_ret (pe_and (pe_cmpR op_eq (pv 3) pe_str (nomark _)) (pe_and (pe_callB (call_isiK' K) (by rfl) T.b_isinstance (by decide +kernel) (pa_cons (pv 4) (pa_cons (pe_bltn (v := .ty "str") (by rfl) T.b_str (by decide +kernel) rfl) pa_nil))) (pe_one (pe_cmpR (op_in_seqK K) (pv 4) (pv 1) (by rfl))))))))))))), ?_⟩
  have hk : 1 ≤ k ∧ k ≤ 3 := by omega
  have pre : ∀ (wd' : Str) (ds : List PyData), r.enc = .tuple (.str wd' :: ds) → Nat.ble ds.length 1 = true → EvT (tOr (tNot (tB (tCall (spF K (ι := PyData × Int × Int) (fun x => [x.1, .int x.2.1, .int x.2.2]) (fun _ => True) (fun x => .bool (rowOf x.2.1 x.2.2 x.1))) [] E0 (tCons (tVar 2) (tCons (tC (.int 1)) (tCons (tC (.int 2)) tNil)))))) (tNot (tB (tCB (rIsi K) (tCons (tOp (rIx K) (tVar 2) (tC (.int 0))) (tCons (tC (.ty "str")) tNil)))))) (L2.start ["k", "others", "thing", "word", "told"] [v0, v1, v2]) H false := fun wd' ds e hl => by
    have hl := Nat.le_of_ble_eq_true hl
    have h2' : Dp K (Hm M H) v2 (.tuple (.str wd' :: ds)) := by rw [← e]; exact h2
    refine EvT.eq (et_or (et_not (et_B (ed_call (PyData.tuple (.str wd' :: ds), (1 : Int), (2 : Int)) wd (ea_cons (ed_var rfl h2') (ea_cons ed_int (ea_cons ed_int ea_nil))) trivial))) fun _ => et_not (et_B (ed_isStr (ed_ixT' (j := 0) (ed_var rfl h2') ed_int rfl rfl)))) ?_
    show (!(decide ((1 : Int) ≤ ((PyData.str wd' :: ds).length : Int)) && decide (((PyData.str wd' :: ds).length : Int) ≤ 2)) || false) = false
    rw [List.length_cons, decide_eq_true (by omega), decide_eq_true (by omega)]
    rfl
  cases r with
  | keep =>
    refine q_no (pre "keep" [] rfl rfl) fun H1 e1 => ?_
    have h2' : Dp K (Hm M H1) v2 (.tuple [.str "keep"]) := h2.up (hm_mono e1)
    exact q_yes (EvT.eq (et_test (ed_eqI (ed_lenT (ed_var rfl h2')) ed_int)) rfl) fun H2 e2 => s_ret (EvD.eq (ed_inT (x := "keep") (ed_ixT' (j := 0) (ed_var rfl (h2'.up (hm_mono e2))) ed_int rfl rfl) (ed_plain sPLAIN)) rfl) fun v H3 e3 hv => q v H3 ((e1.trans e2).trans e3) hv
  | least =>
    refine q_no (pre "least" [] rfl rfl) fun H1 e1 => ?_
    have h2' : Dp K (Hm M H1) v2 (.tuple [.str "least"]) := h2.up (hm_mono e1)
    exact q_yes (EvT.eq (et_test (ed_eqI (ed_lenT (ed_var rfl h2')) ed_int)) rfl) fun H2 e2 => s_ret (EvD.eq (ed_inT (x := "least") (ed_ixT' (j := 0) (ed_var rfl (h2'.up (hm_mono e2))) ed_int rfl rfl) (ed_plain sPLAIN)) rfl) fun v H3 e3 hv => q v H3 ((e1.trans e2).trans e3) hv
  | greatest =>
    refine q_no (pre "greatest" [] rfl rfl) fun H1 e1 => ?_
    have h2' : Dp K (Hm M H1) v2 (.tuple [.str "greatest"]) := h2.up (hm_mono e1)
    exact q_yes (EvT.eq (et_test (ed_eqI (ed_lenT (ed_var rfl h2')) ed_int)) rfl) fun H2 e2 => s_ret (EvD.eq (ed_inT (x := "greatest") (ed_ixT' (j := 0) (ed_var rfl (h2'.up (hm_mono e2))) ed_int rfl rfl) (ed_plain sPLAIN)) rfl) fun v H3 e3 hv => q v H3 ((e1.trans e2).trans e3) hv
  | odd =>
    refine q_no (pre "odd" [] rfl rfl) fun H1 e1 => ?_
    have h2' : Dp K (Hm M H1) v2 (.tuple [.str "odd"]) := h2.up (hm_mono e1)
    exact q_yes (EvT.eq (et_test (ed_eqI (ed_lenT (ed_var rfl h2')) ed_int)) rfl) fun H2 e2 => s_ret (EvD.eq (ed_inT (x := "odd") (ed_ixT' (j := 0) (ed_var rfl (h2'.up (hm_mono e2))) ed_int rfl rfl) (ed_plain sPLAIN)) rfl) fun v H3 e3 hv => q v H3 ((e1.trans e2).trans e3) hv
  | table t =>
    refine q_no (pre "table" [intsD t] rfl rfl) fun H1 e1 => ?_
    have h2' : Dp K (Hm M H1) v2 (.tuple [.str "table", intsD t]) := h2.up (hm_mono e1)
    refine q_no (EvT.eq (et_test (ed_eqI (ed_lenT (ed_var rfl h2')) ed_int)) rfl) fun H2 e2 => ?_
    refine q_asg2 (ed_var rfl (h2'.up (hm_mono e2))) fun x y H3 e3 hx hy => ?_
    have e03 := (e1.trans e2).trans e3
    refine q_yes (EvT.eq (et_test (ed_eqS (ed_var rfl hx) ed_str)) rfl) fun H4 e4 => ?_
    have e04 := e03.trans e4
    exact s_ret (ed_call (k, near.length, t) (wd.mono e04) (ea_cons (ed_var rfl (h0.up (hm_mono e04))) (ea_cons (EvD.eq (ed_lenT (ed_var rfl (h1.up (hm_mono e04)))) (by rw [List.length_map])) (ea_cons (ed_var rfl (hy.up (hm_mono e4))) ea_nil))) ⟨hk.2, p2, p3.1, p3.2⟩) fun v H5 e5 hv => q v H5 (e04.trans e5) hv
  | sum t =>
    refine q_no (pre "sum" [.tuple (t.map intsD)] rfl rfl) fun H1 e1 => ?_
    have h2' : Dp K (Hm M H1) v2 (.tuple [.str "sum", .tuple (t.map intsD)]) := h2.up (hm_mono e1)
    refine q_no (EvT.eq (et_test (ed_eqI (ed_lenT (ed_var rfl h2')) ed_int)) rfl) fun H2 e2 => ?_
    refine q_asg2 (ed_var rfl (h2'.up (hm_mono e2))) fun x y H3 e3 hx hy => ?_
    have e03 := (e1.trans e2).trans e3
    refine q_no (EvT.eq (et_test (ed_eqS (ed_var rfl hx) ed_str)) (by decide +kernel)) fun H4 e4 => ?_
    refine q_yes (EvT.eq (et_test (ed_eqS (ed_var rfl (hx.up (hm_mono e4))) ed_str)) rfl) fun H5 e5 => ?_
    have e05 := (e03.trans e4).trans e5
    exact s_ret (ed_call (k, near.length, t) (wd.mono e05) (ea_cons (ed_var rfl (h0.up (hm_mono e05))) (ea_cons (EvD.eq (ed_lenT (ed_var rfl (h1.up (hm_mono e05)))) (by rw [List.length_map])) (ea_cons (ed_var rfl (hy.up (hm_mono (e4.trans e5)))) ea_nil))) ⟨hk.1, hk.2, p2, p3.1, p3.2⟩) fun v H6 e6 hv => q v H6 (e05.trans e6) hv
  | most n =>
    refine q_no (pre "most" [.int n] rfl rfl) fun H1 e1 => ?_
    have h2' : Dp K (Hm M H1) v2 (.tuple [.str "most", .int n]) := h2.up (hm_mono e1)
    refine q_no (EvT.eq (et_test (ed_eqI (ed_lenT (ed_var rfl h2')) ed_int)) rfl) fun H2 e2 => ?_
    refine q_asg2 (ed_var rfl (h2'.up (hm_mono e2))) fun x y H3 e3 hx hy => ?_
    have e03 := (e1.trans e2).trans e3
    refine q_no (EvT.eq (et_test (ed_eqS (ed_var rfl hx) ed_str)) (by decide +kernel)) fun H4 e4 => ?_
    refine q_no (EvT.eq (et_test (ed_eqS (ed_var rfl (hx.up (hm_mono e4))) ed_str)) (by decide +kernel)) fun H5 e5 => ?_
    have e45 := e4.trans e5
    refine q_yes (EvT.eq (et_test (ed_eqS (ed_var rfl (hx.up (hm_mono e45))) ed_str)) rfl) fun H6 e6 => ?_
    have e06 := (e03.trans e45).trans e6
    refine s_ret (EvD.eq (ed_call (PyData.int n, (0 : Int), (9 : Int)) (wd.mono e06) (ea_cons (ed_var rfl (hy.up (hm_mono (e45.trans e6)))) (ea_cons ed_int (ea_cons ed_int ea_nil))) trivial) ?_) fun v H7 e7 hv => q v H7 (e06.trans e7) hv
    show PyData.bool (decide ((0 : Int) ≤ n) && decide (n ≤ 9)) = _
    rw [decide_eq_true p3.1, decide_eq_true p3.2]
    rfl
  | copy p =>
    refine q_no (pre "copy" [.str p] rfl rfl) fun H1 e1 => ?_
    have h2' : Dp K (Hm M H1) v2 (.tuple [.str "copy", .str p]) := h2.up (hm_mono e1)
    refine q_no (EvT.eq (et_test (ed_eqI (ed_lenT (ed_var rfl h2')) ed_int)) rfl) fun H2 e2 => ?_
    refine q_asg2 (ed_var rfl (h2'.up (hm_mono e2))) fun x y H3 e3 hx hy => ?_
    have e03 := (e1.trans e2).trans e3
    refine q_no (EvT.eq (et_test (ed_eqS (ed_var rfl hx) ed_str)) (by decide +kernel)) fun H4 e4 => ?_
    refine q_no (EvT.eq (et_test (ed_eqS (ed_var rfl (hx.up (hm_mono e4))) ed_str)) (by decide +kernel)) fun H5 e5 => ?_
    have e45 := e4.trans e5
    refine q_no (EvT.eq (et_test (ed_eqS (ed_var rfl (hx.up (hm_mono e45))) ed_str)) (by decide +kernel)) fun H6 e6 => ?_
    have e46 := e45.trans e6
    have e06 := e03.trans e46
    refine s_ret (EvD.eq (ed_and (ed_eqS (ed_var rfl (hx.up (hm_mono e46))) ed_str) fun _ => ed_and (ed_isStr (ed_var rfl (hy.up (hm_mono e46)))) fun _ => ed_inT (x := p) (ys := near) (ed_var rfl (hy.up (hm_mono e46))) (ed_var rfl (h1.up (hm_mono e06)))) ?_) fun v H7 e7 hv => q v H7 (e06.trans e7) hv
    show PyData.bool (decide (("copy" : Str) = "copy") && (true && decide (p ∈ near))) = _
    rw [decide_eq_true (show p ∈ near from p3), decide_eq_true rfl]
    rfl

theorem sc_is_rule : FnScope ["k", "web", "place", "thing"] ["k", "web", "place", "thing"] (defScope s_is_rule) := ⟨rfl, rfl, rfl, by decide +kernel, rfl, by decide +kernel, by decide +kernel⟩
theorem ok_is_rule (T : Tx K mg) : Cal P w K mg base 6 "is_rule" ["k", "web", "place", "thing"] (spF K (ι := Nat × Web × Str × Rule) (fun x => [.int x.1, x.2.1.enc, .str x.2.2.1, x.2.2.2.enc]) (fun x => (x.1 = 2 ∨ x.1 = 3) ∧ WebOk x.2.1 ∧ x.2.2.1 ∈ x.2.1.ps ∧ RuleOk x.1 (nbs x.2.1 x.2.2.1) x.2.2.2) (fun _ => .bool true)) := by
  refine mkF T.d_is_rule sc_is_rule (fun _ => rfl) (fun _ _ _ _ _ _ us hl => match us, hl with | [_, _, _, _], _ => rfl) fun f cdv A outer s H vs Q E hr M x wd hv hp q => ?_
  obtain ⟨k, web, p, r⟩ := x
  obtain ⟨v0, v1, v2, v3, rfl, h0, h1, h2, h3⟩ := four_of hv
  obtain ⟨p1, p2, p3, p4⟩ := hp
  refine ⟨_, (pss_one (ps_ret (pe_cal (ok_is_rule_for T) (hr.mono (by decide)) (by rfl) (pa_cons (pv 0) (pa_cons (pe_cal (ok_neighbours_of T) (hr.mono (by decide)) (by rfl) (pa_cons (pv 1) (pa_cons (pv 2) pa_nil))) (pa_cons (pv 3) pa_nil)))))), ?_⟩
  exact s_ret (ed_call (k, nbs web p, r) wd (ea_cons (ed_var rfl h0) (ea_cons (ed_call (web, p) wd (ea_cons (ed_var rfl h1) (ea_cons (ed_var rfl h2) ea_nil)) ⟨p2, p3⟩) (ea_cons (ed_var rfl h3) ea_nil))) ⟨p1, nbs_len p2 p, p4⟩) q

theorem sc_is_hall_form : FnScope ["thing", "k", "web", "rules", "place", "rule"] ["thing"] (defScope s_is_hall_form) := ⟨rfl, rfl, rfl, by decide +kernel, rfl, by decide +kernel, by decide +kernel⟩
theorem ok_is_hall_form (T : Tx K mg) : Cal P w K mg base 7 "is_hall_form" ["thing"] (spF K (ι := Hall) (fun x => [x.enc]) HallOk (fun _ => .bool true)) := by
  refine mkF T.d_is_hall_form sc_is_hall_form (fun _ => rfl) (fun _ _ _ _ _ _ us hl => match us, hl with | [_], _ => rfl) fun f cdv A outer s H vs Q E hr M x wd hv hp q => ?_
  obtain ⟨v0, rfl, h0⟩ := one_of hv
  have hk := hp.k
  have hw := hp.web
  have l1 := hw.lo
  have l2 := hw.hi
  refine ⟨_, (pss_cons (ps_if (PW.pt (pw_or (pt_not (pt_val (pe_cal (ok_is_row_of T) (hr.mono (by decide)) (by rfl) (pa_cons (pv 0) (pa_cons pe_int (pa_cons pe_int pa_nil)))))) (pw_or (pt_not (pt_val (pe_cal (ok_is_within T) (hr.mono (by decide)) (by rfl) (pa_cons (pe_ix (ix_seqK K) (pv 0) pe_int (fun _ _ => rfl)) (pa_cons (pe_gint T.i_LEAST_KIND (by rfl)) (pa_cons (pe_gint T.i_MOST_KIND (by rfl)) pa_nil)))))) (pw_or1 (pt_not (pt_val (pe_cal (ok_is_web_form T) (hr.mono (by decide)) (by rfl) (pa_cons (pe_ix (ix_seqK K) (pv 0) pe_int (fun _ _ => rfl)) pa_nil)))))))) (pss_one (ps_ret pe_bl)) pss_nil)
      (pss_cons (ps_asg (pv 0) (pg_tupK (n := 3) K rfl (pgs_cons (pg_name (i := 1) sc_is_hall_form.nd rfl (.inr rfl)) (pgs_cons (pg_name (i := 2) sc_is_hall_form.nd rfl (.inr rfl)) (pgs_cons (pg_name (i := 3) sc_is_hall_form.nd rfl (.inl rfl)) pgs_nil)))))
      (pss_cons (ps_if (PW.pt (pw_or (pt_cmpR op_gt (pe_cal (ok_power T) (hr.mono (by decide)) (by rfl) (pa_cons (pv 1) (pa_cons (pe_callB (call_len_seqK K) (by rfl) T.b_len (by decide +kernel) (pa_cons (pe_ix (ix_seqK K) (pv 2) pe_int (fun _ _ => rfl)) pa_nil)) pa_nil))) (pe_gint T.i_MOST_STATES (by rfl)) (nomark _)) (pw_or1 (pt_not (pt_val (pe_cal (ok_is_row_of T) (hr.mono (by decide)) (by rfl) (pa_cons (pv 3) (pa_cons (pe_callB (call_len_seqK K) (by rfl) T.b_len (by decide +kernel) (pa_cons (pe_ix (ix_seqK K) (pv 2) pe_int (fun _ _ => rfl)) pa_nil)) (pa_cons (pe_callB (call_len_seqK K) (by rfl) T.b_len (by decide +kernel) (pa_cons (pe_ix (ix_seqK K) (pv 2) pe_int (fun _ _ => rfl)) pa_nil)) pa_nil))))))))) (pss_one (ps_ret pe_bl)) pss_nil)
      (pss_one (ps_ret (pe_callB (cr_allK K rfl) (by rfl) T.b_all (by decide +kernel) (pa_cons (pe_lc (own := [("place", 4), ("rule", 5)])  rfl sc_is_hall_form.nd (pi_zipK K (by rfl) T.b_zip (pa_cons (pe_ix (ix_seqK K) (pv 2) pe_int (fun _ _ => rfl)) (pa_cons (pv 3) pa_nil))) (blkOk_by (N := ["thing", "k", "web", "rules", "place", "rule"]) (sc := defScope s_is_hall_form) (own := [("place", 4), ("rule", 5)]) (by decide +kernel)) (fun _ _ _ _ _ => pg_tupK (n := 2) K rfl (pgs_cons (pg_name (i := 4) sc_is_hall_form.nd rfl (Or.inl rfl)) (pgs_cons (pg_name (i := 5) sc_is_hall_form.nd rfl (Or.inl rfl)) pgs_nil))) (fun _ _ _ _ _ => pts_nil) (fun _ _ _ _ _ => (pe_cal (ok_is_rule T) (hr.mono (by decide)) (by rfl) (pa_cons (pv 1) (pa_cons (pv 2) (pa_cons (pv 4) (pa_cons (pv 5) pa_nil))))))) pa_nil))))))), ?_⟩
  refine q_no (EvT.eq (et_or (a := false) (b := false) (EvT.eq (et_not (et_B (ed_call (x.enc, (3 : Int), (3 : Int)) wd (ea_cons (ed_var rfl h0) (ea_cons ed_int (ea_cons ed_int ea_nil))) trivial))) rfl) fun _ => EvT.eq (et_or (a := false) (b := false) (EvT.eq (et_not (et_B (ed_call (PyData.int x.k, (2 : Int), (3 : Int)) wd (ea_cons (ed_ixT' (j := 0) (ed_var rfl h0) ed_int rfl rfl) (ea_cons ed_int (ea_cons ed_int ea_nil))) trivial))) ?_) fun _ => EvT.eq (et_not (et_B (ed_call x.web wd (ea_cons (ed_ixT' (j := 1) (ed_var rfl h0) ed_int rfl rfl) ea_nil) hw))) rfl) rfl) rfl) fun H1 e1 => ?_
  · show (!(decide ((2 : Int) ≤ (x.k : Int)) && decide ((x.k : Int) ≤ 3))) = false
    rw [decide_eq_true (by omega : (2 : Int) ≤ (x.k : Int)), decide_eq_true (by omega : (x.k : Int) ≤ 3)]
    rfl
  refine q_asg3 (ed_var rfl (h0.up (hm_mono e1))) fun vk vw vr H2 e2 hvk hvw hvr => ?_
  have wd2 := (wd.mono e1).mono e2
  have ln := fun {σ : L2.St} (hσ : σ[2]? = some (some vw)) => ed_lenT (K := K) (M := M) (H := H2) (ed_ixT' (j := 0) (ed_var (σ := σ) hσ hvw) ed_int rfl rfl)
  refine q_no (EvT.eq (et_or (a := false) (b := false) (EvT.eq (et_test (ed_IB (g := fun i j => decide (j < i)) (ed_call ((x.k : Int), x.web.ps.length) wd2 (ea_cons (ed_var rfl hvk) (ea_cons (EvD.eq (ln rfl) (by rw [List.length_map])) ea_nil)) ⟨by show (x.k : Int).natAbs < 2 ^ 64; omega, by show x.web.ps.length ≤ 1000; omega⟩) ed_int)) ?_) fun _ => EvT.eq (et_not (et_B (ed_call (PyData.tuple (x.rules.map Rule.enc), ((x.web.ps.map PyData.str).length : Int), ((x.web.ps.map PyData.str).length : Int)) wd2 (ea_cons (ed_var rfl hvr) (ea_cons (ln rfl) (ea_cons (ln rfl) ea_nil))) trivial))) ?_) rfl) fun H3 e3 => ?_
  · have few := hp.few
    have e : ((x.k : Int) ^ x.web.ps.length) = ((x.k ^ x.web.ps.length : Nat) : Int) := (Int.natCast_pow _ _).symm
    show decide ((256 : Int) < (x.k : Int) ^ x.web.ps.length) = false
    rw [e]
    exact decide_eq_false (by omega)
  · have e := rowOf_self (x.rules.map Rule.enc)
    rw [List.length_map, hp.many, ← List.length_map (f := PyData.str)] at e
    show (!rowOf _ _ _) = false
    rw [e]
    rfl
  have hvk3 := hvk.up (hm_mono e3)
  have hvw3 := hvw.up (hm_mono e3)
  have hvr3 := hvr.up (hm_mono e3)
  have wd3 := wd2.mono e3
  refine s_ret (ed_allP (xs := x.web.ps.zip x.rules) (p := fun _ => true) (ed_map2 (ea := fun p => .str p.1) (eb := fun p => p.2.enc) wd3 ((src_zipT (ea_cons (ed_ixT' (j := 0) (ed_var rfl hvw3) ed_int rfl rfl) (ea_cons (ed_var rfl hvr3) ea_nil))).eq ?_) ?_ (fun _ _ => rfl) fun a ha M' H4 z1 z2 e4 e5 wd4 hz1 hz2 =>
    ed_call (x.k, x.web, a.1, a.2) wd4 (ea_cons (ed_var rfl (hvk3.up e5)) (ea_cons (ed_var rfl (hvw3.up e5)) (ea_cons (ed_var rfl hz1) (ea_cons (ed_var rfl hz2) ea_nil)))) ?_) fun _ _ => rfl) fun v H4 e4 hv => q v H4 (((e1.trans e2).trans e3).trans e4) hv
  · unfold pairs2
    rw [List.zip_map, List.map_map]
    rfl
  · rw [List.length_zip]
    omega
  · obtain ⟨i, hi⟩ := List.getElem?_of_mem ha
    obtain ⟨g1, g2⟩ := List.getElem?_zip_eq_some.mp hi
    exact ⟨hk, hw, List.mem_of_getElem? g1, hp.rule i _ _ g1 g2⟩

theorem sc_need_hall : FnScope ["hall"] ["hall"] (defScope s_need_hall) := ⟨rfl, rfl, rfl, by decide +kernel, rfl, by decide +kernel, by decide +kernel⟩
theorem ok_need_hall (T : Tx K mg) : Cal P w K mg base 8 "need_hall" ["hall"] (spF K (ι := Hall) (fun x => [x.enc]) HallOk (fun _ => .none)) := by
  refine mkF T.d_need_hall sc_need_hall (fun _ => rfl) (fun _ _ _ _ _ _ us hl => match us, hl with | [_], _ => rfl) fun f cdv A outer s H vs Q E hr M x wd hv hp q => ?_
  obtain ⟨v0, rfl, h0⟩ := one_of hv
  refine ⟨_, (pss_one (ps_if (pt_not (pt_val (pe_cal (ok_is_hall_form T) (hr.mono (by decide)) (by rfl) (pa_cons (pv 0) pa_nil)))) (pss_one ps_never) pss_nil)), ?_⟩
  exact s_if (EvT.eq (et_not (et_B (ed_call x wd (ea_cons (ed_var rfl h0) ea_nil) hp))) rfl) (fun z => Bool.noConfusion z) fun _ H1 e1 => q _ H1 e1 .non
end
end EIT
end
/-! text Dat3 -/
section
set_option maxHeartbeats 4000000
/-! Comprehensions of two fors; lists that are built by append. -/
namespace EIT
open PySem PySem.Spec PyProof.Rows L2 RZ
section
variable {K : PySem.W.Frag} {M : Mk} {σ : L2.St} {H H' : Hp} {ta tl te : TE} {tt : TT} {tr : TA} {ds es : List PyData} {J : It} {g : TG} {wi wi1 : TI}
/-- the new list D is being filled -/
structure Fill (K : PySem.W.Frag) (M : Mk) (D : Addr) (H2 H' : Hp) (out : List PyData) : Prop where
  old : Same H2 H'
  dat : Same (Hm M H2) (Hm (addM M D) H')
  wd : Wd (addM M D) H'
  acc : ∃ acc, H' D = some (.lst acc) ∧ DpAll K (Hm (addM M D) H') acc out
theorem Fill.start {D : Addr} (wd : Wd M H) (hD : H D = none) : Fill K M D H (upd H D (.lst [])) [] :=
  ⟨same_new hD, hm_new hD, wd_add (wd.mono (same_new hD)) (by rw [upd_same]; intro z; cases z), [], upd_same, .nil⟩
theorem Fill.up {D : Addr} {H2 H3 : Hp} {out : List PyData} (f : Fill K M D H2 H' out) (e : Same H' H3) : Fill K M D H2 H3 out := by
  obtain ⟨a, b, c, acc, h1, h2⟩ := f
  exact ⟨a.trans e, b.trans (hm_mono e), c.mono e, acc, e _ _ h1, h2.up (hm_mono e)⟩
theorem Fill.put {D : Addr} {H2 : Hp} {out : List PyData} {z : V} {d : PyData} (hn : H2 D = none) (f : Fill K M D H2 H' out) (hz : Dp K (Hm (addM M D) H') z d) (hl : out.length < 100000) :
    ∃ acc, H' D = some (.lst acc) ∧ acc.length < sizeLine ∧ Fill K M D H2 (upd H' D (.lst (acc ++ [z]))) (out ++ [d]) := by
  obtain ⟨a, b, c, acc, h1, h2⟩ := f
  have hup : Hm (addM M D) (upd H' D (.lst (acc ++ [z]))) = Hm (addM M D) H' := hm_upd addM_same
  refine ⟨acc, h1, sz_lt (by rw [dps_len h2]; exact hl), same_mut a hn, ?_, ?_, acc ++ [z], upd_same, ?_⟩
  · rw [hup]; exact b
  · intro x ha
    by_cases ea : x = D
    · rw [ea, upd_same]; intro z; cases z
    · rw [upd_ne ea]; exact c x ha
  · rw [hup]
    exact dps_append h2 (dps_one hz)
theorem Fill.done {D : Addr} {H2 : Hp} {out : List PyData} (f : Fill K M D H2 H' out) (hm : M D = false) : Dp K (Hm M H') (.ref D) (.list out) := by
  obtain ⟨a, b, c, acc, h1, h2⟩ := f
  exact .lst (.of (hm_of hm h1)) (h2.up (hm_add_sub M D H'))
theorem flat_take {ι : Type} {α : Type} (xs : List ι) (f : ι → List α) (i : Nat) (h : i < xs.length) : (xs.take (i + 1)).flatMap f = (xs.take i).flatMap f ++ f xs[i] := by
  rw [List.take_succ_eq_append_getElem h, List.flatMap_append, List.flatMap_singleton]
theorem take_flat_le {ι : Type} {α : Type} (f : ι → List α) : ∀ (xs : List ι) (i : Nat), ((xs.take i).flatMap f).length ≤ (xs.flatMap f).length
  | _, 0 => by simp
  | [], _ + 1 => by simp
  | x :: xs, i + 1 => by
    rw [List.take_succ_cons, List.flatMap_cons, List.flatMap_cons, List.length_append, List.length_append]
    have := take_flat_le f xs i
    omega
theorem ed_lc2 {ι κ : Type} {xs : List ι} {enc : ι → PyData} {ys : ι → List κ} {enc2 : κ → PyData} {r : ι → κ → PyData} {i j : Nat} {vs vs1 : List Nat} (wd : Wd M H) (hsr : Src K M wi σ H (xs.map enc)) (hz : (xs.flatMap fun a => (ys a).map (r a)).length ≤ 50000) (hw : ∀ x, wipe ((wipe σ vs).set i (some x)) vs = wipe σ vs)
    (hw1 : ∀ x y, wipe ((wipe ((wipe σ vs).set i (some x)) vs1).set j (some y)) vs1 = wipe ((wipe σ vs).set i (some x)) vs1)
    (h1 : ∀ (a : ι), a ∈ xs → ∀ (M' : Mk) (H1 : Hp) (v : V), Same H H1 → Same (Hm M H) (Hm M' H1) → Wd M' H1 → Dp K (Hm M' H1) v (enc a) → Src K M' wi1 ((wipe σ vs).set i (some v)) H1 ((ys a).map enc2))
    (h2 : ∀ (a : ι) (b : κ), a ∈ xs → b ∈ ys a → ∀ (M' : Mk) (H1 : Hp) (v w : V), Same H H1 → Same (Hm M H) (Hm M' H1) → Wd M' H1 → Dp K (Hm M' H1) v (enc a) → Dp K (Hm M' H1) w (enc2 b) → EvD K M' te ((wipe ((wipe σ vs).set i (some v)) vs1).set j (some w)) H1 (r a b)) :
    EvD K M (tLc2 wi (gName i) tYes wi1 (gName j) tYes te vs vs1) σ H (.list (xs.flatMap fun a => (ys a).map (r a))) := fun H1 e1 Q q => hsr H1 e1 _ fun J H2 e2 w => by
  intro D hD
  have e12 := e1.trans e2
  have wd2 : Wd M H2 := wd.mono e12
  have hmD : M D = false := wd2.new hD
  let f := fun a : ι => (ys a).map (r a)
  refine ⟨fun n m H' => m = xs.length - n ∧ n ≤ xs.length ∧ Fill K M D H2 H' ((xs.take n).flatMap f), ⟨xs.length, by omega, Nat.zero_le _, by rw [List.take_zero]; exact Fill.start wd2 hD⟩, ?_⟩
  rintro n m H' ⟨rfl, hn, fl⟩
  obtain ⟨w1, w2⟩ := w (addM M D) n H' fl.dat fl.wd
  rw [List.length_map] at w1 w2
  by_cases hlt : n < xs.length
  · obtain ⟨go, y⟩ := w1 hlt
    refine .inr ⟨go, fun H'' => Fill K M D H2 H'' ((xs.take (n + 1)).flatMap f), fun H'' p' => ⟨xs.length - (n + 1), by omega, rfl, hlt, p'⟩, fun x H'' hy => ?_⟩
    obtain ⟨e5, d, hd1, hd2⟩ := y x H'' hy
    have ex : xs[n]? = some xs[n] := List.getElem?_eq_getElem hlt
    rw [List.getElem?_map, ex] at hd1
    have hd3 : enc xs[n] = d := Option.some.inj hd1
    subst hd3
    have fl2 := fl.up e5
    have hmem : xs[n] ∈ xs := List.getElem_mem hlt
    have hsucc := flat_take xs f n hlt
    have htot : ((xs.take (n + 1)).flatMap f).length ≤ 50000 := Nat.le_trans (take_flat_le f xs (n + 1)) hz
    refine ⟨hw x, ?_⟩
    refine iteT (B := Fill K M D H2 H'' ((xs.take (n + 1)).flatMap f)) ?_
    refine h1 xs[n] hmem (addM M D) H'' x (e12.trans fl2.old) ((hm_mono e12).trans fl2.dat) fl2.wd hd2 H'' (Same.refl _) _ ?_
    intro J1 H3 e6 wk
    have fl3 := fl2.up e6
    have hx3 := hd2.up (hm_mono e6)
    refine ⟨fun c k H4 => k = (ys xs[n]).length - c ∧ c ≤ (ys xs[n]).length ∧ Fill K M D H2 H4 ((xs.take n).flatMap f ++ ((ys xs[n]).take c).map (r xs[n])) ∧ Same (Hm (addM M D) H3) (Hm (addM M D) H4), ⟨_, rfl, Nat.zero_le _, by rw [List.take_zero, List.map_nil, List.append_nil]; exact fl3, Same.refl _⟩, ?_⟩
    rintro c k H4 ⟨rfl, hc, fl4, e7⟩
    obtain ⟨w3, w4⟩ := wk (addM M D) c H4 e7 fl4.wd
    rw [List.length_map] at w3 w4
    by_cases hlt2 : c < (ys xs[n]).length
    · obtain ⟨go2, y2⟩ := w3 hlt2
      have hsub : (xs.take n).flatMap f ++ ((ys xs[n]).take c).map (r xs[n]) ++ [r xs[n] (ys xs[n])[c]] = (xs.take n).flatMap f ++ ((ys xs[n]).take (c + 1)).map (r xs[n]) := by
        rw [List.take_succ_eq_append_getElem hlt2, List.map_append, List.append_assoc]; rfl
      have hshort : ((xs.take n).flatMap f ++ ((ys xs[n]).take c).map (r xs[n])).length < 100000 := by
        have l1 : ((xs.take n).flatMap f ++ f xs[n]).length ≤ 50000 := by rw [← hsucc]; exact htot
        have l2 : f xs[n] = (ys xs[n]).map (r xs[n]) := rfl
        rw [List.length_append, l2, List.length_map] at l1
        rw [List.length_append, List.length_map, List.length_take]
        omega
      refine .inr ⟨go2, fun H5 => Fill K M D H2 H5 ((xs.take n).flatMap f ++ ((ys xs[n]).take (c + 1)).map (r xs[n])) ∧ Same (Hm (addM M D) H3) (Hm (addM M D) H5), fun H5 p' => ⟨(ys xs[n]).length - (c + 1), by omega, rfl, hlt2, p'.1, p'.2⟩, fun z H5 hy2 => ?_⟩
      obtain ⟨e8, d2, hd4, hd5⟩ := y2 z H5 hy2
      rw [List.getElem?_map, List.getElem?_eq_getElem hlt2] at hd4
      have hd6 : enc2 (ys xs[n])[c] = d2 := Option.some.inj hd4
      subst hd6
      have fl5 := fl4.up e8
      have e9 : Same (Hm (addM M D) H'') (Hm (addM M D) H5) := ((hm_mono e6).trans e7).trans (hm_mono e8)
      refine ⟨hw1 x z, ?_⟩
      refine iteT (B := Fill K M D H2 H5 ((xs.take n).flatMap f ++ ((ys xs[n]).take (c + 1)).map (r xs[n])) ∧ Same (Hm (addM M D) H3) (Hm (addM M D) H5)) ?_
      refine EvP.use (h2 xs[n] (ys xs[n])[c] hmem (List.getElem_mem hlt2) (addM M D) H5 x z (e12.trans fl5.old) ((hm_mono e12).trans fl5.dat) fl5.wd (hd2.up e9) hd5) fun o H6 e10 ho => ?_
      obtain ⟨acc, k1, k2, k3⟩ := (fl5.up e10).put hD ho hshort
      refine ⟨acc, k1, k2, ?_, ?_⟩
      · rw [← hsub]; exact k3
      · rw [hm_upd addM_same]; exact (e7.trans (hm_mono e8)).trans (hm_mono e10)
    · have e : c = (ys xs[n]).length := by omega
      subst e
      refine .inl ⟨w4 rfl, ?_⟩
      rw [hsucc]
      rw [List.take_length] at fl4
      exact fl4
  · have e : n = xs.length := by omega
    subst e
    rw [List.take_length] at fl
    exact .inl ⟨w2 rfl, q _ _ (e2.trans fl.old) (fl.done hmD)⟩
end
end EIT
end
/-! text R2 -/
section
set_option maxHeartbeats 4000000
/-! list + list of whichever kind; more expressions over data; lists that grow. -/
namespace EIT
open PySem PySem.Spec PyProof.Rows L2
section
variable {X : Cx}
def rCatL (K : PySem.W.Frag) : R2 := fun x y H Q => ∃ a b xs ys, x = .ref a ∧ y = .ref b ∧ SqL K H a xs ∧ SqL K H b ys ∧ xs.length + ys.length ≤ sizeLine ∧ ∀ p, H p = none → Q (.ref p) (upd H p (.lst (xs ++ ys)))
theorem op_catLK (K : PySem.W.Frag) (hK : X.K = K := by rfl) : OpR X (binaryOp .Add) (rCatL K) := by
  subst hK
  intro pins s σ H x y v u Q I rx ry h
  obtain ⟨a, b, xs, ys, rfl, rfl, ha, hb, hz, q⟩ := h
  cases rx
  cases ry
  obtain ⟨its, r1, ⟨⟨cls, dd, data, sl⟩, n, ho, hc, hdn, hd⟩, hl⟩ := I.list ha
  obtain ⟨its2, r2, ⟨⟨cls2, dd2, data2, sl2⟩, n2, ho2, hc2, hdn2, hd2⟩, hl2⟩ := I.list hb
  simp only at hc hd hc2 hd2
  subst hc hd hc2 hd2
  have e : its.toArray ++ its2.toArray = (its ++ its2).toArray := by simp
  refine concat_meets ⟨_, ho, rfl⟩ ⟨_, ho2, rfl⟩ noFill_list_add seq_list_add PySem.F.slot_list_add PySem.F.entry_list_add (PySem.F.args_list_add_2 _ _) (list_addW a b its.toArray its2.toArray n n2 dd dd2 sl sl2 (by rw [List.size_toArray, List.size_toArray, ← r1.length, ← r2.length]; exact hz)) ⟨ho, ho2, ?_⟩
  rw [e]
  exact ⟨.ref _, _, I.lnew (t' := s.toks) (r1.append r2) (by rw [List.length_append]; omega), rfl, q _ I.fresh⟩
end
section
variable {K : PySem.W.Frag} {M : Mk} {σ : L2.St} {H H' : Hp} {ta tb te to : TE} {tr : TA} {d e : PyData} {ds es : List PyData} {tz : TS} {D : Ends}
theorem ed_catL (wd : Wd M H) (ha : EvD K M ta σ H (.list ds)) (hb : EvD K M tb σ H (.list es)) (hz : ds.length + es.length ≤ 100000) : EvD K M (tOp (rCatL K) ta tb) σ H (.list (ds ++ es)) := fun H1 e1 Q q =>
  ha H1 e1 _ fun x H2 e2 hx => hb H2 (e1.trans e2) _ fun y H3 e3 hy => by
    obtain ⟨a, xs, rfl, hs, h1⟩ := dp_lst (PD.up hx e3)
    obtain ⟨b, ys, rfl, hs2, h2⟩ := dp_lst hy
    have l1 := dps_len h1
    have l2 := dps_len h2
    refine ⟨a, b, xs, ys, rfl, rfl, sqL_mono (hm_sub M H3) hs, sqL_mono (hm_sub M H3) hs2, sz_ok (by omega), fun p hp => q _ _ ((e2.trans e3).trans (same_new hp)) ?_⟩
    have hm : M p = false := (wd.mono ((e1.trans e2).trans e3)).new hp
    exact .lst (.of (hm_of hm upd_same)) ((dps_append h1 h2).up (hm_mono (same_new hp)))
theorem ed_catT (wd : Wd M H) (ha : EvD K M ta σ H (.tuple ds)) (hb : EvD K M tb σ H (.tuple es)) (hz : ds.length + es.length ≤ 100000) : EvD K M (tOp (rCatA K) ta tb) σ H (.tuple (ds ++ es)) := fun H1 e1 Q q =>
  ha H1 e1 _ fun x H2 e2 hx => hb H2 (e1.trans e2) _ fun y H3 e3 hy => by
    obtain ⟨a, xs, rfl, hs, h1⟩ := dp_tup (PD.up hx e3)
    obtain ⟨b, ys, rfl, hs2, h2⟩ := dp_tup hy
    have l1 := dps_len h1
    have l2 := dps_len h2
    have e4 := (e2.trans e3)
    refine ⟨a, b, xs, ys, rfl, rfl, sqT_mono (hm_sub M H3) hs, sqT_mono (hm_sub M H3) hs2, sz_ok (by omega), fun z => q _ _ e4 ?_, fun _ z => q _ _ e4 ?_, fun _ _ p hp => q _ _ (e4.trans (same_new hp)) ?_⟩
    · subst z
      cases h1
      rw [List.nil_append]
      exact .tup hs2 h2
    · subst z
      cases h2
      rw [List.append_nil]
      exact .tup hs h1
    · have hm : M p = false := (wd.mono (e1.trans e4)).new hp
      exact .tup (.of (hm_of hm upd_same)) ((dps_append h1 h2).up (hm_mono (same_new hp)))
theorem ed_revL (wd : Wd M H) (ha : EvD K M ta σ H (.list ds)) : EvD K M (tRevL K ta) σ H (.list ds.reverse) := fun H1 e1 Q q =>
  ha H1 e1 _ fun x H2 e2 hx => by
    obtain ⟨a, xs, rfl, hs, h1⟩ := dp_lst hx
    refine ⟨a, xs, rfl, sqL_mono (hm_sub M H2) hs, fun p hp => q _ _ (e2.trans (same_new hp)) ?_⟩
    have hm : M p = false := (wd.mono (e1.trans e2)).new hp
    exact .lst (.of (hm_of hm upd_same)) ((dps_reverse h1).up (hm_mono (same_new hp)))
/-! xs[lo:], xs[:hi] -/
def EvOo (to : TO) (σ : L2.St) (H : Hp) (o : Option Int) : Prop := EvO to σ H o
theorem eo_none : EvO tNoPart σ H none := fun H1 _ _ q => q H1 (Same.refl _)
theorem eo_some {i : Int} (h : EvD K M te σ H (.int i)) : EvO (tPart te) σ H (some i) := fun H1 e Q q => h H1 e _ fun v H2 e2 hv => by
  rw [dp_int hv]
  exact ⟨i, rfl, q H2 e2⟩
theorem dps_cut {vs : List V} {ds : List PyData} {lo hi : Option Int} (h : DpAll K H vs ds) : DpAll K H (cutV vs lo hi) ((ds.drop (HT.sIx ds.length 0 lo)).take (HT.sIx ds.length ds.length hi - HT.sIx ds.length 0 lo)) := by
  unfold cutV
  rw [dps_len h]
  exact dps_take _ (dps_drop _ h)
theorem ed_slL {t1 t2 : TO} {lo hi : Option Int} (wd : Wd M H) (ha : EvD K M ta σ H (.list ds)) (h1 : EvO t1 σ H lo) (h2 : EvO t2 σ H hi) :
    EvD K M (tSl (rSlL K) ta t1 t2) σ H (.list ((ds.drop (HT.sIx ds.length 0 lo)).take (HT.sIx ds.length ds.length hi - HT.sIx ds.length 0 lo))) := fun H1 e1 Q q =>
  ha H1 e1 _ fun x H2 e2 hx => h1 H2 (e1.trans e2) _ fun H3 e3 => h2 H3 ((e1.trans e2).trans e3) _ fun H4 e4 => by
    obtain ⟨a, xs, rfl, hs, h1⟩ := dp_lst (PD.up hx (e3.trans e4))
    have e24 := (e2.trans e3).trans e4
    refine ⟨a, xs, rfl, sqL_mono (hm_sub M H4) hs, fun p hp => q _ _ (e24.trans (same_new hp)) ?_⟩
    have hm : M p = false := (wd.mono (e1.trans e24)).new hp
    exact .lst (.of (hm_of hm upd_same)) ((dps_cut h1).up (hm_mono (same_new hp)))
/-! min, max -/
theorem ed_minL {ns : List Int} {m : Int} (h : EvD K M ta σ H (.list (ns.map .int))) (h1 : m ∈ ns) (h2 : ∀ y ∈ ns, m ≤ y) : EvD K M (tCB (rMin K) (tCons ta tNil)) σ H (.int m) := fun H1 e Q q =>
  h H1 e _ fun v H2 e2 hv => by
    obtain ⟨a, xs, rfl, hs, ha⟩ := dp_lst hv
    cases dps_ints ha
    refine ⟨a, ns, rfl, sqL_mono (hm_sub M H2) hs, List.length_pos_of_mem h1, fun m' k1 k2 => q _ H2 e2 ?_⟩
    have : m' = m := Int.le_antisymm (k2 m h1) (h2 m' k1)
    rw [this]
    exact .int _
theorem ed_maxL {ns : List Int} {m : Int} (h : EvD K M ta σ H (.list (ns.map .int))) (h1 : m ∈ ns) (h2 : ∀ y ∈ ns, y ≤ m) : EvD K M (tCB (rMax K) (tCons ta tNil)) σ H (.int m) := fun H1 e Q q =>
  h H1 e _ fun v H2 e2 hv => by
    obtain ⟨a, xs, rfl, hs, ha⟩ := dp_lst hv
    cases dps_ints ha
    refine ⟨a, ns, rfl, sqL_mono (hm_sub M H2) hs, List.length_pos_of_mem h1, fun m' k1 k2 => q _ H2 e2 ?_⟩
    have : m' = m := Int.le_antisymm (h2 m' k1) (k2 m h1)
    rw [this]
    exact .int _
/-! int(b) -/
theorem ed_intB {b : Bool} (h : EvD K M ta σ H (.bool b)) : EvD K M (tCB (fun xs H Q => (∃ i, xs = [V.int i] ∧ Q (.int i) H) ∨ ∃ k, xs = [V.bl k] ∧ Q (.int (if k then 1 else 0)) H) (tCons ta tNil)) σ H (.int (if b then 1 else 0)) := fun H1 e Q q =>
  h H1 e _ fun v H2 e2 hv => .inr ⟨b, by rw [dp_bl hv], q _ H2 e2 (.int _)⟩
theorem ed_intI {i : Int} (h : EvD K M ta σ H (.int i)) : EvD K M (tCB (fun xs H Q => (∃ i, xs = [V.int i] ∧ Q (.int i) H) ∨ ∃ k, xs = [V.bl k] ∧ Q (.int (if k then 1 else 0)) H) (tCons ta tNil)) σ H (.int i) := fun H1 e Q q =>
  h H1 e _ fun v H2 e2 hv => .inl ⟨i, by rw [dp_int hv], q _ H2 e2 (.int _)⟩
/-! list(range(n)) -/
theorem dps_rg (n : Nat) : ∀ (l : List Nat), DpAll K H (l.map fun i => V.int ((0 : Int) + (i : Nat))) (l.map fun i : Nat => .int (i : Nat))
  | [] => .nil
  | a :: l => by
    rw [List.map_cons, List.map_cons, Int.zero_add]
    exact .cons (.int _) (dps_rg n l)
theorem ed_listRg {n : Nat} {z : Int} (wd : Wd M H) (h : EvD K M te σ H (.int z)) (hz : z = (n : Int)) (hn : n ≤ 100000) : EvD K M (tLstRg (tRg1 te)) σ H (.list ((List.range n).map fun i : Nat => .int (i : Nat))) := fun H1 e1 Q q =>
  h H1 e1 _ fun v H2 e2 hv => ⟨z, dp_int hv, RgOk.of_le (by omega) (by omega) (by omega) (by omega), fun p hp => q _ _ (e2.trans (same_new hp)) (by
    have hm : M p = false := (wd.mono (e1.trans e2)).new hp
    refine .lst (.of (hm_of hm upd_same)) ?_
    unfold rgV
    subst hz
    rw [show ((n : Int) - 0).toNat = n by omega]
    exact dps_rg n _)⟩
/-! x.index(y) -/
theorem eqV_int (a b : Int) : eqV (.int a) (.int b) = (a == b) := rfl
theorem flat_intV (ys : List Int) : (ys.map V.int).all flatV = true := by
  rw [List.all_map, List.all_eq_true]
  intro x _
  rfl
theorem ed_idxI {ns : List Int} {z : Int} {j : Nat} (ha : EvD K M ta σ H (.list (ns.map .int))) (hb : EvD K M tb σ H (.int z)) (h1 : ns[j]? = some z) (h2 : ∀ m, m < j → ns[m]? ≠ some z) : EvD K M (tBM K "list" (rIndex K) ta (tCons tb tNil)) σ H (.int (j : Nat)) := fun H1 e Q q =>
  ha H1 e _ fun v H2 e2 hv => by
    obtain ⟨a, xs, rfl, hs, hall⟩ := dp_lst hv
    cases dps_ints hall
    refine ⟨.inl ⟨rfl, _, sqL_mono (hm_sub M H2) hs⟩, hb H2 (e.trans e2) _ fun y H3 e3 hy => ?_⟩
    rw [dp_int hy]
    refine ⟨a, _, .int z, j, .int z, rfl, rfl, sqL_mono e3 (sqL_mono (hm_sub M H2) hs), rfl, flat_intV ns, by rw [List.getElem?_map, h1]; rfl, by rw [eqV_int]; exact beq_self_eq_true z, fun m z' hm hz' => ?_, q _ H3 (e2.trans e3) (.int _)⟩
    rw [List.getElem?_map] at hz'
    cases hn : ns[m]? with
    | none => rw [hn] at hz'; cases hz'
    | some y' =>
      rw [hn] at hz'
      cases hz'
      rw [eqV_int]
      exact beq_eq_false_iff_ne.mpr fun e4 => h2 m hm (by rw [hn, e4])
/-! a list that grows -/
theorem q_new {i : Nat} (wd : Wd M H) (k : ∀ L, H L = none → Fill K M L H (upd H L (.lst [])) [] → tz D (σ.set i (some (.ref L))) (upd H L (.lst []))) : tSeq (tAsg (tLst tNil) (gName i)) tz D σ H :=
  ⟨sz_ok (Nat.zero_le _), fun L hL => k L hL (Fill.start wd hL)⟩
/-- all but L stands -/
def But (L : Addr) (H H' : Hp) : Prop := ∀ a o, a ≠ L → H a = some o → H' a = some o
theorem But.hm {L : Addr} (b : But L H H') (hm : M L = true) : Same (Hm M H) (Hm M H') := fun a o h => by
  obtain ⟨h1, h2⟩ := hm_some h
  exact hm_of h1 (b a o (fun e => by rw [e, hm] at h1; cases h1) h2)
theorem s_app {L : Addr} {H2 : Hp} {out : List PyData} (ht : EvV to σ H' (.ref L)) (f : Fill K M L H2 H' out) (hn : H2 L = none) (hz : EvD K (addM M L) te σ H' d) (hl : out.length < 100000) (k : ∀ H'', Fill K M L H2 H'' (out ++ [d]) → But L H' H'' → D.nx σ H'') : tDrop (tBM K "list" rAppend to (tCons te tNil)) D σ H' :=
  ht H' (Same.refl _) _ fun v H3 e3 hv => by
    cases hv
    refine ⟨.inl ⟨rfl, (f.up e3).acc.imp fun acc h => .inl (.inl h.1)⟩, hz H3 e3 _ fun z H4 e4 hz4 => ?_⟩
    obtain ⟨acc, k1, k2, k3⟩ := (f.up (e3.trans e4)).put hn hz4 hl
    exact ⟨L, acc, z, rfl, rfl, k1, k2, k _ k3 fun a o ha h => by rw [upd_ne ha]; exact e4 _ _ (e3 _ _ h)⟩
theorem q_app {L : Addr} {H2 : Hp} {out : List PyData} (ht : EvV to σ H' (.ref L)) (f : Fill K M L H2 H' out) (hn : H2 L = none) (hz : EvD K (addM M L) te σ H' d) (hl : out.length < 100000) (k : ∀ H'', Fill K M L H2 H'' (out ++ [d]) → But L H' H'' → tz D σ H'') : tSeq (tDrop (tBM K "list" rAppend to (tCons te tNil))) tz D σ H' := s_app (D := { D with nx := tz D }) ht f hn hz hl k
end
end EIT
end
/-! text R3 -/
section
set_option maxHeartbeats 4000000
/-! Tuples that are known to have no dict: their methods may be called. -/
namespace EIT
open PySem PySem.Spec PyProof.Rows L2
def Nod (H : Hp) (a : Addr) : Prop := ∃ o u, H a = some (.frz o u) ∧ o.cls = .type "tuple" ∧ o.dict = none
theorem Nod.mono {H H' : Hp} {a : Addr} (e : Same H H') (h : Nod H a) : Nod H' a := by
  obtain ⟨o, u, h1, h2⟩ := h
  exact ⟨o, u, e _ _ h1, h2⟩
section
variable {X : Cx}
def rTupN (K : PySem.W.Frag) : List V → Hp → VK → Prop := fun xs H Q => ∃ p ys, xs = [V.ref p] ∧ SqL K H p ys ∧ ∀ l o, H l = none → o.cls = .type "tuple" → o.dict = none → Q (.ref l) (upd H l (.frz o (.tup ys)))
theorem call_tupleN (K : PySem.W.Frag) (hK : X.K = K := by rfl) : CallR X (.type "tuple") (rTupN K) := by
  subst hK
  intro pins s σ H xs us Q I r h
  obtain ⟨p, ys, rfl, hq, q⟩ := h
  obtain ⟨u, rfl, rx⟩ := vals1 r
  cases rx
  obtain ⟨its, r', pl, hz⟩ := I.list hq
  have hlen := r'.length
  refine call_tuple_list pl.isList (fun h' kp => ?_) (by simp only [List.size_toArray] <;> omega)
  have I1 : Inv X pins σ H { s with heap := h' } := I.kept (t' := s.toks) kp
  have I2 : Inv X pins σ (upd H h'.objs.size (.frz { cls := .type "tuple", data := .seq its.toArray } (.tup ys))) { s with heap := h'.push { cls := .type "tuple", data := .seq its.toArray } } :=
    I1.laid (t' := s.toks) (fun b o e => Heap.get?_push_of_some _ e) (Nat.le_refl _) ⟨Heap.get?_push_size _ rfl, show ObjOk X.prog X.w _ _ _ (.tup ys) from ⟨hz, its, r', IsTup.new _ _⟩⟩
  exact ⟨.ref h'.objs.size, _, I2, rfl, q _ _ (I1.hok.fresh (Nat.le_refl _)) rfl rfl⟩
def rCatN (K : PySem.W.Frag) : R2 := fun x y H Q => ∃ a b xs ys, x = .ref a ∧ y = .ref b ∧ SqT K H a xs ∧ SqT K H b ys ∧ xs ≠ [] ∧ ys ≠ [] ∧ xs.length + ys.length ≤ sizeLine ∧ ∀ l o, H l = none → o.cls = .type "tuple" → o.dict = none → Q (.ref l) (upd H l (.frz o (.tup (xs ++ ys))))
theorem op_catN (K : PySem.W.Frag) (hK : X.K = K := by rfl) : OpR X (binaryOp .Add) (rCatN K) := by
  subst hK
  intro pins s σ H x y v u Q I rx ry h
  obtain ⟨a, b, xs, ys, rfl, rfl, ha, hb, hx, hy, hz, q⟩ := h
  cases rx
  cases ry
  obtain ⟨its, r1, p1, _⟩ := I.tuple ha
  obtain ⟨its2, r2, p2, _⟩ := I.tuple hb
  refine HT.cat_tup p1 p2 (fun z => hx (r1.nil_iff.mp z)) (fun z => absurd (r2.nil_iff.mp z) hy) (fun z => ?_) (by rw [← r1.length, ← r2.length]; exact hz)
  refine ⟨.ref s.heap.objs.size, _, I.laid (t' := s.toks) (o := .frz { cls := .type "tuple", data := .seq (its ++ its2).toArray } (.tup (xs ++ ys))) (fun b ob q => Heap.get?_push_of_some _ q) (Nat.le_refl _) ?_, rfl, q _ _ (I.hok.fresh (Nat.le_refl _)) rfl rfl⟩
  exact ⟨Heap.get?_push_size _ rfl, by rw [List.length_append]; exact hz, _, r1.append r2, IsTup.new _ _⟩
/-- t.index(x): t has no dict -/
def tIdxN (K : PySem.W.Frag) (to : TE) (t : TA) : TE := fun σ H Q => to σ H fun x H1 => (∃ p, x = .ref p ∧ Nod H1 p) ∧ t σ H1 fun xs H2 => ∃ p, ∃ ys : List Str, ∃ z j, x = V.ref p ∧ xs = [.str z] ∧ SqT K H2 p (ys.map V.str) ∧ ys[j]? = some z ∧ (∀ m, m < j → ys[m]? ≠ some z) ∧ Q (.int (j : Nat)) H2
theorem pe_idxN (K : PySem.W.Frag) {o e : Expr} {es : List Expr} {to : TE} {t : TA} {apos cpos : Pos} (ho : PE X o to) (ha : PA X (e :: es) t)
    (hbase : attributeBase o "index" X.env (eval o X.env) = eval o X.env := by rfl)
    (hfew : ((backTo cpos (starEach (e :: es) X.env)).all (fun x => !x.1) && (backToKw cpos (keywordEach [] X.env)).all (fun x => x.1.isSome)
      && decide ((e :: es).length + ([] : List Keyword).length + (if ([] : List Keyword).isEmpty then 0 else 1) < 30)) = true := by rfl)
    (hline : (apos.endLine == cpos.line) = true := by rfl) (hs : starEach (e :: es) X.env = (false, eval e X.env) :: starEach es X.env := by rfl) (hplain : (backTo cpos (starEach es X.env)).any (·.1) = false := by rfl) (hK : X.K = K := by rfl) :
    PE X (.Call (.Attribute o "index" apos) (e :: es) [] cpos) (tIdxN K to t) := by
  subst hK
  refine ⟨fun pins s σ H Q I h => ?_⟩
  refine wpAny_Call_method_late hbase hfew hline rfl (thn (ho.run pins s σ H _ I h) fun v s1 ⟨x, H1, I1, r1, ty, q1⟩ => ?_)
  obtain ⟨p, rfl, o', u', hn, hc, hd⟩ := ty
  cases r1
  obtain ⟨g, _⟩ := I1.hok _ _ hn
  refine ⟨"tuple", "tuple.index", PySem.F.plainAttrs_tuple, PySem.F.slot_tuple_index, PySem.F.type_tuple_index, ⟨o', g, hc⟩, fun a ea => by cases ea; exact ⟨o', g, hd⟩, ?_⟩
  have hA := ha.run cpos pins s1 σ H1 _ I1 q1
  rw [hs] at hA ⊢
  refine Calls.callWith_builtin (by show (false || (backTo cpos (starEach es X.env)).any (·.1)) = false; rw [hplain] <;> rfl) (Calls.evalArgs_plain ?_)
  refine thn hA fun us s2 ⟨vs, H2, I2, r2, q2⟩ => ?_
  obtain ⟨p', ys, z, j, e1, rfl, k1, k2, k3, k4⟩ := q2
  cases e1
  exact mt_tup_index pins s2 σ H2 (.ref p) [.str z] (.ref p) us Q I2 rfl r2 ⟨p, ys, z, j, rfl, rfl, k1, k2, k3, k4⟩
end
end EIT
end
/-! text N1 -/
section
set_option maxHeartbeats 4000000
/-! numbers of states, the rules' words. -/
namespace EIT
open PySem PySem.Spec PyProof.Rows L2
def nI (n : Nat) : PyData := .int (n : Int)
/-- the number whose digits are told, the least first -/
def nod (k : Nat) (ds : List Nat) : Nat := ds.foldr (fun d a => a * k + d) 0
def dgo (n k m : Nat) : List Nat := (List.range m).map fun i => n / k ^ i % k
def mnN (a : Nat) (l : List Nat) : Nat := l.foldl min a
def mxN (a : Nat) (l : List Nat) : Nat := l.foldl max a
theorem mnN_mem : ∀ (l : List Nat) (a : Nat), mnN a l ∈ a :: l
  | [], a => List.mem_cons_self
  | b :: l, a => by
    have h := mnN_mem l (min a b)
    show mnN (min a b) l ∈ _
    rcases List.mem_cons.mp h with e | e
    · rw [e]
      rcases Nat.le_total a b with z | z
      · rw [Nat.min_eq_left z]; exact List.mem_cons_self
      · rw [Nat.min_eq_right z]; exact List.mem_cons_of_mem _ List.mem_cons_self
    · exact List.mem_cons_of_mem _ (List.mem_cons_of_mem _ e)
theorem mnN_le : ∀ (l : List Nat) (a y : Nat), y ∈ a :: l → mnN a l ≤ y
  | [], a, y, h => by
    rcases List.mem_cons.mp h with e | e
    · exact Nat.le_of_eq e.symm
    · cases e
  | b :: l, a, y, h => by
    show mnN (min a b) l ≤ y
    have h0 := mnN_le l (min a b) (min a b) List.mem_cons_self
    rcases List.mem_cons.mp h with e | e
    · rw [e]; exact Nat.le_trans h0 (Nat.min_le_left a b)
    · rcases List.mem_cons.mp e with e2 | e2
      · rw [e2]; exact Nat.le_trans h0 (Nat.min_le_right a b)
      · exact mnN_le l (min a b) y (List.mem_cons_of_mem _ e2)
theorem mxN_mem : ∀ (l : List Nat) (a : Nat), mxN a l ∈ a :: l
  | [], a => List.mem_cons_self
  | b :: l, a => by
    have h := mxN_mem l (max a b)
    show mxN (max a b) l ∈ _
    rcases List.mem_cons.mp h with e | e
    · rw [e]
      rcases Nat.le_total a b with z | z
      · rw [Nat.max_eq_right z]; exact List.mem_cons_of_mem _ List.mem_cons_self
      · rw [Nat.max_eq_left z]; exact List.mem_cons_self
    · exact List.mem_cons_of_mem _ (List.mem_cons_of_mem _ e)
theorem mxN_le : ∀ (l : List Nat) (a y : Nat), y ∈ a :: l → y ≤ mxN a l
  | [], a, y, h => by
    rcases List.mem_cons.mp h with e | e
    · exact Nat.le_of_eq e
    · cases e
  | b :: l, a, y, h => by
    show y ≤ mxN (max a b) l
    have h0 := mxN_le l (max a b) (max a b) List.mem_cons_self
    rcases List.mem_cons.mp h with e | e
    · rw [e]; exact Nat.le_trans (Nat.le_max_left a b) h0
    · rcases List.mem_cons.mp e with e2 | e2
      · rw [e2]; exact Nat.le_trans (Nat.le_max_right a b) h0
      · exact mxN_le l (max a b) y (List.mem_cons_of_mem _ e2)
/-- what a rule other than table, copy gives -/
def nextW (k : Nat) (r : Rule) (own : Nat) (near : List Nat) : Int :=
  match r with
  | .sum t => ((t[own]?.getD [])[near.sum]?).getD 0
  | .least => (mnN own near : Nat)
  | .greatest => (mxN own near : Nat)
  | .odd => ((own + near.sum) % k : Nat)
  | .most n => if decide (n ≤ ((near.filter fun o => o != 0).length : Int)) then 1 else 0
  | _ => own
def byWord : Rule → Bool
  | .table _ => false
  | .copy _ => false
  | _ => true
def nextPre (k : Nat) (r : Rule) (own : Nat) (near : List Nat) : Prop := 0 < k ∧ byWord r = true ∧ near.length ≤ 1000 ∧ ∀ t, r = .sum t → ∃ row x, t[own]? = some row ∧ row[near.sum]? = some x
theorem natsI (l : List Nat) : l.map nI = (l.map fun n : Nat => (n : Int)).map PyData.int := by rw [List.map_map]; rfl
theorem sum_natI : ∀ (l : List Nat), (l.map fun n : Nat => (n : Int)).sum = (l.sum : Nat)
  | [] => rfl
  | a :: l => by rw [List.map_cons, List.sum_cons, List.sum_cons, sum_natI l, Int.natCast_add]
section
variable {P : Program} {w : World} {K : PySem.W.Frag} {mg : Str → Option Value} {base : Heap}

theorem sc_number_of_digits : FnScope ["digits", "k", "found", "digit"] ["digits", "k"] (defScope s_number_of_digits) := ⟨rfl, rfl, rfl, by decide +kernel, rfl, by decide +kernel, by decide +kernel⟩
theorem ok_number_of_digits (T : Tx K mg) : Cal P w K mg base 1 "number_of_digits" ["digits", "k"] (spF K (ι := List Nat × Nat) (fun x => [.list (x.1.map nI), nI x.2]) (fun x => x.1.length ≤ 50000 ∧ x.2 < 2 ^ 62) (fun x => nI (nod x.2 x.1))) := by
  refine mkF T.d_number_of_digits sc_number_of_digits (fun _ => rfl) (fun _ _ _ _ _ _ us hl => match us, hl with | [_, _], _ => rfl) fun f cdv A outer s H vs Q E hr M x wd hv hp q => ?_
  obtain ⟨ds, k⟩ := x
  obtain ⟨v0, v1, rfl, h0, h1⟩ := two_of hv
  have e1 := dp_int h1
  subst e1
  obtain ⟨hp1, hp2⟩ := hp
  simp only at hp1 hp2 h0
  refine ⟨_, (pss_cons (ps_set (i := 2) sc_number_of_digits.nd rfl (.inl rfl) pe_int)
      (pss_cons (ps_for PassesOwn.never rfl (pi_listK K (pe_revLK K (pv 0))) (pg_name (i := 3) sc_number_of_digits.nd rfl (.inl rfl)) (pss_one (ps_set (i := 2) sc_number_of_digits.nd rfl (.inl rfl) (pe_op op_add (pe_op op_mul (pv 2) (pv 1)) (pv 3)))))
      (pss_one (ps_ret (pv 2))))), ?_⟩
  refine q_asg (K := K) (M := M) ed_int fun v H1 e hv => ?_
  have ev := dp_int hv
  subst ev
  refine q_for (ds := ds.reverse.map nI) (K := K) (M := M) (Src.eq (src_list (ed_revL (wd.mono e) (ed_var rfl (h0.up (hm_mono e))))) List.map_reverse.symm) fun H2 e2 => ⟨fun i σ' H' => ∃ y, σ' = [some v0, some (.int (k : Int)), some (.int (((ds.reverse.take i).foldl (fun a d => a * k + d) 0 : Nat) : Int)), y] ∧ Same H2 H', ?_, ?_, ?_, ?_⟩
  · exact ⟨none, rfl, Same.refl _⟩
  · rintro i σ' H' ⟨y, rfl, e3⟩
    exact ⟨hm_mono e3, ((wd.mono e).mono e2).mono e3⟩
  · rintro i d x σ' H' H'' hd ⟨y, rfl, e3⟩ e4 hx
    obtain ⟨n, hn, rfl⟩ : ∃ n, ds.reverse[i]? = some n ∧ nI n = d := by
      rw [List.getElem?_map] at hd
      cases hq : ds.reverse[i]? with
      | none => rw [hq] at hd; cases hd
      | some n => rw [hq] at hd; exact ⟨n, rfl, Option.some.inj hd⟩
    show tAsg _ (gName 2) _ _ _
    refine s_asg (K := K) (M := M) (ed_I0 (ed_IC (ed_var rfl (.int _)) (ed_var rfl (.int _)) (.inr ⟨by omega, by omega⟩)) (ed_var rfl hx)) fun v H3 e5 hv2 => ?_
    rw [dp_int hv2]
    refine ⟨some x, ?_, (e3.trans e4).trans e5⟩
    obtain ⟨hlt, he⟩ := List.getElem?_eq_some_iff.mp hn
    rw [List.take_succ_eq_append_getElem hlt, List.foldl_append, he]
    rfl
  · rintro σ' H' ⟨y, rfl, e3⟩
    rw [List.length_map, List.take_length]
    refine s_ret (d := nI (nod k ds)) (ed_var (K := K) (M := M) rfl ?_) fun v H3 e5 hv2 => q v H3 (((e.trans e2).trans e3).trans e5) hv2
    rw [List.foldl_reverse]
    exact .int _

theorem sc_digits_of : FnScope ["number", "k", "many", "found", "left", "turn"] ["number", "k", "many"] (defScope s_digits_of) := ⟨rfl, rfl, rfl, by decide +kernel, rfl, by decide +kernel, by decide +kernel⟩
theorem ok_digits_of (T : Tx K mg) : Cal P w K mg base 1 "digits_of" ["number", "k", "many"] (spF K (ι := Nat × Nat × Nat) (fun x => [nI x.1, nI x.2.1, nI x.2.2]) (fun x => 0 < x.2.1 ∧ x.2.1 < 1000 ∧ x.2.2 ≤ 1000) (fun x => .list ((dgo x.1 x.2.1 x.2.2).map nI))) := by
  refine mkF T.d_digits_of sc_digits_of (fun _ => rfl) (fun _ _ _ _ _ _ us hl => match us, hl with | [_, _, _], _ => rfl) fun f cdv A outer s H vs Q E hr M x wd hv hp q => ?_
  obtain ⟨n, k, m⟩ := x
  obtain ⟨v0, v1, v2, rfl, h0, h1, h2⟩ := three_of hv
  have e0 := dp_int h0
  have e1 := dp_int h1
  have e2 := dp_int h2
  subst e0 e1 e2
  obtain ⟨hp1, hp2, hp3⟩ := hp
  simp only at hp1 hp2 hp3
  refine ⟨_, (pss_cons (ps_set (i := 3) sc_digits_of.nd rfl (.inl rfl) (pe_lst pa_nil))
      (pss_cons (ps_set (i := 4) sc_digits_of.nd rfl (.inl rfl) (pv 0))
      (pss_cons (ps_for PassesOwn.never rfl (pi_range1 (by rfl) T.b_range (pa_cons (pv 2) pa_nil)) (pg_name (i := 5) sc_digits_of.nd rfl (.inl rfl)) (pss_cons (ps_expr (pe_bmK K PySem.F.plainAttrs_list PySem.F.slot_list_append PySem.F.type_list_append mt_append (pv 3) (pa_cons (pe_op op_mod (pv 4) (pv 1)) pa_nil)))
      (pss_one (ps_set (i := 4) sc_digits_of.nd rfl (.inl rfl) (pe_op op_fdiv (pv 4) (pv 1))))))
      (pss_one (ps_ret (pv 3)))))), ?_⟩
  refine q_new (K := K) wd fun L hL fl => ?_
  have e : Same H (upd H L (.lst [])) := same_new hL
  have hmL : M L = false := wd.new hL
  refine q_asg (K := K) (M := addM M L) (d := nI n) (ed_var rfl (.int _)) fun v H1 e1 hv => ?_
  have ev := dp_int hv
  subst ev
  refine q_for (K := K) (M := addM M L) (src_rng (n := m) (ea_cons (ed_var rfl (.int _)) ea_nil) rfl (by omega)) fun H2 e2 => ⟨fun i σ' H' => ∃ y, σ' = [some (.int (n : Int)), some (.int (k : Int)), some (.int (m : Int)), some (.ref L), some (.int ((n / k ^ i : Nat) : Int)), y] ∧ Fill K M L H H' ((dgo n k i).map nI) ∧ Same (Hm (addM M L) H2) (Hm (addM M L) H'), ?_, ?_, ?_, ?_⟩
  · exact ⟨none, by rw [Nat.pow_zero, Nat.div_one]; rfl, (fl.up e1).up e2, Same.refl _⟩
  · rintro i σ' H' ⟨y, rfl, f3, e3⟩
    exact ⟨e3, f3.wd⟩
  · rintro i d x σ' H' H'' hd ⟨y, rfl, f3, e3⟩ e4 hx
    have hi : i < m := by
      obtain ⟨h, _⟩ := List.getElem?_eq_some_iff.mp hd
      rw [List.length_map, List.length_range] at h; exact h
    show tSeq _ _ _ _ _
    have f4 := f3.up e4
    refine q_app (d := nI (n / k ^ i % k)) (ev_var rfl) f4 hL (EvD.eq (ed_IC (ed_var rfl (.int _)) (ed_var rfl (.int _)) (by show (0 : Int) < (k : Int); omega)) (by show PyData.int _ = .int _; rw [← Int.natCast_emod])) (by
      rw [List.length_map]; unfold dgo; rw [List.length_map, List.length_range]; omega) fun H3 f5 b5 => ?_
    refine s_asg (K := K) (M := addM M L) (d := nI (n / k ^ (i + 1))) (EvD.eq (ed_IC (ed_var rfl (.int _)) (ed_var rfl (.int _)) (by show (0 : Int) < (k : Int) ∧ (k : Int) < 1073741824; omega)) (by
      show PyData.int _ = .int _
      rw [← Int.natCast_ediv, Nat.div_div_eq_div_mul, ← Nat.pow_succ])) fun v H4 e5 hv2 => ?_
    have f6 := f5.up e5
    rw [dp_int hv2]
    refine ⟨some x, rfl, ?_, ?_⟩
    · have z : dgo n k (i + 1) = dgo n k i ++ [n / k ^ i % k] := by unfold dgo; rw [List.range_succ, List.map_append]; rfl
      rw [z, List.map_append]
      exact f6
    · exact ((e3.trans (hm_mono e4)).trans (b5.hm addM_same)).trans (hm_mono e5)
  · rintro σ' H' ⟨y, rfl, f3, e3⟩
    rw [List.length_map, List.length_range] at f3
    exact s_ret (ed_var (K := K) (M := M) rfl (f3.done hmL)) fun v H3 e5 hv2 => q v H3 (f3.old.trans e5) hv2
end
end EIT
end
/-! text N2 -/
section
set_option maxHeartbeats 4000000
/-! next_by_word; halls whose names' tuple has no dict; neighbours as numbers. -/
namespace EIT
open PySem PySem.Spec PyProof.Rows L2
section
variable {P : Program} {w : World} {K : PySem.W.Frag} {mg : Str → Option Value} {base : Heap}
def wordOf : Rule → Str
  | .table _ => "table"
  | .sum _ => "sum"
  | .keep => "keep"
  | .least => "least"
  | .greatest => "greatest"
  | .odd => "odd"
  | .most _ => "most"
  | .copy _ => "copy"
def toldOf : Rule → List PyData
  | .table t => [intsD t]
  | .sum rows => [.tuple (rows.map intsD)]
  | .most n => [.int n]
  | .copy p => [.str p]
  | _ => []
theorem enc_rule (r : Rule) : r.enc = .tuple (.str (wordOf r) :: toldOf r) := by cases r <;> rfl
theorem ed_sumN {M : Mk} {σ : L2.St} {H : Hp} {ta : TE} {l : List Nat} (h : EvD K M ta σ H (.list (l.map nI))) : EvD K M (tCB (rSum K) (tCons ta tNil)) σ H (nI l.sum) := by
  rw [natsI] at h
  exact (ed_sum h).eq (by rw [sum_natI]; rfl)

theorem sc_next_by_word : FnScope ["k", "rule", "own", "others", "word", "one"] ["k", "rule", "own", "others"] (defScope s_next_by_word) := ⟨rfl, rfl, rfl, by decide +kernel, rfl, by decide +kernel, by decide +kernel⟩
theorem ok_next_by_word (T : Tx K mg) : Cal P w K mg base 1 "next_by_word" ["k", "rule", "own", "others"] (spF K (ι := Nat × Rule × Nat × List Nat) (fun x => [nI x.1, x.2.1.enc, nI x.2.2.1, .list (x.2.2.2.map nI)]) (fun x => nextPre x.1 x.2.1 x.2.2.1 x.2.2.2) (fun x => .int (nextW x.1 x.2.1 x.2.2.1 x.2.2.2))) := by
  refine mkF T.d_next_by_word sc_next_by_word (fun _ => rfl) (fun _ _ _ _ _ _ us hl => match us, hl with | [_, _, _, _], _ => rfl) fun f cdv A outer s H vs Q E hr M x wd hv hp q => ?_
  obtain ⟨k, r, own, near⟩ := x
  obtain ⟨v0, v1, v2, v3, rfl, h0, h1, h2, h3⟩ := four_of hv
  obtain ⟨p1, p2, p3, p4⟩ := hp
  simp only at p1 p2 p3 p4 h0 h1 h2 h3
  refine ⟨_, (pss_cons (ps_set (i := 4) sc_next_by_word.nd rfl (.inl rfl) (pe_ix (ix_seqK K) (pv 1) pe_int (fun _ _ => rfl)))
      (pss_cons (ps_if (pt_cmpR op_eq (pv 4) pe_str (nomark _)) (pss_one (ps_ret (pe_ix (ix_seqK K) (pe_ix (ix_seqK K) (pe_ix (ix_seqK K) (pv 1) pe_int (fun _ _ => rfl)) (pv 2) (fun _ _ => rfl)) (pe_callB (cr_sumK K rfl) (by rfl) T.b_sum (by decide +kernel) (pa_cons (pv 3) pa_nil)) (fun _ _ => rfl)))) pss_nil)
      (pss_cons (ps_if (pt_cmpR op_eq (pv 4) pe_str (nomark _)) (pss_one (ps_ret (pe_callB (cr_minK' K rfl) (by rfl) T.b_min (by decide +kernel) (pa_cons (pe_op (op_catLK K) (pe_lst (pa_cons (pv 2) pa_nil)) (pv 3)) pa_nil)))) pss_nil)
      (pss_cons (ps_if (pt_cmpR op_eq (pv 4) pe_str (nomark _)) (pss_one (ps_ret (pe_callB (cr_maxK K rfl) (by rfl) T.b_max (by decide +kernel) (pa_cons (pe_op (op_catLK K) (pe_lst (pa_cons (pv 2) pa_nil)) (pv 3)) pa_nil)))) pss_nil)
      (pss_cons (ps_if (pt_cmpR op_eq (pv 4) pe_str (nomark _)) (pss_one (ps_ret (pe_op op_mod (pe_op op_add (pv 2) (pe_callB (cr_sumK K rfl) (by rfl) T.b_sum (by decide +kernel) (pa_cons (pv 3) pa_nil))) (pv 0)))) pss_nil)
      (pss_cons (ps_if (pt_cmpR op_eq (pv 4) pe_str (nomark _)) (pss_one (ps_ret (pe_callTy call_int1 (by rfl) T.b_int (by decide +kernel) (pa_cons (pe_cmpR op_ge (pe_callB (call_len_seqK K) (by rfl) T.b_len (by decide +kernel) (pa_cons (pe_lc (own := [("one", 5)])  rfl sc_next_by_word.nd (pi_listK K (pv 3)) (blkOk_by (N := ["k", "rule", "own", "others", "word", "one"]) (sc := defScope s_next_by_word) (own := [("one", 5)]) (by decide +kernel)) (fun _ _ _ _ _ => pg_name (i := 5) sc_next_by_word.nd rfl (Or.inl rfl)) (fun _ _ _ _ _ => pts_one (pt_cmpR op_ne (pv 5) pe_int (nomark _))) (fun _ _ _ _ _ => (pv 5))) pa_nil)) (pe_ix (ix_seqK K) (pv 1) pe_int (fun _ _ => rfl)) (nomark _)) pa_nil)))) pss_nil)
      (pss_one (ps_ret (pv 2))))))))), ?_⟩
  refine q_asg (K := K) (M := M) (d := .str (wordOf r)) (ed_ixT' (ds := .str (wordOf r) :: toldOf r) (j := 0) (ed_var rfl (by rw [← enc_rule]; exact h1)) ed_int rfl rfl) fun v H1 e1 hv => ?_
  have ev := dp_str hv
  subst ev
  have h0 := h0.up (hm_mono e1)
  have h1 := h1.up (hm_mono e1)
  have h2 := h2.up (hm_mono e1)
  have h3 := h3.up (hm_mono e1)
  have wd := wd.mono e1
  have q : ∀ v H', Same H1 H' → Dp K (Hm M H') v (.int (nextW k r own near)) → Q v H' := fun v H' e => q v H' (e1.trans e)
  have tst : ∀ (z : Str) (b : Bool), decide (wordOf r = z) = b → ∀ H2, Same H1 H2 → EvT (tTest (tOp rEq (tVar 4) (tC (.str z)))) (L2.start ["k", "rule", "own", "others", "word", "one"] [v0, v1, v2, v3] |>.set 4 (some (.str (wordOf r)))) H2 b := fun z b hb H2 e2 => EvT.eq (et_test (ed_eqS (K := K) (M := M) (ed_var rfl (.str _)) ed_str)) hb
  have hcat : ∀ {σ : L2.St} (H2 : Hp), Same H1 H2 → σ[2]? = some (some v2) → σ[3]? = some (some v3) → EvD K M (tOp (rCatL K) (tLst (tCons (tVar 2) tNil)) (tVar 3)) σ H2 (.list (((own :: near).map fun n : Nat => (n : Int)).map .int)) := fun H2 e2 s1 s2 =>
    (ed_catL (wd.mono e2) (ed_lst (wd.mono e2) (ea_cons (ed_var s1 (h2.up (hm_mono e2))) ea_nil)) (ed_var s2 (h3.up (hm_mono e2))) (by rw [List.length_map]; simp only [List.length_cons, List.length_nil]; omega)).eq (by rw [← natsI]; rfl)
  cases r with
  | table t => exact absurd p2 Bool.false_ne_true
  | copy t => exact absurd p2 Bool.false_ne_true
  | sum t =>
    refine q_yes (tst "sum" true (by show decide (("sum" : Str) = "sum") = true; decide +kernel) H1 (Same.refl _)) fun H2 e2 => ?_
    obtain ⟨row, x, g1, g2⟩ := p4 t rfl
    refine s_ret (d := .int (nextW k (.sum t) own near)) (ed_ixT' (j := near.sum) (ed_ixT' (ds := t.map intsD) (j := own) (ed_ixT' (j := 1) (ed_var rfl (h1.up (hm_mono e2))) ed_int rfl rfl) (ed_var rfl (h2.up (hm_mono e2))) rfl (by rw [List.getElem?_map, g1]; rfl)) (ed_sumN (ed_var rfl (h3.up (hm_mono e2)))) rfl ?_) fun v H3 e3 => q v H3 (e2.trans e3)
    rw [List.getElem?_map, g2]
    show some (PyData.int x) = some (.int (((t[own]?.getD [])[near.sum]?).getD 0))
    rw [g1, Option.getD_some, g2, Option.getD_some]
  | least =>
    refine q_no (tst "sum" false (by decide +kernel) H1 (Same.refl _)) fun H2 e2 => ?_
    refine q_yes (tst "least" true (by decide +kernel) H2 e2) fun H3 e3 => ?_
    have e := e2.trans e3
    refine s_ret (d := .int (nextW k .least own near)) (ed_minL (hcat H3 e rfl rfl) (List.mem_map_of_mem (mnN_mem near own)) ?_) fun v H3 e3 => q v H3 (e.trans e3)
    intro y hy
    obtain ⟨z, hz, rfl⟩ := List.mem_map.mp hy
    exact Int.ofNat_le.mpr (mnN_le near own z hz)
  | greatest =>
    refine q_no (tst "sum" false (by decide +kernel) H1 (Same.refl _)) fun H2 e2 => ?_
    refine q_no (tst "least" false (by decide +kernel) H2 e2) fun H3 e3 => ?_
    have e := e2.trans e3
    refine q_yes (tst "greatest" true (by decide +kernel) H3 e) fun H4 e4 => ?_
    have e := e.trans e4
    refine s_ret (d := .int (nextW k .greatest own near)) (ed_maxL (hcat H4 e rfl rfl) (List.mem_map_of_mem (mxN_mem near own)) ?_) fun v H3 e3 => q v H3 (e.trans e3)
    intro y hy
    obtain ⟨z, hz, rfl⟩ := List.mem_map.mp hy
    exact Int.ofNat_le.mpr (mxN_le near own z hz)
  | odd =>
    refine q_no (tst "sum" false (by decide +kernel) H1 (Same.refl _)) fun H2 e2 => ?_
    refine q_no (tst "least" false (by decide +kernel) H2 e2) fun H3 e3 => ?_
    have e := e2.trans e3
    refine q_no (tst "greatest" false (by decide +kernel) H3 e) fun H4 e4 => ?_
    have e := e.trans e4
    refine q_yes (tst "odd" true (by decide +kernel) H4 e) fun H5 e5 => ?_
    have e := e.trans e5
    refine s_ret (d := .int (nextW k .odd own near)) (EvD.eq (ed_IC (ed_I0 (ed_var rfl (h2.up (hm_mono e))) (ed_sumN (ed_var rfl (h3.up (hm_mono e))))) (ed_var rfl (h0.up (hm_mono e))) (by show (0 : Int) < (k : Int); omega)) ?_) fun v H3 e3 => q v H3 (e.trans e3)
    show PyData.int (((own : Int) + (near.sum : Nat)) % (k : Int)) = .int (((own + near.sum) % k : Nat) : Int)
    rw [← Int.natCast_add, ← Int.natCast_emod]
  | most n =>
    refine q_no (tst "sum" false (by show decide (("most" : Str) = "sum") = false; decide +kernel) H1 (Same.refl _)) fun H2 e2 => ?_
    refine q_no (tst "least" false (by show decide (("most" : Str) = "least") = false; decide +kernel) H2 e2) fun H3 e3 => ?_
    have e := e2.trans e3
    refine q_no (tst "greatest" false (by show decide (("most" : Str) = "greatest") = false; decide +kernel) H3 e) fun H4 e4 => ?_
    have e := e.trans e4
    refine q_no (tst "odd" false (by show decide (("most" : Str) = "odd") = false; decide +kernel) H4 e) fun H5 e5 => ?_
    have e := e.trans e5
    refine q_yes (tst "most" true (by show decide (("most" : Str) = "most") = true; decide +kernel) H5 e) fun H6 e6 => ?_
    have e := e.trans e6
    refine s_ret (d := .int (nextW k (.most n) own near)) (EvD.eq (ed_intB (b := decide (n ≤ ((near.filter fun o => o != 0).length : Int))) (EvD.eq (ed_IB (g := fun i j => decide (j ≤ i)) (i := ((near.filter fun o => o != 0).length : Int)) (j := n) (EvD.eq (ed_lenL (ed_filter (xs := near) (enc := nI) (f := fun o => o != 0) (r := nI) (wd.mono e) (src_list (ed_var rfl (h3.up (hm_mono e)))) (by omega) (fun _ => rfl) fun a ha M' H7 z e7 e8 wd7 hz => ⟨EvT.eq (et_test (ed_neI (ed_var rfl hz) ed_int)) ?_, ed_var rfl hz⟩)) ?_) (ed_ixT' (j := 1) (ed_var rfl (h1.up (hm_mono e))) ed_int rfl rfl)) ?_)) ?_) fun v H3 e3 => q v H3 (e.trans e3)
    · show (!decide ((a : Int) = 0)) = (a != 0)
      by_cases h : a = 0
      · subst h; rfl
      · rw [decide_eq_false (by omega : ¬ (a : Int) = 0), bne_iff_ne.mpr h]; rfl
    · rw [List.length_map]
    · rfl
    · rfl
  | keep =>
    refine q_no (tst "sum" false (by decide +kernel) H1 (Same.refl _)) fun H2 e2 => ?_
    refine q_no (tst "least" false (by decide +kernel) H2 e2) fun H3 e3 => ?_
    have e := e2.trans e3
    refine q_no (tst "greatest" false (by decide +kernel) H3 e) fun H4 e4 => ?_
    have e := e.trans e4
    refine q_no (tst "odd" false (by decide +kernel) H4 e) fun H5 e5 => ?_
    have e := e.trans e5
    refine q_no (tst "most" false (by decide +kernel) H5 e) fun H6 e6 => ?_
    have e := e.trans e6
    exact s_ret (d := .int (nextW k .keep own near)) (ed_var rfl (h2.up (hm_mono e))) fun v H3 e3 => q v H3 (e.trans e3)
end
end EIT
end
/-! text N3 -/
section
set_option maxHeartbeats 4000000
/-! halls whose names' tuple has no dict; neighbours as numbers; tables. -/
namespace EIT
open PySem PySem.Spec PyProof.Rows L2
/-- a promise about things told by any relation -/
def spR {ι : Type} (pre : ι → Hp → List V → Prop) (post : ι → Hp → V → Prop) : Sp := fun vs H Q _ =>
  ∃ (M : Mk) (x : ι), Wd M H ∧ pre x (Hm M H) vs ∧ ∀ v H', Same H H' → post x (Hm M H') v → Q v H'
def EvB (ta : TA) (σ : L2.St) (H : Hp) (P : List V → Hp → Prop) : Prop := ∀ H1, Same H H1 → ∀ Q : List V → Hp → Prop, (∀ vs H2, Same H1 H2 → P vs H2 → Q vs H2) → ta σ H1 Q
/-- a thing told by R, in the part that stands -/
def EvR (M : Mk) (te : TE) (σ : L2.St) (H : Hp) (R : Hp → V → Prop) : Prop := EvP te σ H fun v H' => R (Hm M H') v
def Up (R : Hp → V → Prop) : Prop := ∀ H H' v, Same H H' → R H v → R H' v
section
variable {K : PySem.W.Frag} {M : Mk} {σ : L2.St} {H H' : Hp} {ta tb te to : TE} {tr : TA} {d e : PyData} {ds es : List PyData} {tz : TS} {D : Ends} {R : Hp → V → Prop}
theorem er_var {i : Nat} {v : V} (h : σ[i]? = some (some v)) (u : Up R) (hr : R (Hm M H) v) : EvR M (tVar i) σ H R := fun H1 e Q q => ev_var h H1 e Q fun w H2 e2 hw => by
  cases hw
  exact q v H2 e2 (u _ _ _ (hm_mono (e.trans e2)) hr)
theorem EvR.mono (h : EvR M te σ H R) (e : Same H H') : EvR M te σ H' R := EvP.mono h e
theorem EvR.imp {R' : Hp → V → Prop} (h : EvR M te σ H R) (k : ∀ H v, R H v → R' H v) : EvR M te σ H R' := fun H1 e Q q => h H1 e Q fun v H2 e2 hv => q v H2 e2 (k _ _ hv)
theorem er_d (h : EvR M te σ H R) (k : ∀ H v, R H v → Dp K H v d) : EvD K M te σ H d := EvR.imp h k
theorem up_dp : Up (fun H v => Dp K H v d) := fun _ _ _ e h => h.up e
theorem eb_nil : EvB tNil σ H fun vs _ => vs = [] := fun H1 _ _ q => q [] H1 (Same.refl H1) rfl
theorem eb_cons {P : List V → Hp → Prop} (u : Up R) (h : EvR M te σ H R) (hr : EvB tr σ H P) : EvB (tCons te tr) σ H fun vs H' => ∃ v r, vs = v :: r ∧ R (Hm M H') v ∧ P r H' := fun H1 e Q q =>
  h H1 e _ fun x H2 e2 hx => hr H2 (e.trans e2) _ fun xs H3 e3 hxs => q _ H3 (e2.trans e3) ⟨x, xs, rfl, u _ _ _ (hm_mono e3) hx, hxs⟩
theorem EvB.imp {P P' : List V → Hp → Prop} (h : EvB tr σ H P) (k : ∀ vs H, P vs H → P' vs H) : EvB tr σ H P' := fun H1 e Q q => h H1 e Q fun v H2 e2 hv => q v H2 e2 (k _ _ hv)
theorem EvA.b (h : EvA K M tr σ H ds) : EvB tr σ H fun vs H' => DpAll K (Hm M H') vs ds := h
theorem er_call {ι : Type} {pre : ι → Hp → List V → Prop} {post : ι → Hp → V → Prop} {E : XK} (x : ι) (wd : Wd M H) (h : EvB tr σ H fun vs H' => pre x (Hm M H') vs) : EvR M (tCall (spR pre post) [] E tr) σ H (post x) := fun H1 e Q q =>
  h H1 e _ fun vs H2 e2 hvs => by
    refine ⟨M, x, wd.mono (e.trans e2), ?_, fun v H' e3 hv => q v H' (e2.trans e3) hv⟩
    rw [List.append_nil]
    exact hvs
theorem ed_callR {ι : Type} {pre : ι → Hp → List V → Prop} {res : ι → PyData} {E : XK} (x : ι) (wd : Wd M H) (h : EvB tr σ H fun vs H' => pre x (Hm M H') vs) : EvD K M (tCall (spR pre fun x H v => Dp K H v (res x)) [] E tr) σ H (res x) := er_call (post := fun x H v => Dp K H v (res x)) x wd h
theorem q_asgR {i : Nat} (h : EvR M te σ H R) (k : ∀ v H1, Same H H1 → R (Hm M H1) v → tz D (σ.set i (some v)) H1) : tSeq (tAsg te (gName i)) tz D σ H := EvP.use h fun v H1 e hv => k v H1 e hv
theorem s_retR (h : EvR M te σ H R) (k : ∀ v H1, Same H H1 → R (Hm M H1) v → D.rt v H1) : tRet te D σ H := EvP.use h fun v H1 e hv => k v H1 e hv

/-! ### halls -/
def NmV (K : PySem.W.Frag) (ps : List Str) (H : Hp) (v : V) : Prop := ∃ c, v = .ref c ∧ SqT K H c (ps.map V.str) ∧ Nod H c
def WebV (K : PySem.W.Frag) (w : Web) (H : Hp) (v : V) : Prop := ∃ b x y, v = .ref b ∧ SqT K H b [x, y] ∧ NmV K w.ps H x ∧ Dp K H y (.tuple (w.rs.map roadD))
def HallV (K : PySem.W.Frag) (h : Hall) (H : Hp) (v : V) : Prop := ∃ a x y z, v = .ref a ∧ SqT K H a [x, y, z] ∧ Dp K H x (nI h.k) ∧ WebV K h.web H y ∧ Dp K H z (.tuple (h.rules.map Rule.enc))
theorem up_nm {ps : List Str} : Up (NmV K ps) := fun _ _ _ e ⟨c, h1, h2, h3⟩ => ⟨c, h1, sqT_mono e h2, h3.mono e⟩
theorem up_web {w : Web} : Up (WebV K w) := fun _ _ _ e ⟨b, x, y, h1, h2, h3, h4⟩ => ⟨b, x, y, h1, sqT_mono e h2, up_nm _ _ _ e h3, h4.up e⟩
theorem up_hall {h : Hall} : Up (HallV K h) := fun _ _ _ e ⟨a, x, y, z, h1, h2, h3, h4, h5⟩ => ⟨a, x, y, z, h1, sqT_mono e h2, h3.up e, up_web _ _ _ e h4, h5.up e⟩
theorem nm_dp {ps : List Str} {v : V} (h : NmV K ps H v) : Dp K H v (strsD ps) := by
  obtain ⟨c, rfl, h2, _⟩ := h
  exact .tup h2 (dps_of_strs ps)
theorem web_dp {w : Web} {v : V} (h : WebV K w H v) : Dp K H v w.enc := by
  obtain ⟨b, x, y, rfl, h2, h3, h4⟩ := h
  exact .tup h2 (.cons (nm_dp h3) (.cons h4 .nil))
theorem hall_dp {h : Hall} {v : V} (q : HallV K h H v) : Dp K H v h.enc := by
  obtain ⟨a, x, y, z, rfl, h2, h3, h4, h5⟩ := q
  exact .tup h2 (.cons h3 (.cons (web_dp h4) (.cons h5 .nil)))
theorem er_hall1 {h : Hall} (q : EvR M ta σ H (HallV K h)) : EvR M (tOp (rIx K) ta (tC (.int 1))) σ H (WebV K h.web) := fun H1 e Q k =>
  q H1 e _ fun v H2 e2 hv => by
    obtain ⟨a, x, y, z, rfl, h2, h3, h4, h5⟩ := hv
    exact .inr (.inl ⟨a, [x, y, z], 1, y, rfl, rfl, sqT_mono (hm_sub M H2) h2, rfl, k y H2 e2 h4⟩)
theorem er_web0 {w : Web} (q : EvR M ta σ H (WebV K w)) : EvR M (tOp (rIx K) ta (tC (.int 0))) σ H (NmV K w.ps) := fun H1 e Q k =>
  q H1 e _ fun v H2 e2 hv => by
    obtain ⟨b, x, y, rfl, h2, h3, h4⟩ := hv
    exact .inr (.inl ⟨b, [x, y], 0, x, rfl, rfl, sqT_mono (hm_sub M H2) h2, rfl, k x H2 e2 h3⟩)
theorem g_hall {h : Hall} {i j l : Nat} {v : V} {Q : L2.St → Hp → Prop} (q : HallV K h (Hm M H) v) (k : ∀ x y z, Dp K (Hm M H) x (nI h.k) → WebV K h.web (Hm M H) y → Dp K (Hm M H) z (.tuple (h.rules.map Rule.enc)) → Q (((σ.set i (some x)).set j (some y)).set l (some z)) H) :
    gTup K 3 (gCons (gName i) (gCons (gName j) (gCons (gName l) gNil))) v σ H Q := by
  obtain ⟨a, x, y, z, rfl, h2, h3, h4, h5⟩ := q
  exact ⟨a, _, rfl, sqT_mono (hm_sub M H) h2, rfl, x, [y, z], rfl, y, [z], rfl, z, [], rfl, rfl, k x y z h3 h4 h5⟩
theorem idx_at {ps : List Str} {z : Str} (h : z ∈ ps) : ps[ps.idxOf z]? = some z := by
  have h1 := List.idxOf_lt_length_of_mem h
  rw [List.getElem?_eq_getElem h1, List.getElem_idxOf h1]
theorem idx_no {ps : List Str} {z : Str} (m : Nat) (h : m < ps.idxOf z) : ps[m]? ≠ some z := fun e => by
  have h1 := (List.getElem?_eq_some_iff.mp e)
  obtain ⟨h2, h3⟩ := h1
  have h4 := List.not_of_lt_findIdx (p := (· == z)) (xs := ps) (i := m) h
  rw [h3] at h4
  simp at h4
theorem idx_of {ps : List Str} {z : Str} (h : z ∈ ps) : ps.idxOf z < ps.length := List.idxOf_lt_length_of_mem h
theorem idx_nd {ps : List Str} (nd : ps.Nodup) {i : Nat} {z : Str} (h : ps[i]? = some z) : ps.idxOf z = i := by
  obtain ⟨h1, h2⟩ := List.getElem?_eq_some_iff.mp h
  subst h2
  exact nd.idxOf_getElem i h1
theorem ed_idxN {ps : List Str} {z : Str} (ha : EvR M ta σ H (NmV K ps)) (hb : EvD K M tb σ H (.str z)) (h : z ∈ ps) : EvD K M (tIdxN K ta (tCons tb tNil)) σ H (nI (ps.idxOf z)) := fun H1 e Q q =>
  ha H1 e _ fun v H2 e2 hv => by
    obtain ⟨c, rfl, h2, h3⟩ := hv
    refine ⟨⟨c, rfl, Nod.mono (hm_sub M H2) h3⟩, hb H2 (e.trans e2) _ fun y H3 e3 hy => ?_⟩
    rw [dp_str hy]
    exact ⟨c, ps, z, _, rfl, rfl, sqT_mono e3 (sqT_mono (hm_sub M H2) h2), idx_at h, fun m hm => idx_no m hm, q _ H3 (e2.trans e3) (.int _)⟩
end
section
variable {P : Program} {w : World} {K : PySem.W.Frag} {mg : Str → Option Value} {base : Heap} {x qual : Str} {st : Stmt} {N ps : List Str} {k : Nat}
theorem mkR {ι : Type} {pre : ι → Hp → List V → Prop} {post : ι → Hp → V → Prop} (F : Df K mg x qual st) (S : FnScope N ps (defScope st)) (hl : ∀ i H vs, pre i H vs → vs.length = ps.length)
    (hb : ∀ (kV doc pm : Value) (an : Option Addr) (cdv ct : Value) (us : List Value), us.length = ps.length → bindArgs (PySem.W.fnOf x qual (defArgs st) (defBody st) (defScope st) .none kV doc pm an cdv ct) ⟨us, []⟩ = pure (ps.zip us))
    (body : ∀ (f : Addr) (cdv : Value) (A : Around) (outer : List Env) (s : Shared) (H : Hp) (vs : List V) (Q : VK) (E : XK), Room k (A.deeper (envOfC qual (defScope st) s.heap.objs.size f cdv)) → ∀ (M : Mk) (i : ι), Wd M H → pre i (Hm M H) vs →
      (∀ v H', Same H H' → post i (Hm M H') v → Q v H') →
      ∃ t, PSs (cxOf CX0 P w K mg base N qual (defScope st) f cdv A outer s H E).nox (defBody st) t ∧ t { nx := fun _ H' => Q .non H', rt := Q } (start N vs) H) :
    Cal P w K mg base (k + 1) x ps (spR pre post) :=
  mkS F S (fun vs H Q E ⟨M, i, wd, h, _⟩ => hl i _ vs h) hb fun f cdv A outer s H vs Q E hr ⟨M, i, wd, h, q⟩ => body f cdv A outer s H vs Q E hr M i wd h q
end
section
variable {P : Program} {w : World} {K : PySem.W.Frag} {mg : Str → Option Value} {base : Heap}

/-- the neighbours' numbers -/
def nearN (h : Hall) (at' : Nat) : List Nat := (nbs h.web (h.web.ps[at']?.getD "")).map fun q => h.web.ps.idxOf q
def preHA (K : PySem.W.Frag) (x : Hall × Nat) (H : Hp) (vs : List V) : Prop := HallOk x.1 ∧ x.2 < x.1.web.ps.length ∧ ∃ v, vs = [v, .int (x.2 : Nat)] ∧ HallV K x.1 H v
theorem eb_HA {M : Mk} {σ : L2.St} {H : Hp} {te : TE} {h : Hall} {a i : Nat} {v : V} (p1 : HallOk h) (p2 : a < h.web.ps.length) (hs : σ[i]? = some (some v)) (hv : HallV K h (Hm M H) v) (hb : EvD K M te σ H (nI a)) : EvB (tCons (tVar i) (tCons te tNil)) σ H fun vs H' => preHA K (h, a) (Hm M H') vs :=
  EvB.imp (eb_cons (M := M) up_hall (er_var hs up_hall hv) (eb_cons (M := M) (R := fun H v => Dp K H v (nI a)) up_dp hb eb_nil)) fun vs H' z => by
    obtain ⟨u, r, rfl, g1, u2, r2, rfl, g2, rfl⟩ := z
    cases (dp_int g2)
    exact ⟨p1, p2, u, rfl, g1⟩
theorem nbs_sub {w : Web} {p q : Str} (h : q ∈ nbs w p) : q ∈ w.ps := (List.mem_filter.mp h).1

theorem sc_neighbour_numbers : FnScope ["hall", "at", "web", "place"] ["hall", "at"] (defScope s_neighbour_numbers) := ⟨rfl, rfl, rfl, by decide +kernel, rfl, by decide +kernel, by decide +kernel⟩
theorem ok_neighbour_numbers (T : Tx K mg) : Cal P w K mg base 3 "neighbour_numbers" ["hall", "at"] (spR (preHA K) (fun x H v => Dp K H v (.list ((nearN x.1 x.2).map nI)))) := by
  refine mkR T.d_neighbour_numbers sc_neighbour_numbers (fun i H vs h => by obtain ⟨_, _, v, rfl, _⟩ := h; rfl) (fun _ _ _ _ _ _ us hl => match us, hl with | [_, _], _ => rfl) fun f cdv A outer s H vs Q E hr M x wd hp q => ?_
  obtain ⟨h, a⟩ := x
  obtain ⟨p1, p2, v0, rfl, h0⟩ := hp
  simp only at p1 p2 h0 q
  refine ⟨_, (pss_cons (ps_set (i := 2) sc_neighbour_numbers.nd rfl (.inr rfl) (pe_ix (ix_seqK K) (pv 0) pe_int (fun _ _ => rfl)))
      (pss_one (ps_ret (pe_lc (own := [("place", 3)])  rfl sc_neighbour_numbers.nd (pi_tupK K (pe_cal (ok_neighbours_of T) (hr.mono (by decide)) (by rfl) (pa_cons (pv 2) (pa_cons (pe_ix (ix_seqK K) (pe_ix (ix_seqK K) (pv 2) pe_int (fun _ _ => rfl)) (pv 1) (fun _ _ => rfl)) pa_nil)))) (blkOk_by (N := ["hall", "at", "web", "place"]) (sc := defScope s_neighbour_numbers) (own := [("place", 3)]) (by decide +kernel)) (fun _ _ _ _ _ => pg_name (i := 3) sc_neighbour_numbers.nd rfl (Or.inl rfl)) (fun _ _ _ _ _ => pts_nil) (fun _ _ _ _ _ => (pe_idxN K (pe_ix (ix_seqK K) (pv 2) pe_int (fun _ _ => rfl)) (pa_cons (pv 3) pa_nil))))))), ?_⟩
  refine q_asgR (er_hall1 (er_var rfl up_hall h0)) fun v2 H1 e1 h2 => ?_
  have hat : h.web.ps[a]? = some h.web.ps[a] := List.getElem?_eq_getElem p2
  have hmem : h.web.ps[a] ∈ h.web.ps := List.getElem_mem p2
  refine s_ret (ed_map (xs := nbs h.web h.web.ps[a]) (enc := .str) (r := fun q => nI (h.web.ps.idxOf q)) (wd.mono e1) (src_tup (ed_call (h.web, h.web.ps[a]) (wd.mono e1) (ea_cons (er_d (er_var rfl up_web h2) fun _ _ => web_dp) (ea_cons (ed_ixT' (j := a) (ed_ixT' (j := 0) (ed_var rfl (web_dp h2)) ed_int rfl rfl) (ed_var rfl (.int _)) rfl (by rw [List.getElem?_map, hat]; rfl)) ea_nil)) ⟨p1.web, hmem⟩)) (Nat.le_trans (nbs_len p1.web _) (by decide)) (fun _ => rfl) fun b hb M' H2 z e2 e3 wd2 hz =>
    ed_idxN (er_web0 (er_var rfl up_web (up_web _ _ _ e3 h2))) (ed_var rfl hz) (nbs_sub hb)) fun v H2 e2 hv => q v H2 (e1.trans e2) ?_
  unfold nearN
  rw [hat, List.map_map]
  exact hv
end
end EIT
end
/-! text N4 -/
section
set_option maxHeartbeats 4000000
/-! tables of rules. -/
namespace EIT
open PySem PySem.Spec PyProof.Rows L2
def gt (s : List Nat) (i : Nat) : Nat := s[i]?.getD 0
theorem gt_at {s : List Nat} {i : Nat} (h : i < s.length) : s[i]? = some (gt s i) := by
  unfold gt; rw [List.getElem?_eq_getElem h, Option.getD_some]
theorem sum_le {c : Nat} : ∀ (l : List Nat), (∀ x ∈ l, x ≤ c) → l.sum ≤ l.length * c
  | [], _ => Nat.zero_le _
  | a :: l, h => by
    rw [List.sum_cons, List.length_cons, Nat.succ_mul]
    have h1 := h a List.mem_cons_self
    have h2 := sum_le l fun x hx => h x (List.mem_cons_of_mem _ hx)
    omega
theorem dgo_len (n k m : Nat) : (dgo n k m).length = m := by unfold dgo; rw [List.length_map, List.length_range]
theorem dgo_lt {n k m : Nat} (hk : 0 < k) : ∀ x ∈ dgo n k m, x < k := fun x hx => by
  obtain ⟨i, _, rfl⟩ := List.mem_map.mp hx
  exact Nat.mod_lt _ hk
/-- a rule's value at a number of digits -/
def tv (k : Nat) (r : Rule) (near : List Str) (i : Nat) : Int :=
  match r with
  | .copy p => (gt (dgo i k (near.length + 1)) (1 + near.idxOf p) : Nat)
  | r => nextW k r (gt (dgo i k (near.length + 1)) 0) ((dgo i k (near.length + 1)).drop 1)
def tabOf (k : Nat) (r : Rule) (near : List Str) : List Int :=
  match r with
  | .table t => t
  | r => (List.range (k ^ (near.length + 1))).map (tv k r near)
def nameAt (h : Hall) (a : Nat) : Str := h.web.ps[a]?.getD ""
def ruleAt (h : Hall) (a : Nat) : Rule := h.rules[a]?.getD .keep
def tabAt (h : Hall) (a : Nat) : List Int := tabOf h.k (ruleAt h a) (nbs h.web (nameAt h a))
theorem nameAt_of {h : Hall} {a : Nat} (ha : a < h.web.ps.length) : h.web.ps[a]? = some (nameAt h a) := by
  unfold nameAt; rw [List.getElem?_eq_getElem ha, Option.getD_some]
theorem ruleAt_of {h : Hall} {a : Nat} (ha : a < h.rules.length) : h.rules[a]? = some (ruleAt h a) := by
  unfold ruleAt; rw [List.getElem?_eq_getElem ha, Option.getD_some]
theorem ruleAt_ok {h : Hall} (ok : HallOk h) {a : Nat} (ha : a < h.web.ps.length) : RuleOk h.k (nbs h.web (nameAt h a)) (ruleAt h a) :=
  ok.rule a _ _ (nameAt_of ha) (ruleAt_of (by rw [ok.many]; exact ha))
theorem next_ok {k : Nat} {near : List Str} {r : Rule} (hk : k = 2 ∨ k = 3) (hn : near.length ≤ 8) (ok : RuleOk k near r) (hw : byWord r = true) (i : Nat) : nextPre k r (gt (dgo i k (near.length + 1)) 0) ((dgo i k (near.length + 1)).drop 1) := by
  have hl : ((dgo i k (near.length + 1)).drop 1).length = near.length := by rw [List.length_drop, dgo_len]; omega
  refine ⟨by omega, hw, by omega, fun t e => ?_⟩
  subst e
  obtain ⟨o1, o2⟩ := ok
  have h0 : gt (dgo i k (near.length + 1)) 0 < t.length := by
    rw [o1]
    exact dgo_lt (by omega) _ (List.mem_of_getElem? (gt_at (by rw [dgo_len]; omega)))
  obtain ⟨o3, _⟩ := o2 _ (List.getElem_mem h0)
  have hs : ((dgo i k (near.length + 1)).drop 1).sum < (t[gt (dgo i k (near.length + 1)) 0]).length := by
    rw [o3]
    have := sum_le (c := k - 1) ((dgo i k (near.length + 1)).drop 1) fun x hx => by
      have := dgo_lt (n := i) (m := near.length + 1) (k := k) (by omega) x (List.mem_of_mem_drop hx)
      omega
    rw [hl] at this
    omega
  exact ⟨_, _, List.getElem?_eq_getElem h0, List.getElem?_eq_getElem hs⟩
theorem near_idx {h : Hall} {p q : Str} (hq : q ∈ nbs h.web p) : ((nbs h.web p).map fun q => h.web.ps.idxOf q)[(nbs h.web p).idxOf q]? = some (h.web.ps.idxOf q) ∧ ∀ m, m < (nbs h.web p).idxOf q → ((nbs h.web p).map fun q => h.web.ps.idxOf q)[m]? ≠ some (h.web.ps.idxOf q) := by
  refine ⟨by rw [List.getElem?_map, idx_at hq]; rfl, fun m hm e => ?_⟩
  rw [List.getElem?_map] at e
  cases hz : (nbs h.web p)[m]? with
  | none => rw [hz] at e; cases e
  | some z =>
    rw [hz] at e
    have e2 : h.web.ps.idxOf z = h.web.ps.idxOf q := Option.some.inj e
    have a1 := idx_at (nbs_sub (List.mem_of_getElem? hz))
    have a2 := idx_at (nbs_sub hq)
    rw [e2, a2] at a1
    have : q = z := Option.some.inj a1
    subst this
    exact idx_no m hm hz
theorem word_table : ∀ r : Rule, (∃ t, r = .table t) ∨ decide (wordOf r = "table") = false
  | .table t => .inl ⟨t, rfl⟩
  | .sum _ => .inr (show decide (("sum" : Str) = "table") = false by decide +kernel)
  | .keep => .inr (show decide (("keep" : Str) = "table") = false by decide +kernel)
  | .least => .inr (show decide (("least" : Str) = "table") = false by decide +kernel)
  | .greatest => .inr (show decide (("greatest" : Str) = "table") = false by decide +kernel)
  | .odd => .inr (show decide (("odd" : Str) = "table") = false by decide +kernel)
  | .most _ => .inr (show decide (("most" : Str) = "table") = false by decide +kernel)
  | .copy _ => .inr (show decide (("copy" : Str) = "table") = false by decide +kernel)
theorem word_copy : ∀ r : Rule, (∃ t, r = .copy t) ∨ decide (wordOf r = "copy") = false
  | .table _ => .inr (show decide (("table" : Str) = "copy") = false by decide +kernel)
  | .sum _ => .inr (show decide (("sum" : Str) = "copy") = false by decide +kernel)
  | .keep => .inr (show decide (("keep" : Str) = "copy") = false by decide +kernel)
  | .least => .inr (show decide (("least" : Str) = "copy") = false by decide +kernel)
  | .greatest => .inr (show decide (("greatest" : Str) = "copy") = false by decide +kernel)
  | .odd => .inr (show decide (("odd" : Str) = "copy") = false by decide +kernel)
  | .most _ => .inr (show decide (("most" : Str) = "copy") = false by decide +kernel)
  | .copy t => .inl ⟨t, rfl⟩
theorem byWord_of : ∀ r : Rule, (∃ t, r = .table t) ∨ (∃ p, r = .copy p) ∨ byWord r = true
  | .table t => .inl ⟨t, rfl⟩
  | .copy t => .inr (.inl ⟨t, rfl⟩)
  | .sum _ => .inr (.inr rfl)
  | .keep => .inr (.inr rfl)
  | .least => .inr (.inr rfl)
  | .greatest => .inr (.inr rfl)
  | .odd => .inr (.inr rfl)
  | .most _ => .inr (.inr rfl)
section
variable {P : Program} {w : World} {K : PySem.W.Frag} {mg : Str → Option Value} {base : Heap}

theorem sc_numbers_of : FnScope ["web", "order", "place"] ["web", "order"] (defScope s_numbers_of) := ⟨rfl, rfl, rfl, by decide +kernel, rfl, by decide +kernel, by decide +kernel⟩
theorem ok_numbers_of (T : Tx K mg) : Cal P w K mg base 1 "numbers_of" ["web", "order"] (spR (ι := Web × List Str) (fun x H vs => (∀ p ∈ x.2, p ∈ x.1.ps) ∧ x.2.length ≤ 1000 ∧ ∃ v u, vs = [v, u] ∧ WebV K x.1 H v ∧ Dp K H u (strsD x.2)) (fun x H v => Dp K H v (.list ((x.2.map fun p => x.1.ps.idxOf p).map nI)))) := by
  refine mkR T.d_numbers_of sc_numbers_of (fun i H vs h => by obtain ⟨_, _, v, u, rfl, _⟩ := h; rfl) (fun _ _ _ _ _ _ us hl => match us, hl with | [_, _], _ => rfl) fun f cdv A outer s H vs Q E hr M x wd hp q => ?_
  obtain ⟨web, o⟩ := x
  obtain ⟨p1, p2, v0, v1, rfl, h0, h1⟩ := hp
  simp only at p1 p2 h0 h1 q
  refine ⟨_, (pss_one (ps_ret (pe_lc (own := [("place", 2)])  rfl sc_numbers_of.nd (pi_tupK K (pv 1)) (blkOk_by (N := ["web", "order", "place"]) (sc := defScope s_numbers_of) (own := [("place", 2)]) (by decide +kernel)) (fun _ _ _ _ _ => pg_name (i := 2) sc_numbers_of.nd rfl (Or.inl rfl)) (fun _ _ _ _ _ => pts_nil) (fun _ _ _ _ _ => (pe_idxN K (pe_ix (ix_seqK K) (pv 0) pe_int (fun _ _ => rfl)) (pa_cons (pv 2) pa_nil)))))), ?_⟩
  refine s_ret (ed_map (xs := o) (enc := .str) (r := fun q => nI (web.ps.idxOf q)) wd (src_tup (ed_var rfl h1)) (by omega) (fun _ => rfl) fun b hb M' H2 z e2 e3 wd2 hz =>
    ed_idxN (er_web0 (er_var rfl up_web (up_web _ _ _ e3 h0))) (ed_var rfl hz) (p1 b hb)) fun v H2 e2 hv => q v H2 e2 ?_
  rw [List.map_map]
  exact hv

theorem sc_index_at : FnScope ["hall", "state", "at", "near", "one"] ["hall", "state", "at", "near"] (defScope s_index_at) := ⟨rfl, rfl, rfl, by decide +kernel, rfl, by decide +kernel, by decide +kernel⟩
theorem ok_index_at (T : Tx K mg) : Cal P w K mg base 2 "index_at" ["hall", "state", "at", "near"] (spF K (ι := Hall × List Nat × Nat × List Nat) (fun x => [x.1.enc, .tuple (x.2.1.map nI), nI x.2.2.1, .list (x.2.2.2.map nI)]) (fun x => x.1.k < 1000 ∧ x.2.2.2.length ≤ 1000 ∧ ∀ i ∈ x.2.2.1 :: x.2.2.2, i < x.2.1.length) (fun x => nI (nod x.1.k ((x.2.2.1 :: x.2.2.2).map (gt x.2.1))))) := by
  refine mkF T.d_index_at sc_index_at (fun _ => rfl) (fun _ _ _ _ _ _ us hl => match us, hl with | [_, _, _, _], _ => rfl) fun f cdv A outer s H vs Q E hr M x wd hv hp q => ?_
  obtain ⟨h, st, a, near⟩ := x
  obtain ⟨v0, v1, v2, v3, rfl, h0, h1, h2, h3⟩ := four_of hv
  obtain ⟨p1, p2, p3⟩ := hp
  simp only at p1 p2 p3 h0 h1 h2 h3 q
  refine ⟨_, (pss_one (ps_ret (pe_cal (ok_number_of_digits T) (hr.mono (by decide)) (by rfl) (pa_cons (pe_lc (own := [("one", 4)])  rfl sc_index_at.nd (pi_listK K (pe_op (op_catLK K) (pe_lst (pa_cons (pv 2) pa_nil)) (pv 3))) (blkOk_by (N := ["hall", "state", "at", "near", "one"]) (sc := defScope s_index_at) (own := [("one", 4)]) (by decide +kernel)) (fun _ _ _ _ _ => pg_name (i := 4) sc_index_at.nd rfl (Or.inl rfl)) (fun _ _ _ _ _ => pts_nil) (fun _ _ _ _ _ => (pe_ix (ix_seqK K) (pv 1) (pv 4) (fun _ _ => rfl)))) (pa_cons (pe_ix (ix_seqK K) (pv 0) pe_int (fun _ _ => rfl)) pa_nil))))), ?_⟩
  refine s_ret (ed_call ((a :: near).map (gt st), h.k) wd (ea_cons (EvD.eq (ed_map (xs := a :: near) (enc := nI) (r := fun i => nI (gt st i)) wd (src_list (ed_catL wd (ed_lst wd (ea_cons (ed_var rfl h2) ea_nil)) (ed_var rfl h3) (by rw [List.length_map]; simp only [List.length_cons, List.length_nil]; omega))) (by rw [List.length_cons]; omega) (fun _ => rfl) fun b hb M' H2 z e2 e3 wd2 hz =>
    ed_ixT' (j := b) (ed_var rfl (h1.up e3)) (ed_var rfl hz) rfl (by rw [List.getElem?_map, gt_at (p3 b hb)]; rfl)) (by rw [List.map_map]; rfl)) (ea_cons (ed_ixT' (j := 0) (ed_var rfl h0) ed_int rfl rfl) ea_nil)) ⟨by rw [List.length_map, List.length_cons]; show near.length + 1 ≤ 50000; omega, by show h.k < 2 ^ 62; omega⟩) q

theorem sc_table_in : FnScope ["hall", "at", "k", "web", "rules", "rule", "near", "found", "index", "digits"] ["hall", "at"] (defScope s_table_in) := ⟨rfl, rfl, rfl, by decide +kernel, rfl, by decide +kernel, by decide +kernel⟩
theorem ok_table_in (T : Tx K mg) : Cal P w K mg base 4 "table_in" ["hall", "at"] (spR (preHA K) (fun x H v => Dp K H v (intsD (tabAt x.1 x.2)))) := by
  refine mkR T.d_table_in sc_table_in (fun i H vs h => by obtain ⟨_, _, v, rfl, _⟩ := h; rfl) (fun _ _ _ _ _ _ us hl => match us, hl with | [_, _], _ => rfl) fun f cdv A outer s H vs Q E hr M x wd hp q => ?_
  obtain ⟨h, a⟩ := x
  have hp' := hp
  obtain ⟨p1, p2, v0, rfl, h0⟩ := hp
  simp only at p1 p2 h0 q
  refine ⟨_, (pss_cons (ps_asg (pv 0) (pg_tupK (n := 3) K rfl (pgs_cons (pg_name (i := 2) sc_table_in.nd rfl (.inl rfl)) (pgs_cons (pg_name (i := 3) sc_table_in.nd rfl (.inl rfl)) (pgs_cons (pg_name (i := 4) sc_table_in.nd rfl (.inl rfl)) pgs_nil)))))
      (pss_cons (ps_par (i := 5) (j := 6) rfl sc_table_in.nd rfl rfl (by decide) rfl rfl (pa_cons (pe_ix (ix_seqK K) (pv 4) (pv 1) (fun _ _ => rfl)) (pa_cons (pe_cal (ok_neighbour_numbers T) (hr.mono (by decide)) (by rfl) (pa_cons (pv 0) (pa_cons (pv 1) pa_nil))) pa_nil)) (by rfl))
      (pss_cons (ps_if (pt_cmpR op_eq (pe_ix (ix_seqK K) (pv 5) pe_int (fun _ _ => rfl)) pe_str (nomark _)) (pss_one (ps_ret (pe_ix (ix_seqK K) (pv 5) pe_int (fun _ _ => rfl)))) pss_nil)
      (pss_cons (ps_set (i := 7) sc_table_in.nd rfl (.inl rfl) (pe_lst pa_nil))
      (pss_cons (ps_for PassesOwn.never rfl (pi_range1 (by rfl) T.b_range (pa_cons (pe_cal (ok_power T) (hr.mono (by decide)) (by rfl) (pa_cons (pv 2) (pa_cons (pe_op op_add (pe_callB (call_len_seqK K) (by rfl) T.b_len (by decide +kernel) (pa_cons (pv 6) pa_nil)) pe_int) pa_nil))) pa_nil)) (pg_name (i := 8) sc_table_in.nd rfl (.inl rfl)) (pss_cons (ps_set (i := 9) sc_table_in.nd rfl (.inl rfl) (pe_cal (ok_digits_of T) (hr.mono (by decide)) (by rfl) (pa_cons (pv 8) (pa_cons (pv 2) (pa_cons (pe_op op_add (pe_callB (call_len_seqK K) (by rfl) T.b_len (by decide +kernel) (pa_cons (pv 6) pa_nil)) pe_int) pa_nil)))))
      (pss_one (ps_if (pt_cmpR op_eq (pe_ix (ix_seqK K) (pv 5) pe_int (fun _ _ => rfl)) pe_str (nomark _)) (pss_one (ps_expr (pe_bmK K PySem.F.plainAttrs_list PySem.F.slot_list_append PySem.F.type_list_append mt_append (pv 7) (pa_cons (pe_ix (ix_seqK K) (pv 9) (pe_op op_add pe_int (pe_bmK K PySem.F.plainAttrs_list PySem.F.slot_list_index PySem.F.type_list_index (mt_indexK K) (pv 6) (pa_cons (pe_idxN K (pe_ix (ix_seqK K) (pv 3) pe_int (fun _ _ => rfl)) (pa_cons (pe_ix (ix_seqK K) (pv 5) pe_int (fun _ _ => rfl)) pa_nil)) pa_nil))) (fun _ _ => rfl)) pa_nil)))) (pss_one (ps_expr (pe_bmK K PySem.F.plainAttrs_list PySem.F.slot_list_append PySem.F.type_list_append mt_append (pv 7) (pa_cons (pe_cal (ok_next_by_word T) (hr.mono (by decide)) (by rfl) (pa_cons (pv 2) (pa_cons (pv 5) (pa_cons (pe_ix (ix_seqK K) (pv 9) pe_int (fun _ _ => rfl)) (pa_cons (pe_slice (sl_listK K) (pv 9) (po_some pe_int) po_none) pa_nil))))) pa_nil))))))))
      (pss_one (ps_ret (pe_callTy (call_tuple_ofK K) (by rfl) T.b_tuple (by decide +kernel) (pa_cons (pv 7) pa_nil))))))))), ?_⟩
  have hk := p1.k
  have hkp : 0 < h.k := by omega
  have hnl := nbs_len p1.web (nameAt h a)
  have hnear : nearN h a = (nbs h.web (nameAt h a)).map fun q => h.web.ps.idxOf q := rfl
  have hlen : (nearN h a).length = (nbs h.web (nameAt h a)).length := by rw [hnear, List.length_map]
  have rok := ruleAt_ok p1 p2
  refine EvP.use (er_var (M := M) (i := 0) rfl up_hall h0) fun v H1 e1 hv1 => g_hall hv1 fun x y z hx hy hz => ?_
  show tSeq _ _ _ _ _
  have wd1 := wd.mono e1
  have hh1 := up_hall _ _ _ (hm_mono e1) h0
  refine q_par (a := (ruleAt h a).enc) (b := .list ((nearN h a).map nI)) (ea_cons (ed_ixT' (j := a) (ed_var rfl hz) (ed_var rfl (.int _)) rfl (by rw [List.getElem?_map, ruleAt_of (by rw [p1.many]; exact p2)]; rfl)) (ea_cons (ed_callR (h, a) wd1 (eb_HA p1 p2 rfl hh1 (ed_var rfl (.int _)))) ea_nil)) fun vr vn H2 e2 hvr hvn => ?_
  have wd2 := wd1.mono e2
  have ewo : (ruleAt h a).enc = .tuple (.str (wordOf (ruleAt h a)) :: toldOf (ruleAt h a)) := enc_rule _
  have word : ∀ {σ : L2.St} {M' : Mk} {H3 : Hp}, Same (Hm M H2) (Hm M' H3) → σ[5]? = some (some vr) → EvD K M' (tOp (rIx K) (tVar 5) (tC (.int 0))) σ H3 (.str (wordOf (ruleAt h a))) := fun e3 hσ => ed_ixT' (ds := .str (wordOf (ruleAt h a)) :: toldOf (ruleAt h a)) (j := 0) (ed_var hσ (by rw [← ewo]; exact hvr.up e3)) ed_int rfl rfl
  by_cases ht : ∃ t, ruleAt h a = .table t
  · obtain ⟨t, ht⟩ := ht
    refine q_yes (EvT.eq (et_test (ed_eqS (word (Same.refl _) rfl) ed_str)) (by rw [ht]; show decide (("table" : Str) = "table") = true; decide +kernel)) fun H3 e3 => ?_
    refine s_ret (d := intsD (tabAt h a)) (ed_ixT' (j := 1) (ed_var rfl (by rw [ewo] at hvr; exact hvr.up (hm_mono e3))) ed_int rfl ?_) fun v H4 e4 hv => q v H4 (((e1.trans e2).trans e3).trans e4) hv
    unfold tabAt
    rw [ht]
    rfl
  have hw := (word_table (ruleAt h a)).resolve_left ht
  have htab : tabAt h a = (List.range (h.k ^ ((nbs h.web (nameAt h a)).length + 1))).map (tv h.k (ruleAt h a) (nbs h.web (nameAt h a))) := by
    unfold tabAt tabOf
    cases hr : ruleAt h a with
    | table t => exact absurd ⟨t, hr⟩ ht
    | _ => rfl
  refine q_no (EvT.eq (et_test (ed_eqS (word (Same.refl _) rfl) ed_str)) hw) fun H3 e3 => ?_
  have wd3 := wd2.mono e3
  refine q_new (K := K) wd3 fun L hL fl => ?_
  have hmL : M L = false := wd3.new hL
  have e23 := hm_mono (M := M) e3
  have eL : Same (Hm M H2) (Hm (addM M L) (upd H3 L (.lst []))) := e23.trans fl.dat
  have hpow := pow_small (k := h.k) (m := (nbs h.web (nameAt h a)).length + 1) (by omega) (by omega)
  have lenE : ∀ {σ : L2.St} {M' : Mk} {H4 : Hp}, Same (Hm M H2) (Hm M' H4) → σ[6]? = some (some vn) → EvD K M' (tOp (rI0 fun i j => V.int (i + j)) (tCB (fun xs H Q => ∃ p ys, xs = [.ref p] ∧ (SqL K H p ys ∨ SqT K H p ys) ∧ Q (.int ys.length) H) (tCons (tVar 6) tNil)) (tC (.int 1))) σ H4 (nI ((nbs h.web (nameAt h a)).length + 1)) := fun e4 hσ =>
    EvD.eq (ed_I0 (ed_lenL (ed_var hσ (hvn.up e4))) ed_int) (by rw [List.length_map, hlen]; rfl)
  refine q_for (K := K) (M := addM M L) (src_rng (n := h.k ^ ((nbs h.web (nameAt h a)).length + 1)) (ea_cons (ed_call ((h.k : Int), (nbs h.web (nameAt h a)).length + 1) fl.wd (ea_cons (ed_var rfl (hx.up ((hm_mono e2).trans eL))) (ea_cons (lenE eL rfl) ea_nil)) ⟨by show (h.k : Int).natAbs < 2 ^ 64; omega, by show (nbs h.web (nameAt h a)).length + 1 ≤ 1000; omega⟩) ea_nil) (Int.natCast_pow _ _).symm (by omega)) fun H4 e4 =>
    ⟨fun i σ' H' => ∃ y8 y9, σ' = [some v0, some (.int (a : Nat)), some x, some y, some z, some vr, some vn, some (.ref L), y8, y9] ∧ Fill K M L H3 H' (((List.range i).map (tv h.k (ruleAt h a) (nbs h.web (nameAt h a)))).map .int) ∧ Same (Hm (addM M L) H4) (Hm (addM M L) H'), ?_, ?_, ?_, ?_⟩
  · exact ⟨none, none, rfl, fl.up e4, Same.refl _⟩
  · rintro i σ' H' ⟨y8, y9, rfl, f3, e5⟩
    exact ⟨e5, f3.wd⟩
  · rintro i d xi σ' H' H'' hd ⟨y8, y9, rfl, f3, e5⟩ e6 hxi
    have hi : i < h.k ^ ((nbs h.web (nameAt h a)).length + 1) := by
      obtain ⟨g, _⟩ := List.getElem?_eq_some_iff.mp hd
      rw [List.length_map, List.length_range] at g; exact g
    have hdi : d = nI i := by
      rw [List.getElem?_map, List.getElem?_range hi] at hd
      exact (Option.some.inj hd).symm
    subst hdi
    have f4 := f3.up e6
    have eH : Same (Hm M H2) (Hm (addM M L) H'') := e23.trans f4.dat
    show tSeq _ _ _ _ _
    refine q_asg (d := .list ((dgo i h.k ((nbs h.web (nameAt h a)).length + 1)).map nI)) (ed_call (i, h.k, (nbs h.web (nameAt h a)).length + 1) f4.wd (ea_cons (ed_var rfl hxi) (ea_cons (ed_var rfl (hx.up ((hm_mono e2).trans eH))) (ea_cons (lenE eH rfl) ea_nil))) ⟨hkp, by show h.k < 1000; omega, by show (nbs h.web (nameAt h a)).length + 1 ≤ 1000; omega⟩) fun vd H5 e7 hvd => ?_
    have f5 := f4.up e7
    have eH5 := eH.trans (hm_mono e7)
    have hdl := dgo_len i h.k ((nbs h.web (nameAt h a)).length + 1)
    have hout : (((List.range i).map (tv h.k (ruleAt h a) (nbs h.web (nameAt h a)))).map PyData.int).length < 100000 := by rw [List.length_map, List.length_map, List.length_range]; omega
    have last : ∀ (H6 : Hp), Fill K M L H3 H6 ((((List.range i).map (tv h.k (ruleAt h a) (nbs h.web (nameAt h a)))).map .int) ++ [.int (tv h.k (ruleAt h a) (nbs h.web (nameAt h a)) i)]) → Fill K M L H3 H6 (((List.range (i + 1)).map (tv h.k (ruleAt h a) (nbs h.web (nameAt h a)))).map .int) := fun H6 f6 => by
      rw [List.range_succ, List.map_append, List.map_append]
      exact f6
    have over : ∀ {H6 H7 : Hp}, Same H5 H6 → But L H6 H7 → Same (Hm (addM M L) H4) (Hm (addM M L) H7) := fun e8 b8 => ((e5.trans (hm_mono (e6.trans e7))).trans (hm_mono e8)).trans (b8.hm addM_same)
    by_cases hc : ∃ p, ruleAt h a = .copy p
    · obtain ⟨p, hc⟩ := hc
      have hpn : p ∈ nbs h.web (nameAt h a) := by rw [hc] at rok; exact rok
      refine s_if (EvT.eq (et_test (ed_eqS (word eH5 rfl) ed_str)) (by first | (rw [hc]; done) | (rw [hc]; show decide (("copy" : Str) = "copy") = true; decide +kernel))) (fun _ H6 e8 => ?_) (fun z => Bool.noConfusion z)
      have f6 := f5.up e8
      have eH6 := eH5.trans (hm_mono e8)
      have hj := idx_of hpn
      have nx := near_idx hpn
      refine s_app (d := .int (tv h.k (ruleAt h a) (nbs h.web (nameAt h a)) i)) (ev_var rfl) f6 hL (ed_ixL' (j := 1 + (nbs h.web (nameAt h a)).idxOf p) (ed_var rfl (hvd.up (hm_mono e8))) (ed_I0 ed_int (ed_idxI (ns := (nearN h a).map fun n : Nat => (n : Int)) (z := (h.web.ps.idxOf p : Nat)) (j := (nbs h.web (nameAt h a)).idxOf p) (ed_var rfl (by rw [← natsI]; exact hvn.up eH6)) (ed_idxN (er_web0 (er_var rfl up_web (up_web _ _ _ ((hm_mono e2).trans eH6) hy))) (ed_ixT' (j := 1) (ed_var rfl (by rw [ewo] at hvr; exact hvr.up eH6)) ed_int rfl (by rw [hc]; rfl)) (nbs_sub hpn)) ?_ ?_)) ?_ ?_) hout fun H7 f7 b7 => ?_
      · rw [List.getElem?_map, hnear, nx.1]; rfl
      · intro m hm e9
        rw [List.getElem?_map, hnear] at e9
        cases hz2 : ((nbs h.web (nameAt h a)).map fun q => h.web.ps.idxOf q)[m]? with
        | none => rw [hz2] at e9; cases e9
        | some z2 =>
          rw [hz2] at e9
          have e10 : z2 = h.web.ps.idxOf p := Int.ofNat.inj (Option.some.inj e9)
          exact nx.2 m hm (by rw [hz2, e10])
      · rw [Int.natCast_add]
        try rfl
      · rw [List.getElem?_map, gt_at (by rw [hdl]; omega), hc]; rfl
      · exact ⟨_, _, rfl, last _ f7, over e8 b7⟩
    · have hw2 := (word_copy (ruleAt h a)).resolve_left hc
      have hbw := ((byWord_of (ruleAt h a)).resolve_left ht).resolve_left hc
      refine s_if (EvT.eq (et_test (ed_eqS (word eH5 rfl) ed_str)) hw2) (fun z => Bool.noConfusion z) fun _ H6 e8 => ?_
      have f6 := f5.up e8
      have eH6 := eH5.trans (hm_mono e8)
      refine s_app (d := .int (tv h.k (ruleAt h a) (nbs h.web (nameAt h a)) i)) (ev_var rfl) f6 hL (EvD.eq (ed_call (h.k, ruleAt h a, gt (dgo i h.k ((nbs h.web (nameAt h a)).length + 1)) 0, (dgo i h.k ((nbs h.web (nameAt h a)).length + 1)).drop 1) f6.wd (ea_cons (ed_var rfl (hx.up ((hm_mono e2).trans eH6))) (ea_cons (ed_var rfl (hvr.up eH6)) (ea_cons (ed_ixL' (j := 0) (ed_var rfl (hvd.up (hm_mono e8))) ed_int rfl (by rw [List.getElem?_map, gt_at (by rw [hdl]; omega)]; rfl)) (ea_cons (EvD.eq (ed_slL f6.wd (ed_var rfl (hvd.up (hm_mono e8))) (eo_some (K := K) (M := addM M L) ed_int) eo_none) ?_) ea_nil)))) (next_ok hk hnl rok hbw i)) ?_) hout fun H7 f7 b7 => ?_
      · have s1 : HT.sIx ((dgo i h.k ((nbs h.web (nameAt h a)).length + 1)).map nI).length 0 (some 1) = 1 := by
          rw [List.length_map, hdl]; unfold HT.sIx; simp
        have s2 : HT.sIx ((dgo i h.k ((nbs h.web (nameAt h a)).length + 1)).map nI).length ((dgo i h.k ((nbs h.web (nameAt h a)).length + 1)).map nI).length none = ((dgo i h.k ((nbs h.web (nameAt h a)).length + 1)).map nI).length := rfl
        rw [s1, s2, List.map_drop]
        congr 1
        exact List.take_of_length_le (by rw [List.length_drop] <;> omega)
      · show PyData.int _ = .int _
        congr 1
        revert hbw
        unfold tv
        cases ruleAt h a with
        | copy t => intro z; exact Bool.noConfusion z
        | _ => intros; rfl
      · exact ⟨_, _, rfl, last _ f7, over e8 b7⟩
  · rintro σ' H' ⟨y8, y9, rfl, f3, e5⟩
    rw [List.length_map, List.length_range] at f3
    refine s_ret (d := intsD (tabAt h a)) (ed_tupleOfL (wd3.mono f3.old) (ed_var rfl ?_)) fun v H5 e6 hv => q v H5 (((e1.trans e2).trans e3).trans (f3.old.trans e6)) hv
    rw [htab]
    exact f3.done hmL
end
end EIT
end
/-! text P1 -/
section
/-! Plain: digits, the numbers of states, steps. -/
namespace EIT
open PySem PySem.Spec PyProof.Rows L2
/-- the digits of a state's number, the greatest first -/
def dgs (k : Nat) : Nat → Nat → List Nat
  | 0, _ => []
  | n + 1, m => dgs k n (m / k) ++ [m % k]
theorem dgs_len (k : Nat) : ∀ (n m : Nat), (dgs k n m).length = n
  | 0, _ => rfl
  | n + 1, m => by unfold dgs; rw [List.length_append, dgs_len k n]; rfl
theorem dgs_lt {k : Nat} (hk : 0 < k) : ∀ (n m : Nat), ∀ x ∈ dgs k n m, x < k
  | 0, _, x, h => by cases h
  | n + 1, m, x, h => by
    unfold dgs at h
    rcases List.mem_append.mp h with e | e
    · exact dgs_lt hk n _ x e
    · rw [List.mem_singleton] at e; rw [e]; exact Nat.mod_lt _ hk
theorem dgs_at (k : Nat) : ∀ (n m a : Nat), a < n → gt (dgs k n m) a = m / k ^ (n - 1 - a) % k
  | 0, _, _, h => absurd h (Nat.not_lt_zero _)
  | n + 1, m, a, h => by
    unfold gt dgs
    by_cases e : a = n
    · subst e
      have hl := dgs_len k a (m / k)
      rw [List.getElem?_append_right (by omega), hl, Nat.sub_self]
      rw [show a + 1 - 1 - a = 0 by omega, Nat.pow_zero, Nat.div_one]
      rfl
    · have hlt : a < n := by omega
      rw [List.getElem?_append_left (by rw [dgs_len]; exact hlt)]
      have ih := dgs_at k n (m / k) a hlt
      unfold gt at ih
      rw [ih, Nat.div_div_eq_div_mul, show n + 1 - 1 - a = (n - 1 - a) + 1 by omega, Nat.pow_succ, Nat.mul_comm (k ^ (n - 1 - a)) k]
theorem flat_congr {α β : Type} {f g : α → List β} : ∀ {l : List α}, (∀ x ∈ l, f x = g x) → l.flatMap f = l.flatMap g
  | [], _ => rfl
  | a :: l, h => by rw [List.flatMap_cons, List.flatMap_cons, h a List.mem_cons_self, flat_congr fun x hx => h x (List.mem_cons_of_mem _ hx)]
theorem range_mul {α : Type} (F : Nat → α) (k : Nat) : ∀ a, (List.range (a * k)).map F = (List.range a).flatMap fun m => (List.range k).map fun d => F (m * k + d)
  | 0 => by rw [Nat.zero_mul]; rfl
  | a + 1 => by
    rw [Nat.succ_mul, List.range_add, List.map_append, range_mul F k a, List.range_succ, List.flatMap_append, List.flatMap_singleton, List.map_map]
    rfl
theorem states_succ (k n : Nat) (hk : 0 < k) : (List.range (k ^ (n + 1))).map (fun m => PyData.tuple ((dgs k (n + 1) m).map nI)) = (List.range (k ^ n)).flatMap fun m => (List.range k).map fun d => PyData.tuple ((dgs k n m).map nI ++ [nI d]) := by
  rw [Nat.pow_succ, range_mul]
  refine flat_congr fun m _ => List.map_congr_left fun d hd => ?_
  have hd := List.mem_range.mp hd
  have e : dgs k (n + 1) (m * k + d) = dgs k n m ++ [d] := by
    show dgs k n ((m * k + d) / k) ++ [(m * k + d) % k] = _
    rw [show (m * k + d) / k = m by rw [Nat.mul_comm, Nat.mul_add_div hk, Nat.div_eq_of_lt hd, Nat.add_zero], show (m * k + d) % k = d by rw [Nat.mul_comm, Nat.mul_add_mod, Nat.mod_eq_of_lt hd]]
  rw [e, List.map_append]
  rfl
theorem nod_lt {k : Nat} : ∀ (l : List Nat), (∀ x ∈ l, x < k) → nod k l < k ^ l.length
  | [], _ => by show 0 < 1; decide
  | a :: l, h => by
    have h1 := h a List.mem_cons_self
    have h2 := nod_lt l fun x hx => h x (List.mem_cons_of_mem _ hx)
    show nod k l * k + a < k ^ (l.length + 1)
    rw [Nat.pow_succ]
    have h3 : (nod k l + 1) * k ≤ k ^ l.length * k := Nat.mul_le_mul_right k h2
    rw [Nat.succ_mul] at h3
    omega
/-! ### tables -/
theorem tab_len {k : Nat} {r : Rule} {near : List Str} (ok : RuleOk k near r) : (tabOf k r near).length = k ^ (near.length + 1) := by
  cases r with
  | table t => exact ok.1
  | _ => unfold tabOf; rw [List.length_map, List.length_range]
theorem next_lt {k : Nat} {r : Rule} {near : List Str} (hk : k = 2 ∨ k = 3) (hn : near.length ≤ 8) (ok : RuleOk k near r) (i : Nat) : 0 ≤ tv k r near i ∧ tv k r near i < k ∨ ∃ t, r = .table t := by
  have hkp : 0 < k := by omega
  have dl : ∀ j, j < near.length + 1 → gt (dgo i k (near.length + 1)) j < k := fun j hj => dgo_lt hkp _ (List.mem_of_getElem? (gt_at (by rw [dgo_len]; exact hj)))
  have dr : ∀ x ∈ gt (dgo i k (near.length + 1)) 0 :: (dgo i k (near.length + 1)).drop 1, x < k := fun x hx => by
    rcases List.mem_cons.mp hx with e | e
    · rw [e]; exact dl 0 (by omega)
    · exact dgo_lt hkp _ (List.mem_of_mem_drop e)
  cases r with
  | table t => exact .inr ⟨t, rfl⟩
  | copy p =>
    refine .inl ?_
    have h := dl (1 + near.idxOf p) (by have := List.idxOf_lt_length_of_mem (show p ∈ near from ok); omega)
    show (0 : Int) ≤ ((gt _ _ : Nat) : Int) ∧ ((gt _ _ : Nat) : Int) < k
    omega
  | sum t =>
    refine .inl ?_
    obtain ⟨_, _, _, hs⟩ := next_ok hk hn ok rfl i
    obtain ⟨row, x, g1, g2⟩ := hs t rfl
    obtain ⟨_, o2⟩ := ok
    have := (o2 row (List.mem_of_getElem? g1)).2 x (List.mem_of_getElem? g2)
    show 0 ≤ ((t[_]?.getD [])[_]?).getD 0 ∧ ((t[_]?.getD [])[_]?).getD 0 < (k : Int)
    rw [g1, Option.getD_some, g2, Option.getD_some]
    exact this
  | least =>
    refine .inl ?_
    have := dr _ (mnN_mem ((dgo i k (near.length + 1)).drop 1) (gt (dgo i k (near.length + 1)) 0))
    show (0 : Int) ≤ ((mnN _ _ : Nat) : Int) ∧ ((mnN _ _ : Nat) : Int) < k
    omega
  | greatest =>
    refine .inl ?_
    have := dr _ (mxN_mem ((dgo i k (near.length + 1)).drop 1) (gt (dgo i k (near.length + 1)) 0))
    show (0 : Int) ≤ ((mxN _ _ : Nat) : Int) ∧ ((mxN _ _ : Nat) : Int) < k
    omega
  | odd =>
    refine .inl ?_
    have : (gt (dgo i k (near.length + 1)) 0 + ((dgo i k (near.length + 1)).drop 1).sum) % k < k := Nat.mod_lt _ hkp
    show (0 : Int) ≤ (((_ : Nat) % k : Nat) : Int) ∧ (((_ : Nat) % k : Nat) : Int) < k
    omega
  | most n =>
    refine .inl ?_
    show (0 : Int) ≤ (if _ then (1 : Int) else (0 : Int)) ∧ (if _ then (1 : Int) else (0 : Int)) < (k : Int)
    split <;> omega
  | keep =>
    refine .inl ?_
    have := dl 0 (by omega)
    show (0 : Int) ≤ ((gt _ _ : Nat) : Int) ∧ ((gt _ _ : Nat) : Int) < k
    omega
theorem tab_lt {k : Nat} {r : Rule} {near : List Str} (hk : k = 2 ∨ k = 3) (hn : near.length ≤ 8) (ok : RuleOk k near r) : ∀ x ∈ tabOf k r near, 0 ≤ x ∧ x < k := fun x hx => by
  rcases byWord_of r with ⟨t, rfl⟩ | h
  · exact ok.2 x hx
  · have e : tabOf k r near = (List.range (k ^ (near.length + 1))).map (tv k r near) := by
      cases r with
      | table t => rcases h with ⟨p, h⟩ | h
                   · cases h
                   · cases h
      | _ => rfl
    rw [e] at hx
    obtain ⟨i, _, rfl⟩ := List.mem_map.mp hx
    rcases next_lt hk hn ok i with z | ⟨t, rfl⟩
    · exact z
    · rcases h with ⟨p, h⟩ | h
      · cases h
      · cases h
/-! ### steps -/
def sized (h : Hall) : Nat := h.k ^ h.web.ps.length
/-- the index that a state has in the table of a place -/
def ixAt (h : Hall) (a m : Nat) : Nat := nod h.k ((a :: nearN h a).map (gt (dgs h.k h.web.ps.length m)))
def stI (h : Hall) (a m : Nat) : Int := m + (h.k : Int) ^ (h.web.ps.length - 1 - a) * (((tabAt h a)[ixAt h a m]?).getD 0 - gt (dgs h.k h.web.ps.length m) a)
def stN (h : Hall) (a m : Nat) : Nat := (stI h a m).toNat
theorem nearN_lt {h : Hall} {a : Nat} : ∀ i ∈ nearN h a, i < h.web.ps.length := fun i hi => by
  obtain ⟨q, hq, rfl⟩ := List.mem_map.mp hi
  exact idx_of (nbs_sub hq)
theorem gt_lt {k n m a : Nat} (hk : 0 < k) (ha : a < n) : gt (dgs k n m) a < k := dgs_lt hk n m _ (List.mem_of_getElem? (gt_at (by rw [dgs_len]; exact ha)))
theorem ixAt_lt {h : Hall} (ok : HallOk h) {a : Nat} (ha : a < h.web.ps.length) (m : Nat) : ixAt h a m < (tabAt h a).length := by
  have hk := ok.k
  unfold tabAt
  rw [tab_len (ruleAt_ok ok ha)]
  unfold ixAt
  have hl : ((a :: nearN h a).map (gt (dgs h.k h.web.ps.length m))).length = (nbs h.web (nameAt h a)).length + 1 := by
    rw [List.length_map, List.length_cons]; unfold nearN nameAt; rw [List.length_map]
  rw [← hl]
  refine nod_lt _ fun x hx => ?_
  obtain ⟨i, hi, rfl⟩ := List.mem_map.mp hx
  refine gt_lt (by omega) ?_
  rcases List.mem_cons.mp hi with e | e
  · rw [e]; exact ha
  · exact nearN_lt i e
theorem tabAt_of {h : Hall} (ok : HallOk h) {a : Nat} (ha : a < h.web.ps.length) (m : Nat) : ∃ t : Nat, t < h.k ∧ (tabAt h a)[ixAt h a m]? = some (t : Int) := by
  have hl := ixAt_lt ok ha m
  have hb := tab_lt ok.k (nbs_len ok.web (nameAt h a)) (ruleAt_ok ok ha) _ (List.getElem_mem hl)
  refine ⟨((tabAt h a)[ixAt h a m]).toNat, ?_, ?_⟩
  · unfold tabAt at *; omega
  · rw [List.getElem?_eq_getElem hl]
    congr 1
    unfold tabAt at *
    omega
theorem step_lt {k n a m t : Nat} (hk : 0 < k) (ha : a < n) (hm : m < k ^ n) (ht : t < k) :
    ∃ j : Nat, j < k ^ n ∧ (m : Int) + (k : Int) ^ (n - 1 - a) * ((t : Int) - (m / k ^ (n - 1 - a) % k : Nat)) = (j : Int) ∧ j = m / (k ^ (n - 1 - a) * k) * (k ^ (n - 1 - a) * k) + t * k ^ (n - 1 - a) + m % k ^ (n - 1 - a) := by
  generalize hw : k ^ (n - 1 - a) = w
  have hwp : 0 < w := by rw [← hw]; exact Nat.pow_pos hk
  have hn : k ^ n = w * k * k ^ a := by
    rw [← hw, ← Nat.pow_succ, ← Nat.pow_add]; congr 1; omega
  have e1 : m = w * (m / w) + m % w := (Nat.div_add_mod m w).symm
  have e2 : m / w = k * (m / w / k) + m / w % k := (Nat.div_add_mod (m / w) k).symm
  have e3 : m / w / k = m / (w * k) := Nat.div_div_eq_div_mul m w k
  have hr : m % w < w := Nat.mod_lt _ hwp
  generalize m / (w * k) = q at *
  generalize m / w % k = d at *
  generalize m % w = r at *
  have hq : q < k ^ a := by
    refine Nat.lt_of_mul_lt_mul_left (a := w * k) ?_
    rw [← hn]
    refine Nat.lt_of_le_of_lt ?_ hm
    rw [e1, e2, e3, Nat.mul_add, ← Nat.mul_assoc]
    omega
  refine ⟨q * (w * k) + t * w + r, ?_, ?_, rfl⟩
  · have h1 : (q + 1) * (w * k) ≤ k ^ a * (w * k) := Nat.mul_le_mul_right _ hq
    have h2 : (t + 1) * w ≤ k * w := Nat.mul_le_mul_right _ ht
    rw [hn, Nat.mul_comm (w * k) (k ^ a)]
    rw [Nat.succ_mul] at h1 h2
    rw [Nat.mul_comm k w] at h2
    omega
  · have e4 : m = q * (w * k) + d * w + r := by
      rw [e1, e2, e3, Nat.mul_add, Nat.mul_comm w d, ← Nat.mul_assoc, Nat.mul_comm (w * k) q]
    have hwc : (k : Int) ^ (n - 1 - a) = (w : Int) := by rw [← hw, Int.natCast_pow]
    rw [hwc, e4]
    push_cast
    rw [Int.mul_sub, Int.mul_comm (w : Int) t, Int.mul_comm (w : Int) d]
    omega
theorem stI_of {h : Hall} (ok : HallOk h) {a m : Nat} (ha : a < h.web.ps.length) (hm : m < sized h) : stI h a m = (stN h a m : Int) ∧ stN h a m < sized h := by
  have hk := ok.k
  obtain ⟨t, ht, e⟩ := tabAt_of ok ha m
  obtain ⟨j, hj, ej, _⟩ := step_lt (by omega) ha hm ht
  have z : stI h a m = (j : Int) := by
    unfold stI
    rw [e, Option.getD_some, dgs_at h.k h.web.ps.length m a ha]
    exact ej
  unfold stN
  rw [z]
  exact ⟨by rw [Int.toNat_natCast], by rw [Int.toNat_natCast]; exact hj⟩
def dayOf (h : Hall) (ix : List Nat) (m : Nat) : Nat := ix.foldl (fun m a => stN h a m) m
end EIT
end
/-! text N5 -/
section
set_option maxHeartbeats 4000000
/-! states, steps, days. -/
namespace EIT
open PySem PySem.Spec PyProof.Rows L2
def statesD (k n : Nat) : PyData := .list ((List.range (k ^ n)).map fun m => .tuple ((dgs k n m).map nI))
section
variable {P : Program} {w : World} {K : PySem.W.Frag} {mg : Str → Option Value} {base : Heap}

theorem sc_all_states : FnScope ["hall", "found", "place", "state", "one"] ["hall"] (defScope s_all_states) := ⟨rfl, rfl, rfl, by decide +kernel, rfl, by decide +kernel, by decide +kernel⟩
theorem ok_all_states (T : Tx K mg) : Cal P w K mg base 1 "all_states" ["hall"] (spF K (ι := Hall) (fun x => [x.enc]) HallOk (fun x => statesD x.k x.web.ps.length)) := by
  refine mkF T.d_all_states sc_all_states (fun _ => rfl) (fun _ _ _ _ _ _ us hl => match us, hl with | [_], _ => rfl) fun f cdv A outer s H vs Q E hr M h wd hv hp q => ?_
  obtain ⟨v0, rfl, h0⟩ := one_of hv
  have hk := hp.k
  have hn := hp.web.hi
  refine ⟨_, (pss_cons (ps_set (i := 1) sc_all_states.nd rfl (.inl rfl) (pe_lst (pa_cons (pe_tup pa_nil) pa_nil)))
      (pss_cons (ps_for PassesOwn.never rfl (pi_tupK K (pe_ix (ix_seqK K) (pe_ix (ix_seqK K) (pv 0) pe_int (fun _ _ => rfl)) pe_int (fun _ _ => rfl))) (pg_name (i := 2) sc_all_states.nd rfl (.inl rfl)) (pss_one (ps_setLc2 (i := 1) (own := [("state", 3), ("one", 4)]) (vs1 := [4]) rfl sc_all_states.nd rfl rfl (sw_true rfl rfl rfl (by decide +kernel)) (pi_listK K (pv 1)) (blkOk_by (N := ["hall", "found", "place", "state", "one"]) (sc := defScope s_all_states) (own := [("state", 3), ("one", 4)]) (by decide +kernel)) (by decide) (fun _ _ _ _ _ => pg_name (i := 3) sc_all_states.nd rfl (Or.inl rfl)) (fun _ _ _ _ _ => pts_nil) (fun _ _ _ _ _ => (pi_range1 (by rfl) T.b_range (pa_cons (pe_ix (ix_seqK K) (pv 0) pe_int (fun _ _ => rfl)) pa_nil))) (fun _ _ _ _ _ => pg_name (i := 4) sc_all_states.nd rfl (Or.inl rfl)) (fun _ _ _ _ _ => pts_nil) (fun _ _ _ _ _ => (pe_op (op_catAK K) (pv 3) (pe_tup (pa_cons (pv 4) pa_nil)))))))
      (pss_one (ps_ret (pv 1))))), ?_⟩
  refine q_asg (K := K) (M := M) (d := statesD h.k 0) (EvD.eq (ed_lst wd (ea_cons (ed_tup wd ea_nil) ea_nil)) (by unfold statesD; rw [Nat.pow_zero]; rfl)) fun vf H1 e1 hvf => ?_
  refine q_for (K := K) (M := M) (ds := h.web.ps.map .str) (src_tup (ed_ixT' (j := 0) (ed_ixT' (j := 1) (ed_var rfl (h0.up (hm_mono e1))) ed_int rfl rfl) ed_int rfl rfl)) fun H2 e2 => ⟨fun i σ' H' => ∃ vf y, σ' = [some v0, some vf, y, none, none] ∧ Same H2 H' ∧ Dp K (Hm M H') vf (statesD h.k i), ?_, ?_, ?_, ?_⟩
  · exact ⟨vf, none, rfl, Same.refl _, hvf.up (hm_mono e2)⟩
  · rintro i σ' H' ⟨vf, y, rfl, e3, _⟩
    exact ⟨hm_mono e3, ((wd.mono e1).mono e2).mono e3⟩
  · rintro i d x σ' H' H'' hd ⟨vf, y, rfl, e3, h3⟩ e4 hx
    have hi : i < h.web.ps.length := by
      obtain ⟨g, _⟩ := List.getElem?_eq_some_iff.mp hd
      rw [List.length_map] at g; exact g
    have e03 := ((e1.trans e2).trans e3).trans e4
    have hsz : h.k ^ (i + 1) ≤ 19683 := pow_small (by omega) (by omega)
    show tAsg _ (gName 1) _ _ _
    refine s_asg (K := K) (M := M) (d := statesD h.k (i + 1)) (EvD.eq (ed_lc2 (xs := List.range (h.k ^ i)) (enc := fun m => .tuple ((dgs h.k i m).map nI)) (ys := fun _ => List.range h.k) (enc2 := nI) (r := fun m d => .tuple ((dgs h.k i m).map nI ++ [nI d])) (wd.mono e03) (src_list (ed_var rfl (h3.up (hm_mono e4)))) ?_ (fun _ => rfl) (fun _ _ => rfl)
      (fun m hm M' H3 v e5 e6 wd3 hv3 => src_rng (n := h.k) (ea_cons (ed_ixT' (j := 0) (ed_var rfl (h0.up ((hm_mono e03).trans e6))) ed_int rfl rfl) ea_nil) rfl (by omega))
      fun m d hm hd2 M' H3 v w e5 e6 wd3 hv3 hw3 => ed_catT wd3 (ed_var rfl hv3) (ed_tup wd3 (ea_cons (ed_var rfl hw3) ea_nil)) (by rw [List.length_map, dgs_len]; simp only [List.length_cons, List.length_nil]; omega)) ?_) fun v H3 e5 hv3 => ⟨v, some x, rfl, (e3.trans e4).trans e5, hv3⟩
    · rw [← states_succ h.k i (by omega), List.length_map, List.length_range]
      omega
    · unfold statesD
      rw [states_succ h.k i (by omega)]
  · rintro σ' H' ⟨vf, y, rfl, e3, h3⟩
    rw [List.length_map] at h3
    exact s_ret (ed_var rfl h3) fun v H3 e5 hv3 => q v H3 (((e1.trans e2).trans e3).trans e5) hv3

def preSA (K : PySem.W.Frag) (x : Hall × Nat) (H : Hp) (vs : List V) : Prop := HallOk x.1 ∧ x.2 < x.1.web.ps.length ∧ ∃ v u, vs = [v, u, .int (x.2 : Nat)] ∧ HallV K x.1 H v ∧ Dp K H u (statesD x.1.k x.1.web.ps.length)
theorem sc_steps_at : FnScope ["hall", "states", "at", "table", "near", "weight", "found", "number", "state"] ["hall", "states", "at"] (defScope s_steps_at) := ⟨rfl, rfl, rfl, by decide +kernel, rfl, by decide +kernel, by decide +kernel⟩
theorem ok_steps_at (T : Tx K mg) : Cal P w K mg base 5 "steps_at" ["hall", "states", "at"] (spR (preSA K) (fun x H v => Dp K H v (.list (((List.range (sized x.1)).map (stN x.1 x.2)).map nI)))) := by
  refine mkR T.d_steps_at sc_steps_at (fun i H vs h => by obtain ⟨_, _, v, u, rfl, _⟩ := h; rfl) (fun _ _ _ _ _ _ us hl => match us, hl with | [_, _, _], _ => rfl) fun f cdv A outer s H vs Q E hr M x wd hp q => ?_
  obtain ⟨h, a⟩ := x
  obtain ⟨p1, p2, v0, v1, rfl, h0, h1⟩ := hp
  simp only at p1 p2 h0 h1 q
  have hk := p1.k
  have hn := p1.web.hi
  have hK : h.k ^ h.web.ps.length ≤ 256 := p1.few
  refine ⟨_, (pss_cons (ps_par (i := 3) (j := 4) rfl sc_steps_at.nd rfl rfl (by decide) rfl rfl (pa_cons (pe_cal (ok_table_in T) (hr.mono (by decide)) (by rfl) (pa_cons (pv 0) (pa_cons (pv 2) pa_nil))) (pa_cons (pe_cal (ok_neighbour_numbers T) (hr.mono (by decide)) (by rfl) (pa_cons (pv 0) (pa_cons (pv 2) pa_nil))) pa_nil)) (by rfl))
      (pss_cons (ps_set (i := 5) sc_steps_at.nd rfl (.inl rfl) (pe_cal (ok_power T) (hr.mono (by decide)) (by rfl) (pa_cons (pe_ix (ix_seqK K) (pv 0) pe_int (fun _ _ => rfl)) (pa_cons (pe_op op_sub (pe_op op_sub (pe_callB (call_len_seqK K) (by rfl) T.b_len (by decide +kernel) (pa_cons (pe_ix (ix_seqK K) (pe_ix (ix_seqK K) (pv 0) pe_int (fun _ _ => rfl)) pe_int (fun _ _ => rfl)) pa_nil)) pe_int) (pv 2)) pa_nil))))
      (pss_cons (ps_set (i := 6) sc_steps_at.nd rfl (.inl rfl) (pe_lst pa_nil))
      (pss_cons (ps_for PassesOwn.never rfl (pi_enumK K (by rfl) T.b_enumerate (pa_cons (pv 1) pa_nil)) (pg_tupK (n := 2) K rfl (pgs_cons (pg_name (i := 7) sc_steps_at.nd rfl (.inl rfl)) (pgs_cons (pg_name (i := 8) sc_steps_at.nd rfl (.inl rfl)) pgs_nil))) (pss_one (ps_expr (pe_bmK K PySem.F.plainAttrs_list PySem.F.slot_list_append PySem.F.type_list_append mt_append (pv 6) (pa_cons (pe_op op_add (pv 7) (pe_op op_mul (pv 5) (pe_op op_sub (pe_ix (ix_seqK K) (pv 3) (pe_cal (ok_index_at T) (hr.mono (by decide)) (by rfl) (pa_cons (pv 0) (pa_cons (pv 8) (pa_cons (pv 2) (pa_cons (pv 4) pa_nil))))) (fun _ _ => rfl)) (pe_ix (ix_seqK K) (pv 8) (pv 2) (fun _ _ => rfl))))) pa_nil)))))
      (pss_one (ps_ret (pv 6))))))), ?_⟩
  refine q_par (a := intsD (tabAt h a)) (b := .list ((nearN h a).map nI)) (ea_cons (ed_callR (h, a) wd (eb_HA p1 p2 rfl h0 (ed_var rfl (.int _)))) (ea_cons (ed_callR (h, a) wd (eb_HA p1 p2 rfl h0 (ed_var rfl (.int _)))) ea_nil)) fun vt vn H1 e1 hvt hvn => ?_
  have wd1 := wd.mono e1
  refine q_asg (K := K) (M := M) (d := .int ((h.k : Int) ^ (h.web.ps.length - 1 - a))) (ed_call ((h.k : Int), h.web.ps.length - 1 - a) wd1 (ea_cons (ed_ixT' (j := 0) (ed_var rfl (hall_dp (up_hall _ _ _ (hm_mono e1) h0))) ed_int rfl rfl) (ea_cons (EvD.eq (ed_I0 (ed_I0 (ed_lenT (ed_ixT' (j := 0) (ed_ixT' (j := 1) (ed_var rfl (hall_dp (up_hall _ _ _ (hm_mono e1) h0))) ed_int rfl rfl) ed_int rfl rfl)) ed_int) (ed_var rfl (.int _))) ?_) ea_nil)) ⟨by show (h.k : Int).natAbs < 2 ^ 64; omega, by show h.web.ps.length - 1 - a ≤ 1000; omega⟩) fun vw H2 e2 hvw => ?_
  · rw [List.length_map]
    show PyData.int _ = .int _
    congr 1
    omega
  have wd2 := wd1.mono e2
  refine q_new (K := K) wd2 fun L hL fl => ?_
  have hmL : M L = false := wd2.new hL
  have e02 := e1.trans e2
  have eL : Same (Hm M H) (Hm (addM M L) (upd H2 L (.lst []))) := (hm_mono e02).trans fl.dat
  refine q_for (K := K) (M := addM M L) (src_enum (ea_cons (ed_var rfl (h1.up eL)) ea_nil)) fun H3 e3 =>
    ⟨fun i σ' H' => ∃ y7 y8, σ' = [some v0, some v1, some (.int (a : Nat)), some vt, some vn, some vw, some (.ref L), y7, y8] ∧ Fill K M L H2 H' (((List.range i).map (stN h a)).map nI) ∧ Same (Hm (addM M L) H3) (Hm (addM M L) H'), ?_, ?_, ?_, ?_⟩
  · exact ⟨none, none, rfl, fl.up e3, Same.refl _⟩
  · rintro i σ' H' ⟨y7, y8, rfl, f3, e5⟩
    exact ⟨e5, f3.wd⟩
  · rintro i d xi σ' H' H'' hd ⟨y7, y8, rfl, f3, e5⟩ e6 hxi
    have hi : i < h.k ^ h.web.ps.length := by
      obtain ⟨g, _⟩ := List.getElem?_eq_some_iff.mp hd
      rw [enumD_len, List.length_map, List.length_range] at g; exact g
    have hdi : d = .tuple [nI i, .tuple ((dgs h.k h.web.ps.length i).map nI)] := by
      have z := enumD_get (ds := (List.range (h.k ^ h.web.ps.length)).map fun m => PyData.tuple ((dgs h.k h.web.ps.length m).map nI)) (i := i) (d := .tuple ((dgs h.k h.web.ps.length i).map nI)) (by rw [List.getElem?_map, List.getElem?_range hi]; rfl)
      exact Option.some.inj (hd.symm.trans z)
    subst hdi
    have f4 := f3.up e6
    have eH : Same (Hm M H) (Hm (addM M L) H'') := (hm_mono e02).trans f4.dat
    have eH1 : Same (Hm M H1) (Hm (addM M L) H'') := (hm_mono e2).trans f4.dat
    obtain ⟨z1, z2⟩ := stI_of p1 p2 hi
    refine g_two hxi fun x7 x8 hx7 hx8 => ?_
    have hil := ixAt_lt p1 p2 i
    refine s_app (d := nI (stN h a i)) (ev_var rfl) f4 hL (EvD.eq (ed_I0 (ed_var rfl hx7) (ed_IC (ed_var rfl (hvw.up f4.dat)) (ed_I0 (ed_ixT' (j := ixAt h a i) (d := .int ((tabAt h a)[ixAt h a i]?.getD 0)) (ed_var rfl (hvt.up eH1)) (ed_call (h, dgs h.k h.web.ps.length i, a, nearN h a) f4.wd (ea_cons (ed_var rfl (hall_dp (up_hall _ _ _ eH h0))) (ea_cons (ed_var rfl hx8) (ea_cons (ed_var rfl (.int _)) (ea_cons (ed_var rfl (hvn.up eH1)) ea_nil)))) ⟨by show h.k < 1000; omega, ?_, ?_⟩) rfl ?_) (ed_ixT' (j := a) (ed_var rfl hx8) (ed_var rfl (.int _)) rfl (by rw [List.getElem?_map, gt_at (by rw [dgs_len]; exact p2)]; rfl))) ?_)) ?_) ?_ fun H6 f6 b6 => ⟨_, _, rfl, ?_, ((e5.trans (hm_mono e6)).trans (b6.hm addM_same))⟩
    · show (nearN h a).length ≤ 1000
      unfold nearN
      rw [List.length_map]
      exact Nat.le_trans (nbs_len p1.web _) (by decide)
    · intro j hj
      show j < (dgs h.k h.web.ps.length i).length
      rw [dgs_len]
      rcases List.mem_cons.mp hj with e | e
      · rw [e]; exact p2
      · exact nearN_lt j e
    · rw [List.getElem?_map, List.getElem?_eq_getElem hil]; rfl
    · refine .inl ?_
      have := pow_small (k := h.k) (m := h.web.ps.length - 1 - a) (by omega) (by omega)
      have e : (h.k : Int) ^ (h.web.ps.length - 1 - a) = ((h.k ^ (h.web.ps.length - 1 - a) : Nat) : Int) := (Int.natCast_pow _ _).symm
      rw [e]
      omega
    · show PyData.int (stI h a i) = _
      rw [z1]
      rfl
    · rw [List.length_map, List.length_map, List.length_range]
      omega
    · rw [List.range_succ, List.map_append, List.map_append]
      exact f6
  · rintro σ' H' ⟨y7, y8, rfl, f3, e5⟩
    rw [enumD_len, List.length_map, List.length_range] at f3
    exact s_ret (ed_var rfl (f3.done hmL)) fun v H5 e6 hv => q v H5 ((e1.trans e2).trans (f3.old.trans e6)) hv

def stepsD (h : Hall) : PyData := .list ((List.range h.web.ps.length).map fun a => .list (((List.range (sized h)).map (stN h a)).map nI))
theorem sc_steps_in : FnScope ["hall", "states", "at"] ["hall"] (defScope s_steps_in) := ⟨rfl, rfl, rfl, by decide +kernel, rfl, by decide +kernel, by decide +kernel⟩
theorem ok_steps_in (T : Tx K mg) : Cal P w K mg base 6 "steps_in" ["hall"] (spR (fun x H vs => HallOk x ∧ ∃ v, vs = [v] ∧ HallV K x H v) (fun x H v => Dp K H v (stepsD x))) := by
  refine mkR T.d_steps_in sc_steps_in (fun i H vs h => by obtain ⟨_, v, rfl, _⟩ := h; rfl) (fun _ _ _ _ _ _ us hl => match us, hl with | [_], _ => rfl) fun f cdv A outer s H vs Q E hr M h wd hp q => ?_
  obtain ⟨p1, v0, rfl, h0⟩ := hp
  have hn := p1.web.hi
  refine ⟨_, (pss_cons (ps_set (i := 1) sc_steps_in.nd rfl (.inr rfl) (pe_cal (ok_all_states T) (hr.mono (by decide)) (by rfl) (pa_cons (pv 0) pa_nil)))
      (pss_one (ps_ret (pe_lc (own := [("at", 2)])  rfl sc_steps_in.nd (pi_range1 (by rfl) T.b_range (pa_cons (pe_callB (call_len_seqK K) (by rfl) T.b_len (by decide +kernel) (pa_cons (pe_ix (ix_seqK K) (pe_ix (ix_seqK K) (pv 0) pe_int (fun _ _ => rfl)) pe_int (fun _ _ => rfl)) pa_nil)) pa_nil)) (blkOk_by (N := ["hall", "states", "at"]) (sc := defScope s_steps_in) (own := [("at", 2)]) (by decide +kernel)) (fun _ _ _ _ _ => pg_name (i := 2) sc_steps_in.nd rfl (Or.inl rfl)) (fun _ _ _ _ _ => pts_nil) (fun _ _ _ _ _ => (pe_cal (ok_steps_at T) (hr.mono (by decide)) (by rfl) (pa_cons (pv 0) (pa_cons (pv 1) (pa_cons (pv 2) pa_nil))))))))), ?_⟩
  refine q_asg (K := K) (M := M) (ed_call h wd (ea_cons (ed_var rfl (hall_dp h0)) ea_nil) p1) fun v1 H1 e1 h1 => ?_
  have hh1 := up_hall _ _ _ (hm_mono e1) h0
  refine s_ret (ed_map (xs := List.range h.web.ps.length) (enc := nI) (r := fun a => .list (((List.range (sized h)).map (stN h a)).map nI)) (wd.mono e1) (src_rng (n := h.web.ps.length) (ea_cons (ed_lenT (ed_ixT' (j := 0) (ed_ixT' (j := 1) (ed_var rfl (hall_dp hh1)) ed_int rfl rfl) ed_int rfl rfl)) ea_nil) (by rw [List.length_map]) (by omega)) (by rw [List.length_range]; omega) (fun _ => rfl) fun a ha M' H2 z e2 e3 wd2 hz =>
    ed_callR (h, a) wd2 (EvB.imp (eb_cons (M := M') up_hall (er_var rfl up_hall (up_hall _ _ _ e3 hh1)) (EvA.b (K := K) (M := M') (ea_cons (ed_var rfl (h1.up e3)) (ea_cons (ed_var rfl hz) ea_nil)))) ?_)) fun v H2 e2 hv => q v H2 (e1.trans e2) hv
  rintro vs H3 ⟨v, r, rfl, g1, g2⟩
  obtain ⟨x1, x2, rfl, g3, g4⟩ := two_of g2
  cases (dp_int g4)
  exact ⟨p1, List.mem_range.mp ha, v, x1, rfl, g1, g3⟩

/-- rows of numbers below n, of n each -/
structure RowsOk (n : Nat) (rows : List (List Nat)) : Prop where
  few : n ≤ 50000
  pos : 0 < rows.length
  len : ∀ r ∈ rows, r.length = n
  lt : ∀ r ∈ rows, ∀ x ∈ r, x < n
def dayL (rows : List (List Nat)) (n : Nat) (ix : List Nat) : List Nat := ix.foldl (fun f a => f.map (gt (rows[a]?.getD []))) (List.range n)
theorem sc_day_numbers : FnScope ["steps", "indexes", "found", "at", "row", "number"] ["steps", "indexes"] (defScope s_day_numbers) := ⟨rfl, rfl, rfl, by decide +kernel, rfl, by decide +kernel, by decide +kernel⟩
theorem ok_day_numbers (T : Tx K mg) : Cal P w K mg base 1 "day_numbers" ["steps", "indexes"] (spF K (ι := List (List Nat) × List Nat × Nat) (fun x => [.list (x.1.map fun r => .list (r.map nI)), .list (x.2.1.map nI)]) (fun x => RowsOk x.2.2 x.1 ∧ ∀ i ∈ x.2.1, i < x.1.length) (fun x => .list ((dayL x.1 x.2.2 x.2.1).map nI))) := by
  refine mkF T.d_day_numbers sc_day_numbers (fun _ => rfl) (fun _ _ _ _ _ _ us hl => match us, hl with | [_, _], _ => rfl) fun f cdv A outer s H vs Q E hr M x wd hv hp q => ?_
  obtain ⟨rows, ix, n⟩ := x
  obtain ⟨v0, v1, rfl, h0, h1⟩ := two_of hv
  obtain ⟨p1, p2⟩ := hp
  simp only at p1 p2 h0 h1 q
  have few := p1.few
  have hpos : 0 < rows.length := p1.pos
  have hr0 : rows[0]? = some rows[0] := List.getElem?_eq_getElem p1.pos
  have hl0 := p1.len _ (List.getElem_mem p1.pos)
  refine ⟨_, (pss_cons (ps_set (i := 2) sc_day_numbers.nd rfl (.inl rfl) (pe_listRg rfl (by rfl) T.b_list (prg_1 (by rfl) T.b_range (pe_callB (call_len_seqK K) (by rfl) T.b_len (by decide +kernel) (pa_cons (pe_ix (ix_seqK K) (pv 0) pe_int (fun _ _ => rfl)) pa_nil)))))
      (pss_cons (ps_for PassesOwn.never rfl (pi_listK K (pv 1)) (pg_name (i := 3) sc_day_numbers.nd rfl (.inl rfl)) (pss_cons (ps_set (i := 4) sc_day_numbers.nd rfl (.inr rfl) (pe_ix (ix_seqK K) (pv 0) (pv 3) (fun _ _ => rfl)))
      (pss_one (ps_setLc (i := 2) (own := [("number", 5)])  rfl sc_day_numbers.nd rfl rfl (sw_true rfl rfl rfl (by decide +kernel)) (pi_listK K (pv 2)) (blkOk_by (N := ["steps", "indexes", "found", "at", "row", "number"]) (sc := defScope s_day_numbers) (own := [("number", 5)]) (by decide +kernel)) (fun _ _ _ _ _ => pg_name (i := 5) sc_day_numbers.nd rfl (Or.inl rfl)) (fun _ _ _ _ _ => pts_nil) (fun _ _ _ _ _ => (pe_ix (ix_seqK K) (pv 4) (pv 5) (fun _ _ => rfl)))))))
      (pss_one (ps_ret (pv 2))))), ?_⟩
  refine q_asg (K := K) (M := M) (d := .list ((List.range n).map nI)) (ed_listRg wd (ed_lenL (ed_ixL' (ds := rows.map fun r => .list (r.map nI)) (j := 0) (ed_var rfl h0) ed_int rfl (by rw [List.getElem?_map, hr0]; rfl))) (by rw [List.length_map, hl0]) (by omega)) fun vf H1 e1 hvf => ?_
  refine q_for (K := K) (M := M) (src_list (ed_var rfl (h1.up (hm_mono e1)))) fun H2 e2 => ⟨fun i σ' H' => ∃ vf y3 y4, σ' = [some v0, some v1, some vf, y3, y4, none] ∧ Same H2 H' ∧ (∀ x ∈ dayL rows n (ix.take i), x < n) ∧ (dayL rows n (ix.take i)).length = n ∧ Dp K (Hm M H') vf (.list ((dayL rows n (ix.take i)).map nI)), ?_, ?_, ?_, ?_⟩
  · exact ⟨vf, none, none, rfl, Same.refl _, fun x hx => List.mem_range.mp hx, List.length_range, hvf.up (hm_mono e2)⟩
  · rintro i σ' H' ⟨vf, y3, y4, rfl, e3, _⟩
    exact ⟨hm_mono e3, ((wd.mono e1).mono e2).mono e3⟩
  · rintro i d x σ' H' H'' hd ⟨vf, y3, y4, rfl, e3, k1, k2, h3⟩ e4 hx
    have hi : i < ix.length := by
      obtain ⟨g, _⟩ := List.getElem?_eq_some_iff.mp hd
      rw [List.length_map] at g; exact g
    have hdi : d = nI ix[i] := by
      rw [List.getElem?_map, List.getElem?_eq_getElem hi] at hd
      exact (Option.some.inj hd).symm
    subst hdi
    have hlt := p2 _ (List.getElem_mem hi)
    have hrow : rows[ix[i]]? = some rows[ix[i]] := List.getElem?_eq_getElem hlt
    have hrl := p1.len _ (List.getElem_mem hlt)
    have e03 := ((e1.trans e2).trans e3).trans e4
    have hnx : dayL rows n (ix.take (i + 1)) = (dayL rows n (ix.take i)).map (gt rows[ix[i]]) := by
      unfold dayL
      rw [List.take_succ_eq_append_getElem hi, List.foldl_append, List.foldl_cons, List.foldl_nil, hrow, Option.getD_some]
    show tSeq _ _ _ _ _
    refine q_asg (K := K) (M := M) (d := .list (rows[ix[i]].map nI)) (ed_ixL' (ds := rows.map fun r => .list (r.map nI)) (j := ix[i]) (ed_var rfl (h0.up (hm_mono e03))) (ed_var rfl hx) rfl (by rw [List.getElem?_map, hrow]; rfl)) fun vr H3 e5 hvr => ?_
    refine s_asg (K := K) (M := M) (d := .list ((dayL rows n (ix.take (i + 1))).map nI)) (EvD.eq (ed_map (xs := dayL rows n (ix.take i)) (enc := nI) (r := fun m => nI (gt rows[ix[i]] m)) (wd.mono (e03.trans e5)) (src_list (ed_var rfl (h3.up (hm_mono (e4.trans e5))))) (by rw [k2]; omega) (fun _ => rfl) fun m hm M' H4 z e6 e7 wd4 hz =>
      ed_ixL' (j := m) (ed_var rfl (hvr.up e7)) (ed_var rfl hz) rfl (by rw [List.getElem?_map, gt_at (by rw [hrl]; exact k1 m hm)]; rfl)) (by rw [hnx, List.map_map]; rfl)) fun v H4 e6 hv4 => ⟨v, some x, some vr, rfl, ((e3.trans e4).trans e5).trans e6, ?_, ?_, hv4⟩
    · rw [hnx]
      intro y hy
      obtain ⟨m, hm, rfl⟩ := List.mem_map.mp hy
      exact p1.lt _ (List.getElem_mem hlt) _ (List.mem_of_getElem? (gt_at (by rw [hrl]; exact k1 m hm)))
    · rw [hnx, List.length_map]; exact k2
  · rintro σ' H' ⟨vf, y3, y4, rfl, e3, _, _, h3⟩
    rw [List.length_map, List.take_length] at h3
    exact s_ret (ed_var rfl h3) fun v H3 e5 hv3 => q v H3 (((e1.trans e2).trans e3).trans e5) hv3
end
end EIT
end
/-! text P2 -/
section
/-! Plain: iterates of a map of the numbers below N into themselves. -/
namespace EIT
open L2
def it (F : Nat → Nat) : Nat → Nat → Nat
  | 0, x => x
  | i + 1, x => F (it F i x)
theorem it_add (F : Nat → Nat) (b x : Nat) : ∀ a, it F (a + b) x = it F a (it F b x)
  | 0 => by rw [Nat.zero_add]; rfl
  | a + 1 => by rw [Nat.succ_add]; show F (it F (a + b) x) = _; rw [it_add F b x a]; rfl
theorem it_one (F : Nat → Nat) (x : Nat) : it F 1 x = F x := rfl
theorem it_mul {F : Nat → Nat} {L y : Nat} (h : it F L y = y) : ∀ m, it F (L * m) y = y
  | 0 => rfl
  | m + 1 => by rw [Nat.mul_succ, it_add, h, it_mul h m]
section
variable {F : Nat → Nat} {N : Nat}
def Cl (F : Nat → Nat) (N : Nat) : Prop := ∀ x, x < N → F x < N
theorem it_lt (c : Cl F N) : ∀ i {x}, x < N → it F i x < N
  | 0, _, h => h
  | i + 1, x, h => c _ (it_lt c i h)
/-! ascending lists -/
def Asc (l : List Nat) : Prop := l.Pairwise (· < ·)
theorem Asc.nd {l : List Nat} (h : Asc l) : l.Nodup := List.Pairwise.imp (fun h => Nat.ne_of_lt h) h
theorem asc_ext : ∀ {l m : List Nat}, Asc l → Asc m → (∀ x, x ∈ l ↔ x ∈ m) → l = m
  | [], [], _, _, _ => rfl
  | [], b :: m, _, _, h => absurd ((h b).mpr List.mem_cons_self) (by simp)
  | a :: l, [], _, _, h => absurd ((h a).mp List.mem_cons_self) (by simp)
  | a :: l, b :: m, h1, h2, h => by
    obtain ⟨h3, h4⟩ := List.pairwise_cons.mp h1
    obtain ⟨h5, h6⟩ := List.pairwise_cons.mp h2
    have e : a = b := by
      rcases List.mem_cons.mp ((h a).mp List.mem_cons_self) with e | e
      · exact e
      · rcases List.mem_cons.mp ((h b).mpr List.mem_cons_self) with e2 | e2
        · exact e2.symm
        · have := h5 a e
          have := h3 b e2
          omega
    subst e
    rw [asc_ext h4 h6 fun x => ?_]
    constructor
    · intro hx
      rcases List.mem_cons.mp ((h x).mp (List.mem_cons_of_mem _ hx)) with e | e
      · have := h3 x hx; omega
      · exact e
    · intro hx
      rcases List.mem_cons.mp ((h x).mpr (List.mem_cons_of_mem _ hx)) with e | e
      · have := h5 x hx; omega
      · exact e
theorem asc_filter (p : Nat → Bool) (n : Nat) : Asc ((List.range n).filter p) := List.Pairwise.filter _ List.pairwise_lt_range
theorem sub_eq {l m : List Nat} (h1 : l.Nodup) (hs : ∀ x ∈ l, x ∈ m) (hl : m.length ≤ l.length) (x : Nat) (hx : x ∈ m) : x ∈ l := by
  refine Classical.byContradiction fun hn => ?_
  have := nat_nodup_len (x :: l) m (List.nodup_cons.mpr ⟨hn, h1⟩) (fun y hy => by
    rcases List.mem_cons.mp hy with e | e
    · rw [e]; exact hx
    · exact hs y e)
  rw [List.length_cons] at this
  omega
/-! the images -/
def imgs (F : Nat → Nat) (N i : Nat) : List Nat := (List.range N).filter fun y => (List.range N).any fun x => it F i x == y
theorem mem_imgs {i y : Nat} : y ∈ imgs F N i ↔ y < N ∧ ∃ x, x < N ∧ it F i x = y := by
  unfold imgs
  rw [List.mem_filter, List.mem_range, List.any_eq_true]
  constructor
  · rintro ⟨h, x, hx, e⟩
    exact ⟨h, x, List.mem_range.mp hx, beq_iff_eq.mp e⟩
  · rintro ⟨h, x, hx, e⟩
    exact ⟨h, x, List.mem_range.mpr hx, beq_iff_eq.mpr e⟩
theorem imgs_zero : imgs F N 0 = List.range N := by
  refine asc_ext (asc_filter _ _) List.pairwise_lt_range fun x => ?_
  rw [mem_imgs, List.mem_range]
  exact ⟨fun h => h.1, fun h => ⟨h, x, h, rfl⟩⟩
theorem imgs_len (i : Nat) : (imgs F N i).length ≤ N := by
  have h := List.length_filter_le (fun y => (List.range N).any fun x => it F i x == y) (List.range N)
  rw [List.length_range] at h
  exact h
/-- the next images are the images' images -/
theorem imgs_succ (c : Cl F N) {i y : Nat} : y ∈ imgs F N (i + 1) ↔ ∃ x ∈ imgs F N i, F x = y := by
  rw [mem_imgs]
  constructor
  · rintro ⟨h, x, hx, e⟩
    exact ⟨it F i x, mem_imgs.mpr ⟨it_lt c i hx, x, hx, rfl⟩, e⟩
  · rintro ⟨z, hz, e⟩
    obtain ⟨h1, x, hx, e2⟩ := mem_imgs.mp hz
    exact ⟨e ▸ c z h1, x, hx, by show F (it F i x) = y; rw [e2, e]⟩
theorem imgs_sub (c : Cl F N) {i y : Nat} (h : y ∈ imgs F N (i + 1)) : y ∈ imgs F N i := by
  obtain ⟨h1, x, hx, e⟩ := mem_imgs.mp h
  refine mem_imgs.mpr ⟨h1, F x, c x hx, ?_⟩
  have := it_add F 1 x i
  rw [it_one] at this
  rw [← this, e]
theorem imgs_le (c : Cl F N) (i : Nat) : (imgs F N (i + 1)).length ≤ (imgs F N i).length := nat_nodup_len _ _ (asc_filter _ _).nd fun x hx => imgs_sub c hx
/-! periods -/
def isPer (F : Nat → Nat) (N y : Nat) : Bool := (List.range N).any fun j => it F (j + 1) y == y
def per (F : Nat → Nat) (N : Nat) : List Nat := (List.range N).filter (isPer F N)
theorem isPer_iff {y : Nat} : isPer F N y = true ↔ ∃ j, j < N ∧ it F (j + 1) y = y := by
  unfold isPer
  rw [List.any_eq_true]
  constructor
  · rintro ⟨j, hj, e⟩
    exact ⟨j, List.mem_range.mp hj, beq_iff_eq.mp e⟩
  · rintro ⟨j, hj, e⟩
    exact ⟨j, List.mem_range.mpr hj, beq_iff_eq.mpr e⟩
theorem mem_per {y : Nat} : y ∈ per F N ↔ y < N ∧ isPer F N y = true := by unfold per; rw [List.mem_filter, List.mem_range]
/-- what is periodic is an image, however far -/
theorem per_img (c : Cl F N) {y : Nat} (h : y ∈ per F N) (i : Nat) : y ∈ imgs F N i := by
  obtain ⟨h1, h2⟩ := mem_per.mp h
  obtain ⟨j, hj, e⟩ := isPer_iff.mp h2
  refine mem_imgs.mpr ⟨h1, it F ((j + 1) * i - i) y, it_lt c _ h1, ?_⟩
  rw [← it_add]
  have h3 : i ≤ (j + 1) * i := Nat.le_mul_of_pos_left i (Nat.succ_pos j)
  rw [show i + ((j + 1) * i - i) = (j + 1) * i by omega]
  exact it_mul e i
/-- a map onto a list of numbers is one to one there -/
theorem onto_inj {l : List Nat} (nd : l.Nodup) (ho : ∀ y ∈ l, ∃ x ∈ l, F x = y) {a b : Nat} (ha : a ∈ l) (hb : b ∈ l) (e : F a = F b) : a = b := by
  refine Classical.byContradiction fun hne => ?_
  -- without a all are still met
  have key : ∀ y ∈ l, y ∈ (l.erase a).map F := fun y hy => by
    obtain ⟨x, hx, ex⟩ := ho y hy
    by_cases hxa : x = a
    · subst hxa
      exact List.mem_map.mpr ⟨b, (List.mem_erase_of_ne fun z => hne z.symm).mpr hb, by rw [← e, ex]⟩
    · exact List.mem_map.mpr ⟨x, (List.mem_erase_of_ne hxa).mpr hx, ex⟩
  have h := nat_nodup_len l ((l.erase a).map F) nd key
  rw [List.length_map, List.length_erase_of_mem ha] at h
  have := List.length_pos_of_mem ha
  omega
/-- where the images grow no fewer, they are what is periodic -/
theorem imgs_per (c : Cl F N) {i : Nat} (h : (imgs F N (i + 1)).length = (imgs F N i).length) : imgs F N (i + 1) = per F N := by
  have hsame : ∀ y ∈ imgs F N i, y ∈ imgs F N (i + 1) := fun y hy => sub_eq (asc_filter _ _).nd (fun x hx => imgs_sub c hx) (Nat.le_of_eq h.symm) y hy
  have honto : ∀ y ∈ imgs F N i, ∃ x ∈ imgs F N i, F x = y := fun y hy => (imgs_succ c).mp (hsame y hy)
  have hin : ∀ x ∈ imgs F N i, F x ∈ imgs F N i := fun x hx => imgs_sub c ((imgs_succ c).mpr ⟨x, hx, rfl⟩)
  have hinj : ∀ {a b}, a ∈ imgs F N i → b ∈ imgs F N i → F a = F b → a = b := fun ha hb e => onto_inj (asc_filter _ _).nd honto ha hb e
  have hit : ∀ j {x}, x ∈ imgs F N i → it F j x ∈ imgs F N i := fun j => by
    induction j with
    | zero => exact fun h => h
    | succ j ih => exact fun h => hin _ (ih h)
  have hback : ∀ j {a b}, a ∈ imgs F N i → b ∈ imgs F N i → it F j a = it F j b → a = b := fun j => by
    induction j with
    | zero => exact fun _ _ e => e
    | succ j ih => exact fun ha hb e => ih ha hb (hinj (hit j ha) (hit j hb) e)
  refine asc_ext (asc_filter _ _) (asc_filter _ _) fun y => ⟨fun hy => ?_, fun hy => per_img c hy _⟩
  have hy0 := imgs_sub c hy
  have hyN : y < N := (mem_imgs.mp hy).1
  refine mem_per.mpr ⟨hyN, isPer_iff.mpr ?_⟩
  -- two of the first N + 1 are the same
  have hdup : ¬ ((List.range (N + 1)).map fun j => it F j y).Nodup := fun nd => by
    have := nat_nodup_len _ (List.range N) nd fun x hx => by
      obtain ⟨j, _, rfl⟩ := List.mem_map.mp hx
      exact List.mem_range.mpr (it_lt c j hyN)
    rw [List.length_map, List.length_range, List.length_range] at this
    omega
  refine Classical.byContradiction fun hno => hdup ?_
  refine List.pairwise_map.mpr (List.Pairwise.imp_of_mem ?_ (List.pairwise_lt_range (n := N + 1)))
  intro a b ha hb hab e
  have ha' := List.mem_range.mp ha
  have hb' := List.mem_range.mp hb
  refine hno ⟨b - a - 1, by omega, ?_⟩
  have e2 : it F a y = it F a (it F (b - a) y) := by rw [← it_add, show a + (b - a) = b by omega]; exact e
  have e3 := hback a hy0 (hit (b - a) hy0) e2
  rw [show b - a - 1 + 1 = b - a by omega]
  exact e3.symm
/-! the least period, 0 where there is none -/
def mp (F : Nat → Nat) (N y : Nat) : Nat := match (List.range N).find? fun j => it F (j + 1) y == y with
  | some j => j + 1
  | none => 0
theorem find_least {p : Nat → Bool} : ∀ (n : Nat) {j}, (List.range n).find? p = some j → j < n ∧ p j = true ∧ ∀ k, k < j → p k = false := by
  intro n j h
  obtain ⟨h1, h2⟩ := List.find?_range_eq_some.mp h
  exact ⟨List.mem_range.mp h2.1, h1, fun k hk => by simpa using h2.2 k hk⟩
theorem mp_pos {y : Nat} : 0 < mp F N y ↔ isPer F N y = true := by
  unfold mp isPer
  cases e : (List.range N).find? fun j => it F (j + 1) y == y with
  | some j =>
    obtain ⟨h1, h2, _⟩ := find_least N e
    exact ⟨fun _ => List.any_eq_true.mpr ⟨j, List.mem_range.mpr h1, h2⟩, fun _ => Nat.succ_pos j⟩
  | none =>
    refine ⟨fun h => absurd h (Nat.lt_irrefl _), fun h => ?_⟩
    obtain ⟨j, h1, h2⟩ := List.any_eq_true.mp h
    exact absurd h2 (List.find?_eq_none.mp e j h1)
theorem mp_spec {y : Nat} (h : 0 < mp F N y) : mp F N y ≤ N ∧ it F (mp F N y) y = y ∧ ∀ k, 0 < k → k < mp F N y → it F k y ≠ y := by
  unfold mp at h ⊢
  cases e : (List.range N).find? fun j => it F (j + 1) y == y with
  | none => rw [e] at h; exact absurd h (Nat.lt_irrefl _)
  | some j =>
    obtain ⟨h1, h2, h3⟩ := find_least N e
    refine ⟨h1, beq_iff_eq.mp h2, fun k hk hkj => ?_⟩
    have := h3 (k - 1) (by show k - 1 < j; have : k < j + 1 := hkj; omega)
    rw [show k - 1 + 1 = k by omega] at this
    exact beq_eq_false_iff_ne.mp this
/-- a period is a multiple of the least -/
theorem mp_dvd {y k : Nat} (h : 0 < mp F N y) (e : it F k y = y) : mp F N y ∣ k := by
  obtain ⟨_, h2, h3⟩ := mp_spec h
  refine Nat.dvd_of_mod_eq_zero (Classical.byContradiction fun hne => ?_)
  refine h3 (k % mp F N y) (Nat.pos_of_ne_zero hne) (Nat.mod_lt _ h) ?_
  have e2 : k = k % mp F N y + mp F N y * (k / mp F N y) := by rw [Nat.add_comm]; exact (Nat.div_add_mod k _).symm
  rw [e2, it_add, it_mul h2] at e
  exact e
theorem mp_unique {y L : Nat} (hL : 0 < L) (hN : L ≤ N) (e : it F L y = y) (hm : ∀ k, 0 < k → it F k y = y → L ∣ k) : mp F N y = L := by
  have hp : isPer F N y = true := isPer_iff.mpr ⟨L - 1, by omega, by rw [show L - 1 + 1 = L by omega]; exact e⟩
  have h0 := mp_pos.mpr hp
  obtain ⟨_, h2, _⟩ := mp_spec h0
  exact Nat.dvd_antisymm (mp_dvd h0 e) (hm _ h0 h2)
end
end EIT
end
/-! text R4 -/
section
set_option maxHeartbeats 4000000
/-! Cells: lists that change, any number of them; while; sorted sets. -/
namespace EIT
open PySem PySem.Spec PyProof.Rows L2
theorem asc_extI : ∀ {l m : List Int}, l.Pairwise (· < ·) → m.Pairwise (· < ·) → (∀ x, x ∈ l ↔ x ∈ m) → l = m
  | [], [], _, _, _ => rfl
  | [], b :: m, _, _, h => absurd ((h b).mpr List.mem_cons_self) (by simp)
  | a :: l, [], _, _, h => absurd ((h a).mp List.mem_cons_self) (by simp)
  | a :: l, b :: m, h1, h2, h => by
    obtain ⟨h3, h4⟩ := List.pairwise_cons.mp h1
    obtain ⟨h5, h6⟩ := List.pairwise_cons.mp h2
    have e : a = b := by
      rcases List.mem_cons.mp ((h a).mp List.mem_cons_self) with e | e
      · exact e
      · rcases List.mem_cons.mp ((h b).mpr List.mem_cons_self) with e2 | e2
        · exact e2.symm
        · have := h5 a e
          have := h3 b e2
          omega
    subst e
    rw [asc_extI h4 h6 fun x => ?_]
    constructor
    · intro hx
      rcases List.mem_cons.mp ((h x).mp (List.mem_cons_of_mem _ hx)) with e | e
      · have := h3 x hx; omega
      · exact e
    · intro hx
      rcases List.mem_cons.mp ((h x).mpr (List.mem_cons_of_mem _ hx)) with e | e
      · have := h5 x hx; omega
      · exact e
theorem asc_cast {l : List Nat} (h : Asc l) : (l.map fun n : Nat => (n : Int)).Pairwise (· < ·) := List.pairwise_map.mpr (List.Pairwise.imp (fun h => Int.ofNat_lt.mpr h) h)
section
variable {K : PySem.W.Frag} {M Mt : Mk} {σ : L2.St} {H H0 H' : Hp} {ta tb te to : TE} {tr : TA} {d e : PyData} {ds es out : List PyData} {tz tu : TS} {D : Ends} {L : Addr} {t : TT} {w : World} {wi : TI}
/-- a list that changes, masked -/
structure Cell (K : PySem.W.Frag) (Mt : Mk) (L : Addr) (H' : Hp) (out : List PyData) : Prop where
  msk : Mt L = true
  acc : ∃ acc, H' L = some (.lst acc) ∧ DpAll K (Hm Mt H') acc out
theorem Cell.up {H'' : Hp} (c : Cell K Mt L H' out) (e : Same H' H'') : Cell K Mt L H'' out := by
  obtain ⟨m, acc, h1, h2⟩ := c
  exact ⟨m, acc, e _ _ h1, h2.up (hm_mono e)⟩
/-- a list elsewhere changed -/
theorem Cell.but {H'' : Hp} {L' : Addr} (c : Cell K Mt L H' out) (b : But L' H' H'') (hm : Mt L' = true) (hne : L ≠ L') : Cell K Mt L H'' out := by
  obtain ⟨m, acc, h1, h2⟩ := c
  exact ⟨m, acc, b _ _ hne h1, h2.up (b.hm hm)⟩
theorem But.same {L : Addr} (b : But L H H') (e : Same H0 H) (h : H0 L = none) : Same H0 H' := fun a o ha => b a o (ne_of_none ha h) (e a o ha)
theorem But.wd {L : Addr} (b : But L H H') (wd : Wd Mt H) (h : H' L ≠ none) : Wd Mt H' := fun a ha hn => by
  by_cases e : a = L
  · rw [e] at hn; exact h hn
  · cases q : H a with
    | none => exact wd a ha q
    | some o => rw [b a o e q] at hn; cases hn
theorem Cell.there (c : Cell K Mt L H' out) : H' L ≠ none := by
  obtain ⟨m, acc, h1, h2⟩ := c
  rw [h1]; intro z; cases z
theorem Cell.done (c : Cell K Mt L H' out) (hm : M L = false) (sub : ∀ a, M a = true → Mt a = true) : Dp K (Hm M H') (.ref L) (.list out) := by
  obtain ⟨m, acc, h1, h2⟩ := c
  refine .lst (.of (hm_of hm h1)) (h2.up fun a o h => ?_)
  obtain ⟨g1, g2⟩ := hm_some h
  refine hm_of ?_ g2
  cases z : M a with
  | false => rfl
  | true => rw [sub a z] at g1; cases g1
theorem add_sub {M : Mk} {p : Addr} : ∀ a, M a = true → addM M p a = true := fun _ h => addM_old h
/-- a new one, with what is in it -/
theorem q_newC {i : Nat} (h : EvA K M tr σ H ds) (hl : Nat.ble ds.length 100000 = true) (k : ∀ L H1 vs, Same H H1 → H1 L = none → DpAll K (Hm M H1) vs ds → tz D (σ.set i (some (.ref L))) (upd H1 L (.lst vs))) : tSeq (tAsg (tLst tr) (gName i)) tz D σ H :=
  h H (Same.refl _) _ fun xs H2 e2 hxs => ⟨sz_ok (by rw [dps_len hxs]; exact Nat.le_of_ble_eq_true hl), fun p hp => k p H2 xs e2 hp hxs⟩
theorem cell_new {vs : List V} (wd : Wd M H) (hL : H L = none) (h : DpAll K (Hm M H) vs ds) : Cell K (addM M L) L (upd H L (.lst vs)) ds := ⟨addM_same, vs, upd_same, h.up (hm_new hL)⟩
theorem wd_new {o : HO} (wd : Wd M H) (hL : H L = none) : Wd (addM M L) (upd H L o) := wd_add (wd.mono (same_new hL)) (by rw [upd_same]; intro z; cases z)
theorem s_appC (ht : EvV to σ H' (.ref L)) (c : Cell K Mt L H' out) (hz : EvD K Mt te σ H' d) (hl : out.length < 100000) (k : ∀ H'', Cell K Mt L H'' (out ++ [d]) → But L H' H'' → D.nx σ H'') : tDrop (tBM K "list" rAppend to (tCons te tNil)) D σ H' :=
  ht H' (Same.refl _) _ fun v H3 e3 hv => by
    cases hv
    refine ⟨.inl ⟨rfl, (c.up e3).acc.imp fun acc h => .inl (.inl h.1)⟩, hz H3 e3 _ fun z H4 e4 hz4 => ?_⟩
    obtain ⟨m, acc, k1, k2⟩ := c.up (e3.trans e4)
    refine ⟨L, acc, z, rfl, rfl, k1, sz_lt (by rw [dps_len k2]; exact hl), k _ ⟨m, acc ++ [z], upd_same, ?_⟩ fun a o ha h => by rw [upd_ne ha]; exact e4 _ _ (e3 _ _ h)⟩
    rw [hm_upd m]
    exact dps_append k2 (dps_one hz4)
theorem q_appC (ht : EvV to σ H' (.ref L)) (c : Cell K Mt L H' out) (hz : EvD K Mt te σ H' d) (hl : out.length < 100000) (k : ∀ H'', Cell K Mt L H'' (out ++ [d]) → But L H' H'' → tz D σ H'') : tSeq (tDrop (tBM K "list" rAppend to (tCons te tNil))) tz D σ H' := s_appC (D := { D with nx := tz D }) ht c hz hl k
theorem flat_rep {α : Type} (a : α) : ∀ n, (List.replicate n [a]).flatten = List.replicate n a
  | 0 => rfl
  | n + 1 => by rw [List.replicate_succ, List.flatten_cons, flat_rep a n]; rfl
/-- [b] * n -/
theorem q_rep {i n : Nat} {b : Bool} (hb : EvD K M tb σ H (.int n)) (hn : n ≤ 1000) (k : ∀ L H1, Same H H1 → H1 L = none → tz D (σ.set i (some (.ref L))) (upd H1 L (.lst ((List.replicate n b).map V.bl)))) :
    tSeq (tAsg (tOp rRep (tLst (tCons (tC (.bl b)) tNil)) tb) (gName i)) tz D σ H := by
  show ([V.bl b].length ≤ sizeLine) ∧ _
  refine ⟨sz_ok (Nat.le_of_ble_eq_true rfl), fun p hp => hb _ (same_new hp) _ fun v H1 e1 hv => ?_⟩
  rw [dp_int hv]
  refine ⟨p, n, [.bl b], rfl, rfl, e1 _ _ upd_same, by omega, by omega, sz_ok (by rw [List.length_cons, List.length_nil, Int.toNat_natCast]; omega), fun L hL => ?_⟩
  rw [Int.toNat_natCast, flat_rep, ← List.map_replicate]
  exact k L H1 ((same_new hp).trans e1) hL
theorem dps_set : ∀ {vs : List V} {ds : List PyData} {v : V} {d : PyData} (j : Nat) {H : Hp}, DpAll K H vs ds → Dp K H v d → DpAll K H (vs.set j v) (ds.set j d)
  | _, _, _, _, _, _, .nil, _ => .nil
  | _, _, _, _, 0, _, .cons _ t, h => .cons h t
  | _, _, _, _, j + 1, _, .cons h t, k => .cons h (dps_set j t k)
theorem ixN_nat {n j : Nat} (h : j < n) : ixN n (j : Int) = some j := by
  unfold ixN
  rw [if_pos (by omega), if_pos (by omega), Int.toNat_natCast]
theorem ixN_last {n : Nat} (h : 0 < n) : ixN n (-1) = some (n - 1) := by
  unfold ixN
  rw [if_neg (by omega), if_pos (by omega)]
  congr 1
  omega
/-- L[i] = v -/
theorem s_setC {i : Int} {j : Nat} (hv : EvD K Mt te σ H' d) (ht : EvV to σ H' (.ref L)) (hi : EvD K Mt ta σ H' (.int i)) (hj : ixN out.length i = some j) (c : Cell K Mt L H' out) (k : ∀ H'', Cell K Mt L H'' (out.set j d) → But L H' H'' → D.nx σ H'') : tAsg te (gSub to ta rSetL) D σ H' :=
  hv H' (Same.refl _) _ fun z H3 e3 hz => ht H3 e3 _ fun v H4 e4 hv => hi H4 (e3.trans e4) _ fun y H5 e5 hy => by
    cases hv
    rw [dp_int hy]
    obtain ⟨m, acc, k1, k2⟩ := c.up ((e3.trans e4).trans e5)
    refine ⟨L, acc, i, j, rfl, rfl, k1, by rw [dps_len k2]; exact hj, k _ ⟨m, acc.set j z, upd_same, ?_⟩ fun a o ha h => by rw [upd_ne ha]; exact e5 _ _ (e4 _ _ (e3 _ _ h))⟩
    rw [hm_upd m]
    exact dps_set j k2 (PD.up hz (e4.trans e5))
/-- L[i] -/
theorem ed_ixC {i : Int} {j : Nat} (ht : EvV to σ H' (.ref L)) (c : Cell K Mt L H' out) (hi : EvD K Mt tb σ H' (.int i)) (hj : ixN out.length i = some j) (h : out[j]? = some d) : EvD K Mt (tOp (rIx K) to tb) σ H' d := by
  obtain ⟨m, acc, k1, k2⟩ := c
  obtain ⟨v, h1, h2⟩ := dps_get k2 h
  refine ed_ixM' ht hi k1 ?_ h2
  unfold atI
  rw [dps_len k2, hj]
  exact h1
theorem ed_lenC (ht : EvV ta σ H' (.ref L)) (c : Cell K Mt L H' out) : EvD K Mt (tCB (fun xs H Q => ∃ p ys, xs = [.ref p] ∧ (SqL K H p ys ∨ SqT K H p ys) ∧ Q (.int ys.length) H) (tCons ta tNil)) σ H' (nI out.length) := by
  obtain ⟨m, acc, k1, k2⟩ := c
  exact (ed_lenM ht k1).eq (by rw [dps_len k2]; rfl)
theorem ed_neg {i : Int} (h : EvD K M ta σ H (.int i)) : EvD K M (tUn (rU fun i => V.int (-i)) ta) σ H (.int (-i)) := fun H1 e Q q => h H1 e _ fun v H2 e2 hv => ⟨i, dp_int hv, q _ H2 e2 (.int _)⟩
theorem q_while (W : Nat → L2.St → Hp → Prop) (m0 : Nat) (h0 : W m0 σ H)
    (hs : ∀ m σ' H', W m σ' H' → ∃ b, EvT t σ' H' b ∧ (b = true → ∀ H1, Same H' H1 → ∃ N : L2.St → Hp → Prop, (∀ σ2 H2, N σ2 H2 → ∃ m', m' < m ∧ W m' σ2 H2) ∧ tu { D with nx := N, ct := N, bk := tz D } σ' H1) ∧ (b = false → ∀ H1, Same H' H1 → tz D σ' H1)) : tSeq (tWhile t tu) tz D σ H :=
  ⟨W, ⟨m0, h0⟩, fun m σ' H' hw => by
    obtain ⟨b, hb, h1, h2⟩ := hs m σ' H' hw
    refine hb.use fun H1 e => ?_
    cases b with
    | true => exact h1 rfl H1 e
    | false => exact h2 rfl H1 e⟩
/-- sorted(set(l)) -/
theorem ed_sortSet {l z : List Nat} (wd : Wd M H) (h : EvD K M ta σ H (.list (l.map nI))) (hl : l.length < 4000) (ha : Asc z) (hm : ∀ x, x ∈ z ↔ x ∈ l) : EvD K M (tCB (rSortSetN w) (tCons (tCB (rSetLI w K) (tCons ta tNil)) tNil)) σ H (.list (z.map nI)) := fun H1 e Q q =>
  h H1 e _ fun v H2 e2 hv => by
    rw [natsI] at hv
    obtain ⟨a, xs, rfl, hs, hall⟩ := dp_lst hv
    cases dps_ints hall
    refine ⟨a, _, rfl, sqL_mono (hm_sub M H2) hs, by rw [List.length_map]; exact hl, fun p n hn hp => ?_⟩
    rw [List.length_map] at hn
    refine ⟨p, _, n, rfl, upd_same, by omega, fun ns p2 h1 h2 hp2 => ?_⟩
    have ens : ns = z.map fun n : Nat => (n : Int) := asc_extI h1 (asc_cast ha) fun k => by
      rw [h2 k, decide_eq_true_iff, List.mem_map, List.mem_map]
      exact ⟨fun ⟨x, hx, ex⟩ => ⟨x, (hm x).mpr hx, ex⟩, fun ⟨x, hx, ex⟩ => ⟨x, (hm x).mp hx, ex⟩⟩
    subst ens
    refine q _ _ ((e2.trans (same_new hp)).trans (same_new hp2)) ?_
    have hm2 : M p2 = false := ((wd.mono (e.trans e2)).mono (same_new hp)).new hp2
    rw [natsI]
    exact .lst (.of (hm_of hm2 upd_same)) (dps_of_ints _)
/-- sorted({e for x in l}) -/
theorem ed_sortSc {ι : Type} {xs : List ι} {enc : ι → PyData} {r : ι → Nat} {z : List Nat} {j : Nat} {vs : List Nat} (wd : Wd M H) (hsr : Src K M wi σ H (xs.map enc)) (hz : xs.length < 4000) (hw : ∀ x, wipe ((wipe σ vs).set j (some x)) vs = wipe σ vs)
    (h : ∀ (a : ι), a ∈ xs → ∀ (M' : Mk) (H1 : Hp) (v : V), Same H H1 → Same (Hm M H) (Hm M' H1) → Wd M' H1 → Dp K (Hm M' H1) v (enc a) → EvD K M' te ((wipe σ vs).set j (some v)) H1 (nI (r a)))
    (ha : Asc z) (hm : ∀ x, x ∈ z ↔ ∃ a ∈ xs, r a = x) : EvD K M (tCB (rSortSetN w) (tCons (tScI w wi (gName j) te vs) tNil)) σ H (.list (z.map nI)) := fun H1 e1 Q q => hsr H1 e1 _ fun J H2 e2 wk => by
  intro D hD
  have e12 := e1.trans e2
  have wd2 : Wd M H2 := wd.mono e12
  have hmD : M D = false := wd2.new hD
  let S : Nat → Int → Bool := fun i k => decide (k ∈ (xs.take i).map fun a => (r a : Int))
  refine ⟨fun i m H' => m = xs.length - i ∧ i ≤ xs.length ∧ Same H2 H' ∧ Same (Hm M H2) (Hm (addM M D) H') ∧ Wd (addM M D) H' ∧ ∃ n, n ≤ i ∧ H' D = some (SetO w D (S i) n), ⟨xs.length, by omega, Nat.zero_le _, same_new hD, hm_new hD, wd_new wd2 hD, 0, Nat.le_refl _, ?_⟩, ?_⟩
  · rw [upd_same]
    rfl
  rintro i m H' ⟨rfl, hi, e3, e4, wd3, n, hn, hS⟩
  obtain ⟨w1, w2⟩ := wk (addM M D) i H' e4 wd3
  rw [List.length_map] at w1 w2
  by_cases hlt : i < xs.length
  · obtain ⟨go, y⟩ := w1 hlt
    refine .inr ⟨go, fun H'' => Same H2 H'' ∧ Same (Hm M H2) (Hm (addM M D) H'') ∧ Wd (addM M D) H'' ∧ ∃ n, n ≤ i + 1 ∧ H'' D = some (SetO w D (S (i + 1)) n), fun H'' p' => ⟨xs.length - (i + 1), by omega, rfl, hlt, p'⟩, fun x H'' hy => ?_⟩
    obtain ⟨e5, d, hd1, hd2⟩ := y x H'' hy
    have ex : xs[i]? = some xs[i] := List.getElem?_eq_getElem hlt
    rw [List.getElem?_map, ex] at hd1
    have hd3 : enc xs[i] = d := Option.some.inj hd1
    subst hd3
    have wd4 : Wd (addM M D) H'' := wd3.mono e5
    have sD : Same (Hm M H2) (Hm (addM M D) H'') := e4.trans (hm_mono e5)
    refine ⟨hw x, EvP.use (h xs[i] (List.getElem_mem hlt) (addM M D) H'' x ((e12.trans e3).trans e5) ((hm_mono e12).trans sD) wd4 hd2) fun o H3 e6 ho => ?_⟩
    refine ⟨(r xs[i] : Nat), S i, n, dp_int ho, e6 _ _ (e5 _ _ hS), by unfold scanBound; omega, ?_, ?_, ?_, (if S i (r xs[i] : Nat) = true then n else n + 1), ?_, ?_⟩
    · exact same_mut ((e3.trans e5).trans e6) hD
    · rw [hm_upd addM_same]; exact sD.trans (hm_mono e6)
    · intro a ha
      by_cases ea : a = D
      · rw [ea, upd_same]; intro z; cases z
      · rw [upd_ne ea]; exact (wd4.mono e6) a ha
    · split <;> omega
    · rw [upd_same]
      congr 2
      funext k
      show (decide (k ∈ (xs.take i).map fun a => (r a : Int)) || decide (k = (r xs[i] : Int))) = decide (k ∈ (xs.take (i + 1)).map fun a => (r a : Int))
      rw [List.take_succ_eq_append_getElem hlt, List.map_append]
      simp only [List.mem_append, List.map_cons, List.map_nil, List.mem_singleton, Bool.decide_or]
  · have e : i = xs.length := by omega
    subst e
    refine .inl ⟨w2 rfl, ?_⟩
    refine ⟨D, _, n, rfl, hS, by omega, fun ns p2 h1 h2 hp2 => ?_⟩
    have ens : ns = z.map fun n : Nat => (n : Int) := asc_extI h1 (asc_cast ha) fun k => by
      rw [h2 k]
      show decide (k ∈ (xs.take xs.length).map fun a => (r a : Int)) = true ↔ _
      rw [List.take_length, decide_eq_true_iff, List.mem_map, List.mem_map]
      constructor
      · rintro ⟨a, ha, rfl⟩
        exact ⟨r a, (hm _).mpr ⟨a, ha, rfl⟩, rfl⟩
      · rintro ⟨x, hx, rfl⟩
        obtain ⟨a, ha, rfl⟩ := (hm x).mp hx
        exact ⟨a, ha, rfl⟩
    subst ens
    refine q _ _ ((e2.trans e3).trans (same_new hp2)) ?_
    have hm2 : M p2 = false := (wd2.mono e3).new hp2
    rw [natsI]
    exact .lst (.of (hm_of hm2 upd_same)) (dps_of_ints _)
end
end EIT
end
/-! text N6 -/
section
set_option maxHeartbeats 4000000
/-! Days, last ones, rings, lengths. -/
namespace EIT
open PySem PySem.Spec PyProof.Rows L2
theorem gt_map {F : Nat → Nat} {n x : Nat} (h : x < n) : gt ((List.range n).map F) x = F x := by
  unfold gt
  rw [List.getElem?_map, List.getElem?_range h]
  rfl
def rowsOfHall (h : Hall) : List (List Nat) := (List.range h.web.ps.length).map fun a => (List.range (sized h)).map (stN h a)
theorem rows_ok {h : Hall} (ok : HallOk h) : RowsOk (sized h) (rowsOfHall h) := by
  have h1 := ok.few
  refine ⟨by unfold sized; omega, ?_, fun r hr => ?_, fun r hr x hx => ?_⟩
  · unfold rowsOfHall; rw [List.length_map, List.length_range]; exact ok.web.lo
  · obtain ⟨a, _, rfl⟩ := List.mem_map.mp hr
    rw [List.length_map, List.length_range]
  · obtain ⟨a, ha, rfl⟩ := List.mem_map.mp hr
    obtain ⟨m, hm, rfl⟩ := List.mem_map.mp hx
    exact (stI_of ok (List.mem_range.mp ha) (List.mem_range.mp hm)).2
theorem dayL_go {h : Hall} (ok : HallOk h) : ∀ (ix : List Nat) (g : Nat → Nat), (∀ i ∈ ix, i < h.web.ps.length) → (∀ m, m < sized h → g m < sized h) →
    ix.foldl (fun f a => f.map (gt ((rowsOfHall h)[a]?.getD []))) ((List.range (sized h)).map g) = (List.range (sized h)).map fun m => dayOf h ix (g m)
  | [], g, _, _ => rfl
  | a :: ix, g, hi, hg => by
    have ha := hi a List.mem_cons_self
    have hrow : (rowsOfHall h)[a]?.getD [] = (List.range (sized h)).map (stN h a) := by
      unfold rowsOfHall
      rw [List.getElem?_map, List.getElem?_range ha]
      rfl
    rw [List.foldl_cons, hrow]
    have e : ((List.range (sized h)).map g).map (gt ((List.range (sized h)).map (stN h a))) = (List.range (sized h)).map fun m => stN h a (g m) := by
      rw [List.map_map]
      refine List.map_congr_left fun m hm => ?_
      exact gt_map (hg m (List.mem_range.mp hm))
    rw [e, dayL_go ok ix (fun m => stN h a (g m)) (fun i hi' => hi i (List.mem_cons_of_mem _ hi')) fun m hm => (stI_of ok ha (hg m hm)).2]
    rfl
theorem dayL_eq {h : Hall} (ok : HallOk h) {ix : List Nat} (hi : ∀ i ∈ ix, i < h.web.ps.length) : dayL (rowsOfHall h) (sized h) ix = (List.range (sized h)).map (dayOf h ix) := by
  have z := dayL_go ok ix (fun m => m) hi fun m hm => hm
  rw [List.map_id'] at z
  exact z
theorem day_lt {h : Hall} (ok : HallOk h) : ∀ (ix : List Nat), (∀ i ∈ ix, i < h.web.ps.length) → Cl (dayOf h ix) (sized h)
  | [], _, m, hm => hm
  | a :: ix, hi, m, hm => day_lt ok ix (fun i hi' => hi i (List.mem_cons_of_mem _ hi')) _ (stI_of ok (hi a List.mem_cons_self) hm).2

def ixs (h : Hall) (o : List Str) : List Nat := o.map fun p => h.web.ps.idxOf p
theorem ixs_lt {h : Hall} {o : List Str} (ho : ∀ p ∈ o, p ∈ h.web.ps) : ∀ i ∈ ixs h o, i < h.web.ps.length := fun i hi => by
  obtain ⟨p, hp, rfl⟩ := List.mem_map.mp hi
  exact idx_of (ho p hp)
/-- the map of a day in an order -/
def dayF (h : Hall) (o : List Str) : Nat → Nat := dayOf h (ixs h o)
def tabD (F : Nat → Nat) (N : Nat) : PyData := .list (((List.range N).map F).map nI)
def ringOf (F : Nat → Nat) (N n : Nat) : List Nat := (List.range (mp F N n)).map fun i => it F i n
def mark (met : List Bool) (ring : List Nat) : List Bool := ring.foldl (fun m x => m.set x true) met
def rStep (F : Nat → Nat) (N : Nat) (st : List (List Nat) × List Bool) (n : Nat) : List (List Nat) × List Bool := if st.2[n]?.getD false = true then st else (st.1 ++ [ringOf F N n], mark st.2 (ringOf F N n))
def ringsSt (F : Nat → Nat) (N : Nat) (l : List Nat) : List (List Nat) × List Bool := l.foldl (rStep F N) ([], List.replicate N false)
def rings (F : Nat → Nat) (N : Nat) : List (List Nat) := (ringsSt F N (per F N)).1
def lens (F : Nat → Nat) (N : Nat) : List Nat := (rings F N).map List.length
def RL (F : Nat → Nat) (N : Nat) : List (Nat × Nat) := ((List.range (N + 1)).filter fun L => decide (L ∈ lens F N)).map fun L => (L, (lens F N).count L)
def pairD (p : Nat × Nat) : PyData := .tuple [nI p.1, nI p.2]
def pairsD (l : List (Nat × Nat)) : PyData := .list (l.map pairD)
theorem mark_len : ∀ (ring : List Nat) (met : List Bool), (mark met ring).length = met.length
  | [], _ => rfl
  | x :: ring, met => by
    show (mark (met.set x true) ring).length = _
    rw [mark_len ring, List.length_set]
theorem st_len (F : Nat → Nat) (N : Nat) : ∀ (l : List Nat) (st : List (List Nat) × List Bool), st.2.length = N → (l.foldl (rStep F N) st).2.length = N
  | [], _, h => h
  | n :: l, st, h => by
    refine st_len F N l _ ?_
    unfold rStep
    split
    · exact h
    · show (mark _ _).length = N
      rw [mark_len, h]
theorem st_few (F : Nat → Nat) (N : Nat) : ∀ (l : List Nat) (st : List (List Nat) × List Bool), (l.foldl (rStep F N) st).1.length ≤ st.1.length + l.length
  | [], _ => Nat.le_refl _
  | n :: l, st => by
    refine Nat.le_trans (st_few F N l _) ?_
    unfold rStep
    split
    · rw [List.length_cons]; omega
    · rw [List.length_append, List.length_cons, List.length_cons, List.length_nil]; omega
theorem per_len (F : Nat → Nat) (N : Nat) : (per F N).length ≤ N := by
  have h := List.length_filter_le (isPer F N) (List.range N)
  rw [List.length_range] at h
  exact h
section
variable {P : Program} {w : World} {K : PySem.W.Frag} {mg : Str → Option Value} {base : Heap}

theorem sc_last_ones : FnScope ["table", "found", "turn", "behind", "number"] ["table"] (defScope s_last_ones) := ⟨rfl, rfl, rfl, by decide +kernel, rfl, by decide +kernel, by decide +kernel⟩
theorem ok_last_ones (T : Tx K mg) : Cal P w K mg base 1 "last_ones" ["table"] (spF K (ι := (Nat → Nat) × Nat) (fun x => [tabD x.1 x.2]) (fun x => Cl x.1 x.2 ∧ 0 < x.2 ∧ x.2 ≤ 256) (fun x => .list ((per x.1 x.2).map nI))) := by
  refine mkF T.d_last_ones sc_last_ones (fun _ => rfl) (fun _ _ _ _ _ _ us hl => match us, hl with | [_], _ => rfl) fun f cdv A outer s H vs Q E hr M x wd hv hp q => ?_
  obtain ⟨F, N⟩ := x
  obtain ⟨v0, rfl, h0⟩ := one_of hv
  obtain ⟨p1, p2, p3⟩ := hp
  simp only at p1 p2 p3 h0 q
  refine ⟨_, (pss_cons (ps_set (i := 1) sc_last_ones.nd rfl (.inl rfl) (pe_listRg rfl (by rfl) T.b_list (prg_1 (by rfl) T.b_range (pe_callB (call_len_seqK K) (by rfl) T.b_len (by decide +kernel) (pa_cons (pv 0) pa_nil)))))
      (pss_cons (ps_for PassesOwn.never rfl (pi_range1 (by rfl) T.b_range (pa_cons (pe_callB (call_len_seqK K) (by rfl) T.b_len (by decide +kernel) (pa_cons (pv 0) pa_nil)) pa_nil)) (pg_name (i := 2) sc_last_ones.nd rfl (.inl rfl)) (pss_cons (ps_set (i := 3) sc_last_ones.nd rfl (.inl rfl) (pe_callB (cr_sortSetN w rfl) (by rfl) T.b_sorted (by decide +kernel) (pa_cons (pe_scI w (own := [("number", 4)]) rfl sc_last_ones.nd (pi_listK K (pv 1)) (blkOk_by (N := ["table", "found", "turn", "behind", "number"]) (sc := defScope s_last_ones) (own := [("number", 4)]) (by decide +kernel)) (fun _ _ _ _ _ => pg_name (i := 4) sc_last_ones.nd rfl (Or.inl rfl)) (fun _ _ _ _ _ => (pe_ix (ix_seqK K) (pv 0) (pv 4) (fun _ _ => rfl)))) pa_nil)))
      (pss_cons (ps_if (pt_cmpR op_eq (pe_callB (call_len_seqK K) (by rfl) T.b_len (by decide +kernel) (pa_cons (pv 3) pa_nil)) (pe_callB (call_len_seqK K) (by rfl) T.b_len (by decide +kernel) (pa_cons (pv 1) pa_nil)) (nomark _)) (pss_one (ps_ret (pv 3))) pss_nil)
      (pss_one (ps_set (i := 1) sc_last_ones.nd rfl (.inl rfl) (pv 3))))))
      (pss_one (ps_ret (pv 1))))), ?_⟩
  have len : ∀ {σ : L2.St} {M' : Mk} {H' : Hp}, Same (Hm M H) (Hm M' H') → σ[0]? = some (some v0) → EvD K M' (tCB (fun xs H Q => ∃ p ys, xs = [.ref p] ∧ (SqL K H p ys ∨ SqT K H p ys) ∧ Q (.int ys.length) H) (tCons (tVar 0) tNil)) σ H' (nI N) := fun e hs => (ed_lenL (ed_var hs (h0.up e))).eq (by rw [List.length_map, List.length_map, List.length_range]; rfl)
  refine q_asg (K := K) (M := M) (d := .list ((List.range N).map nI)) (ed_listRg wd (len (Same.refl _) rfl) rfl (by omega)) fun vf H1 e1 hvf => ?_
  refine q_for (K := K) (M := M) (src_rng (n := N) (ea_cons (len (hm_mono e1) rfl) ea_nil) rfl (by omega)) fun H2 e2 => ⟨fun i σ' H' => ∃ vf y2 y3, σ' = [some v0, some vf, y2, y3, none] ∧ Same H2 H' ∧ Dp K (Hm M H') vf (.list ((imgs F N i).map nI)) ∧ (imgs F N i).length + i ≤ N, ?_, ?_, ?_, ?_⟩
  · refine ⟨vf, none, none, rfl, Same.refl _, ?_, ?_⟩
    · rw [imgs_zero]; exact hvf.up (hm_mono e2)
    · rw [imgs_zero, List.length_range]; exact Nat.le_refl _
  · rintro i σ' H' ⟨vf, y2, y3, rfl, e3, _⟩
    exact ⟨hm_mono e3, ((wd.mono e1).mono e2).mono e3⟩
  · rintro i d x σ' H' H'' hd ⟨vf, y2, y3, rfl, e3, h3, hlen⟩ e4 hx
    have e03 := ((e1.trans e2).trans e3).trans e4
    have h4 := h3.up (hm_mono e4)
    have hle := imgs_len (F := F) (N := N) i
    show tSeq _ _ _ _ _
    refine q_asg (K := K) (M := M) (d := .list ((imgs F N (i + 1)).map nI)) (ed_sortSc (w := w) (xs := imgs F N i) (enc := nI) (r := F) (wd.mono e03) (src_list (ed_var rfl h4)) (by omega) (fun _ => rfl) (fun a ha M' H3 v e5 e6 wd3 hv3 => ed_ixL' (j := a) (ed_var rfl (h0.up ((hm_mono e03).trans e6))) (ed_var rfl hv3) rfl (by
      rw [List.getElem?_map, List.getElem?_map, List.getElem?_range (mem_imgs.mp ha).1]; rfl)) (asc_filter _ _) fun y => imgs_succ p1) fun vb H3 e5 hvb => ?_
    refine q_if (b := decide (((imgs F N (i + 1)).length : Int) = ((imgs F N i).length : Int))) (EvT.eq (et_test (ed_eqI (ed_lenL (ed_var rfl hvb)) (ed_lenL (ed_var rfl (h4.up (hm_mono e5)))))) (by rw [List.length_map, List.length_map])) (fun z H4 e6 => ?_) fun z H4 e6 => ?_
    · have z := of_decide_eq_true z
      have e7 := imgs_per p1 (Int.ofNat.inj z)
      rw [e7] at hvb
      exact s_ret (ed_var rfl (hvb.up (hm_mono e6))) fun v H5 e8 hv => q v H5 (((e03.trans e5).trans e6).trans e8) hv
    · have z := of_decide_eq_false z
      have hlt : (imgs F N (i + 1)).length < (imgs F N i).length := by
        have := imgs_le p1 i
        omega
      refine s_asg (K := K) (M := M) (ed_var rfl (hvb.up (hm_mono e6))) fun v H5 e7 hv5 => ⟨v, some x, some vb, rfl, (((e3.trans e4).trans e5).trans e6).trans e7, hv5, by omega⟩
  · rintro σ' H' ⟨vf, y2, y3, rfl, e3, h3, hlen⟩
    rw [List.length_map, List.length_range] at hlen
    have hmem : it F N 0 ∈ imgs F N N := mem_imgs.mpr ⟨it_lt p1 N p2, 0, p2, rfl⟩
    have := List.length_pos_of_mem hmem
    omega

theorem sc_ring_from : FnScope ["table", "number", "found"] ["table", "number"] (defScope s_ring_from) := ⟨rfl, rfl, rfl, by decide +kernel, rfl, by decide +kernel, by decide +kernel⟩
theorem ok_ring_from (T : Tx K mg) : Cal P w K mg base 1 "ring_from" ["table", "number"] (spF K (ι := (Nat → Nat) × Nat × Nat) (fun x => [tabD x.1 x.2.1, nI x.2.2]) (fun x => Cl x.1 x.2.1 ∧ x.2.1 ≤ 256 ∧ x.2.2 ∈ per x.1 x.2.1) (fun x => .list ((ringOf x.1 x.2.1 x.2.2).map nI))) := by
  refine mkF T.d_ring_from sc_ring_from (fun _ => rfl) (fun _ _ _ _ _ _ us hl => match us, hl with | [_, _], _ => rfl) fun f cdv A outer s H vs Q E hr M x wd hv hp q => ?_
  obtain ⟨F, N, n⟩ := x
  obtain ⟨v0, v1, rfl, h0, h1⟩ := two_of hv
  obtain ⟨p1, p2, p3⟩ := hp
  simp only at p1 p2 p3 h0 h1 q
  cases (dp_int h1)
  have hn := (mem_per.mp p3).1
  have hpos := mp_pos.mpr (mem_per.mp p3).2
  obtain ⟨m1, m2, m3⟩ := mp_spec hpos
  refine ⟨_, (pss_cons (ps_set (i := 2) sc_ring_from.nd rfl (.inl rfl) (pe_lst (pa_cons (pv 1) pa_nil)))
      (pss_cons (ps_while PassesOwn.never (pt_cmpR op_ne (pe_ix (ix_seqK K) (pv 0) (pe_ix (ix_seqK K) (pv 2) (pe_un un_neg pe_int) (fun _ _ => rfl)) (fun _ _ => rfl)) (pv 1) (nomark _)) (pss_one (ps_expr (pe_bmK K PySem.F.plainAttrs_list PySem.F.slot_list_append PySem.F.type_list_append mt_append (pv 2) (pa_cons (pe_ix (ix_seqK K) (pv 0) (pe_ix (ix_seqK K) (pv 2) (pe_un un_neg pe_int) (fun _ _ => rfl)) (fun _ _ => rfl)) pa_nil)))))
      (pss_one (ps_ret (pv 2))))), ?_⟩
  refine q_newC (K := K) (M := M) (ds := [nI n]) (ea_cons (ed_var rfl h1) ea_nil) rfl fun L H1 vs e1 hL hvs => ?_
  have wd1 := wd.mono e1
  have hmL : M L = false := wd1.new hL
  have c0 := cell_new wd1 hL hvs
  have eL := hm_new (M := M) (o := .lst vs) hL
  have w0 := wd_new (o := .lst vs) wd1 hL
  refine q_while (fun m σ' H' => ∃ j, j < mp F N n ∧ m = mp F N n - j ∧ σ' = [some v0, some (.int (n : Nat)), some (.ref L)] ∧ Same H1 H' ∧ Same (Hm M H1) (Hm (addM M L) H') ∧ Wd (addM M L) H' ∧ Cell K (addM M L) L H' ((List.range (j + 1)).map fun i => nI (it F i n))) (mp F N n) ⟨0, hpos, rfl, rfl, same_new hL, eL, w0, c0⟩ ?_
  rintro m σ' H' ⟨j, hj, rfl, rfl, e2, e3, wd2, c⟩
  have e03 := (hm_mono e1).trans e3
  have hlast : ((List.range (j + 1)).map fun i => nI (it F i n))[j]? = some (nI (it F j n)) := by rw [List.getElem?_map, List.getElem?_range (Nat.lt_succ_self j)]; rfl
  have nxt : ∀ {H3 : Hp}, Same H' H3 → EvD K (addM M L) (tOp (rIx K) (tVar 0) (tOp (rIx K) (tVar 2) (tUn (rU fun i => V.int (-i)) (tC (.int 1))))) [some v0, some (.int (n : Nat)), some (.ref L)] H3 (nI (it F (j + 1) n)) := fun e4 =>
    ed_ixL' (j := it F j n) (ed_var rfl (h0.up (e03.trans (hm_mono e4)))) (ed_ixC (ev_var rfl) (c.up e4) (ed_neg ed_int) (by rw [List.length_map, List.length_range]; exact ixN_last (Nat.succ_pos j)) hlast) rfl (by
      rw [List.getElem?_map, List.getElem?_map, List.getElem?_range (it_lt p1 j hn)]; rfl)
  refine ⟨!decide ((it F (j + 1) n : Int) = (n : Int)), et_test (ed_neI (nxt (Same.refl _)) (ed_var rfl (.int _))), fun hb H3 e4 => ?_, fun hb H3 e4 => ?_⟩
  · have hb : ¬ it F (j + 1) n = n := fun z => by rw [z, decide_eq_true rfl] at hb; cases hb
    have hj2 : j + 1 < mp F N n := by
      rcases Nat.lt_or_ge (j + 1) (mp F N n) with c | c
      · exact c
      · have e5 : j + 1 = mp F N n := by omega
        rw [e5] at hb
        exact absurd m2 hb
    refine ⟨fun σ2 H4 => σ2 = [some v0, some (.int (n : Nat)), some (.ref L)] ∧ Same H1 H4 ∧ Same (Hm M H1) (Hm (addM M L) H4) ∧ Wd (addM M L) H4 ∧ Cell K (addM M L) L H4 ((List.range (j + 1 + 1)).map fun i => nI (it F i n)), fun σ2 H4 ⟨g1, g2, g3, g4, g5⟩ => ⟨mp F N n - (j + 1), by omega, j + 1, hj2, rfl, g1, g2, g3, g4, g5⟩, ?_⟩
    refine s_appC (ev_var rfl) (c.up e4) (nxt e4) (by rw [List.length_map, List.length_range]; omega) fun H4 c4 b4 => ⟨rfl, b4.same (e2.trans e4) hL, (e3.trans (hm_mono e4)).trans (b4.hm addM_same), b4.wd (wd2.mono e4) c4.there, ?_⟩
    rw [List.range_succ, List.map_append]
    exact c4
  · have hb : it F (j + 1) n = n := by
      by_cases h : it F (j + 1) n = n
      · exact h
      · rw [decide_eq_false (fun z : (it F (j + 1) n : Int) = (n : Int) => h (Int.ofNat.inj z))] at hb; cases hb
    have hj2 : j + 1 = mp F N n := by
      rcases Nat.lt_or_ge (j + 1) (mp F N n) with c | c
      · exact absurd hb (m3 _ (Nat.succ_pos j) c)
      · omega
    rw [hj2] at c
    refine s_ret (d := .list ((ringOf F N n).map nI)) (ed_var rfl ?_) fun v H4 e5 hv => q v H4 (((e1.trans e2).trans e4).trans e5) hv
    unfold ringOf
    rw [List.map_map]
    exact (c.up e4).done hmL add_sub

theorem sc_rings_in : FnScope ["table", "found", "met", "number", "ring", "one"] ["table"] (defScope s_rings_in) := ⟨rfl, rfl, rfl, by decide +kernel, rfl, by decide +kernel, by decide +kernel⟩
theorem ok_rings_in (T : Tx K mg) : Cal P w K mg base 2 "rings_in" ["table"] (spF K (ι := (Nat → Nat) × Nat) (fun x => [tabD x.1 x.2]) (fun x => Cl x.1 x.2 ∧ 0 < x.2 ∧ x.2 ≤ 256) (fun x => .list ((rings x.1 x.2).map fun r => .list (r.map nI)))) := by
  refine mkF T.d_rings_in sc_rings_in (fun _ => rfl) (fun _ _ _ _ _ _ us hl => match us, hl with | [_], _ => rfl) fun f cdv A outer s H vs Q E hr M x wd hv hp q => ?_
  obtain ⟨F, N⟩ := x
  obtain ⟨v0, rfl, h0⟩ := one_of hv
  have hp' := hp
  obtain ⟨p1, p2, p3⟩ := hp
  simp only at p1 p2 p3 h0 q
  refine ⟨_, (pss_cons (ps_set (i := 1) sc_rings_in.nd rfl (.inl rfl) (pe_lst pa_nil))
      (pss_cons (ps_set (i := 2) sc_rings_in.nd rfl (.inl rfl) (pe_op op_rep (pe_lst (pa_cons pe_bl pa_nil)) (pe_callB (call_len_seqK K) (by rfl) T.b_len (by decide +kernel) (pa_cons (pv 0) pa_nil))))
      (pss_cons (ps_for PassesOwn.never rfl (pi_listK K (pe_cal (ok_last_ones T) (hr.mono (by decide)) (by rfl) (pa_cons (pv 0) pa_nil))) (pg_name (i := 3) sc_rings_in.nd rfl (.inl rfl)) (pss_one (ps_if (pt_not (pt_val (pe_ix (ix_seqK K) (pv 2) (pv 3) (fun _ _ => rfl)))) (pss_cons (ps_set (i := 4) sc_rings_in.nd rfl (.inl rfl) (pe_cal (ok_ring_from T) (hr.mono (by decide)) (by rfl) (pa_cons (pv 0) (pa_cons (pv 3) pa_nil))))
      (pss_cons (ps_expr (pe_bmK K PySem.F.plainAttrs_list PySem.F.slot_list_append PySem.F.type_list_append mt_append (pv 1) (pa_cons (pv 4) pa_nil)))
      (pss_one (ps_for PassesOwn.never rfl (pi_listK K (pv 4)) (pg_name (i := 5) sc_rings_in.nd rfl (.inl rfl)) (pss_one (ps_asg pe_bl (pg_sub (pv 2) (pv 5) set_list))))))) pss_nil)))
      (pss_one (ps_ret (pv 1)))))), ?_⟩
  refine q_newC (K := K) (M := M) (ds := []) ea_nil rfl fun L1 H1 vs1 e1 hL1 hvs1 => ?_
  have wd1 := wd.mono e1
  have hm1 : M L1 = false := wd1.new hL1
  have c1 := cell_new wd1 hL1 hvs1
  have eL1 := hm_new (M := M) (o := .lst vs1) hL1
  have w1 := wd_new (o := .lst vs1) wd1 hL1
  have s1 : Same H1 (upd H1 L1 (.lst vs1)) := same_new hL1
  generalize upd H1 L1 (.lst vs1) = Ha at c1 eL1 w1 s1
  -- met
  refine q_rep (K := K) (M := M) (n := N) ((ed_lenL (ds := ((List.range N).map F).map nI) (ed_var rfl (h0.up (hm_mono (e1.trans s1))))).eq (by rw [List.length_map, List.length_map, List.length_range])) (by omega) fun L2 H3 e13 hL2 => ?_
  have w3 : Wd (addM M L1) H3 := w1.mono e13
  have hm2 : addM M L1 L2 = false := w3.new hL2
  have hne : L1 ≠ L2 := fun z => by rw [← z, addM_same] at hm2; cases hm2
  have c2 : Cell K (addM (addM M L1) L2) L2 (upd H3 L2 (.lst ((List.replicate N false).map V.bl))) ((List.replicate N false).map .bool) := cell_new w3 hL2 (dps_of_bls _)
  have w4 := wd_new (o := .lst ((List.replicate N false).map V.bl)) w3 hL2
  have eL2 := hm_new (M := addM M L1) (o := .lst ((List.replicate N false).map V.bl)) hL2
  have s2 : Same H3 (upd H3 L2 (.lst ((List.replicate N false).map V.bl))) := same_new hL2
  have c1' : Cell K (addM (addM M L1) L2) L1 (upd H3 L2 (.lst ((List.replicate N false).map V.bl))) [] := by
    obtain ⟨_, acc, g1, g2⟩ := c1
    exact ⟨addM_old addM_same, acc, s2 _ _ (e13 _ _ g1), g2.up ((hm_mono e13).trans eL2)⟩
  generalize upd H3 L2 (.lst ((List.replicate N false).map V.bl)) = Hb at c2 w4 eL2 s2 c1'
  have e0b : Same H Hb := (((e1.trans s1).trans e13).trans s2)
  have eMb : Same (Hm M H) (Hm (addM (addM M L1) L2) Hb) := (((hm_mono e1).trans eL1).trans (hm_mono e13)).trans eL2
  have hL1H : H L1 = none := by
    cases z : H L1 with
    | none => rfl
    | some o => rw [e1 _ _ z] at hL1; cases hL1
  have hL2H : H L2 = none := by
    cases z : H L2 with
    | none => rfl
    | some o => rw [((e1.trans s1).trans e13) _ _ z] at hL2; cases hL2
  refine q_for (K := K) (M := addM (addM M L1) L2) (src_list (ed_call (F, N) w4 (ea_cons (ed_var rfl (h0.up eMb)) ea_nil) hp')) fun H5 e5 =>
    ⟨fun i σ' H' => ∃ y3 y4 y5, σ' = [some v0, some (.ref L1), some (.ref L2), y3, y4, y5] ∧ Same H H' ∧ Same (Hm (addM (addM M L1) L2) H5) (Hm (addM (addM M L1) L2) H') ∧ Wd (addM (addM M L1) L2) H' ∧
      Cell K (addM (addM M L1) L2) L1 H' ((ringsSt F N ((per F N).take i)).1.map fun r => .list (r.map nI)) ∧ Cell K (addM (addM M L1) L2) L2 H' ((ringsSt F N ((per F N).take i)).2.map .bool), ?_, ?_, ?_, ?_⟩
  · exact ⟨none, none, none, rfl, e0b.trans e5, Same.refl _, w4.mono e5, c1'.up e5, c2.up e5⟩
  · rintro i σ' H' ⟨y3, y4, y5, rfl, g1, g2, g3, _⟩
    exact ⟨g2, g3⟩
  · rintro i d x σ' H' H'' hd ⟨y3, y4, y5, rfl, g1, g2, g3, d1, d2⟩ e6 hx
    have hi : i < (per F N).length := by
      obtain ⟨g, _⟩ := List.getElem?_eq_some_iff.mp hd
      rw [List.length_map] at g; exact g
    have hdi : d = nI (per F N)[i] := by
      rw [List.getElem?_map, List.getElem?_eq_getElem hi] at hd
      exact (Option.some.inj hd).symm
    subst hdi
    have hmem : (per F N)[i] ∈ per F N := List.getElem_mem hi
    have hnN := (mem_per.mp hmem).1
    have hstep : ringsSt F N ((per F N).take (i + 1)) = rStep F N (ringsSt F N ((per F N).take i)) (per F N)[i] := by
      unfold ringsSt
      rw [List.take_succ_eq_append_getElem hi, List.foldl_append]
      rfl
    have hl2 : (ringsSt F N ((per F N).take i)).2.length = N := st_len F N _ _ List.length_replicate
    have hl1 : (ringsSt F N ((per F N).take i)).1.length ≤ N := by
      have h1 := st_few F N ((per F N).take i) ([], List.replicate N false)
      have h2 := per_len F N
      rw [List.length_take, List.length_nil] at h1
      exact Nat.le_trans h1 (by omega)
    generalize (per F N)[i] = n at hx hmem hnN hstep
    generalize ringsSt F N ((per F N).take i) = st at d1 d2 hstep hl2 hl1
    have hm5 : st.2[n]? = some (st.2[n]?.getD false) := by rw [List.getElem?_eq_getElem (by omega)]; rfl
    have d1 := d1.up e6
    have d2 := d2.up e6
    have g1 := g1.trans e6
    have g2 := g2.trans (hm_mono e6)
    have g3 := g3.mono e6
    show tIfS _ _ _ _ _ _
    refine s_if (b := !(st.2[n]?.getD false)) (et_not (et_test (ed_ixC (ev_var rfl) d2 (ed_var rfl hx) (ixN_nat (by rw [List.length_map, hl2]; exact hnN)) (by rw [List.getElem?_map, hm5]; rfl)))) (fun hb H6 e7 => ?_) fun hb H6 e7 => ?_
    · have hb : st.2[n]?.getD false = false := by simpa using hb
      have hst : rStep F N st n = (st.1 ++ [ringOf F N n], mark st.2 (ringOf F N n)) := by unfold rStep; rw [if_neg (by rw [hb]; decide)]
      have eM6 : Same (Hm M H) (Hm (addM (addM M L1) L2) H6) := ((eMb.trans (hm_mono e5)).trans g2).trans (hm_mono e7)
      refine q_asg (K := K) (M := addM (addM M L1) L2) (ed_call (F, N, n) (g3.mono e7) (ea_cons (ed_var rfl (h0.up eM6)) (ea_cons (ed_var rfl (hx.up (hm_mono e7))) ea_nil)) ⟨p1, p3, hmem⟩) fun vr H7 e8 hvr => ?_
      have e78 := e7.trans e8
      refine q_appC (ev_var rfl) (d1.up e78) (ed_var rfl hvr) (by rw [List.length_map]; omega) fun H8 d3 b8 => ?_
      have d4 := (d2.up e78).but b8 (addM_old addM_same) (fun z => hne z.symm)
      have g4 := b8.same (g1.trans e78) hL1H
      have g5 := (g2.trans (hm_mono e78)).trans (b8.hm (addM_old addM_same))
      have g6 := b8.wd (g3.mono e78) d3.there
      have hvr8 := hvr.up (b8.hm (M := addM (addM M L1) L2) (addM_old addM_same))
      refine s_for (K := K) (M := addM (addM M L1) L2) (src_list (ed_var rfl hvr8)) fun H9 e9 => ⟨fun j σ' H' => ∃ y5, σ' = [some v0, some (.ref L1), some (.ref L2), some x, some vr, y5] ∧ Same H H' ∧ Same (Hm (addM (addM M L1) L2) H9) (Hm (addM (addM M L1) L2) H') ∧ Wd (addM (addM M L1) L2) H' ∧
        Cell K (addM (addM M L1) L2) L1 H' ((st.1 ++ [ringOf F N n]).map fun r => .list (r.map nI)) ∧ Cell K (addM (addM M L1) L2) L2 H' ((mark st.2 ((ringOf F N n).take j)).map .bool), ?_, ?_, ?_, ?_⟩
      · refine ⟨y5, rfl, g4.trans e9, Same.refl _, g6.mono e9, ?_, d4.up e9⟩
        rw [List.map_append]
        exact d3.up e9
      · rintro j σ' H' ⟨y5, rfl, k1, k2, k3, _⟩
        exact ⟨k2, k3⟩
      · rintro j d z σ' H' H'' hd ⟨y5, rfl, k1, k2, k3, k4, k5⟩ e10 hz
        have hj : j < (ringOf F N n).length := by
          obtain ⟨g, _⟩ := List.getElem?_eq_some_iff.mp hd
          rw [List.length_map] at g; exact g
        have hdj : d = nI (ringOf F N n)[j] := by
          rw [List.getElem?_map, List.getElem?_eq_getElem hj] at hd
          exact (Option.some.inj hd).symm
        subst hdj
        have hlt : (ringOf F N n)[j] < N := by
          have hm := List.getElem_mem hj
          obtain ⟨i2, _, e11⟩ := List.mem_map.mp hm
          rw [← e11]
          exact it_lt p1 _ hnN
        have hmk : mark st.2 ((ringOf F N n).take (j + 1)) = (mark st.2 ((ringOf F N n).take j)).set (ringOf F N n)[j] true := by
          unfold mark
          rw [List.take_succ_eq_append_getElem hj, List.foldl_append]
          rfl
        show tAsg _ (gSub _ _ _) _ _ _
        refine s_setC (d := .bool true) (j := (ringOf F N n)[j]) ed_bl (ev_var rfl) (ed_var rfl hz) (ixN_nat (by rw [List.length_map, mark_len, hl2]; exact hlt)) (k5.up e10) fun H11 c11 b11 => ⟨some z, rfl, b11.same (k1.trans e10) hL2H, (k2.trans (hm_mono e10)).trans (b11.hm addM_same), b11.wd (k3.mono e10) c11.there, (k4.up e10).but b11 addM_same hne, ?_⟩
        rw [hmk, List.map_set]
        exact c11
      · rintro σ' H' ⟨y5, rfl, k1, k2, k3, k4, k5⟩
        rw [List.length_map, List.take_length] at k5
        refine ⟨_, _, _, rfl, k1, ((g5.trans (hm_mono e9)).trans k2), k3, ?_, ?_⟩
        · rw [hstep, hst]; exact k4
        · rw [hstep, hst]; exact k5
    · have hb : st.2[n]?.getD false = true := by simpa using hb
      have hst : rStep F N st n = st := by unfold rStep; rw [if_pos hb]
      refine ⟨_, _, _, rfl, g1.trans e7, g2.trans (hm_mono e7), g3.mono e7, ?_, ?_⟩
      · rw [hstep, hst]; exact d1.up e7
      · rw [hstep, hst]; exact d2.up e7
  · rintro σ' H' ⟨y3, y4, y5, rfl, g1, g2, g3, d1, d2⟩
    rw [List.length_map, List.take_length] at d1
    refine s_ret (K := K) (M := M) (ed_var rfl (d1.done hm1 fun a ha => addM_old (addM_old ha))) fun v H6 e6 hv => q v H6 (g1.trans e6) hv
end
end EIT
end
/-! text N7 -/
section
set_option maxHeartbeats 4000000
/-! Days, ring_lengths. -/
namespace EIT
open PySem PySem.Spec PyProof.Rows L2
structure OrdOk (w : Web) (o : List Str) : Prop where
  mem : ∀ p ∈ o, p ∈ w.ps
  nd : o.Nodup
  len : o.length = w.ps.length
section
variable {K : PySem.W.Frag} {M : Mk} {σ : L2.St} {H H' : Hp} {ta tv : TE} {R : Hp → V → Prop} {D : Ends} {x C dx : Addr} {fs : List (Str × V)} {f : Str}
theorem s_fld (hv : EvR M tv σ H R) (u : Up R) (ht : EvV ta σ H (.ref x)) (hm : M x = true) (hx : H x = some (.ins C dx fs)) (c : Cls K C) (n : NoAttr K C f) (hl : fs.length < 1000)
    (k : ∀ y H', But x H H' → R (Hm M H') y → H' x = some (.ins C dx (putF f y fs)) → D.nx σ H') : sFld K ta tv f D σ H :=
  hv H (Same.refl _) _ fun y H1 e1 hy => ht H1 e1 _ fun v H2 e2 hv2 => by
    cases hv2
    refine ⟨x, C, dx, fs, rfl, (e1.trans e2) _ _ hx, c, n, hl, k y _ (fun a o ha h => by rw [upd_ne ha]; exact (e1.trans e2) _ _ h) ?_ upd_same⟩
    rw [hm_upd hm]
    exact u _ _ _ (hm_mono e2) hy
theorem q_fld {tz : TS} (hv : EvR M tv σ H R) (u : Up R) (ht : EvV ta σ H (.ref x)) (hm : M x = true) (hx : H x = some (.ins C dx fs)) (c : Cls K C) (n : NoAttr K C f) (hl : fs.length < 1000)
    (k : ∀ y H', But x H H' → R (Hm M H') y → H' x = some (.ins C dx (putF f y fs)) → tz D σ H') : tSeq (sFld K ta tv f) tz D σ H := s_fld (D := { D with nx := tz D }) hv u ht hm hx c n hl k
end
section
variable {P : Program} {w : World} {K : PySem.W.Frag} {mg : Str → Option Value} {base : Heap}
/-- the promise of Days.__init__ -/
def spDays (K : PySem.W.Frag) (C : Addr) : Sp := fun vs H Q _ => ∃ (M : Mk) (h : Hall) (o : List Str) (x dx : Addr) (v u : V), Wd M H ∧ M x = true ∧ H x = some (.ins C dx []) ∧ vs = [.ref x, v, u] ∧ HallOk h ∧ (∀ p ∈ o, p ∈ h.web.ps) ∧ o.length ≤ 1000 ∧ HallV K h (Hm M H) v ∧ Dp K (Hm M H) u (strsD o) ∧
  ∀ H' dx' fs t, But x H H' → H' x = some (.ins C dx' fs) → fs.lookup ("table" : Str) = some t → Dp K (Hm M H') t (tabD (dayF h o) (sized h)) → Q .non H'
theorem sc_Days_init : FnScope ["self", "hall", "order"] ["self", "hall", "order"] (defScope s_Days_init) := ⟨rfl, rfl, rfl, by decide +kernel, rfl, by decide +kernel, by decide +kernel⟩
theorem days_init (T : Tx K mg) : ∃ C f fd, mg "Days" = some (.ref C) ∧ L2.Mk K C f ∧ Cls K C ∧ NoAttr K C "table" ∧ FnOk P w K mg base CX0 7 f fd ["self", "hall", "order"] (spDays K C) ∧ Binds K fd ["self", "hall", "order"] [] := by
  obtain ⟨C, f, fd, hC, cls, mkk, n1, n2, n3, F⟩ := T.days
  refine ⟨C, f, fd, hC, mkk, cls, n3, F.ok sc_Days_init (fun vs H Q E h => ?_) (fun cdv A outer s H vs Q E hr h => ?_), F.bindsN (fun _ _ _ _ _ _ us hl => match us, hl with | [_, _, _], _ => rfl)⟩
  · obtain ⟨M, h, o, x, dx, v, u, _, _, _, rfl, _⟩ := h
    rfl
  obtain ⟨M, h, o, x, dx, v, u, wd, hm, hx, rfl, ok, ho, hol, hv, hu, q⟩ := h
  refine ⟨_, PSs.nox (pss_cons (ps_fld (pv 0) (pv 1) (by rfl))
      (pss_cons (ps_fld (pv 0) (pe_cal (ok_all_states T) (hr.mono (by decide)) (by rfl) (pa_cons (pv 1) pa_nil)) (by rfl))
      (pss_one (ps_fld (pv 0) (pe_cal (ok_day_numbers T) (hr.mono (by decide)) (by rfl) (pa_cons (pe_cal (ok_steps_in T) (hr.mono (by decide)) (by rfl) (pa_cons (pv 1) pa_nil)) (pa_cons (pe_cal (ok_numbers_of T) (hr.mono (by decide)) (by rfl) (pa_cons (pe_ix (ix_seqK K) (pv 1) pe_int (fun _ _ => rfl)) (pa_cons (pv 2) pa_nil))) pa_nil))) (by rfl))))), ?_⟩
  refine q_fld (er_var (M := M) rfl up_hall hv) up_hall (ev_var rfl) hm hx cls n1 (by decide) fun y1 H1 b1 hy1 hx1 => ?_
  have m1 := b1.hm (M := M) hm
  have wd1 := b1.wd wd (by rw [hx1]; intro z; cases z)
  refine q_fld (M := M) (K := K) (R := fun H v => Dp K H v (statesD h.k h.web.ps.length)) (ed_call h wd1 (ea_cons (ed_var rfl (hall_dp (up_hall _ _ _ m1 hv))) ea_nil) ok) up_dp (ev_var rfl) hm hx1 cls n2 (Nat.lt_of_le_of_lt (length_putF _ _ _) (by decide)) fun y2 H2 b2 hy2 hx2 => ?_
  have m2 := m1.trans (b2.hm (M := M) hm)
  have wd2 := b2.wd wd1 (by rw [hx2]; intro z; cases z)
  have hh2 := up_hall _ _ _ m2 hv
  refine s_fld (M := M) (K := K) (R := fun H v => Dp K H v (tabD (dayF h o) (sized h))) (EvD.eq (ed_call (rowsOfHall h, ixs h o, sized h) wd2 (ea_cons (EvD.eq (ed_callR h wd2 (EvB.imp (eb_cons (M := M) up_hall (er_var rfl up_hall hh2) eb_nil) ?_)) ?_) (ea_cons (EvD.eq (ed_callR (h.web, o) wd2 (EvB.imp (eb_cons (M := M) up_web (er_hall1 (er_var rfl up_hall hh2)) (EvA.b (K := K) (M := M) (ea_cons (ed_var rfl (hu.up m2)) ea_nil))) ?_)) rfl) ea_nil)) ⟨rows_ok ok, ?_⟩) ?_) up_dp (ev_var rfl) hm hx2 cls n3 ?_ fun y3 H3 b3 hy3 hx3 => ?_
  · rintro vs H ⟨v, r, rfl, g1, rfl⟩
    exact ⟨ok, v, rfl, g1⟩
  · show stepsD h = .list ((rowsOfHall h).map fun r => .list (r.map nI))
    unfold stepsD rowsOfHall
    rw [List.map_map]
    rfl
  · rintro vs H ⟨v, r, rfl, g1, g2⟩
    obtain ⟨u2, rfl, g3⟩ := one_of g2
    exact ⟨ho, hol, v, u2, rfl, g1, g3⟩
  · intro i hi
    show i < (rowsOfHall h).length
    unfold rowsOfHall
    rw [List.length_map, List.length_range]
    exact ixs_lt ho i hi
  · show PyData.list ((dayL (rowsOfHall h) (sized h) (ixs h o)).map nI) = _
    rw [dayL_eq ok (ixs_lt ho)]
    rfl
  · exact Nat.lt_of_le_of_lt (length_putF _ _ _) (Nat.lt_of_le_of_lt (Nat.succ_le_succ (length_putF _ _ _)) (by decide))
  · refine q H3 dx _ y3 (fun a o' ha h => b3 _ _ ha (b2 _ _ ha (b1 _ _ ha h))) hx3 ?_ hy3
    rw [lookup_putF, if_pos rfl]

theorem sc_need_two : FnScope ["hall", "order"] ["hall", "order"] (defScope s_need_two) := ⟨rfl, rfl, rfl, by decide +kernel, rfl, by decide +kernel, by decide +kernel⟩
theorem ok_need_two (T : Tx K mg) : Cal P w K mg base 9 "need_two" ["hall", "order"] (spF K (ι := Hall × List Str) (fun x => [x.1.enc, strsD x.2]) (fun x => HallOk x.1 ∧ OrdOk x.1.web x.2) (fun _ => .none)) := by
  refine mkF T.d_need_two sc_need_two (fun _ => rfl) (fun _ _ _ _ _ _ us hl => match us, hl with | [_, _], _ => rfl) fun f cdv A outer s H vs Q E hr M x wd hv hp q => ?_
  obtain ⟨h, o⟩ := x
  obtain ⟨v0, v1, rfl, h0, h1⟩ := two_of hv
  obtain ⟨p1, p2⟩ := hp
  simp only at p1 p2 h0 h1 q
  have hn := p1.web.hi
  refine ⟨_, (pss_cons (ps_expr (pe_cal (ok_need_hall T) (hr.mono (by decide)) (by rfl) (pa_cons (pv 0) pa_nil)))
      (pss_one (ps_expr (pe_cal (ok_need_order T) (hr.mono (by decide)) (by rfl) (pa_cons (pe_ix (ix_seqK K) (pv 0) pe_int (fun _ _ => rfl)) (pa_cons (pv 1) pa_nil)))))), ?_⟩
  refine q_drop (ed_call h wd (ea_cons (ed_var rfl h0) ea_nil) p1) fun H1 e1 => ?_
  refine s_drop (ed_call (h.web, o) (wd.mono e1) (ea_cons (ed_ixT' (j := 1) (ed_var rfl (h0.up (hm_mono e1))) ed_int rfl rfl) (ea_cons (ed_var rfl (h1.up (hm_mono e1))) ea_nil)) ⟨p2.mem, p2.nd, p2.len, ?_⟩) fun H2 e2 => q _ H2 (e1.trans e2) .non
  show o.length < 32
  rw [p2.len]
  omega

def preHO (K : PySem.W.Frag) (x : Hall × List Str) (H : Hp) (vs : List V) : Prop := HallOk x.1 ∧ OrdOk x.1.web x.2 ∧ ∃ v u, vs = [v, u] ∧ HallV K x.1 H v ∧ Dp K H u (strsD x.2)
theorem lens_le {F : Nat → Nat} {N : Nat} : (lens F N).length ≤ N := by
  unfold lens rings ringsSt
  rw [List.length_map]
  have h1 := st_few F N (per F N) ([], List.replicate N false)
  have h2 := per_len F N
  rw [List.length_nil] at h1
  omega
theorem mp_le {F : Nat → Nat} {N y : Nat} : mp F N y ≤ N := by
  rcases Nat.eq_zero_or_pos (mp F N y) with e | e
  · rw [e]; exact Nat.zero_le _
  · exact (mp_spec e).1
theorem ring_small {F : Nat → Nat} {N : Nat} : ∀ (l : List Nat) (st : List (List Nat) × List Bool), (∀ r ∈ st.1, r.length ≤ N) → ∀ r ∈ (l.foldl (rStep F N) st).1, r.length ≤ N
  | [], _, h => h
  | n :: l, st, h => ring_small l _ (by
    unfold rStep
    split
    · exact h
    · intro r hr
      rcases List.mem_append.mp hr with e | e
      · exact h r e
      · rw [List.mem_singleton] at e
        rw [e]
        unfold ringOf
        rw [List.length_map, List.length_range]
        exact mp_le)
theorem lens_small {F : Nat → Nat} {N : Nat} : ∀ L ∈ lens F N, L ≤ N := fun L hL => by
  obtain ⟨r, hr, rfl⟩ := List.mem_map.mp hL
  exact ring_small _ _ (fun r h => by cases h) r hr
theorem cnt_cast (l : List Nat) (a : Nat) : (l.map fun n : Nat => (n : Int)).count (a : Int) = l.count a := by
  induction l with
  | nil => rfl
  | cons b l ih =>
    rw [List.map_cons, List.count_cons, List.count_cons, ih]
    by_cases h : b = a
    · subst h; simp
    · have : ¬ ((b : Int) = (a : Int)) := by omega
      simp [h, this]
theorem ed_count {M : Mk} {σ : L2.St} {H : Hp} {ta tb : TE} {l : List Nat} {a : Nat} (ha : EvD K M ta σ H (.list (l.map nI))) (hb : EvD K M tb σ H (nI a)) : EvD K M (tBM K "list" (rCntI K) ta (tCons tb tNil)) σ H (nI (l.count a)) := fun H1 e Q q =>
  ha H1 e _ fun v H2 e2 hv => by
    rw [natsI] at hv
    obtain ⟨p, xs, rfl, hs, hall⟩ := dp_lst hv
    cases dps_ints hall
    refine ⟨.inl ⟨rfl, _, sqL_mono (hm_sub M H2) hs⟩, hb H2 (e.trans e2) _ fun y H3 e3 hy => ?_⟩
    rw [dp_int hy]
    refine ⟨p, _, _, rfl, rfl, sqL_mono e3 (sqL_mono (hm_sub M H2) hs), q _ H3 (e2.trans e3) ?_⟩
    rw [cnt_cast]
    exact .int _
theorem sc_ring_lengths : FnScope ["hall", "order", "lengths", "ring", "length"] ["hall", "order"] (defScope s_ring_lengths) := ⟨rfl, rfl, rfl, by decide +kernel, rfl, by decide +kernel, by decide +kernel⟩
theorem ok_ring_lengths (T : Tx K mg) : Cal P w K mg base 10 "ring_lengths" ["hall", "order"] (spR (preHO K) (fun x H v => Dp K H v (pairsD (RL (dayF x.1 x.2) (sized x.1))))) := by
  refine mkR T.d_ring_lengths sc_ring_lengths (fun i H vs h => by obtain ⟨_, _, v, u, rfl, _⟩ := h; rfl) (fun _ _ _ _ _ _ us hl => match us, hl with | [_, _], _ => rfl) fun f cdv A outer s H vs Q E hr M x wd hp q => ?_
  obtain ⟨h, o⟩ := x
  obtain ⟨p1, p2, v0, v1, rfl, h0, h1⟩ := hp
  simp only at p1 p2 h0 h1 q
  obtain ⟨C, fD, fdD, gDays, dMk, dCls, dNo, dFn, dBd⟩ := days_init (P := P) (w := w) (base := base) T
  have hn := p1.web.hi
  have few : sized h ≤ 256 := p1.few
  have hkp : 0 < h.k := by have := p1.k; omega
  have pos : 0 < sized h := Nat.pow_pos hkp
  have cl : Cl (dayF h o) (sized h) := day_lt p1 _ (ixs_lt p2.mem)
  refine ⟨_, (pss_cons (ps_expr (pe_cal (ok_need_two T) (hr.mono (by decide)) (by rfl) (pa_cons (pv 0) (pa_cons (pv 1) pa_nil))))
      (pss_cons (ps_set (i := 2) sc_ring_lengths.nd rfl (.inr rfl) (pe_lc (own := [("ring", 3)])  rfl sc_ring_lengths.nd (pi_listK K (pe_cal (ok_rings_in T) (hr.mono (by decide)) (by rfl) (pa_cons (pe_fld (pe_make dMk dFn (hr.mono (by decide)) (by rfl) gDays dBd .nil pass0 (pa_cons (pv 0) (pa_cons (pv 1) pa_nil))) (by rfl)) pa_nil))) (blkOk_by (N := ["hall", "order", "lengths", "ring", "length"]) (sc := defScope s_ring_lengths) (own := [("ring", 3)]) (by decide +kernel)) (fun _ _ _ _ _ => pg_name (i := 3) sc_ring_lengths.nd rfl (Or.inl rfl)) (fun _ _ _ _ _ => pts_nil) (fun _ _ _ _ _ => (pe_callB (call_len_seqK K) (by rfl) T.b_len (by decide +kernel) (pa_cons (pv 3) pa_nil)))))
      (pss_one (ps_ret (pe_lc (own := [("length", 4)])  rfl sc_ring_lengths.nd (pi_listK K (pe_callB (cr_sortSetN w rfl) (by rfl) T.b_sorted (by decide +kernel) (pa_cons (pe_callTy (cr_setLI w K rfl) (by rfl) T.b_set (by decide +kernel) (pa_cons (pv 2) pa_nil)) pa_nil))) (blkOk_by (N := ["hall", "order", "lengths", "ring", "length"]) (sc := defScope s_ring_lengths) (own := [("length", 4)]) (by decide +kernel)) (fun _ _ _ _ _ => pg_name (i := 4) sc_ring_lengths.nd rfl (Or.inl rfl)) (fun _ _ _ _ _ => pts_nil) (fun _ _ _ _ _ => (pe_tup (pa_cons (pv 4) (pa_cons (pe_bmK K PySem.F.plainAttrs_list PySem.F.slot_list_count PySem.F.type_list_count (mt_lcountK K) (pv 2) (pa_cons (pv 4) pa_nil)) pa_nil))))))))), ?_⟩
  refine q_drop (ed_call (h, o) wd (ea_cons (ed_var rfl (hall_dp h0)) (ea_cons (ed_var rfl h1) ea_nil)) ⟨p1, p2⟩) fun H1 e1 => ?_
  have wd1 := wd.mono e1
  have hh1 := up_hall _ _ _ (hm_mono e1) h0
  have ho1 := h1.up (hm_mono e1)
  -- the table
  have htab : EvD K M (tFld K (tMake C (spDays K C) [] E0 (tCons (tVar 0) (tCons (tVar 1) tNil))) "table") (L2.start ["hall", "order", "lengths", "ring", "length"] [v0, v1]) H1 (tabD (dayF h o) (sized h)) := fun H2 e2 Q2 q2 => by
    refine ⟨v0, rfl, v1, rfl, fun x dx hx hdx hne => ?_⟩
    have sx : Same H2 (upd (upd H2 dx (.own x)) x (.ins C dx [])) := fun a o' ha => by
      rw [upd_ne (ne_of_none ha hx), upd_ne (ne_of_none ha hdx)]; exact ha
    have mx : Same (Hm M H2) (Hm (addM M x) (upd (upd H2 dx (.own x)) x (.ins C dx []))) := fun a o' ha => by
      obtain ⟨g1, g2⟩ := hm_some ha
      refine hm_of ?_ (sx _ _ g2)
      rw [addM_ne (ne_of_none g2 hx)]
      exact g1
    have wx : Wd (addM M x) (upd (upd H2 dx (.own x)) x (.ins C dx [])) := wd_add ((wd1.mono e2).mono sx) (by rw [upd_same]; intro z; cases z)
    refine ⟨addM M x, h, o, x, dx, v0, v1, wx, addM_same, upd_same, rfl, p1, p2.mem, by rw [p2.len]; omega, up_hall _ _ _ ((hm_mono e2).trans mx) hh1, ho1.up ((hm_mono e2).trans mx), fun H3 dx' fs t b3 hx3 hl ht => ⟨rfl, x, C, dx', fs, t, rfl, hx3, dCls, dNo, hl, q2 t H3 (fun a o' ha => b3 _ _ (ne_of_none ha hx) (sx _ _ ha)) ?_⟩⟩
    exact Dp.up ht (hm_add_sub M x H3)
  refine q_asg (K := K) (M := M) (d := .list ((lens (dayF h o) (sized h)).map nI)) (EvD.eq (ed_map (xs := rings (dayF h o) (sized h)) (enc := fun r => .list (r.map nI)) (r := fun r => nI r.length) wd1 (src_list (ed_call (dayF h o, sized h) wd1 (ea_cons htab ea_nil) ⟨cl, pos, few⟩)) ?_ (fun _ => rfl) fun a ha M' H3 z e3 e4 wd3 hz => EvD.eq (ed_lenL (ed_var rfl hz)) (by rw [List.length_map]; rfl)) ?_) fun vl H2 e2 hvl => ?_
  · have := lens_le (F := dayF h o) (N := sized h)
    unfold lens at this
    rw [List.length_map] at this
    omega
  · unfold lens
    rw [List.map_map]
    rfl
  have hll := lens_le (F := dayF h o) (N := sized h)
  refine s_ret (EvD.eq (ed_map (xs := (List.range (sized h + 1)).filter fun L => decide (L ∈ lens (dayF h o) (sized h))) (enc := nI) (r := fun L => .tuple [nI L, nI ((lens (dayF h o) (sized h)).count L)]) (wd1.mono e2) (src_list (ed_sortSet (w := w) (wd1.mono e2) (ed_var rfl hvl) (by omega) (asc_filter _ _) fun y => ?_)) ?_ (fun _ => rfl) fun a ha M' H3 z e3 e4 wd3 hz =>
    ed_tup wd3 (ea_cons (ed_var rfl hz) (ea_cons (ed_count (ed_var rfl (hvl.up e4)) (ed_var rfl hz)) ea_nil))) ?_) fun v H3 e3 hv => q v H3 ((e1.trans e2).trans e3) hv
  · rw [List.mem_filter, List.mem_range, decide_eq_true_iff]
    exact ⟨fun h => h.2, fun h => ⟨Nat.lt_succ_of_le (lens_small y h), h⟩⟩
  · have := List.length_filter_le (fun L => decide (L ∈ lens (dayF h o) (sized h))) (List.range (sized h + 1))
    rw [List.length_range] at this
    omega
  · unfold pairsD RL
    rw [List.map_map]
    rfl
end
end EIT
end
/-! text P3 -/
section
/-! Plain: lists of lengths and how many. -/
namespace EIT
def tal (l : List (Nat × Nat)) (k : Nat) : Nat := (l.map fun p => if p.1 = k then p.2 else 0).sum
structure Canon (l : List (Nat × Nat)) : Prop where
  asc : l.Pairwise fun p q => p.1 < q.1
  pos : ∀ p ∈ l, 1 ≤ p.1 ∧ 1 ≤ p.2
theorem tal_cons (p : Nat × Nat) (l : List (Nat × Nat)) (k : Nat) : tal (p :: l) k = (if p.1 = k then p.2 else 0) + tal l k := by unfold tal; rw [List.map_cons, List.sum_cons]
theorem tal_app (l m : List (Nat × Nat)) (k : Nat) : tal (l ++ m) k = tal l k + tal m k := by unfold tal; rw [List.map_append, List.sum_append]
theorem tal_no : ∀ (l : List (Nat × Nat)) (k : Nat), (∀ p ∈ l, p.1 ≠ k) → tal l k = 0
  | [], _, _ => rfl
  | p :: l, k, h => by rw [tal_cons, if_neg (h p List.mem_cons_self), tal_no l k fun q hq => h q (List.mem_cons_of_mem _ hq)]
theorem tal_mem : ∀ (l : List (Nat × Nat)) (k : Nat), tal l k ≠ 0 → ∃ p ∈ l, p.1 = k
  | l, k, h => Classical.byContradiction fun hn => h (tal_no l k fun p hp e => hn ⟨p, hp, e⟩)
theorem tal_of {l : List (Nat × Nat)} (h : (l.map (·.1)).Nodup) {p : Nat × Nat} (hp : p ∈ l) : tal l p.1 = p.2 := by
  induction l with
  | nil => cases hp
  | cons q l ih =>
    rw [List.map_cons] at h
    obtain ⟨h1, h2⟩ := List.nodup_cons.mp h
    rw [tal_cons]
    rcases List.mem_cons.mp hp with e | e
    · subst e
      rw [if_pos rfl, tal_no l p.1 fun r hr z => h1 (List.mem_map.mpr ⟨r, hr, z⟩), Nat.add_zero]
    · rw [if_neg fun (z : q.1 = p.1) => h1 (by rw [z]; exact List.mem_map.mpr ⟨p, e, rfl⟩), ih h2 e, Nat.zero_add]
theorem tal_perm {l m : List (Nat × Nat)} (h : l.Perm m) (k : Nat) : tal l k = tal m k := (h.map _).sum_nat
theorem Canon.nd {l : List (Nat × Nat)} (c : Canon l) : (l.map (·.1)).Nodup := List.pairwise_map.mpr (List.Pairwise.imp (fun h => Nat.ne_of_lt h) c.asc)
theorem Canon.tail {p : Nat × Nat} {l : List (Nat × Nat)} (c : Canon (p :: l)) : Canon l := ⟨(List.pairwise_cons.mp c.asc).2, fun q hq => c.pos q (List.mem_cons_of_mem _ hq)⟩
theorem canon_ext : ∀ {l m : List (Nat × Nat)}, Canon l → Canon m → (∀ k, tal l k = tal m k) → l = m
  | [], [], _, _, _ => rfl
  | [], q :: m, _, c, h => by
    have h1 := h q.1
    rw [tal_of c.nd List.mem_cons_self] at h1
    have := (c.pos q List.mem_cons_self).2
    have h2 : tal [] q.1 = 0 := rfl
    omega
  | p :: l, [], c, _, h => by
    have h1 := h p.1
    rw [tal_of c.nd List.mem_cons_self] at h1
    have := (c.pos p List.mem_cons_self).2
    have h2 : tal [] p.1 = 0 := rfl
    omega
  | p :: l, q :: m, c, d, h => by
    obtain ⟨a1, a2⟩ := List.pairwise_cons.mp c.asc
    obtain ⟨b1, b2⟩ := List.pairwise_cons.mp d.asc
    have hp := (c.pos p List.mem_cons_self).2
    have hq := (d.pos q List.mem_cons_self).2
    have e1 : p.1 = q.1 := by
      have t1 := h p.1
      have t2 := h q.1
      rw [tal_of c.nd List.mem_cons_self] at t1
      rw [tal_of d.nd List.mem_cons_self] at t2
      obtain ⟨r, hr, er⟩ := tal_mem (q :: m) p.1 (by omega)
      obtain ⟨s, hs, es⟩ := tal_mem (p :: l) q.1 (by omega)
      rcases List.mem_cons.mp hr with z | z
      · rw [← er, z]
      · rcases List.mem_cons.mp hs with z2 | z2
        · rw [← es, z2]
        · have := b1 r z
          have := a1 s z2
          omega
    have e2 : p.2 = q.2 := by
      have t1 := h p.1
      rw [tal_of c.nd List.mem_cons_self, e1, tal_of d.nd List.mem_cons_self] at t1
      exact t1
    have e : p = q := Prod.ext e1 e2
    subst e
    rw [canon_ext c.tail d.tail fun k => ?_]
    have := h k
    rw [tal_cons, tal_cons] at this
    omega
/-! the sums -/
def T1 (p : Nat × Nat) (b : List (Nat × Nat)) (k : Nat) : Nat := (b.map fun q => if Nat.lcm p.1 q.1 = k then p.2 * q.2 * Nat.gcd p.1 q.1 else 0).sum
def T (a b : List (Nat × Nat)) (k : Nat) : Nat := (a.map fun p => T1 p b k).sum
theorem T1_snoc (p : Nat × Nat) (b : List (Nat × Nat)) (q : Nat × Nat) (k : Nat) : T1 p (b ++ [q]) k = T1 p b k + if Nat.lcm p.1 q.1 = k then p.2 * q.2 * Nat.gcd p.1 q.1 else 0 := by
  unfold T1; rw [List.map_append, List.sum_append]; simp
theorem T_snoc (a : List (Nat × Nat)) (p : Nat × Nat) (b : List (Nat × Nat)) (k : Nat) : T (a ++ [p]) b k = T a b k + T1 p b k := by
  unfold T; rw [List.map_append, List.sum_append]; simp
/-! a dict as a list -/
def putN (d : List (Nat × Nat)) (k v : Nat) : List (Nat × Nat) := if (d.any fun p => decide (p.1 = k)) = true then d.map (fun p => if p.1 = k then (p.1, v) else p) else d ++ [(k, v)]
structure Dd (d : List (Nat × Nat)) (g : Nat → Nat) : Prop where
  nd : (d.map (·.1)).Nodup
  pos : ∀ p ∈ d, 1 ≤ p.1 ∧ 1 ≤ p.2
  val : ∀ k, tal d k = g k
theorem put_keys (d : List (Nat × Nat)) (k v : Nat) : (d.map fun p => if p.1 = k then (p.1, v) else p).map (·.1) = d.map (·.1) := by
  rw [List.map_map]
  refine List.map_congr_left fun p _ => ?_
  show (if p.1 = k then (p.1, v) else p).1 = p.1
  split <;> rfl
theorem put_len (d : List (Nat × Nat)) (k v : Nat) : (putN d k v).length ≤ d.length + 1 := by
  unfold putN
  split
  · rw [List.length_map]; omega
  · rw [List.length_append]; exact Nat.le_refl _
theorem tal_map_eq (k v : Nat) : ∀ (d : List (Nat × Nat)), (d.map (·.1)).Nodup → (∃ p ∈ d, p.1 = k) → tal (d.map fun p => if p.1 = k then (p.1, v) else p) k = v
  | [], _, h => by obtain ⟨p, hp, _⟩ := h; cases hp
  | p :: d, nd, h => by
    rw [List.map_cons] at nd
    obtain ⟨h1, h2⟩ := List.nodup_cons.mp nd
    rw [List.map_cons, tal_cons]
    by_cases e : p.1 = k
    · rw [if_pos e]
      show (if p.1 = k then v else 0) + _ = v
      rw [if_pos e, tal_no _ k fun q hq z => ?_, Nat.add_zero]
      have hk : k ∈ d.map (·.1) := by rw [← put_keys d k v]; exact List.mem_map.mpr ⟨q, hq, z⟩
      rw [← e] at hk
      exact h1 hk
    · rw [if_neg e, if_neg e, Nat.zero_add]
      refine tal_map_eq k v d h2 ?_
      obtain ⟨q, hq, eq⟩ := h
      rcases List.mem_cons.mp hq with z | z
      · rw [z] at eq; exact absurd eq e
      · exact ⟨q, z, eq⟩
theorem tal_map_ne (k v j : Nat) (hj : j ≠ k) : ∀ (d : List (Nat × Nat)), tal (d.map fun p => if p.1 = k then (p.1, v) else p) j = tal d j
  | [] => rfl
  | p :: d => by
    rw [List.map_cons, tal_cons, tal_cons, tal_map_ne k v j hj d]
    congr 1
    by_cases e : p.1 = k
    · rw [if_pos e]
      show (if p.1 = j then v else 0) = if p.1 = j then p.2 else 0
      rw [if_neg (by omega), if_neg (by omega)]
    · rw [if_neg e]
theorem Dd.put {d : List (Nat × Nat)} {g : Nat → Nat} (h : Dd d g) {k v : Nat} (hk : 1 ≤ k) (hv : 1 ≤ v) : Dd (putN d k v) fun j => if j = k then v else g j := by
  by_cases a : (d.any fun p => decide (p.1 = k)) = true
  · have e : putN d k v = d.map fun p => if p.1 = k then (p.1, v) else p := by unfold putN; rw [if_pos a]
    rw [e]
    refine ⟨by rw [put_keys]; exact h.nd, fun p hp => ?_, fun j => ?_⟩
    · obtain ⟨q, hq, rfl⟩ := List.mem_map.mp hp
      have := h.pos q hq
      split
      · exact ⟨this.1, hv⟩
      · exact this
    · obtain ⟨p, hp, hpk⟩ := List.any_eq_true.mp a
      by_cases hj : j = k
      · subst hj
        rw [if_pos rfl]
        exact tal_map_eq j v d h.nd ⟨p, hp, of_decide_eq_true hpk⟩
      · rw [if_neg hj, tal_map_ne k v j hj, h.val]
  · have e : putN d k v = d ++ [(k, v)] := by unfold putN; rw [if_neg a]
    have hno : ∀ p ∈ d, p.1 ≠ k := fun p hp z => a (List.any_eq_true.mpr ⟨p, hp, decide_eq_true z⟩)
    rw [e]
    refine ⟨?_, fun p hp => ?_, fun j => ?_⟩
    · rw [List.map_append, List.map_cons, List.map_nil]
      refine List.nodup_append.mpr ⟨h.nd, by simp, ?_⟩
      intro x hx y hy
      rw [List.mem_singleton] at hy
      subst hy
      obtain ⟨p, hp, rfl⟩ := List.mem_map.mp hx
      exact hno p hp
    · rcases List.mem_append.mp hp with z | z
      · exact h.pos p z
      · rw [List.mem_singleton] at z; rw [z]; exact ⟨hk, hv⟩
    · rw [tal_app, tal_cons]
      show tal d j + ((if k = j then v else 0) + 0) = _
      by_cases hj : j = k
      · subst hj
        rw [if_pos rfl, if_pos rfl, tal_no d j hno]
        omega
      · rw [if_neg hj, if_neg fun z => hj z.symm, h.val]
        rfl
theorem Dd.empty : Dd [] fun _ => 0 := ⟨List.Pairwise.nil, fun p hp => (by cases hp), fun _ => rfl⟩
theorem Dd.congr {d : List (Nat × Nat)} {g g' : Nat → Nat} (h : Dd d g) (e : ∀ k, g k = g' k) : Dd d g' := ⟨h.nd, h.pos, fun k => (h.val k).trans (e k)⟩
end EIT
end
/-! text R5 -/
section
set_option maxHeartbeats 4000000
/-! Comprehensions whose turns change what is masked. -/
namespace EIT
open PySem PySem.Spec PyProof.Rows L2
/-- all but what is in S stands -/
def Chg (S : Mk) (H H' : Hp) : Prop := Same (Hm S H) (Hm S H')
theorem Chg.refl (S : Mk) (H : Hp) : Chg S H H := Same.refl _
theorem Chg.trans {S : Mk} {H H' H'' : Hp} (a : Chg S H H') (b : Chg S H' H'') : Chg S H H'' := Same.trans a b
theorem Chg.of {S : Mk} {H H' : Hp} (e : Same H H') : Chg S H H' := hm_mono e
theorem Chg.hm {S M : Mk} {H H' : Hp} (c : Chg S H H') (h : ∀ a, S a = true → M a = true) : Same (Hm M H) (Hm M H') := fun a o ha => by
  obtain ⟨h1, h2⟩ := hm_some ha
  have hS : S a = false := by
    cases z : S a with
    | false => rfl
    | true => rw [h a z] at h1; cases h1
  exact hm_of h1 (hm_some (c a o (hm_of hS h2))).2
theorem Chg.at {S : Mk} {H H' : Hp} (c : Chg S H H') {a : Addr} {o : HO} (hS : S a = false) (h : H a = some o) : H' a = some o := (hm_some (c a o (hm_of hS h))).2
theorem Chg.same {H0 H H' : Hp} {S : Mk} (c : Chg S H H') (e : Same H0 H) (h : ∀ a, S a = true → H0 a = none) : Same H0 H' := fun a o ha => by
  refine c.at ?_ (e _ _ ha)
  cases z : S a with
  | false => rfl
  | true => rw [h a z] at ha; cases ha
section
variable {K : PySem.W.Frag} {M : Mk} {σ : L2.St} {H : Hp} {te : TE} {wi : TI}
theorem lc_imp {ι : Type} {xs : List ι} {enc : ι → PyData} {S : Mk} {j : Nat} {vs : List Nat} (hSM : ∀ a, S a = true → M a = true) (wd : Wd M H) (hsr : Src K M wi σ H (xs.map enc)) (hz : xs.length ≤ 50000) (hw : ∀ x, wipe ((wipe σ vs).set j (some x)) vs = wipe σ vs)
    (I : Nat → Hp → Prop) (G : Nat → PyData → Prop) (h0 : ∀ H1, Same H H1 → I 0 H1) (istay : ∀ i H1 H2, I i H1 → (∀ a, S a = true → H2 a = H1 a) → I i H2)
    (turn : ∀ (i : Nat) (a : ι), xs[i]? = some a → ∀ (M' : Mk) (H1 : Hp) (v : V), (∀ a, M a = true → M' a = true) → Chg S H H1 → Same (Hm M H) (Hm M' H1) → Wd M' H1 → Dp K (Hm M' H1) v (enc a) → I i H1 → ∀ Q : VK, (∀ z H2 d, Chg S H1 H2 → Wd M' H2 → I (i + 1) H2 → G i d → Dp K (Hm M' H2) z d → Q z H2) → te ((wipe σ vs).set j (some v)) H1 Q)
    (Q : VK) (q : ∀ D H1 ds acc, Chg S H H1 → Wd M H1 → I xs.length H1 → ds.length = xs.length → (∀ i d, ds[i]? = some d → G i d) → H D = none → M D = false → H1 D = some (.lst acc) → DpAll K (Hm M H1) acc ds → Q (.ref D) H1) : tLc wi (gName j) tYes te vs σ H Q :=
  hsr H (Same.refl _) _ fun J H2 e2 w => by
  intro D hD
  have wd2 : Wd M H2 := wd.mono e2
  have hmD : M D = false := wd2.new hD
  have hSD : S D = false := by
    cases z : S D with
    | false => rfl
    | true => rw [hSM D z] at hmD; cases hmD
  have hHD : H D = none := by
    cases z : H D with
    | none => rfl
    | some o => rw [e2 _ _ z] at hD; cases hD
  let P : Nat → Hp → Prop := fun i H' => Chg S H2 H' ∧ Same (Hm M H2) (Hm (addM M D) H') ∧ Wd (addM M D) H' ∧ I i H' ∧ ∃ acc ds, H' D = some (.lst acc) ∧ DpAll K (Hm (addM M D) H') acc ds ∧ ds.length = i ∧ ∀ m d, ds[m]? = some d → G m d
  refine ⟨fun i m H' => m = xs.length - i ∧ i ≤ xs.length ∧ P i H', ⟨xs.length, by omega, Nat.zero_le _, Chg.of (same_new hD), hm_new hD, wd_new wd2 hD, istay _ _ _ (h0 H2 e2) (fun a ha => upd_ne fun z => by rw [z, hSD] at ha; cases ha), [], [], upd_same, .nil, rfl, fun m d h => by simp at h⟩, ?_⟩
  rintro i m H' ⟨rfl, hi, e3, e4, wd3, hI, acc, ds, hacc, hall, hdl, hG⟩
  obtain ⟨w1, w2⟩ := w (addM M D) i H' e4 wd3
  rw [List.length_map] at w1 w2
  by_cases hlt : i < xs.length
  · obtain ⟨go, y⟩ := w1 hlt
    refine .inr ⟨go, P (i + 1), fun H'' p' => ⟨xs.length - (i + 1), by omega, rfl, hlt, p'⟩, fun x H'' hy => ?_⟩
    obtain ⟨e5, d, hd1, hd2⟩ := y x H'' hy
    have ex : xs[i]? = some xs[i] := List.getElem?_eq_getElem hlt
    rw [List.getElem?_map, ex] at hd1
    have hd3 : enc xs[i] = d := Option.some.inj hd1
    subst hd3
    have wd4 : Wd (addM M D) H'' := wd3.mono e5
    have sD : Same (Hm M H2) (Hm (addM M D) H'') := e4.trans (hm_mono e5)
    have hI2 : I i H'' := istay _ _ _ hI fun a ha => by
      have hne : H' a ≠ none := wd3 a (addM_old (hSM a ha))
      cases z : H' a with
      | none => exact absurd z hne
      | some o => exact e5 _ _ z
    refine ⟨hw x, ?_⟩
    refine iteT (B := P (i + 1) H'') ?_
    refine turn i xs[i] ex (addM M D) H'' x (fun a ha => addM_old ha) ((Chg.of e2).trans (e3.trans (Chg.of e5))) ((hm_mono e2).trans sD) wd4 hd2 hI2 _ fun z H4 dz c4 wd5 hI4 hGz hz4 => ?_
    have hD4 : H4 D = some (.lst acc) := c4.at hSD (e5 _ _ hacc)
    have hSM' : ∀ a, S a = true → addM M D a = true := fun a ha => addM_old (hSM a ha)
    refine ⟨acc, hD4, sz_lt (by rw [dps_len hall, hdl]; omega), ?_, ?_, ?_, ?_, acc ++ [z], ds ++ [dz], upd_same, ?_, ?_, ?_⟩
    · intro a o ha
      obtain ⟨a1, a2⟩ := hm_some ha
      refine hm_of a1 ?_
      rw [upd_ne (ne_of_none a2 hD)]
      exact (e3.trans ((Chg.of e5).trans c4)).at a1 a2
    · rw [hm_upd addM_same]; exact sD.trans (c4.hm hSM')
    · intro a ha
      by_cases ea : a = D
      · rw [ea, upd_same]; intro z; cases z
      · rw [upd_ne ea]; exact wd5 a ha
    · exact istay _ _ _ hI4 fun a ha => upd_ne fun z => by rw [z, hSD] at ha; cases ha
    · rw [hm_upd addM_same]
      exact dps_append (hall.up ((hm_mono e5).trans (c4.hm hSM'))) (dps_one hz4)
    · rw [List.length_append, hdl]; rfl
    · intro m d hd
      rw [List.getElem?_append] at hd
      split at hd
      · exact hG m d hd
      · rename_i hge
        have hm : m = i := by
          rw [hdl] at hge hd
          have := (List.getElem?_eq_some_iff.mp hd).1
          simp only [List.length_cons, List.length_nil] at this
          omega
        subst hm
        rw [hdl, Nat.sub_self] at hd
        cases hd
        exact hGz
  · have e : i = xs.length := by omega
    subst e
    refine .inl ⟨w2 rfl, q D H' ds acc ((Chg.of e2).trans e3) ?_ hI hdl hG hHD hmD hacc ?_⟩
    · exact fun a ha => wd3 a (addM_old ha)
    · exact hall.up (hm_add_sub M D H')
end
end EIT
end
/-! text R6 -/
section
set_option maxHeartbeats 4000000
/-! dicts of numbers; sorted(list(d.items())). -/
namespace EIT
open PySem PySem.Spec PyProof.Rows L2
def encD (d : List (Nat × Nat)) : List (Key × V) := d.map fun p => (Sum.inl (p.1 : Int), V.int (p.2 : Int))
theorem key_inj (a b : Nat) : ((Sum.inl (a : Int) : Key) = Sum.inl (b : Int)) ↔ a = b := ⟨fun h => by injection h with h; exact Int.ofNat.inj h, fun h => by rw [h]⟩
theorem put_enc (d : List (Nat × Nat)) (k v : Nat) : putK (encD d) (Sum.inl (k : Int)) (V.int v) = encD (putN d k v) := by
  unfold putK putN
  have ea : ((encD d).any fun kv => decide (kv.1 = Sum.inl (k : Int))) = d.any fun p => decide (p.1 = k) := by
    unfold encD
    rw [List.any_map]
    congr 1
    funext p
    show decide ((Sum.inl (p.1 : Int) : Key) = Sum.inl (k : Int)) = decide (p.1 = k)
    by_cases h : p.1 = k
    · rw [decide_eq_true h, decide_eq_true ((key_inj _ _).mpr h)]
    · rw [decide_eq_false h, decide_eq_false fun z => h ((key_inj _ _).mp z)]
  rw [ea]
  split
  · unfold encD
    rw [List.map_map, List.map_map]
    refine List.map_congr_left fun p _ => ?_
    show (if (Sum.inl (p.1 : Int) : Key) = Sum.inl (k : Int) then _ else _) = _
    by_cases h : p.1 = k
    · rw [if_pos ((key_inj _ _).mpr h)]
      show _ = ((Sum.inl (((if p.1 = k then (p.1, v) else p).1 : Nat) : Int) : Key), V.int (((if p.1 = k then (p.1, v) else p).2 : Nat) : Int))
      rw [if_pos h]
    · rw [if_neg fun z => h ((key_inj _ _).mp z)]
      show _ = ((Sum.inl (((if p.1 = k then (p.1, v) else p).1 : Nat) : Int) : Key), V.int (((if p.1 = k then (p.1, v) else p).2 : Nat) : Int))
      rw [if_neg h]
  · unfold encD
    rw [List.map_append]
    rfl
theorem val_enc : ∀ (d : List (Nat × Nat)) (k : Nat), (d.map (·.1)).Nodup → (valV (encD d) (Sum.inl (k : Int))).getD (.int 0) = .int (tal d k : Nat)
  | [], _, _ => rfl
  | p :: d, k, nd => by
    rw [List.map_cons] at nd
    obtain ⟨h1, h2⟩ := List.nodup_cons.mp nd
    show (valV (((Sum.inl (p.1 : Int) : Key), V.int (p.2 : Int)) :: encD d) _).getD _ = _
    rw [tal_cons]
    by_cases h : p.1 = k
    · rw [valV_pos ((key_inj _ _).mpr h), if_pos h, tal_no d k fun q hq z => h1 (List.mem_map.mpr ⟨q, hq, by rw [h]; exact z⟩)]
      rfl
    · rw [valV_neg fun z => h ((key_inj _ _).mp z), if_neg h, Nat.zero_add]
      exact val_enc d k h2
section
variable {K : PySem.W.Frag} {M : Mk} {σ : L2.St} {H : Hp} {to te tv ta tb : TE} {tz : TS} {D : Ends} {L : Addr} {d : List (Nat × Nat)} {g : Nat → Nat}
theorem q_dnew {i : Nat} (k : ∀ L, H L = none → tz D (σ.set i (some (.ref L))) (upd H L (.dK (encD [])))) : tSeq (tAsg tDNewK (gName i)) tz D σ H := fun L hL => k L hL
theorem ed_get {k : Nat} (ht : EvV to σ H (.ref L)) (hl : H L = some (.dK (encD d))) (hd : Dd d g) (hk : EvD K M te σ H (nI k)) : EvD K M (tDGet2 to te (tC (.int 0))) σ H (nI (g k)) := fun H1 e Q q =>
  ht H1 e _ fun v H2 e2 hv => by
    cases hv
    have h2 := (e.trans e2) _ _ hl
    refine ⟨L, rfl, .inl ⟨_, .of h2⟩, hk H2 (e.trans e2) _ fun y H3 e3 hy => ?_⟩
    rw [dp_int hy]
    refine ⟨_, .inl ⟨_, Sum.inl (k : Int), .of (e3 _ _ h2), rfl, rfl⟩, ?_⟩
    rw [val_enc d k hd.nd, hd.val]
    exact q _ H3 (e2.trans e3) (.int _)
theorem s_dput {k v : Nat} (hv : EvD K M tv σ H (nI v)) (ht : EvV to σ H (.ref L)) (hk : EvD K M te σ H (nI k)) (hl : H L = some (.dK (encD d))) (hz : d.length < 100000)
    (kk : ∀ H', But L H H' → H' L = some (.dK (encD (putN d k v))) → D.nx σ H') : tAsg tv (gSub to te rSetD) D σ H :=
  hv H (Same.refl _) _ fun z H1 e1 hz1 => ht H1 e1 _ fun v' H2 e2 hv' => hk H2 (e1.trans e2) _ fun y H3 e3 hy => by
    cases hv'
    rw [dp_int hz1, dp_int hy]
    have e03 := (e1.trans e2).trans e3
    refine ⟨L, _, rfl, .inl ⟨encD d, Sum.inl (k : Int), e03 _ _ hl, rfl, sz_lt (by unfold encD; rw [List.length_map]; exact hz), rfl⟩, ?_⟩
    refine kk _ (fun a o ha h => by rw [upd_ne ha]; exact e03 _ _ h) ?_
    rw [upd_same, put_enc]
/-- the pair that stands at x -/
def pairAt (H : Hp) (x : V) : Int × Int := match x with
  | .ref t => match H t with
    | some (.tup [.int a, .int b]) => (a, b)
    | _ => (0, 0)
  | _ => (0, 0)
theorem paired_get {α β : Type} {R : α → β → Prop} : ∀ {l : List α} {m : List β}, Paired R l m → ∀ x ∈ l, ∃ y ∈ m, R x y
  | _, _, .nil, x, h => by cases h
  | _, _, .cons r t, x, h => by
    rcases List.mem_cons.mp h with e | e
    · exact ⟨_, List.mem_cons_self, e ▸ r⟩
    · obtain ⟨y, hy, h2⟩ := paired_get t x e
      exact ⟨y, List.mem_cons_of_mem _ hy, h2⟩
theorem paired_pairs {H : Hp} : ∀ {ts : List Addr} {d : List (Nat × Nat)}, Paired (fun (t : Addr) (q : Key × V) => H t = some (.tup [kV q.1, q.2])) ts (encD d) → (ts.map V.ref).map (pairAt H) = d.map fun p => ((p.1 : Int), (p.2 : Int))
  | [], [], _ => rfl
  | t :: ts, p :: d, h => by
    cases h with
    | cons r h =>
      have ih := paired_pairs (d := d) h
      rw [List.map_cons, List.map_cons, List.map_cons, ih]
      congr 1
      show (match H t with | some (.tup [.int a, .int b]) => (a, b) | _ => (0, 0)) = _
      rw [r]
      rfl
theorem dps_pairs {H : Hp} : ∀ {ys : List V} {zs : List (Nat × Nat)}, (∀ y ∈ ys, ∃ t, y = .ref t ∧ H t = some (.tup [.int (pairAt H y).1, .int (pairAt H y).2])) → ys.map (pairAt H) = zs.map (fun p => ((p.1 : Int), (p.2 : Int))) → DpAll K H ys (zs.map pairD)
  | [], [], _, _ => .nil
  | [], _ :: _, _, h => by simp at h
  | _ :: _, [], _, h => by simp at h
  | y :: ys, z :: zs, hy, h => by
    rw [List.map_cons, List.map_cons] at h
    injection h with h1 h2
    obtain ⟨t, rfl, ht⟩ := hy y List.mem_cons_self
    rw [h1] at ht
    exact .cons (.tup (.of ht) (.cons (.int _) (.cons (.int _) .nil))) (dps_pairs (fun y hy' => hy y (List.mem_cons_of_mem _ hy')) h2)
/-- sorted(list(d.items())), keys unlike -/
theorem ed_sortItems (wd : Wd M H) (ht : EvV to σ H (.ref L)) (hl : H L = some (.dK (encD d))) (nd : (d.map (·.1)).Nodup) {Q : VK}
    (q : ∀ (zs : List (Nat × Nat)) p H' vs, Same H H' → H p = none → zs.Perm d → zs.Pairwise (fun p q => p.1 < q.1) → H' p = some (.lst vs) → DpAll K (Hm M H') vs (zs.map pairD) → Q (.ref p) H') : tCB (rSortedPO K) (tCons (LiI.tListItems to) tNil) σ H Q :=
  ht H (Same.refl _) _ fun v H1 e1 hv => by
    cases hv
    refine ⟨L, encD d, rfl, e1 _ _ hl, fun H2 p ts k2 hp hts hpt hlst hpr => ?_⟩
    have s2 : Same H1 H2 := k2
    have wd1 := wd.mono e1
    have hat : ∀ x ∈ ts.map V.ref, ∃ t, x = V.ref t ∧ H2 t = some (.tup [.int (pairAt H2 x).1, .int (pairAt H2 x).2]) ∧ t ∈ ts := fun x hx => by
      obtain ⟨t, ht', rfl⟩ := List.mem_map.mp hx
      obtain ⟨y, hy, hr⟩ := paired_get hpr t ht'
      obtain ⟨p', hp', rfl⟩ := List.mem_map.mp hy
      refine ⟨t, rfl, ?_, ht'⟩
      have e : pairAt H2 (.ref t) = ((p'.1 : Int), (p'.2 : Int)) := by
        show (match H2 t with | some (.tup [.int a, .int b]) => (a, b) | _ => (0, 0)) = _
        rw [hr]
        rfl
      rw [e]
      exact hr
    refine ⟨p, ts.map V.ref, pairAt H2, rfl, .of hlst, fun x hx => by obtain ⟨t, h1, h2, _⟩ := hat x hx; exact ⟨t, h1, h2⟩, fun ys p2 hs hb hp2 => ?_⟩
    have hperm := hb.perm
    have hmap : (ys.map (pairAt H2)).Perm (d.map fun p => ((p.1 : Int), (p.2 : Int))) := by
      have z := hperm.map (pairAt H2)
      rw [paired_pairs hpr] at z
      exact z
    -- as numbers
    obtain ⟨zs, hzs, hzp⟩ : ∃ zs : List (Nat × Nat), ys.map (pairAt H2) = zs.map (fun p => ((p.1 : Int), (p.2 : Int))) ∧ zs.Perm d := by
      refine ⟨(ys.map (pairAt H2)).map fun p => (p.1.toNat, p.2.toNat), ?_, ?_⟩
      · rw [List.map_map]
        refine (List.map_congr_left fun x hx => ?_).trans (List.map_id _) |>.symm
        obtain ⟨p', _, rfl⟩ := List.mem_map.mp (hmap.mem_iff.mp hx)
        rfl
      · have z := hmap.map fun p : Int × Int => (p.1.toNat, p.2.toNat)
        have e : (d.map fun p => ((p.1 : Int), (p.2 : Int))).map (fun p : Int × Int => (p.1.toNat, p.2.toNat)) = d := by
          rw [List.map_map]
          exact (List.map_congr_left fun p _ => rfl).trans (List.map_id d)
        rw [e] at z
        exact z
    have hpair : zs.Pairwise fun p q => p.1 ≤ q.1 := by
      have h1 : (ys.map (pairAt H2)).Pairwise fun p q => SrtO.lexB q p = false := List.pairwise_map.mpr hs
      rw [hzs] at h1
      refine List.Pairwise.imp (fun {p q} h => ?_) (List.pairwise_map.mp h1)
      have := SrtO.lexB_no.mp h
      omega
    have hnd : (zs.map (·.1)).Nodup := (hzp.map _).nodup_iff.mpr nd
    have hasc : zs.Pairwise fun p q => p.1 < q.1 := by
      refine List.Pairwise.imp₂ (fun {p q} h1 h2 => ?_) hpair (List.pairwise_map.mp hnd)
      omega
    have hp2n : H p2 = none := by
      cases z : H p2 with
      | none => rfl
      | some o => rw [(e1.trans s2) _ _ z] at hp2; cases hp2
    refine q zs p2 _ ys ((e1.trans s2).trans (same_new hp2)) hp2n hzp hasc upd_same ?_
    refine (dps_pairs (K := K) (H := Hm M H2) (zs := zs) (fun y hy => ?_) ?_).up (hm_mono (same_new hp2))
    · obtain ⟨t, rfl, h2, htm⟩ := hat y (hperm.mem_iff.mp hy)
      have hmt : M t = false := wd1.new (hts t htm)
      have e : pairAt (Hm M H2) (.ref t) = pairAt H2 (.ref t) := by
        have hH : Hm M H2 t = H2 t := (hm_of hmt h2).trans h2.symm
        show (match Hm M H2 t with | some (.tup [.int a, .int b]) => (a, b) | _ => (0, 0)) = (match H2 t with | some (.tup [.int a, .int b]) => (a, b) | _ => (0, 0))
        rw [hH]
      rw [e]
      exact ⟨t, rfl, hm_of hmt h2⟩
    · rw [← hzs]
      refine List.map_congr_left fun y hy => ?_
      obtain ⟨t, rfl, h2, htm⟩ := hat y (hperm.mem_iff.mp hy)
      have hmt : M t = false := wd1.new (hts t htm)
      have hH : Hm M H2 t = H2 t := (hm_of hmt h2).trans h2.symm
      show (match Hm M H2 t with | some (.tup [.int a, .int b]) => (a, b) | _ => (0, 0)) = (match H2 t with | some (.tup [.int a, .int b]) => (a, b) | _ => (0, 0))
      rw [hH]
theorem ed_gcd {a b : Nat} (ha : EvD K M ta σ H (nI a)) (hb : EvD K M tb σ H (nI b)) : EvD K M (tCB rGcd (tCons ta (tCons tb tNil))) σ H (nI (Nat.gcd a b)) := fun H1 e Q q =>
  ha H1 e _ fun x H2 e2 hx => hb H2 (e.trans e2) _ fun y H3 e3 hy => ⟨a, b, by rw [dp_int hx, dp_int hy], q _ H3 (e2.trans e3) (.int _)⟩
/-- bits -/
theorem bits_le {n B : Nat} (h : n < 2 ^ B) : (Builtin.Int.intBits (n : Int) : Int) ≤ B := by
  have := PyProof.Rows.intBits_le (a := (n : Int)) (k := B) (by rw [Int.natAbs_natCast]; exact h)
  omega
theorem mulX_nat {a b B C : Nat} (ha : a < 2 ^ B) (hb : b < 2 ^ C) (h : B + C ≤ 134217728) : CMulX (a : Int) (b : Int) := by
  have h1 := bits_le ha
  have h2 := bits_le hb
  unfold CMulX
  omega
theorem divW_nat {a b : Nat} (h0 : 0 < b) (hb : b < 2 ^ 8000) : CDivW (a : Int) (b : Int) := by
  refine ⟨by omega, ?_⟩
  rw [Int.natAbs_natCast]
  have := Nat.log2_lt (Nat.pos_iff_ne_zero.mp h0) |>.mpr hb
  omega
end
end EIT
end
/-! text L1 -/
section
set_option maxHeartbeats 4000000
/-! lengths beside. -/
namespace EIT
open PySem PySem.Spec PyProof.Rows L2
theorem room1 {k : Nat} {A : Around} (r : Room k A) : A.units + 1 < cLine := by have := r.un; omega
theorem cr_sortedPOK {X : Cx} (K : PySem.W.Frag) (hK : X.K = K := by rfl) : CallR X (.builtin "sorted") (rSortedPO K) := by subst hK; exact cr_sortedPO
def Sz (B : Nat) (l : List (Nat × Nat)) : Prop := ∀ p ∈ l, p.1 < 2 ^ B ∧ p.2 < 2 ^ B
structure LbOk (a b : List (Nat × Nat)) : Prop where
  ca : Canon a
  cb : Canon b
  sa : Sz 2000 a
  sb : Sz 2000 b
  la : a.length ≤ 300
  lb : b.length ≤ 300
theorem lcm_form {m n : Nat} (hm : 1 ≤ m) : m / Nat.gcd m n * n = Nat.lcm m n := by
  unfold Nat.lcm
  rw [Nat.mul_comm m n, Nat.mul_div_assoc n (Nat.gcd_dvd_left m n), Nat.mul_comm]
/-- one more turn of the inner loop -/
theorem dd_step {d : List (Nat × Nat)} {g : Nat → Nat} {p q : Nat × Nat} {b : List (Nat × Nat)} (h : Dd d fun k => g k + T1 p b k) (hp : 1 ≤ p.1 ∧ 1 ≤ p.2) (hq : 1 ≤ q.1 ∧ 1 ≤ q.2) :
    Dd (putN d (Nat.lcm p.1 q.1) ((g (Nat.lcm p.1 q.1) + T1 p b (Nat.lcm p.1 q.1)) + p.2 * q.2 * Nat.gcd p.1 q.1)) fun k => g k + T1 p (b ++ [q]) k := by
  have h1 : 1 ≤ Nat.lcm p.1 q.1 := Nat.lcm_pos hp.1 hq.1
  have h2 : 1 ≤ p.2 * q.2 * Nat.gcd p.1 q.1 := Nat.mul_pos (Nat.mul_pos hp.2 hq.2) (Nat.gcd_pos_of_pos_left _ hp.1)
  refine (h.put (k := Nat.lcm p.1 q.1) (v := (g (Nat.lcm p.1 q.1) + T1 p b (Nat.lcm p.1 q.1)) + p.2 * q.2 * Nat.gcd p.1 q.1) h1 (by omega)).congr fun k => ?_
  rw [T1_snoc]
  by_cases e : k = Nat.lcm p.1 q.1
  · subst e
    rw [if_pos rfl, if_pos rfl]
    omega
  · rw [if_neg e, if_neg fun z => e z.symm]
    omega
section
variable {P : Program} {w : World} {K : PySem.W.Frag} {mg : Str → Option Value} {base : Heap}
/-- the promise: a new list -/
def spL (K : PySem.W.Frag) : Sp := fun vs H Q _ => ∃ (M : Mk) (a b : List (Nat × Nat)), Wd M H ∧ LbOk a b ∧ DpAll K (Hm M H) vs [pairsD a, pairsD b] ∧
  ∀ zs p H' ws, Canon zs → (∀ k, tal zs k = T a b k) → zs.length ≤ a.length * b.length → Same H H' → H p = none → H' p = some (.lst ws) → DpAll K (Hm M H') ws (zs.map pairD) → Q (.ref p) H'

theorem sc_lengths_beside : FnScope ["lengths", "others", "found", "one", "many", "two", "more", "shared", "length"] ["lengths", "others"] (defScope s_lengths_beside) := ⟨rfl, rfl, rfl, by decide +kernel, rfl, by decide +kernel, by decide +kernel⟩
theorem ok_lengths_beside (T : Tx K mg) : Cal P w K mg base 1 "lengths_beside" ["lengths", "others"] (spL K) := by
  refine mkS T.d_lengths_beside sc_lengths_beside (fun vs H Q E h => by obtain ⟨_, _, _, _, _, h, _⟩ := h; exact dps_len h) (fun _ _ _ _ _ _ us hl => match us, hl with | [_, _], _ => rfl) fun f cdv A outer s H vs Q E hr h => ?_
  obtain ⟨M, a, b, wd, ok, hv, q⟩ := h
  obtain ⟨v0, v1, rfl, h0, h1⟩ := two_of hv
  obtain ⟨ca, cb, sa, sb, la, lb⟩ := ok
  refine ⟨_, PSs.nox (pss_cons (ps_set (i := 2) sc_lengths_beside.nd rfl (.inl rfl) pe_dnewK)
      (pss_cons (ps_for PassesOwn.never rfl (pi_listK K (pv 0)) (pg_tupK (n := 2) K rfl (pgs_cons (pg_name (i := 3) sc_lengths_beside.nd rfl (.inl rfl)) (pgs_cons (pg_name (i := 4) sc_lengths_beside.nd rfl (.inl rfl)) pgs_nil))) (pss_one (ps_for PassesOwn.never rfl (pi_listK K (pv 1)) (pg_tupK (n := 2) K rfl (pgs_cons (pg_name (i := 5) sc_lengths_beside.nd rfl (.inl rfl)) (pgs_cons (pg_name (i := 6) sc_lengths_beside.nd rfl (.inl rfl)) pgs_nil))) (pss_cons (ps_set (i := 7) sc_lengths_beside.nd rfl (.inl rfl) (pe_callBfun cr_gcd (by rfl) T.g_gcd (pa_cons (pv 3) (pa_cons (pv 5) pa_nil))))
      (pss_cons (ps_set (i := 8) sc_lengths_beside.nd rfl (.inl rfl) (pe_op op_mulX (pe_op op_fdivW (pv 3) (pv 7)) (pv 5)))
      (pss_one (ps_asg (pe_op op_add (pe_dget2 (room1 hr) (pv 2) (pv 8) pe_int ⟨rfl, rfl, rfl, rfl⟩) (pe_op op_mulX (pe_op op_mulX (pv 4) (pv 6)) (pv 7))) (pg_sub (pv 2) (pv 8) (set_dict (room1 hr))))))))))
      (pss_one (ps_ret (pe_callB (cr_sortedPOK K) (by rfl) T.b_sorted (by decide +kernel) (pa_cons (LiI.pe_listItems rfl (pv 2) (by rfl) T.b_list (by decide +kernel)) pa_nil)))))), ?_⟩
  refine q_dnew fun L hL => ?_
  have s0 := same_new (o := .dK (encD [])) hL
  have hmL : M L = false := wd.new hL
  have e0 := hm_new (M := M) (o := .dK (encD [])) hL
  have w0 := wd_new (o := .dK (encD [])) wd hL
  have d0 : (upd H L (.dK (encD []))) L = some (.dK (encD [])) := upd_same
  generalize upd H L (.dK (encD [])) = H1 at s0 e0 w0 d0
  refine q_for (K := K) (M := addM M L) (src_list (ed_var rfl (h0.up e0))) fun H2 e2 => ⟨fun i σ' H' => ∃ y3 y4 y5 y6 y7 y8, σ' = [some v0, some v1, some (.ref L), y3, y4, y5, y6, y7, y8] ∧ Same H H' ∧ Same (Hm (addM M L) H2) (Hm (addM M L) H') ∧ Wd (addM M L) H' ∧
    ∃ d, H' L = some (.dK (encD d)) ∧ Dd d (fun k => EIT.T (a.take i) b k) ∧ d.length ≤ i * b.length, ?_, ?_, ?_, ?_⟩
  · exact ⟨none, none, none, none, none, none, rfl, s0.trans e2, Same.refl _, w0.mono e2, [], e2 _ _ d0, Dd.empty, Nat.zero_le _⟩
  · rintro i σ' H' ⟨y3, y4, y5, y6, y7, y8, rfl, g1, g2, g3, _⟩
    exact ⟨g2, g3⟩
  · rintro i di x σ' H' H'' hd ⟨y3, y4, y5, y6, y7, y8, rfl, g1, g2, g3, d, hdl, hdd, hdn⟩ e4 hx
    have hi : i < a.length := by
      obtain ⟨g, _⟩ := List.getElem?_eq_some_iff.mp hd
      rw [List.length_map] at g; exact g
    have hdi : di = pairD a[i] := by
      rw [List.getElem?_map, List.getElem?_eq_getElem hi] at hd
      exact (Option.some.inj hd).symm
    subst hdi
    have hpa := ca.pos _ (List.getElem_mem hi)
    have hza := sa _ (List.getElem_mem hi)
    have htk := List.take_succ_eq_append_getElem hi
    generalize a[i] = pr at hx hpa hza htk
    refine g_two hx fun x3 x4 hx3 hx4 => ?_
    cases (dp_int hx3)
    cases (dp_int hx4)
    have g1 := g1.trans e4
    have g2 := g2.trans (hm_mono e4)
    have g3 := g3.mono e4
    have hdl := e4 _ _ hdl
    have eM : Same (Hm M H) (Hm (addM M L) H'') := (e0.trans (hm_mono e2)).trans g2
    refine s_for (K := K) (M := addM M L) (src_list (ed_var rfl (h1.up eM))) fun H3 e5 => ⟨fun j σ' H' => ∃ y5 y6 y7 y8, σ' = [some v0, some v1, some (.ref L), some (.int (pr.1 : Nat)), some (.int (pr.2 : Nat)), y5, y6, y7, y8] ∧ Same H H' ∧ Same (Hm (addM M L) H3) (Hm (addM M L) H') ∧ Wd (addM M L) H' ∧
      ∃ d, H' L = some (.dK (encD d)) ∧ Dd d (fun k => EIT.T (a.take i) b k + T1 pr (b.take j) k) ∧ d.length ≤ i * b.length + j, ?_, ?_, ?_, ?_⟩
    · exact ⟨y5, y6, y7, y8, rfl, g1.trans e5, Same.refl _, g3.mono e5, d, e5 _ _ hdl, hdd.congr fun k => rfl, hdn⟩
    · rintro j σ' H' ⟨y5, y6, y7, y8, rfl, k1, k2, k3, _⟩
      exact ⟨k2, k3⟩
    · rintro j dj z σ' H' H4 hd2 ⟨y5, y6, y7, y8, rfl, k1, k2, k3, d, hdl, hdd, hdn⟩ e6 hz
      have hj : j < b.length := by
        obtain ⟨g, _⟩ := List.getElem?_eq_some_iff.mp hd2
        rw [List.length_map] at g; exact g
      have hdj : dj = pairD b[j] := by
        rw [List.getElem?_map, List.getElem?_eq_getElem hj] at hd2
        exact (Option.some.inj hd2).symm
      subst hdj
      have hqb := cb.pos _ (List.getElem_mem hj)
      have hzb := sb _ (List.getElem_mem hj)
      have htb := List.take_succ_eq_append_getElem hj
      generalize b[j] = qr at hz hqb hzb htb
      refine g_two hz fun x5 x6 hx5 hx6 => ?_
      cases (dp_int hx5)
      cases (dp_int hx6)
      have hdl := e6 _ _ hdl
      show tSeq _ _ _ _ _
      refine q_asg (K := K) (M := addM M L) (d := nI (Nat.gcd pr.1 qr.1)) (ed_gcd (ed_var rfl (.int _)) (ed_var rfl (.int _))) fun v7 H5 e7 hv7 => ?_
      cases (dp_int hv7)
      have hg1 : Nat.gcd pr.1 qr.1 ≤ pr.1 := Nat.gcd_le_left _ hpa.1
      have hgp : 0 < Nat.gcd pr.1 qr.1 := Nat.gcd_pos_of_pos_left _ hpa.1
      have b2 : (2 : Nat) ^ 2000 ≤ 2 ^ 8000 := Nat.pow_le_pow_right (by decide) (by decide)
      refine q_asg (K := K) (M := addM M L) (d := nI (Nat.lcm pr.1 qr.1)) (EvD.eq (ed_IC (ed_IC (ed_var rfl (.int _)) (ed_var rfl (.int _)) (divW_nat hgp (Nat.lt_of_le_of_lt hg1 (Nat.lt_of_lt_of_le hza.1 b2)))) (ed_var rfl (.int _)) ?_) ?_) fun v8 H6 e8 hv8 => ?_
      · rw [← Int.natCast_ediv]
        exact mulX_nat (Nat.lt_of_le_of_lt (Nat.div_le_self _ _) hza.1) hzb.1 (by decide)
      · rw [← Int.natCast_ediv, ← Int.natCast_mul, lcm_form hpa.1]
        rfl
      cases (dp_int hv8)
      have e68 := (e6.trans e7).trans e8
      have hdl6 := e8 _ _ (e7 _ _ hdl)
      have bnd : i * b.length + j < 100000 := by
        have h1 : i * b.length ≤ 299 * 300 := Nat.mul_le_mul (by omega) lb
        omega
      refine s_dput (K := K) (M := addM M L) (k := Nat.lcm pr.1 qr.1) (v := (EIT.T (a.take i) b (Nat.lcm pr.1 qr.1) + T1 pr (b.take j) (Nat.lcm pr.1 qr.1)) + pr.2 * qr.2 * Nat.gcd pr.1 qr.1) (EvD.eq (ed_I0 (ed_get (ev_var rfl) hdl6 hdd (ed_var rfl (.int _))) (ed_IC (ed_IC (ed_var rfl (.int _)) (ed_var rfl (.int _)) (mulX_nat hza.2 hzb.2 (by decide))) (ed_var rfl (.int _)) ?_)) ?_) (ev_var rfl) (ed_var rfl (.int _)) hdl6 (by omega) fun H7 b7 hdl7 => ?_
      · rw [← Int.natCast_mul]
        refine mulX_nat (B := 4000) (C := 2000) ?_ (Nat.lt_of_le_of_lt hg1 hza.1) (by decide)
        rw [show (4000 : Nat) = 2000 + 2000 from rfl, Nat.pow_add]
        exact Nat.mul_lt_mul'' hza.2 hzb.2
      · show PyData.int _ = .int _
        rw [← Int.natCast_mul, ← Int.natCast_mul, ← Int.natCast_add]
      refine ⟨_, _, _, _, rfl, b7.same (k1.trans e68) ?_, (k2.trans (hm_mono e68)).trans (b7.hm addM_same), b7.wd (k3.mono e68) (by rw [hdl7]; intro z; cases z), _, hdl7, ?_, ?_⟩
      · exact hL
      · rw [htb]
        exact dd_step hdd hpa hqb
      · have := put_len d (Nat.lcm pr.1 qr.1) ((EIT.T (a.take i) b (Nat.lcm pr.1 qr.1) + T1 pr (b.take j) (Nat.lcm pr.1 qr.1)) + pr.2 * qr.2 * Nat.gcd pr.1 qr.1)
        omega
    · rintro σ' H' ⟨y5, y6, y7, y8, rfl, k1, k2, k3, d, hdl, hdd, hdn⟩
      rw [List.length_map] at hdd hdn
      rw [List.take_length] at hdd
      refine ⟨_, _, _, _, _, _, rfl, k1, (g2.trans (hm_mono e5)).trans k2, k3, d, hdl, hdd.congr fun k => ?_, ?_⟩
      · rw [htk, T_snoc]
      · rw [Nat.succ_mul]; exact hdn
  · rintro σ' H' ⟨y3, y4, y5, y6, y7, y8, rfl, g1, g2, g3, d, hdl, hdd, hdn⟩
    rw [List.length_map] at hdd hdn
    rw [List.take_length] at hdd
    refine ed_sortItems (K := K) (M := M) (wd.mono g1) (ev_var rfl) hdl hdd.nd fun zs p H3 ws e3 hp hperm hasc hp3 hws => ?_
    have hpH : H p = none := by
      cases z : H p with
      | none => rfl
      | some o => rw [g1 _ _ z] at hp; cases hp
    refine q zs p H3 ws ⟨hasc, fun x hx => hdd.pos x (hperm.mem_iff.mp hx)⟩ (fun k => (tal_perm hperm k).trans (hdd.val k)) (by rw [hperm.length_eq]; exact hdn) (g1.trans e3) hpH hp3 hws
end
end EIT
end
/-! text L2 -/
section
set_option maxHeartbeats 4000000
/-! are_lengths, of whatever is told it. -/
namespace EIT
open PySem PySem.Spec PyProof.Rows L2
def partGood : PyData → Bool
  | .int i => decide (1 ≤ i)
  | _ => false
def rowGood : PyData → Bool
  | .tuple [a, b] => partGood a && partGood b
  | _ => false
def RowBad (K : PySem.W.Frag) (H : Hp) (v : V) : Prop := (∃ d, Dp K H v d ∧ rowGood d = false) ∨ ∃ p, v = .ref p ∧ H p = some (.dK [])
def PosL (l : List (Nat × Nat)) : Prop := ∀ p ∈ l, 1 ≤ p.1 ∧ 1 ≤ p.2
def ascB (l : List (Nat × Nat)) : Bool := (l.zip (l.drop 1)).all fun p => decide (p.1.1 < p.2.1)
/-- no list of rows of two numbers of 1 or more -/
def Bad3 (K : PySem.W.Frag) (H : Hp) (v : V) : Prop := (∃ d, Dp K H v d ∧ isLst d = false) ∨ (∃ p, v = .ref p ∧ H p = some (.dK [])) ∨
  ∃ (a : Addr) (xs : List V) (r : V) (rest : List V) (zs : List (Nat × Nat)), v = .ref a ∧ SqL K H a (xs ++ r :: rest) ∧ DpAll K H xs (zs.map pairD) ∧ PosL zs ∧ RowBad K H r
theorem up_rowBad {K : PySem.W.Frag} : Up (RowBad K) := fun _ _ _ e h => by
  rcases h with ⟨d, h1, h2⟩ | ⟨p, h1, h2⟩
  · exact .inl ⟨d, h1.up e, h2⟩
  · exact .inr ⟨p, h1, e _ _ h2⟩
theorem up_bad3 {K : PySem.W.Frag} : Up (Bad3 K) := fun _ _ _ e h => by
  rcases h with ⟨d, h1, h2⟩ | ⟨p, h1, h2⟩ | ⟨a, xs, r, rest, zs, h1, h2, h3, h4, h5⟩
  · exact .inl ⟨d, h1.up e, h2⟩
  · exact .inr (.inl ⟨p, h1, e _ _ h2⟩)
  · exact .inr (.inr ⟨a, xs, r, rest, zs, h1, sqL_mono e h2, h3.up e, h4, up_rowBad _ _ _ e h5⟩)
section
variable {K : PySem.W.Frag} {M : Mk} {σ : L2.St} {H : Hp} {te ta : TE} {g : TG} {tb tz : TS} {D : Ends}
/-- over the items of a list, whatever they are -/
theorem q_forV {a : Addr} {xs : List V} (ht : EvV te σ H (.ref a)) (hs : SqL K (Hm M H) a xs) (k : ∀ H2, Same H H2 → ∃ Pv : Nat → L2.St → Hp → Prop, Pv 0 σ H2 ∧ (∀ i σ' H', Pv i σ' H' → Same (Hm M H2) (Hm M H')) ∧
    (∀ (i : Nat) x σ' H', xs[i]? = some x → Pv i σ' H' → g x σ' H' fun σ2 H2 => tb { D with nx := Pv (i + 1), ct := Pv (i + 1), bk := tz D } σ2 H2) ∧ (∀ σ' H', Pv xs.length σ' H' → tz D σ' H')) : tSeq (tFor (iList K te) g tb) tz D σ H :=
  ht H (Same.refl _) _ fun v H2 e2 hv => by
    cases hv
    obtain ⟨Pv, h0, hk, hstep, hd⟩ := k H2 e2
    have sq : ∀ H', Same (Hm M H2) (Hm M H') → SqL K H' a xs := fun H' e => sqL_mono (hm_sub M H') (sqL_mono ((hm_mono e2).trans e) hs)
    refine ⟨a, rfl, ⟨xs, sq H2 (Same.refl _)⟩, fun i m σ H => m = xs.length - i ∧ i ≤ xs.length ∧ Pv i σ H, ⟨xs.length, by omega, Nat.zero_le _, h0⟩, ?_⟩
    rintro i m σ' H' ⟨rfl, hi, p⟩
    have q := sq H' (hk i σ' H' p)
    by_cases hlt : i < xs.length
    · refine .inr ⟨⟨xs, xs[i], q, List.getElem?_eq_getElem hlt⟩, Pv (i + 1), fun σ'' H'' p' => ⟨xs.length - (i + 1), by omega, rfl, hlt, p'⟩, fun x H'' y => ?_⟩
      obtain ⟨rfl, f⟩ := y
      exact hstep i x σ' _ (f xs q) p
    · have e : i = xs.length := by omega
      subst e
      exact .inl ⟨⟨xs, q, Nat.le_refl _⟩, hd σ' H' p⟩
theorem ed_isiDict {p : Addr} {n : String} {b : Bool} (h : EvV ta σ H (.ref p)) (hp : H p = some (.dK [])) (hk : kitB "dict" n = some b) : EvD K M (tCB (rIsi K) (tCons ta (tCons (tC (.ty n)) tNil))) σ H (.bool b) := fun H1 e Q q =>
  h H1 e _ fun v H2 e2 hv => by
    cases hv
    exact ⟨.ref p, .ty n, _, _, b, rfl, .ty n, .base (.dK ((e.trans e2) _ _ hp)), kit_ty hk, q _ H2 e2 (.bl _)⟩
theorem ed_isiSq {a : Addr} {xs : List V} {n : String} {b : Bool} (h : EvV ta σ H (.ref a)) (hs : SqL K (Hm M H) a xs) (hk : kitB "list" n = some b) : EvD K M (tCB (rIsi K) (tCons ta (tCons (tC (.ty n)) tNil))) σ H (.bool b) := fun H1 e Q q =>
  h H1 e _ fun v H2 e2 hv => by
    cases hv
    have hs2 := sqL_mono (e.trans e2) (sqL_mono (hm_sub M H) hs)
    have ty : TyX K H2 (.ref a) (.type "list") := by
      rcases hs2 with (h | ⟨o, h⟩) | ⟨o, its, n, h, hc, _⟩
      · exact .base (.lst h)
      · exact .base (.frz h)
      · exact .kList h hc
    exact ⟨.ref a, .ty n, _, _, b, rfl, .ty n, ty, kit_ty hk, q _ H2 e2 (.bl _)⟩
end
section
variable {P : Program} {w : World} {K : PySem.W.Frag} {mg : Str → Option Value} {base : Heap}
def lenPre (K : PySem.W.Frag) (x : Option (List (Nat × Nat))) (H : Hp) (vs : List V) : Prop := ∃ v, vs = [v] ∧ match x with
  | none => Bad3 K H v
  | some zs => Dp K H v (pairsD zs) ∧ PosL zs ∧ zs.length ≤ 50000
def lenRes : Option (List (Nat × Nat)) → Bool
  | none => false
  | some zs => ascB zs
theorem sc_are_lengths : FnScope ["thing", "row", "part", "more"] ["thing"] (defScope s_are_lengths) := ⟨rfl, rfl, rfl, by decide +kernel, rfl, by decide +kernel, by decide +kernel⟩
theorem ok_are_lengths (T : Tx K mg) : Cal P w K mg base 2 "are_lengths" ["thing"] (spR (lenPre K) (fun x H v => Dp K H v (.bool (lenRes x)))) := by
  refine mkR T.d_are_lengths sc_are_lengths (fun i H vs h => by obtain ⟨v, rfl, _⟩ := h; rfl) (fun _ _ _ _ _ _ us hl => match us, hl with | [_], _ => rfl) fun f cdv A outer s H vs Q E hr M x wd hp q => ?_
  obtain ⟨v0, rfl, h0⟩ := hp
  refine ⟨_, (pss_cons (ps_if (pt_not (pt_val (pe_callB (call_isiK' K) (by rfl) T.b_isinstance (by decide +kernel) (pa_cons (pv 0) (pa_cons (pe_bltn (v := .ty "list") (by rfl) T.b_list (by decide +kernel) rfl) pa_nil))))) (pss_one (ps_ret pe_bl)) pss_nil)
      (pss_cons (ps_for PassesOwn.never rfl (pi_listK K (pv 0)) (pg_name (i := 1) sc_are_lengths.nd rfl (.inl rfl)) (pss_one (ps_if (PW.pt (pw_or (pt_not (pt_val (pe_callB (call_isiK' K) (by rfl) T.b_isinstance (by decide +kernel) (pa_cons (pv 1) (pa_cons (pe_bltn (v := .ty "tuple") (by rfl) T.b_tuple (by decide +kernel) rfl) pa_nil))))) (pw_or (pt_cmpR op_ne (pe_callB (call_len_seqK K) (by rfl) T.b_len (by decide +kernel) (pa_cons (pv 1) pa_nil)) pe_int (nomark _)) (pw_or1 (pt_not (pt_val (pe_callB (cr_allK K rfl) (by rfl) T.b_all (by decide +kernel) (pa_cons (pe_lc (own := [("part", 2)])  rfl sc_are_lengths.nd (pi_tupK K (pv 1)) (blkOk_by (N := ["thing", "row", "part", "more"]) (sc := defScope s_are_lengths) (own := [("part", 2)]) (by decide +kernel)) (fun _ _ _ _ _ => pg_name (i := 2) sc_are_lengths.nd rfl (Or.inl rfl)) (fun _ _ _ _ _ => pts_nil) (fun _ _ _ _ _ => (pe_and (pe_cal (ok_is_integer T) (hr.mono (by decide)) (by rfl) (pa_cons (pv 2) pa_nil)) (pe_one (pe_cmpR op_ge (pv 2) pe_int (nomark _)))))) pa_nil)))))))) (pss_one (ps_ret pe_bl)) pss_nil)))
      (pss_one (ps_ret (pe_callB (cr_allK K rfl) (by rfl) T.b_all (by decide +kernel) (pa_cons (pe_lc (own := [("row", 1), ("more", 3)])  rfl sc_are_lengths.nd (pi_zipK K (by rfl) T.b_zip (pa_cons (pv 0) (pa_cons (pe_slice (sl_listK K) (pv 0) (po_some pe_int) po_none) pa_nil))) (blkOk_by (N := ["thing", "row", "part", "more"]) (sc := defScope s_are_lengths) (own := [("row", 1), ("more", 3)]) (by decide +kernel)) (fun _ _ _ _ _ => pg_tupK (n := 2) K rfl (pgs_cons (pg_name (i := 1) sc_are_lengths.nd rfl (Or.inl rfl)) (pgs_cons (pg_name (i := 3) sc_are_lengths.nd rfl (Or.inl rfl)) pgs_nil))) (fun _ _ _ _ _ => pts_nil) (fun _ _ _ _ _ => (pe_cmpR op_lt (pe_ix (ix_seqK K) (pv 1) pe_int (fun _ _ => rfl)) (pe_ix (ix_seqK K) (pv 3) pe_int (fun _ _ => rfl)) (nomark _)))) pa_nil)))))), ?_⟩
  -- one row's question
  have parts : ∀ {σ : L2.St} {M' : Mk} {H' : Hp} (ds : List PyData) (v : V), Wd M' H' → σ[1]? = some (some v) → Dp K (Hm M' H') v (.tuple ds) → ds.length ≤ 1000 → (∀ x, wipe ((wipe σ [2]).set 2 (some x)) [2] = wipe σ [2]) → (∀ x, ((wipe σ [2]).set 2 (some x))[2]? = some (some x)) → EvD K M' (tCB (rAll K) (tCons (tLc (iTup K (tVar 1)) (gName 2) tYes (tAndV (tCall (spF K (ι := PyData) (fun d => [d]) (fun _ => True) (fun d => .bool (isInt d))) [] E0 (tCons (tVar 2) tNil)) (tOp (rI0 fun i j => V.bl (decide (j ≤ i))) (tVar 2) (tC (.int 1)))) [2]) tNil)) σ H' (.bool (ds.all partGood)) := fun ds v wd' hs hd hl hw hw2 => by
    refine EvD.eq (ed_all (bs := ds.map partGood) (EvD.eq (ed_map (xs := ds) (enc := fun d => d) (r := fun d => .bool (partGood d)) wd' (src_tup (ed_var hs (by rw [List.map_id']; exact hd))) (by omega) hw fun a ha M'' H2 z e2 e3 wd2 hz => ?_) (by rw [List.map_map]; rfl))) (by rw [List.all_map]; rfl)
    refine EvD.eq (ed_and (a := isInt a) (b := partGood a) (ed_call a wd2 (ea_cons (ed_var (hw2 z) hz) ea_nil) trivial) fun hi => ?_) (by cases a <;> rfl)
    cases a with
    | int i => exact ed_IB (ed_var (hw2 z) hz) ed_int
    | _ => exact Bool.noConfusion hi
  have cond : ∀ {σ : L2.St} {M' : Mk} {H' : Hp} (d : PyData) (v : V), Wd M' H' → σ[1]? = some (some v) → Dp K (Hm M' H') v d → (∀ x, wipe ((wipe σ [2]).set 2 (some x)) [2] = wipe σ [2]) → (∀ x, ((wipe σ [2]).set 2 (some x))[2]? = some (some x)) → EvT (tOr (tNot (tTest (tCB (rIsi K) (tCons (tVar 1) (tCons (tC (.ty "tuple")) tNil))))) (tOr (tTest (tOp rNe (tCB (fun xs H Q => ∃ p ys, xs = [.ref p] ∧ (SqL K H p ys ∨ SqT K H p ys) ∧ Q (.int ys.length) H) (tCons (tVar 1) tNil)) (tC (.int 2)))) (tNot (tTest (tCB (rAll K) (tCons (tLc (iTup K (tVar 1)) (gName 2) tYes (tAndV (tCall (spF K (ι := PyData) (fun d => [d]) (fun _ => True) (fun d => .bool (isInt d))) [] E0 (tCons (tVar 2) tNil)) (tOp (rI0 fun i j => V.bl (decide (j ≤ i))) (tVar 2) (tC (.int 1)))) [2]) tNil)))))) σ H' (!rowGood d) := fun {σ M' H'} d v wd' hs hd hw hw2 => by
    have h1 : EvT (tNot (tTest (tCB (rIsi K) (tCons (tVar 1) (tCons (tC (.ty "tuple")) tNil))))) σ H' (!isTup d) := et_not (et_test (ed_isTup (ed_var hs hd)))
    cases d with
    | tuple ds =>
      have h2 : EvT (tTest (tOp rNe (tCB (fun xs H Q => ∃ p ys, xs = [.ref p] ∧ (SqL K H p ys ∨ SqT K H p ys) ∧ Q (.int ys.length) H) (tCons (tVar 1) tNil)) (tC (.int 2)))) σ H' (!decide ((ds.length : Int) = 2)) := et_test (ed_neI (ed_lenT (ed_var hs hd)) ed_int)
      match ds, hd, h2 with
      | [a, b], hd, h2 => exact EvT.eq (et_or h1 fun _ => et_or h2 fun _ => et_not (et_test (parts [a, b] v wd' hs hd (Nat.le_of_ble_eq_true rfl) hw hw2))) (by
          show (false || (false || !(partGood a && (partGood b && true)))) = !(partGood a && partGood b)
          rw [Bool.and_true]; rfl)
      | [], hd, h2 => exact EvT.eq (et_or (b := true) h1 fun _ => EvT.eq (et_or (b := true) h2 fun z => Bool.noConfusion z) rfl) rfl
      | [a], hd, h2 => exact EvT.eq (et_or (b := true) h1 fun _ => EvT.eq (et_or (b := true) h2 fun z => Bool.noConfusion z) rfl) rfl
      | a :: b :: c :: ds, hd, h2 =>
        have e : (!decide (((a :: b :: c :: ds).length : Int) = 2)) = true := by
          rw [decide_eq_false (by rw [List.length_cons, List.length_cons, List.length_cons]; omega)]; rfl
        rw [e] at h2
        exact EvT.eq (et_or (b := true) h1 fun _ => EvT.eq (et_or (b := true) h2 fun z => Bool.noConfusion z) rfl) rfl
    | _ => exact EvT.eq (et_or (b := true) h1 fun z => Bool.noConfusion z) rfl
  have good : ∀ p : Nat × Nat, 1 ≤ p.1 → 1 ≤ p.2 → rowGood (pairD p) = true := fun p h1 h2 => by
    show (decide ((1 : Int) ≤ (p.1 : Int)) && decide ((1 : Int) ≤ (p.2 : Int))) = true
    rw [decide_eq_true (by omega), decide_eq_true (by omega)]
    rfl
  cases x with
  | none =>
    have h0 : Bad3 K (Hm M H) v0 := h0
    rcases h0 with ⟨d, h1, h2⟩ | ⟨p, rfl, h2⟩ | ⟨a, xs, r, rest, zs, rfl, h2, h3, h4, h5⟩
    · exact q_yes (EvT.eq (et_not (et_test (ed_isLst (ed_var rfl h1)))) (by rw [h2]; rfl)) fun H1 e1 => s_ret ed_bl fun v H2 e2 hv => q v H2 (e1.trans e2) hv
    · exact q_yes (EvT.eq (et_not (et_test (ed_isiDict (K := K) (M := M) (b := false) (ev_var rfl) (hm_some h2).2 rfl))) rfl) fun H1 e1 => s_ret ed_bl fun v H2 e2 hv => q v H2 (e1.trans e2) hv
    · refine q_no (EvT.eq (et_not (et_test (ed_isiSq (K := K) (M := M) (b := true) (ev_var rfl) h2 rfl))) rfl) fun H1 e1 => ?_
      refine q_forV (M := M) (ev_var rfl) (sqL_mono (hm_mono e1) h2) fun H2 e2 => ⟨fun i σ' H' => i ≤ xs.length ∧ Same H2 H' ∧ ∃ y1, σ' = [some (.ref a), y1, none, none], ⟨Nat.zero_le _, Same.refl _, none, rfl⟩, fun i σ' H' h => hm_mono h.2.1, ?_, ?_⟩
      · rintro i x σ' H' hx ⟨hi, e3, y1, rfl⟩
        have e03 := (e1.trans e2).trans e3
        show tIfS _ _ _ _ _ _
        by_cases hlt : i < xs.length
        · rw [List.getElem?_append_left hlt] at hx
          obtain ⟨d, hd1, hd2⟩ := dps_at h3 hx
          rw [List.getElem?_map] at hd1
          cases hz : zs[i]? with
          | none => rw [hz] at hd1; cases hd1
          | some p =>
            rw [hz] at hd1
            cases hd1
            have hp := h4 p (List.mem_of_getElem? hz)
            exact s_if (EvT.eq (cond (M' := M) (pairD p) x (wd.mono e03) rfl (hd2.up (hm_mono e03)) (fun _ => rfl) (fun _ => rfl)) (by rw [good p hp.1 hp.2] <;> rfl)) (fun z => Bool.noConfusion z) fun _ H4 e4 => ⟨hlt, e3.trans e4, some x, rfl⟩
        · have ei : i = xs.length := by omega
          subst ei
          rw [List.getElem?_append_right (Nat.le_refl _), Nat.sub_self] at hx
          cases hx
          rcases h5 with ⟨d, g1, g2⟩ | ⟨p, rfl, g2⟩
          · exact s_if (EvT.eq (cond (M' := M) d r (wd.mono e03) rfl (g1.up (hm_mono e03)) (fun _ => rfl) (fun _ => rfl)) (by rw [g2] <;> rfl)) (fun _ H4 e4 => s_ret ed_bl fun v H5 e5 hv => q v H5 ((e03.trans e4).trans e5) hv) fun z => Bool.noConfusion z
          · exact s_if (EvT.eq (et_or (b := true) (EvT.eq (et_not (et_test (ed_isiDict (K := K) (M := M) (b := false) (ev_var rfl) (e03 _ _ (hm_some g2).2) rfl))) rfl) fun z => Bool.noConfusion z) rfl) (fun _ H4 e4 => s_ret ed_bl fun v H5 e5 hv => q v H5 ((e03.trans e4).trans e5) hv) fun z => Bool.noConfusion z
      · rintro σ' H' ⟨hi, _⟩
        rw [List.length_append, List.length_cons] at hi
        omega
  | some zs =>
    obtain ⟨h1, h2, h3⟩ := (h0 : Dp K (Hm M H) v0 (pairsD zs) ∧ PosL zs ∧ zs.length ≤ 50000)
    refine q_no (EvT.eq (et_not (et_test (ed_isLst (ed_var rfl h1)))) rfl) fun H1 e1 => ?_
    refine q_for (K := K) (M := M) (src_list (ed_var rfl (h1.up (hm_mono e1)))) fun H2 e2 => ⟨fun i σ' H' => Same H2 H' ∧ ∃ y1, σ' = [some v0, y1, none, none], ⟨Same.refl _, none, rfl⟩, fun i σ' H' h => ⟨hm_mono h.1, ((wd.mono e1).mono e2).mono h.1⟩, ?_, ?_⟩
    · rintro i d x σ' H' H'' hd ⟨e3, y1, rfl⟩ e4 hx
      have e03 := ((e1.trans e2).trans e3).trans e4
      rw [List.getElem?_map] at hd
      cases hz : zs[i]? with
      | none => rw [hz] at hd; cases hd
      | some p =>
        rw [hz] at hd
        cases hd
        have hp := h2 p (List.mem_of_getElem? hz)
        show tIfS _ _ _ _ _ _
        exact s_if (EvT.eq (cond (M' := M) (pairD p) x (wd.mono e03) rfl hx (fun _ => rfl) (fun _ => rfl)) (by rw [good p hp.1 hp.2] <;> rfl)) (fun z => Bool.noConfusion z) fun _ H5 e5 => ⟨(e3.trans e4).trans e5, some x, rfl⟩
    · rintro σ' H' ⟨e3, y1, rfl⟩
      have e03 := (e1.trans e2).trans e3
      have hv := h1.up (hm_mono e03)
      refine s_ret (EvD.eq (ed_all (bs := (zs.zip (zs.drop 1)).map fun p => decide (p.1.1 < p.2.1)) (EvD.eq (ed_map2 (xs := zs.zip (zs.drop 1)) (ea := fun p => pairD p.1) (eb := fun p => pairD p.2) (r := fun p => .bool (decide (p.1.1 < p.2.1))) (wd.mono e03) ((src_zipL (ea_cons (ed_var rfl hv) (ea_cons (ed_slL (wd.mono e03) (ed_var rfl hv) (eo_some (K := K) (M := M) ed_int) eo_none) ea_nil))).eq ?_) ?_ (fun _ _ => rfl) fun a ha M' H4 x y e4 e5 wd4 hx hy => EvD.eq (ed_IB (ed_ixT' (j := 0) (ed_var rfl hx) ed_int rfl rfl) (ed_ixT' (j := 0) (ed_var rfl hy) ed_int rfl rfl)) ?_) (by rw [List.map_map]; rfl))) ?_) fun v H4 e4 hv => q v H4 (e03.trans e4) hv
      · unfold pairs2
        have s1 : HT.sIx (zs.map pairD).length 0 (some 1) = min 1 (zs.map pairD).length := by unfold HT.sIx; simp
        have s2 : HT.sIx (zs.map pairD).length (zs.map pairD).length none = (zs.map pairD).length := rfl
        have e : ((zs.map pairD).drop (HT.sIx (zs.map pairD).length 0 (some 1))).take (HT.sIx (zs.map pairD).length (zs.map pairD).length none - HT.sIx (zs.map pairD).length 0 (some 1)) = (zs.drop 1).map pairD := by
          rw [s1, s2, List.take_of_length_le (by rw [List.length_drop]; omega), ← List.map_drop]
          cases zs with
          | nil => rfl
          | cons z zs => rw [Nat.min_eq_left (by rw [List.length_map, List.length_cons]; omega)]
        rw [e, List.zip_map, List.map_map]
        rfl
      · rw [List.length_zip]; omega
      · show PyData.bool (decide ((a.1.1 : Int) < (a.2.1 : Int))) = .bool (decide (a.1.1 < a.2.1))
        congr 1
        by_cases h : a.1.1 < a.2.1
        · rw [decide_eq_true h, decide_eq_true (by omega)]
        · rw [decide_eq_false h, decide_eq_false (by omega)]
      · rw [List.all_map]; rfl
end
end EIT
end
/-! text R7 -/
section
set_option maxHeartbeats 4000000
/-! calls by keywords alone; calls of what may raise. -/
namespace EIT
open PySem PySem.Spec PyProof.Rows L2
section
variable {X : Cx} {CX1 : CXT} {k : Nat} {f : Addr} {fd : FuncData} {ps ks : List Str} {sp : Sp} {E : L2.St → XK} {x : Str} {p pos : Pos} {kws : List Keyword} {tk : TA} {g : List Value → List Value → List Value} {gV : List V → List V → List V}
def tCallSK (m : Nat) (sp : Sp) (gV : List V → List V → List V) (E : L2.St → XK) (tk : TA) : TE := fun σ H Q => tk σ H fun zs H1 => zs.length = m ∧ sp (gV [] zs) H1 Q (E σ)
theorem pe_callSK (F : FnOk X.prog X.w X.K X.mg X.base CX1 k f fd ps sp) (hr : Room k X.A) (hg : Gl X x) (hm : X.mg x = some (.ref f)) (hk : PySem.W.keepIn X.K (.ref f) = true) (hb : KBn X.K fd ps 0 ks g gV) (hx : ∀ σ, PassesAt CX1 X σ (E σ)) (hkw : PK X kws tk)
    (hall : (backToKw pos (keywordEach kws X.env)).all (·.1.isSome) = true := by rfl) (hks : (backToKw pos (keywordEach kws X.env)).filterMap (·.1) = ks := by rfl) (hdb : (x == ("__debug__" : Str)) = false := by decide)
    (hpl : ((backTo pos (starEach [] X.env)).any (·.1) || (backToKw pos (keywordEach kws X.env)).any (·.1.isNone)) = false := by rfl) : PE X (.Call (.Name x p) [] kws pos) (tCallSK ks.length sp gV E tk) := by
  refine ⟨fun pins s σ H Q I h => ?_⟩
  refine wpAny_Call_Name_kw (ld_glob I hg hm ?_ hdb)
  refine PySem.W.callWith_KW0 (h₀ := X.base) I.ok.mod.kin hk hall ?_ hpl
  refine thn (hkw.run pos pins s σ H _ I h) fun ws s2 ⟨zs, H2, I2, rz, l2, q2⟩ => ⟨I2.kIn, ?_⟩
  rw [hks]
  show wpAny _ _ (call (.ref f) [] (ks.zip ws)) _ _ _
  have r2 := hb.rel (vs := []) (us := []) .nil rz
  refine wpAny_call (codeAny_mono (F.run X.A X.stack s2 H2 ⟨[], ks.zip ws⟩ (g [] ws) (gV [] zs) Q (E σ) hr I2.env0 (hb.to s2 [] ws I2.kIn rfl (rz.length.symm.trans l2)) r2 q2) fun r s' hq => ?_)
  cases r with
  | error e => exact hx σ pins H2 s2 e s' I2 hq
  | ok fl =>
    cases fl with
    | ret u => exact I2.after hq
    | next => exact False.elim hq
    | brk => exact False.elim hq
    | cont => exact False.elim hq
/-- the module's name x stands for a def that keeps the promise sp, and may raise -/
def CalX (P : Program) (w : World) (K : PySem.W.Frag) (mg : Str → Option Value) (base : Heap) (k : Nat) (x : Str) (ps : List Str) (sp : Sp) : Prop :=
  ∃ f fd, FnOk P w K mg base (L2.CX P w) k f fd ps sp ∧ mg x = some (.ref f) ∧ PySem.W.keepIn K (.ref f) = true ∧ Binds K fd ps []
theorem pe_calX {e : Expr} {es : List Expr} {t : TA} (c : CalX X.prog X.w X.K X.mg X.base k x ps sp) (hr : Room k X.A) (hg : Gl X x) (ha : PA X (e :: es) t) (hdb : (x == ("__debug__" : Str)) = false := by decide)
    (he : starEach (e :: es) X.env = (false, eval e X.env) :: starEach es X.env := by rfl) (hpl : (backTo pos (starEach es X.env)).any (·.1) = false := by rfl) : PE X (.Call (.Name x p) (e :: es) [] pos) (tCall sp [] E0 t) := by
  obtain ⟨f, fd, F, g, kp, b⟩ := c
  exact pe_call F hr hg g kp b .nil passL ha (hdb := hdb) (he := he) (hpl := hpl)
end
section
variable {K : PySem.W.Frag} {M : Mk} {σ : L2.St} {H : Hp} {te ta : TE} {g : TG} {tb tz : TS} {D : Ends}
/-- over the items of a tuple, whatever they are -/
theorem q_forVT {xs : List V} (ht : EvR M te σ H fun H v => ∃ a, v = .ref a ∧ SqT K H a xs) (k : ∀ H2, Same H H2 → ∃ Pv : Nat → L2.St → Hp → Prop, Pv 0 σ H2 ∧ (∀ i σ' H', Pv i σ' H' → Same (Hm M H2) (Hm M H')) ∧
    (∀ (i : Nat) x σ' H', xs[i]? = some x → Pv i σ' H' → g x σ' H' fun σ2 H2 => tb { D with nx := Pv (i + 1), ct := Pv (i + 1), bk := tz D } σ2 H2) ∧ (∀ σ' H', Pv xs.length σ' H' → tz D σ' H')) : tSeq (tFor (iTup K te) g tb) tz D σ H :=
  ht H (Same.refl _) _ fun v H2 e2 hv => by
    obtain ⟨a, rfl, hs⟩ := hv
    obtain ⟨Pv, h0, hk, hstep, hd⟩ := k H2 e2
    have sq : ∀ H', Same (Hm M H2) (Hm M H') → SqT K H' a xs := fun H' e => sqT_mono (hm_sub M H') (sqT_mono e hs)
    refine ⟨a, rfl, ⟨xs, sq H2 (Same.refl _)⟩, fun i m σ H => m = xs.length - i ∧ i ≤ xs.length ∧ Pv i σ H, ⟨xs.length, by omega, Nat.zero_le _, h0⟩, ?_⟩
    rintro i m σ' H' ⟨rfl, hi, p⟩
    have q := sq H' (hk i σ' H' p)
    by_cases hlt : i < xs.length
    · refine .inr ⟨⟨xs, xs[i], q, List.getElem?_eq_getElem hlt⟩, Pv (i + 1), fun σ'' H'' p' => ⟨xs.length - (i + 1), by omega, rfl, hlt, p'⟩, fun x H'' y => ?_⟩
      obtain ⟨rfl, f⟩ := y
      exact hstep i x σ' _ (f xs q) p
    · have e : i = xs.length := by omega
      subst e
      exact .inl ⟨⟨xs, q, Nat.le_refl _⟩, hd σ' H' p⟩
/-- the pair of two names -/
theorem er_two {i j : Nat} {v u : V} (wd : Wd M H) (hi : σ[i]? = some (some v)) (hj : σ[j]? = some (some u)) : EvR M (tTup (tCons (tVar i) (tCons (tVar j) tNil))) σ H fun H x => ∃ a, x = .ref a ∧ SqT K H a [v, u] := fun H1 e1 Q q =>
  ⟨v, hi, u, hj, sz_ok (Nat.le_of_ble_eq_true rfl), fun p hp => q _ _ (same_new hp) ⟨p, rfl, .of (hm_of ((wd.mono e1).new hp) upd_same)⟩⟩
end
section
variable {K : PySem.W.Frag} {x qual : Str} {params : Arguments} {body : List Stmt} {scope : Scope} {f : Addr} {fd : FuncData} {a b : Str}
/-- two parameters by keywords, in the other order -/
theorem kb_two (F : FunD K x qual params body scope [] [] f fd)
    (h : ∀ (kV doc pm : Value) (an : Option Addr) (cdv ct w0 w1 : Value), bindArgs (PySem.W.fnOf x qual params body scope .none kV doc pm an cdv ct) ⟨[], [(b, w0), (a, w1)]⟩ = pure [(a, w1), (b, w0)]) : KBn K fd [a, b] 0 [b, a] (fun _ ws => ws.reverse) (fun _ zs => zs.reverse) := by
  obtain ⟨oc, od, dV, kV, doc, pm, an, cdv, ct, osl, rfl, lk, hcd, hD, hK⟩ := F.ex
  rcases hD with ⟨_, rfl⟩ | ⟨e, _⟩
  · refine ⟨fun s us ws _ h1 h2 => ?_, fun {vs us zs ws} _ r2 => ?_⟩
    · match us, ws, h1, h2 with
      | [], [w0, w1], _, _ => exact .of_eq (h kV doc pm an cdv ct w0 w1)
    · exact r2.reverse
  · exact absurd rfl e
end
end EIT
end
/-! text R8 -/
section
set_option maxHeartbeats 4000000
/-! What draws from the feed: evaluation that changes one masked list. -/
namespace EIT
open PySem PySem.Spec PyProof.Rows L2
def topN : Nat := 1125899906842624
structure Feed (f : Addr) (n : Nat) (H : Hp) : Prop where
  ex : ∃ a b c : Nat, H f = some (.lst [.int (a : Nat), .int (b : Nat), .int (c : Nat)]) ∧ Builtin.Int.intBits ((a : Nat) : Int) ≤ 2000000 ∧ b < 2 ^ 130 ∧ c ≤ n
theorem Feed.up {f : Addr} {n m : Nat} {H : Hp} (h : Feed f n H) (e : n ≤ m) : Feed f m H := by
  obtain ⟨a, b, c, h1, h2, h3, h4⟩ := h
  exact ⟨a, b, c, h1, h2, h3, Nat.le_trans h4 e⟩
theorem Feed.same {f : Addr} {n : Nat} {H H' : Hp} (h : Feed f n H) (e : Same H H') : Feed f n H' := by
  obtain ⟨a, b, c, h1, h2⟩ := h
  exact ⟨a, b, c, e _ _ h1, h2⟩
theorem Feed.there {f : Addr} {n : Nat} {H : Hp} (h : Feed f n H) : H f ≠ none := by
  obtain ⟨a, b, c, h1, _⟩ := h
  rw [h1]; intro z; cases z
theorem Feed.at {f : Addr} {n : Nat} {H H' : Hp} (h : Feed f n H) (e : H' f = H f) : Feed f n H' := by
  obtain ⟨a, b, c, h1, h2⟩ := h
  exact ⟨a, b, c, by rw [e]; exact h1, h2⟩
theorem But.refl (f : Addr) (H : Hp) : But f H H := fun _ _ _ h => h
theorem But.trans {f : Addr} {H H' H'' : Hp} (a : But f H H') (b : But f H' H'') : But f H H'' := fun x o hx h => b x o hx (a x o hx h)
theorem But.of {f : Addr} {H H' : Hp} (e : Same H H') : But f H H' := fun x o _ h => e x o h
theorem But.wd' {f : Addr} {M : Mk} {H H' : Hp} {n : Nat} (b : But f H H') (wd : Wd M H) (h : Feed f n H') : Wd M H' := b.wd wd h.there
def EvF (f : Addr) (B : Nat) (M : Mk) (te : TE) (σ : L2.St) (H : Hp) (R : Hp → V → Prop) : Prop := ∀ n H1, But f H H1 → Feed f n H1 → n + B ≤ topN → ∀ Q : VK, (∀ v H2, But f H1 H2 → Feed f (n + B) H2 → R (Hm M H2) v → Q v H2) → te σ H1 Q
def EvFA (f : Addr) (B : Nat) (M : Mk) (ta : TA) (σ : L2.St) (H : Hp) (R : Hp → List V → Prop) : Prop := ∀ n H1, But f H H1 → Feed f n H1 → n + B ≤ topN → ∀ Q : List V → Hp → Prop, (∀ v H2, But f H1 H2 → Feed f (n + B) H2 → R (Hm M H2) v → Q v H2) → ta σ H1 Q
def EvFT (f : Addr) (B : Nat) (tt : TT) (σ : L2.St) (H : Hp) (R : Bool → Prop) : Prop := ∀ n H1, But f H H1 → Feed f n H1 → n + B ≤ topN → ∀ Q : Bool → Hp → Prop, (∀ b H2, But f H1 H2 → Feed f (n + B) H2 → R b → Q b H2) → tt σ H1 Q
/-- an int below m -/
def ILt (m : Nat) : Hp → V → Prop := fun _ v => ∃ i : Nat, v = .int (i : Nat) ∧ i < m
theorem up_ilt {m : Nat} : Up (ILt m) := fun _ _ _ _ h => h
def UpA (R : Hp → List V → Prop) : Prop := ∀ H H' v, Same H H' → R H v → R H' v
/-- the promise of a def that draws -/
def spI {ι : Type} (pre : ι → Hp → List V → Prop) (B : Nat) (post : ι → Hp → V → Prop) : Sp := fun vs H Q _ =>
  ∃ (M : Mk) (f : Addr) (n : Nat) (x : ι) (r : List V), Wd M H ∧ M f = true ∧ Feed f n H ∧ n + B ≤ topN ∧ vs = .ref f :: r ∧ pre x (Hm M H) r ∧ ∀ v H', But f H H' → Feed f (n + B) H' → post x (Hm M H') v → Q v H'
section
variable {K : PySem.W.Frag} {f : Addr} {B B' B1 B2 : Nat} {M : Mk} {σ : L2.St} {H : Hp} {te ta tb : TE} {tr : TA} {tt : TT} {R Ra Rb : Hp → V → Prop} {tz tu tw : TS} {D : Ends}
theorem ef_pure (h : ∀ H1, But f H H1 → EvR M te σ H1 R) : EvF f 0 M te σ H R := fun n H1 b fd _ Q q => h H1 b H1 (Same.refl _) Q fun v H2 e hv => q v H2 (But.of e) (fd.same e) hv
theorem ef_imp {R' : Hp → V → Prop} (h : EvF f B M te σ H R) (k : ∀ H v, R H v → R' H v) : EvF f B M te σ H R' := fun n H1 b fd hn Q q => h n H1 b fd hn Q fun v H2 e f2 hv => q v H2 e f2 (k _ _ hv)
theorem ef_le (h : EvF f B M te σ H R) (e : B ≤ B') : EvF f B' M te σ H R := fun n H1 b fd hn Q q => h n H1 b fd (Nat.le_trans (Nat.add_le_add_left e n) hn) Q fun v H2 e2 f2 hv => q v H2 e2 (f2.up (Nat.add_le_add_left e n)) hv
theorem EvF.mono {H' : Hp} (h : EvF f B M te σ H R) (e : But f H H') : EvF f B M te σ H' R := fun n H1 b fd hn Q q => h n H1 (e.trans b) fd hn Q q
theorem efa_nil : EvFA f 0 M tNil σ H fun _ vs => vs = [] := fun n H1 b fd _ Q q => q [] H1 (But.refl _ _) fd rfl
theorem efa_cons {P : Hp → List V → Prop} (hf : M f = true) (u : Up R) (h : EvF f B1 M te σ H R) (hr : EvFA f B2 M tr σ H P) : EvFA f (B1 + B2) M (tCons te tr) σ H fun H vs => ∃ v r, vs = v :: r ∧ R H v ∧ P H r := fun n H1 b fd hn Q q =>
  h n H1 b fd (by omega) _ fun v H2 b2 f2 hv => hr (n + B1) H2 (b.trans b2) f2 (by omega) _ fun r H3 b3 f3 hr3 => q _ H3 (b2.trans b3) (by rw [Nat.add_assoc] at f3; exact f3) ⟨v, r, rfl, u _ _ _ (b3.hm hf) hv, hr3⟩
theorem efa_imp {P P' : Hp → List V → Prop} (h : EvFA f B M tr σ H P) (k : ∀ H v, P H v → P' H v) : EvFA f B M tr σ H P' := fun n H1 b fd hn Q q => h n H1 b fd hn Q fun v H2 e f2 hv => q v H2 e f2 (k _ _ hv)
/-- a def that draws, called -/
theorem ef_call {ι : Type} {pre : ι → Hp → List V → Prop} {post : ι → Hp → V → Prop} {E : XK} {i : Nat} (x : ι) (hf : M f = true) (wd : Wd M H) (hs : σ[i]? = some (some (.ref f))) (h : EvFA f B1 M tr σ H (pre x)) : EvF f (B1 + B) M (tCall (spI pre B post) [] E (tCons (tVar i) tr)) σ H (post x) := fun n H1 b fd hn Q q =>
  ⟨.ref f, hs, h n H1 b fd (by omega) _ fun r H2 b2 f2 hr => ⟨M, f, n + B1, x, r, (b.trans b2).wd' wd f2, hf, f2, by omega, by rw [List.append_nil], hr, fun v H3 b3 f3 hv => q v H3 (b2.trans b3) (by rw [Nat.add_assoc] at f3; exact f3) hv⟩⟩
theorem ef_op2 {r : R2} (hf : M f = true) (u : Up Ra) (ha : EvF f B1 M ta σ H Ra) (hb : EvF f B2 M tb σ H Rb) (k : ∀ x y H1, But f H H1 → Ra (Hm M H1) x → Rb (Hm M H1) y → ∀ Q : VK, (∀ v H2, Same H1 H2 → R (Hm M H2) v → Q v H2) → r x y H1 Q) : EvF f (B1 + B2) M (tOp r ta tb) σ H R := fun n H1 b fd hn Q q =>
  ha n H1 b fd (by omega) _ fun x H2 b2 f2 hx => hb (n + B1) H2 (b.trans b2) f2 (by omega) _ fun y H3 b3 f3 hy => k x y H3 ((b.trans b2).trans b3) (u _ _ _ (b3.hm hf) hx) hy Q fun v H4 e4 hv => q v H4 ((b2.trans b3).trans (But.of e4)) (by rw [Nat.add_assoc] at f3; exact f3.same e4) hv
theorem ef_tup {P : Hp → List V → Prop} (wd : Wd M H) (hl : ∀ H vs, P H vs → vs.length ≤ 100000) (h : EvFA f B M tr σ H P) (u : ∀ H H' vs, Same H H' → P H vs → P H' vs) : EvF f B M (tTup tr) σ H fun H v => ∃ p xs, v = .ref p ∧ SqT K H p xs ∧ P H xs := fun n H1 b fd hn Q q =>
  h n H1 b fd hn _ fun xs H2 b2 f2 hxs => ⟨sz_ok (hl _ _ hxs), fun p hp => q _ _ (b2.trans (But.of (same_new hp))) (f2.same (same_new hp)) (by
    have hm : M p = false := ((b.trans b2).wd' wd f2).new hp
    exact ⟨p, xs, rfl, .of (hm_of hm upd_same), u _ _ _ (hm_mono (same_new hp)) hxs⟩)⟩
theorem eft_pure {b : Bool} {R : Bool → Prop} (h : ∀ H1, But f H H1 → EvT tt σ H1 b) (hr : R b) : EvFT f 0 tt σ H R := fun n H1 b fd _ Q q => h H1 b H1 (Same.refl _) Q fun H2 e => q _ H2 (But.of e) (fd.same e) hr
theorem ef_if {R : Bool → Prop} {S : Hp → V → Prop} (h : EvFT f B1 tt σ H R) (h1 : R true → EvF f B2 M ta σ H S) (h2 : R false → EvF f B2 M tb σ H S) : EvF f (B1 + B2) M (tIf tt ta tb) σ H S := fun n H1 b fd hn Q q =>
  h n H1 b fd (by omega) _ fun t H2 b2 f2 ht => by
    cases t with
    | true => exact iteT (h1 ht (n + B1) H2 (b.trans b2) f2 (by omega) Q fun v H3 b3 f3 hv => q v H3 (b2.trans b3) (by rw [Nat.add_assoc] at f3; exact f3) hv)
    | false => exact iteF (h2 ht (n + B1) H2 (b.trans b2) f2 (by omega) Q fun v H3 b3 f3 hv => q v H3 (b2.trans b3) (by rw [Nat.add_assoc] at f3; exact f3) hv)
theorem q_asgF {i n : Nat} (fd : Feed f n H) (hn : n + B ≤ topN) (h : EvF f B M te σ H R) (k : ∀ v H1, But f H H1 → Feed f (n + B) H1 → R (Hm M H1) v → tz D (σ.set i (some v)) H1) : tSeq (tAsg te (gName i)) tz D σ H := h n H (But.refl _ _) fd hn _ fun v H1 b f1 hv => k v H1 b f1 hv
theorem s_retF {n : Nat} (fd : Feed f n H) (hn : n + B ≤ topN) (h : EvF f B M te σ H R) (k : ∀ v H1, But f H H1 → Feed f (n + B) H1 → R (Hm M H1) v → D.rt v H1) : tRet te D σ H := h n H (But.refl _ _) fd hn _ fun v H1 b f1 hv => k v H1 b f1 hv
theorem s_ifF {n : Nat} {R : Bool → Prop} (fd : Feed f n H) (hn : n + B ≤ topN) (h : EvFT f B tt σ H R) (h1 : R true → ∀ H1, But f H H1 → Feed f (n + B) H1 → tu D σ H1) (h2 : R false → ∀ H1, But f H H1 → Feed f (n + B) H1 → tw D σ H1) : tIfS tt tu tw D σ H := h n H (But.refl _ _) fd hn _ fun b H1 b1 f1 hb => by
  cases b with
  | true => exact iteT (h1 hb H1 b1 f1)
  | false => exact iteF (h2 hb H1 b1 f1)
theorem q_ifF {n : Nat} {R : Bool → Prop} (fd : Feed f n H) (hn : n + B ≤ topN) (h : EvFT f B tt σ H R) (h1 : R true → ∀ H1, But f H H1 → Feed f (n + B) H1 → tu { D with nx := tz D } σ H1) (h2 : R false → ∀ H1, But f H H1 → Feed f (n + B) H1 → tw { D with nx := tz D } σ H1) : tSeq (tIfS tt tu tw) tz D σ H := s_ifF (D := { D with nx := tz D }) fd hn h h1 h2
end
section
variable {P : Program} {w : World} {K : PySem.W.Frag} {mg : Str → Option Value} {base : Heap} {x qual : Str} {st : Stmt} {N ps : List Str} {k : Nat}
theorem mkI {ι : Type} {pre : ι → Hp → List V → Prop} {B : Nat} {post : ι → Hp → V → Prop} (F : Df K mg x qual st) (S : FnScope N ps (defScope st)) (hl : ∀ i H vs, pre i H vs → vs.length + 1 = ps.length)
    (hb : ∀ (kV doc pm : Value) (an : Option Addr) (cdv ct : Value) (us : List Value), us.length = ps.length → bindArgs (PySem.W.fnOf x qual (defArgs st) (defBody st) (defScope st) .none kV doc pm an cdv ct) ⟨us, []⟩ = pure (ps.zip us))
    (body : ∀ (f : Addr) (cdv : Value) (A : Around) (outer : List Env) (s : Shared) (H : Hp) (Q : VK) (E : XK), Room k (A.deeper (envOfC qual (defScope st) s.heap.objs.size f cdv)) → ∀ (M : Mk) (fa : Addr) (n : Nat) (i : ι) (r : List V), Wd M H → M fa = true → Feed fa n H → n + B ≤ topN → pre i (Hm M H) r →
      (∀ v H', But fa H H' → Feed fa (n + B) H' → post i (Hm M H') v → Q v H') →
      ∃ t, PSs (cxOf CX0 P w K mg base N qual (defScope st) f cdv A outer s H E).nox (defBody st) t ∧ t { nx := fun _ H' => Q .non H', rt := Q } (start N (.ref fa :: r)) H) :
    Cal P w K mg base (k + 1) x ps (spI pre B post) :=
  mkS F S (fun vs H Q E ⟨M, fa, n, i, r, _, _, _, _, e, h, _⟩ => by rw [e]; exact hl i _ r h) hb fun f cdv A outer s H vs Q E hr ⟨M, fa, n, i, r, wd, hm, fd, hn, e, h, q⟩ => by subst e; exact body f cdv A outer s H Q E hr M fa n i r wd hm fd hn h q
end
end EIT
end
/-! text L4 -/
section
set_option maxHeartbeats 4000000
/-! draws. -/
namespace EIT
open PySem PySem.Spec PyProof.Rows L2
theorem lt_bits (a : Nat) : a < 2 ^ Builtin.Int.intBits (a : Int) := by
  unfold Builtin.Int.intBits
  by_cases h : a = 0
  · subst h; exact Nat.pow_pos (by decide)
  · rw [if_neg (by simpa using h), Int.natAbs_natCast]
    exact Nat.lt_log2_self
theorem bits_mono {a b : Nat} (h : a ≤ b) : Builtin.Int.intBits (a : Int) ≤ Builtin.Int.intBits (b : Int) :=
  PyProof.Rows.intBits_le (by rw [Int.natAbs_natCast]; exact Nat.lt_of_le_of_lt h (lt_bits b))
section
variable {K : PySem.W.Frag} {M : Mk} {σ : L2.St} {H : Hp} {ta tb : TE}
theorem ed_addN {a b : Nat} (ha : EvD K M ta σ H (nI a)) (hb : EvD K M tb σ H (nI b)) : EvD K M (tOp (rI0 fun i j => V.int (i + j)) ta tb) σ H (nI (a + b)) := (ed_I0 ha hb).eq (by rw [← Int.natCast_add]; rfl)
theorem ed_mulN {a b B C : Nat} (ha : EvD K M ta σ H (nI a)) (hb : EvD K M tb σ H (nI b)) (h1 : a < 2 ^ B) (h2 : b < 2 ^ C) (h : B + C ≤ 134217728) : EvD K M (tOp (rI CMulX fun i j => V.int (i * j)) ta tb) σ H (nI (a * b)) := (ed_IC ha hb (mulX_nat h1 h2 h)).eq (by rw [← Int.natCast_mul]; rfl)
theorem ed_modN {a b : Nat} (ha : EvD K M ta σ H (nI a)) (hb : EvD K M tb σ H (nI b)) (h : 0 < b) : EvD K M (tOp (rI (fun _ j => 0 < j) fun i j => V.int (i % j)) ta tb) σ H (nI (a % b)) := (ed_IC ha hb (by show (0 : Int) < (b : Int); omega)).eq (by rw [← Int.natCast_emod]; rfl)
theorem ed_divN {a b : Nat} (ha : EvD K M ta σ H (nI a)) (hb : EvD K M tb σ H (nI b)) (h : 0 < b) (h2 : b < 2 ^ 8000) : EvD K M (tOp (rI CDivW fun i j => V.int (i / j)) ta tb) σ H (nI (a / b)) := (ed_IC ha hb (divW_nat h h2)).eq (by rw [← Int.natCast_ediv]; rfl)
theorem ed_powN {a b : Nat} (ha : EvD K M ta σ H (nI a)) (hb : EvD K M tb σ H (nI b)) (h1 : a < 2 ^ 60) (h2 : b ≤ 1000) : EvD K M (tOp (rI CPow fun i j => V.int (i ^ j.toNat)) ta tb) σ H (nI (a ^ b)) := (ed_IC ha hb ⟨by omega, by omega, by rw [Int.natAbs_natCast]; omega⟩).eq (by rw [Int.toNat_natCast, ← Int.natCast_pow]; rfl)
theorem q_setC {H' : Hp} {to te ta : TE} {L : Addr} {out : List PyData} {d : PyData} {tz : TS} {D : Ends} {i : Int} {j : Nat} (hv : EvD K M te σ H' d) (ht : EvV to σ H' (.ref L)) (hi : EvD K M ta σ H' (.int i)) (hj : ixN out.length i = some j) (c : Cell K M L H' out) (k : ∀ H'', Cell K M L H'' (out.set j d) → But L H' H'' → tz D σ H'') : tSeq (tAsg te (gSub to ta rSetL)) tz D σ H' := s_setC (D := { D with nx := tz D }) hv ht hi hj c k
theorem ed_nat {n : Nat} : EvD K M (tC (.int (n : Int))) σ H (nI n) := ed_int
theorem cell_feed {f : Addr} {a b c : Nat} (hm : M f = true) (h : H f = some (.lst [.int (a : Nat), .int (b : Nat), .int (c : Nat)])) : Cell K M f H [nI a, nI b, nI c] := ⟨hm, _, h, .cons (.int _) (.cons (.int _) (.cons (.int _) .nil))⟩
theorem feed_cell {f : Addr} {a b c n : Nat} (h : Cell K M f H [nI a, nI b, nI c]) (h1 : Builtin.Int.intBits ((a : Nat) : Int) ≤ 2000000) (h2 : b < 2 ^ 130) (h3 : c ≤ n) : Feed f n H := by
  obtain ⟨_, acc, k1, k2⟩ := h
  have e : acc = [.int (a : Nat), .int (b : Nat), .int (c : Nat)] := by
    obtain ⟨x, y, z, rfl, g1, g2, g3⟩ := three_of k2
    rw [dp_int g1, dp_int g2, dp_int g3]
  subst e
  exact ⟨a, b, c, k1, h1, h2, h3⟩
end
theorem p10 : (10 : Nat) ^ 9 < 2 ^ 8000 := Nat.lt_of_lt_of_le (by decide : (10 : Nat) ^ 9 < 2 ^ 30) (Nat.pow_le_pow_right (by decide) (by decide))
section
variable {P : Program} {w : World} {K : PySem.W.Frag} {mg : Str → Option Value} {base : Heap}
def preDraw (m : Nat) (H : Hp) (r : List V) : Prop := 0 < m ∧ m < 2 ^ 8000 ∧ r = [.int (m : Nat)]
theorem sc_law_draw : FnScope ["_law_feed_here", "_law_many", "_law_rest", "_law_got", "_law_stir"] ["_law_feed_here", "_law_many"] (defScope s_law_draw) := ⟨rfl, rfl, rfl, by decide +kernel, rfl, by decide +kernel, by decide +kernel⟩
theorem ok_law_draw (T : Tx K mg) : Cal P w K mg base 1 "_law_draw" ["_law_feed_here", "_law_many"] (spI preDraw 1 fun m H v => ILt m H v) := by
  refine mkI T.d_law_draw sc_law_draw (fun i H vs h => by obtain ⟨_, _, rfl⟩ := h; rfl) (fun _ _ _ _ _ _ us hl => match us, hl with | [_, _], _ => rfl) fun f cdv A outer s H Q E hr M fa n m r wd hm fd hn hp q => ?_
  obtain ⟨p1, p2, rfl⟩ := hp
  obtain ⟨a, b, c, hf, hb1, hb2, hb3⟩ := fd.ex
  have c0 := cell_feed (K := K) hm hf
  have hn : n + 1 ≤ 1125899906842624 := hn
  refine ⟨_, (pss_cons (ps_if (pt_cmpR op_gt (pe_ix (ix_seqK K) (pv 0) pe_int (fun _ _ => rfl)) pe_int (nomark _)) (pss_cons (ps_set (i := 2) sc_law_draw.nd rfl (.inl rfl) (pe_op op_fdivW (pe_ix (ix_seqK K) (pv 0) pe_int (fun _ _ => rfl)) (pv 1)))
      (pss_cons (ps_set (i := 3) sc_law_draw.nd rfl (.inl rfl) (pe_op op_sub (pe_ix (ix_seqK K) (pv 0) pe_int (fun _ _ => rfl)) (pe_op op_mulX (pv 2) (pv 1))))
      (pss_cons (ps_asg (pv 2) (pg_sub (pv 0) pe_int set_list))
      (pss_one (ps_ret (pv 3)))))) pss_nil)
      (pss_cons (ps_asg (pe_op op_add (pe_ix (ix_seqK K) (pv 0) pe_int (fun _ _ => rfl)) pe_int) (pg_sub (pv 0) pe_int set_list))
      (pss_cons (ps_set (i := 4) sc_law_draw.nd rfl (.inl rfl) (pe_op op_add (pe_ix (ix_seqK K) (pv 0) pe_int (fun _ _ => rfl)) (pe_op op_mulX pe_int (pe_ix (ix_seqK K) (pv 0) pe_int (fun _ _ => rfl)))))
      (pss_cons (ps_set (i := 4) sc_law_draw.nd rfl (.inl rfl) (pe_op op_mod (pe_callTy call_int1 (by rfl) T.b_int (by decide +kernel) (pa_cons (pe_op op_add (pe_op op_mulX (pe_op op_mulX (pv 4) (pv 4)) (pv 4)) (pe_op op_mulX pe_int (pe_ix (ix_seqK K) (pv 0) pe_int (fun _ _ => rfl)))) pa_nil)) (pe_op op_add (pe_op op_pow pe_int pe_int) pe_int)))
      (pss_cons (ps_set (i := 4) sc_law_draw.nd rfl (.inl rfl) (pe_op op_mod (pe_callTy call_int1 (by rfl) T.b_int (by decide +kernel) (pa_cons (pe_op op_add (pe_op op_mulX (pv 4) (pv 4)) pe_int) pa_nil)) (pe_op op_add (pe_op op_pow pe_int pe_int) pe_int)))
      (pss_one (ps_ret (pe_op op_mod (pe_callTy call_int1 (by rfl) T.b_int (by decide +kernel) (pa_cons (pe_op op_fdivW (pv 4) (pe_op op_pow pe_int pe_int)) pa_nil)) (pv 1))))))))), ?_⟩
  have ix0 : ∀ {σ : L2.St} {H' : Hp} {x y z : Nat}, Cell K M fa H' [nI x, nI y, nI z] → σ[0]? = some (some (.ref fa)) → EvD K M (tOp (rIx K) (tVar 0) (tC (.int 0))) σ H' (nI x) ∧ EvD K M (tOp (rIx K) (tVar 0) (tC (.int 1))) σ H' (nI y) ∧ EvD K M (tOp (rIx K) (tVar 0) (tC (.int 2))) σ H' (nI z) := fun c hs =>
    ⟨ed_ixC (j := 0) (ev_var hs) c ed_int rfl rfl, ed_ixC (j := 1) (ev_var hs) c ed_int rfl rfl, ed_ixC (j := 2) (ev_var hs) c ed_int rfl rfl⟩
  refine q_if (b := decide ((0 : Int) < (a : Int))) (et_test (ed_IB (g := fun i j => decide (j < i)) (ix0 c0 rfl).1 ed_int)) (fun ha H1 e1 => ?_) fun ha H1 e1 => ?_
  · have c1 := c0.up e1
    refine q_asg (K := K) (M := M) (ed_divN (ix0 c1 rfl).1 (ed_var rfl (.int _)) p1 p2) fun v2 H2 e2 h2 => ?_
    cases (dp_int h2)
    have c2 := c1.up e2
    have hle : a / m ≤ a := Nat.div_le_self a m
    refine q_asg (K := K) (M := M) (d := nI (a % m)) (EvD.eq (ed_I0 (ix0 c2 rfl).1 (ed_IC (ed_var rfl (.int _)) (ed_var rfl (.int _)) ?_)) ?_) fun v3 H3 e3 h3 => ?_
    · have h1 := bits_mono hle
      have h2 := bits_le p2
      unfold CMulX
      omega
    · show PyData.int _ = .int _
      congr 1
      have := Nat.div_add_mod a m
      rw [← Int.natCast_mul, Nat.mul_comm]
      omega
    cases (dp_int h3)
    have c3 := c2.up e3
    show tSeq _ _ _ _ _
    refine q_setC (K := K) (M := M) (d := nI (a / m)) (j := 0) (ed_var rfl (.int _)) (ev_var rfl) ed_int rfl c3 fun H4 c4 b4 => ?_
    have c4 : Cell K M fa H4 [nI (a / m), nI b, nI c] := c4
    have fd4 := feed_cell (n := n + 1) c4 (Nat.le_trans (bits_mono hle) hb1) hb2 (by omega)
    refine s_ret (K := K) (M := M) (d := nI (a % m)) (ed_var rfl (.int _)) fun v H5 e5 hv => q v H5 (((But.of ((e1.trans e2).trans e3)).trans b4).trans (But.of e5)) (fd4.same e5) ⟨a % m, dp_int hv, Nat.mod_lt _ p1⟩
  · have c1 := c0.up e1
    show tSeq _ _ _ _ _
    refine q_setC (K := K) (M := M) (d := nI (c + 1)) (j := 2) (ed_addN (ix0 c1 rfl).2.2 (ed_nat (n := 1))) (ev_var rfl) ed_int rfl c1 fun H2 c2 b2 => ?_
    have c2 : Cell K M fa H2 [nI a, nI b, nI (c + 1)] := c2
    have fd2 := feed_cell (n := n + 1) c2 hb1 hb2 (by omega)
    have hc : c + 1 < 2 ^ 60 := by omega
    show tSeq _ _ _ _ _
    have k1 : 6700417 * (c + 1) < 2 ^ 130 := Nat.lt_of_lt_of_le (Nat.mul_lt_mul'' (by decide : 6700417 < 2 ^ 30) hc) (by rw [← Nat.pow_add]; exact Nat.pow_le_pow_right (by decide) (by decide))
    refine q_asg (K := K) (M := M) (ed_addN (ix0 c2 rfl).2.1 (ed_mulN (ed_nat (n := 6700417)) (ix0 c2 rfl).2.2 (by decide : 6700417 < 2 ^ 30) hc (by decide))) fun v3 H3 e3 h3 => ?_
    cases (dp_int h3)
    have c3 := c2.up e3
    have ks : b + 6700417 * (c + 1) < 2 ^ 131 := by
      refine Nat.lt_of_lt_of_le (Nat.add_lt_add hb2 k1) ?_
      rw [← Nat.two_mul, ← Nat.pow_succ']
      exact Nat.le_refl _
    generalize b + 6700417 * (c + 1) = st at ks
    have ks2 : st * st < 2 ^ 262 := Nat.lt_of_lt_of_le (Nat.mul_lt_mul'' ks ks) (by rw [← Nat.pow_add]; exact Nat.pow_le_pow_right (by decide) (by decide))
    refine q_asg (K := K) (M := M) (ed_modN (ed_intI (ed_addN (ed_mulN (ed_mulN (ed_var rfl (.int _)) (ed_var rfl (.int _)) ks ks (by decide)) (ed_var rfl (.int _)) ks2 ks (by decide)) (ed_mulN (ed_nat (n := 15485863)) (ix0 c3 rfl).2.2 (by decide : 15485863 < 2 ^ 30) hc (by decide)))) (ed_addN (ed_powN (ed_nat (n := 10)) (ed_nat (n := 43)) (by decide) (by decide)) (ed_nat (n := 57))) (by omega)) fun v4 H4 e4 h4 => ?_
    cases (dp_int h4)
    have kt : (st * st * st + 15485863 * (c + 1)) % (10 ^ 43 + 57) < 2 ^ 200 := Nat.lt_of_lt_of_le (Nat.mod_lt _ (by omega)) (by decide)
    generalize (st * st * st + 15485863 * (c + 1)) % (10 ^ 43 + 57) = s2 at kt
    refine q_asg (K := K) (M := M) (ed_modN (ed_intI (ed_addN (ed_mulN (ed_var rfl (.int _)) (ed_var rfl (.int _)) kt kt (by decide)) (ed_nat (n := 32452843)))) (ed_addN (ed_powN (ed_nat (n := 10)) (ed_nat (n := 38)) (by decide) (by decide)) (ed_nat (n := 133))) (by omega)) fun v5 H5 e5 h5 => ?_
    cases (dp_int h5)
    refine s_ret (K := K) (M := M) (ed_modN (ed_intI (ed_divN (ed_var rfl (.int _)) (ed_powN (ed_nat (n := 10)) (ed_nat (n := 9)) (by decide) (by decide)) (by decide) p10)) (ed_var rfl (.int _)) p1) fun v H6 e6 hv => q v H6 (((But.of e1).trans b2).trans (But.of (((e3.trans e4).trans e5).trans e6))) (fd2.same (((e3.trans e4).trans e5).trans e6)) ⟨_, dp_int hv, Nat.mod_lt _ p1⟩
end
end EIT
end
/-! text L5 -/
section
set_option maxHeartbeats 4000000
/-! one of a list, a list mixed. -/
namespace EIT
open PySem PySem.Spec PyProof.Rows L2
section
variable {P : Program} {w : World} {K : PySem.W.Frag} {mg : Str → Option Value} {base : Heap}
/-- a list or a tuple of these values -/
def SqV (K : PySem.W.Frag) (xs : List V) (H : Hp) (v : V) : Prop := ∃ a, v = .ref a ∧ (SqL K H a xs ∨ SqT K H a xs)
theorem up_sqV {xs : List V} : Up (SqV K xs) := fun _ _ _ e h => by
  obtain ⟨a, h1, h2 | h2⟩ := h
  · exact ⟨a, h1, .inl (sqL_mono e h2)⟩
  · exact ⟨a, h1, .inr (sqT_mono e h2)⟩
def preOne (K : PySem.W.Frag) (xs : List V) (H : Hp) (r : List V) : Prop := 0 < xs.length ∧ xs.length ≤ 50000 ∧ ∃ a, r = [.ref a] ∧ SqL K H a xs
theorem sc_law_one : FnScope ["_law_feed_here", "_law_things"] ["_law_feed_here", "_law_things"] (defScope s_law_one) := ⟨rfl, rfl, rfl, by decide +kernel, rfl, by decide +kernel, by decide +kernel⟩
theorem ok_law_one (T : Tx K mg) : Cal P w K mg base 2 "_law_one" ["_law_feed_here", "_law_things"] (spI (preOne K) 1 fun xs _ v => v ∈ xs) := by
  refine mkI T.d_law_one sc_law_one (fun i H vs h => by obtain ⟨_, _, a, rfl, _⟩ := h; rfl) (fun _ _ _ _ _ _ us hl => match us, hl with | [_, _], _ => rfl) fun f cdv A outer s H Q E hr M fa n xs r wd hm fd hn hp q => ?_
  obtain ⟨p1, p2, a, rfl, hs⟩ := hp
  refine ⟨_, (pss_one (ps_ret (pe_ix (ix_seqK K) (pv 1) (pe_cal (ok_law_draw T) (hr.mono (by decide)) (by rfl) (pa_cons (pv 0) (pa_cons (pe_callB (call_len_seqK K) (by rfl) T.b_len (by decide +kernel) (pa_cons (pv 1) pa_nil)) pa_nil))) (fun _ _ => rfl)))), ?_⟩
  refine ⟨.ref a, rfl, .ref fa, rfl, .ref a, rfl, a, xs, rfl, .inl (sqL_mono (hm_sub M H) hs), M, fa, n, xs.length, [.int (xs.length : Nat)], wd, hm, fd, hn, rfl, ⟨p1, Nat.lt_of_le_of_lt p2 (Nat.lt_of_lt_of_le (by decide : 50000 < 2 ^ 30) (Nat.pow_le_pow_right (by decide) (by decide))), rfl⟩, fun v H1 b1 f1 hv => ?_⟩
  obtain ⟨i, rfl, hi⟩ := hv
  have hs1 : SqL K H1 a xs := sqL_mono (hm_sub M H1) (sqL_mono (b1.hm hm) hs)
  exact .inl ⟨a, xs, i, xs[i], rfl, rfl, hs1, atI_nat (List.getElem?_eq_getElem hi), q _ H1 b1 f1 (List.getElem_mem hi)⟩

def preMix (K : PySem.W.Frag) (xs : List V) (H : Hp) (r : List V) : Prop := xs.length ≤ 64 ∧ ∃ v, r = [v] ∧ SqV K xs H v
def IsMix (xs : List V) (H : Hp) (v : V) : Prop := ∃ p ys, v = .ref p ∧ H p = some (.lst ys) ∧ ys.Perm xs
theorem up_mix {xs : List V} : Up (IsMix xs) := fun _ _ _ e h => by
  obtain ⟨p, ys, h1, h2, h3⟩ := h
  exact ⟨p, ys, h1, e _ _ h2, h3⟩
theorem perm_move {α : Type} (g p : List α) (j : Nat) (h : j < p.length) : ((g ++ [p[j]]) ++ p.eraseIdx j).Perm (g ++ p) := by
  rw [List.append_assoc]
  refine List.Perm.append_left g ?_
  have h1 : p.eraseIdx j = p.take j ++ p.drop (j + 1) := List.eraseIdx_eq_take_drop_succ ..
  rw [h1]
  have h2 : p = p.take j ++ p[j] :: p.drop (j + 1) := by
    rw [← List.drop_eq_getElem_cons h, List.take_append_drop]
  refine List.Perm.trans ?_ (List.Perm.of_eq h2.symm)
  show (p[j] :: (p.take j ++ p.drop (j + 1))).Perm _
  exact List.perm_middle.symm
theorem sc_law_mixed : FnScope ["_law_feed_here", "_law_things", "_law_pool", "_law_got", "_law_turn"] ["_law_feed_here", "_law_things"] (defScope s_law_mixed) := ⟨rfl, rfl, rfl, by decide +kernel, rfl, by decide +kernel, by decide +kernel⟩
theorem ok_law_mixed (T : Tx K mg) : Cal P w K mg base 2 "_law_mixed" ["_law_feed_here", "_law_things"] (spI (preMix K) 64 fun xs H v => IsMix xs H v) := by
  refine mkI T.d_law_mixed sc_law_mixed (fun i H vs h => by obtain ⟨_, v, rfl, _⟩ := h; rfl) (fun _ _ _ _ _ _ us hl => match us, hl with | [_, _], _ => rfl) fun f cdv A outer s H Q E hr M fa n xs r wd hm fd hn hp q => ?_
  obtain ⟨p1, v1, rfl, a, rfl, hs⟩ := hp
  have hsq : ∀ {H' : Hp}, Same H H' → SqL K H' a xs ∨ SqT K H' a xs := fun e => by
    rcases hs with h | h
    · exact .inl (sqL_mono e (sqL_mono (hm_sub M H) h))
    · exact .inr (sqT_mono e (sqT_mono (hm_sub M H) h))
  refine ⟨_, (pss_cons (ps_par (i := 2) (j := 3) rfl sc_law_mixed.nd rfl rfl (by decide) rfl rfl (pa_cons (pe_callTy (call_list_ofK K) (by rfl) T.b_list (by decide +kernel) (pa_cons (pv 1) pa_nil)) (pa_cons (pe_lst pa_nil) pa_nil)) (by rfl))
      (pss_cons (ps_for PassesOwn.never rfl (pi_range1 (by rfl) T.b_range (pa_cons (pe_callB (call_len_seqK K) (by rfl) T.b_len (by decide +kernel) (pa_cons (pv 1) pa_nil)) pa_nil)) (pg_name (i := 4) sc_law_mixed.nd rfl (.inl rfl)) (pss_one (ps_expr (pe_bmK K PySem.F.plainAttrs_list PySem.F.slot_list_append PySem.F.type_list_append mt_append (pv 3) (pa_cons (pe_bmK K PySem.F.plainAttrs_list PySem.F.slot_list_pop PySem.F.type_list_pop mt_popAt (pv 2) (pa_cons (pe_cal (ok_law_draw T) (hr.mono (by decide)) (by rfl) (pa_cons (pv 0) (pa_cons (pe_callB (call_len_seqK K) (by rfl) T.b_len (by decide +kernel) (pa_cons (pv 2) pa_nil)) pa_nil))) pa_nil)) pa_nil)))))
      (pss_one (ps_ret (pv 3))))), ?_⟩
  show tSeq (tPar 2 3 _) _ _ _ _
  refine ⟨.ref a, rfl, a, xs, rfl, hsq (Same.refl _), fun L1 hL1 => ?_⟩
  have s1 := same_new (o := .lst xs) hL1
  refine ⟨sz_ok (Nat.zero_le _), fun L2 hL2 => ?_⟩
  have s2 := same_new (o := .lst []) hL2
  refine ⟨_, _, rfl, ?_⟩
  have hne : L1 ≠ L2 := fun z => by rw [← z, upd_same] at hL2; cases hL2
  have hf := fd.there
  have hf1 : fa ≠ L1 := fun z => hf (by rw [z]; exact hL1)
  have hf2 : fa ≠ L2 := fun z => by
    cases q : H fa with
    | none => exact hf q
    | some o => rw [← z, s1 _ _ q] at hL2; cases hL2
  have hmL1 : M L1 = false := wd.new hL1
  have w1 := wd_new (o := .lst xs) wd hL1
  have hmL2 : addM M L1 L2 = false := w1.new hL2
  have w2 := wd_new (o := .lst []) w1 hL2
  have eM := (hm_new (M := M) (o := .lst xs) hL1).trans (hm_new (M := addM M L1) (o := .lst []) hL2)
  have g1 : (upd (upd H L1 (.lst xs)) L2 (.lst [])) L1 = some (.lst xs) := by rw [upd_ne hne, upd_same]
  have g2 : (upd (upd H L1 (.lst xs)) L2 (.lst [])) L2 = some (.lst []) := upd_same
  have gS := s1.trans s2
  have hL2H : H L2 = none := by
    cases z : H L2 with
    | none => rfl
    | some o => rw [s1 _ _ z] at hL2; cases hL2
  generalize upd (upd H L1 (.lst xs)) L2 (.lst []) = H1 at w2 eM g1 g2 gS
  have hmf : addM (addM M L1) L2 fa = true := addM_old (addM_old hm)
  have hM1 : addM (addM M L1) L2 L1 = true := addM_old addM_same
  have hM2 : addM (addM M L1) L2 L2 = true := addM_same
  have hlen : EvD K (addM (addM M L1) L2) (tCB (fun xs H Q => ∃ p ys, xs = [.ref p] ∧ (SqL K H p ys ∨ SqT K H p ys) ∧ Q (.int ys.length) H) (tCons (tVar 1) tNil)) [some (.ref fa), some (.ref a), some (.ref L1), some (.ref L2), none] H1 (nI xs.length) := fun H2 e2 Q2 q2 => ⟨.ref a, rfl, a, xs, rfl, hsq (gS.trans e2), q2 _ H2 (Same.refl _) (.int _)⟩
  show tSeq _ _ _ _ _
  refine q_for (K := K) (M := addM (addM M L1) L2) (src_rng (n := xs.length) (ea_cons hlen ea_nil) rfl (by omega)) fun H2 e2 => ⟨fun i σ' H' => ∃ p g y, σ' = [some (.ref fa), some (.ref a), some (.ref L1), some (.ref L2), y] ∧ H' L1 = some (.lst p) ∧ H' L2 = some (.lst g) ∧ (g ++ p).Perm xs ∧ g.length = i ∧ Feed fa (n + i) H' ∧ But fa H H' ∧ Same (Hm (addM (addM M L1) L2) H2) (Hm (addM (addM M L1) L2) H') ∧ Wd (addM (addM M L1) L2) H', ?_, ?_, ?_, ?_⟩
  · exact ⟨xs, [], none, rfl, e2 _ _ g1, e2 _ _ g2, List.Perm.refl _, rfl, fd.same (gS.trans e2), But.of (gS.trans e2), Same.refl _, w2.mono e2⟩
  · rintro i σ' H' ⟨p, g, y, rfl, _, _, _, _, _, _, h7, h8⟩
    exact ⟨h7, h8⟩
  · rintro i d x σ' H' H'' hd ⟨p, g, y, rfl, h1, h2, h3, h4, h5, h6, h7, h8⟩ e4 hx
    have hi : i < xs.length := by
      obtain ⟨z, _⟩ := List.getElem?_eq_some_iff.mp hd
      rw [List.length_map, List.length_range] at z; exact z
    have hpl : p.length + i = xs.length := by
      have := h3.length_eq
      rw [List.length_append] at this
      omega
    have h1 := e4 _ _ h1
    have h2 := e4 _ _ h2
    have h5 := h5.same e4
    have h6 := h6.trans (But.of e4)
    have h7 := h7.trans (hm_mono e4)
    have h8 := h8.mono e4
    show tDrop _ _ _ _
    refine ⟨.ref L2, rfl, .inl ⟨rfl, _, .of h2⟩, .ref L1, rfl, .inl ⟨rfl, _, .of h1⟩, .ref fa, rfl, .ref L1, rfl, L1, p, rfl, .inl (.of h1), addM (addM M L1) L2, fa, n + i, p.length, [.int (p.length : Nat)], h8, hmf, h5, by omega, rfl, ⟨by omega, Nat.lt_of_le_of_lt (by omega : p.length ≤ 64) (Nat.lt_of_lt_of_le (by decide : 64 < 2 ^ 30) (Nat.pow_le_pow_right (by decide) (by decide))), rfl⟩, fun v H3 b3 f3 hv => ?_⟩
    obtain ⟨j, rfl, hj⟩ := hv
    have k1 := b3 _ _ hf1.symm h1
    have k2 := b3 _ _ hf2.symm h2
    have hsi : seqIndex? (j : Int) p.length = some j := (ixN_seq (ixN_nat hj)).1
    refine ⟨L1, p, j, j, p[j], rfl, rfl, k1, by omega, by omega, hsi, List.getElem?_eq_getElem hj, ?_⟩
    refine ⟨L2, g, p[j], rfl, rfl, by rw [upd_ne (fun z => hne z.symm)]; exact k2, sz_lt (by omega), ?_⟩
    have hfu : (upd (upd H3 L1 (.lst (p.eraseIdx j))) L2 (.lst (g ++ [p[j]]))) fa = H3 fa := by rw [upd_ne hf2, upd_ne hf1]
    refine ⟨p.eraseIdx j, g ++ [p[j]], some x, rfl, by rw [upd_ne hne, upd_same], upd_same, (perm_move g p j hj).trans h3, by rw [List.length_append, h4]; rfl, f3.at hfu, fun b o hb ho => ?_, ?_, ?_⟩
    · have hb1 : b ≠ L1 := fun z => by rw [z, hL1] at ho; cases ho
      have hb2 : b ≠ L2 := fun z => by rw [z, hL2H] at ho; cases ho
      rw [upd_ne hb2, upd_ne hb1]
      exact b3 _ _ hb (h6 _ _ hb ho)
    · rw [hm_upd hM2, hm_upd hM1]
      exact h7.trans (b3.hm hmf)
    · intro b hb
      by_cases z2 : b = L2
      · rw [z2, upd_same]; intro z; cases z
      · rw [upd_ne z2]
        by_cases z1 : b = L1
        · rw [z1, upd_same]; intro z; cases z
        · rw [upd_ne z1]
          exact (b3.wd' h8 f3) b hb
  · rintro σ' H' ⟨p, g, y, rfl, h1, h2, h3, h4, h5, h6, h7, h8⟩
    rw [List.length_map, List.length_range] at h4
    have hp0 : p = [] := by
      have := h3.length_eq
      rw [List.length_append] at this
      exact List.length_eq_zero_iff.mp (by omega)
    subst hp0
    rw [List.append_nil] at h3
    refine ⟨.ref L2, rfl, q _ H' h6 (h5.up (by rw [List.length_map, List.length_range]; omega)) ⟨L2, g, rfl, ?_, h3⟩⟩
    refine hm_of ?_ h2
    cases z : M L2 with
    | false => rfl
    | true => rw [addM_old z] at hmL2; cases hmL2
end
end EIT
end
/-! text N8 -/
section
set_option maxHeartbeats 4000000
/-! halls beside one another; woven orders. -/
namespace EIT
open PySem PySem.Spec PyProof.Rows L2
def joinH (h o : Hall) : Hall := ⟨h.k, ⟨h.web.ps ++ o.web.ps, h.web.rs ++ o.web.rs⟩, h.rules ++ o.rules⟩
structure JoinOk (h o : Hall) : Prop where
  k : h.k = o.k
  apart : ∀ p ∈ h.web.ps, p ∉ o.web.ps
  ok : HallOk (joinH h o)
/-- a place of the first, or of the second, as the turns say -/
def weave : List Nat → List Str → List Str → List Str
  | [], _, _ => []
  | t :: ts, a, b => if t = 0 then a.headD "" :: weave ts a.tail b else b.headD "" :: weave ts a b.tail
def zeros (ts : List Nat) : Nat := ts.countP fun t => t == 0
def ones (ts : List Nat) : Nat := ts.countP fun t => !(t == 0)
theorem weave_len : ∀ (ts : List Nat) (a b : List Str), (weave ts a b).length = ts.length
  | [], _, _ => rfl
  | t :: ts, a, b => by
    unfold weave
    split
    · rw [List.length_cons, weave_len ts, List.length_cons]
    · rw [List.length_cons, weave_len ts, List.length_cons]
theorem drop_tail {α : Type} (a : List α) (n : Nat) : a.tail.drop n = a.drop (n + 1) := by rw [← List.drop_one, List.drop_drop, Nat.add_comm]
theorem weave_get : ∀ (ts : List Nat) (a b : List Str) (i t : Nat), ts[i]? = some t → (weave ts a b)[i]? = some (if t = 0 then (a.drop (zeros (ts.take i))).headD "" else (b.drop (ones (ts.take i))).headD "")
  | [], _, _, i, t, h => by simp at h
  | t :: ts, a, b, 0, t', h => by
    simp at h
    subst h
    unfold weave
    split <;> rfl
  | t :: ts, a, b, i + 1, t', h => by
    have h : ts[i]? = some t' := by simpa using h
    unfold weave
    by_cases e : t = 0
    · rw [if_pos e, List.getElem?_cons_succ, weave_get ts a.tail b i t' h, List.take_succ_cons]
      have z : zeros (t :: ts.take i) = zeros (ts.take i) + 1 := by unfold zeros; rw [List.countP_cons, if_pos (by rw [e]; rfl)]
      have o : ones (t :: ts.take i) = ones (ts.take i) := by unfold ones; rw [List.countP_cons, if_neg (by rw [e]; decide)]; rfl
      rw [z, o, drop_tail]
    · rw [if_neg e, List.getElem?_cons_succ, weave_get ts a b.tail i t' h, List.take_succ_cons]
      have z : zeros (t :: ts.take i) = zeros (ts.take i) := by unfold zeros; rw [List.countP_cons, if_neg (by simpa using e)]; rfl
      have o : ones (t :: ts.take i) = ones (ts.take i) + 1 := by unfold ones; rw [List.countP_cons, if_pos (by simpa using e)]
      rw [z, o, drop_tail]
structure TurnOk (ts : List Nat) (n m : Nat) : Prop where
  bit : ∀ t ∈ ts, t = 0 ∨ t = 1
  zer : zeros ts = n
  one : ones ts = m
theorem zeros_ones : ∀ ts : List Nat, zeros ts + ones ts = ts.length
  | [] => rfl
  | t :: ts => by
    unfold zeros ones
    rw [List.countP_cons, List.countP_cons, List.length_cons]
    have := zeros_ones ts
    unfold zeros ones at this
    by_cases e : t = 0
    · subst e
      simp only [beq_self_eq_true, if_true, Bool.not_true, Bool.false_eq_true, if_false]
      omega
    · have h : (t == 0) = false := by simpa using e
      rw [h]
      simp only [Bool.false_eq_true, if_false, Bool.not_false, if_true]
      omega
theorem sum_ones : ∀ ts : List Nat, (∀ t ∈ ts, t = 0 ∨ t = 1) → ts.sum = ones ts
  | [], _ => rfl
  | t :: ts, h => by
    rw [List.sum_cons, sum_ones ts fun x hx => h x (List.mem_cons_of_mem _ hx)]
    unfold ones
    rw [List.countP_cons]
    rcases h t List.mem_cons_self with e | e
    · subst e; simp
    · subst e; simp [Nat.add_comm]
theorem cnt_take {ts : List Nat} {i t : Nat} (h : ts[i]? = some t) (p : Nat → Bool) : (ts.take (i + 1)).countP p = (ts.take i).countP p + if p t = true then 1 else 0 := by
  rw [List.take_succ, h]
  show (ts.take i ++ [t]).countP p = _
  rw [List.countP_append, List.countP_cons]
  show (ts.take i).countP p + (0 + _) = _
  rw [Nat.zero_add]
theorem cnt_le {ts : List Nat} {i t : Nat} (h : ts[i]? = some t) (p : Nat → Bool) (hp : p t = true) : (ts.take i).countP p < ts.countP p := by
  have h1 := cnt_take h p
  rw [if_pos hp] at h1
  have h2 : (ts.take (i + 1)).countP p ≤ ts.countP p := (List.take_sublist (i + 1) ts).countP_le
  omega
section
variable {K : PySem.W.Frag} {M : Mk} {σ : L2.St} {H : Hp} {ta tb tc : TE} {w : Web}
theorem er_catN {a b : List Str} (wd : Wd M H) (ha : EvR M ta σ H (NmV K a)) (hb : EvR M tb σ H (NmV K b)) (h1 : a ≠ []) (h2 : b ≠ []) (hz : a.length + b.length ≤ 1000) : EvR M (tOp (rCatN K) ta tb) σ H (NmV K (a ++ b)) := fun H1 e1 Q q =>
  ha H1 e1 _ fun x H2 e2 hx => hb H2 (e1.trans e2) _ fun y H3 e3 hy => by
    obtain ⟨p, rfl, hs, _⟩ := up_nm _ _ _ (hm_mono e3) hx
    obtain ⟨p2, rfl, hs2, _⟩ := hy
    refine ⟨p, p2, _, _, rfl, rfl, sqT_mono (hm_sub M H3) hs, sqT_mono (hm_sub M H3) hs2, fun z => h1 (List.map_eq_nil_iff.mp z), fun z => h2 (List.map_eq_nil_iff.mp z), sz_ok (by rw [List.length_map, List.length_map]; omega), fun l o hl hc hd => q _ _ ((e2.trans e3).trans (same_new hl)) ?_⟩
    have hm : M l = false := (wd.mono ((e1.trans e2).trans e3)).new hl
    have hl2 : Hm M (upd H3 l (.frz o (.tup (a.map V.str ++ b.map V.str)))) l = some (.frz o (.tup (a.map V.str ++ b.map V.str))) := hm_of hm upd_same
    exact ⟨l, rfl, .inl (.inr ⟨o, by rw [List.map_append]; exact hl2⟩), o, _, hl2, hc, hd⟩
theorem er_web (wd : Wd M H) (ha : EvR M ta σ H (NmV K w.ps)) (hb : EvD K M tb σ H (.tuple (w.rs.map roadD))) : EvR M (tTup (tCons ta (tCons tb tNil))) σ H (WebV K w) := fun H1 e1 Q q =>
  ha H1 e1 _ fun x H2 e2 hx => hb H2 (e1.trans e2) _ fun y H3 e3 hy => ⟨sz_ok (Nat.le_of_ble_eq_true rfl), fun p hp => q _ _ ((e2.trans e3).trans (same_new hp)) (by
    have hm : M p = false := (wd.mono ((e1.trans e2).trans e3)).new hp
    exact ⟨p, x, y, rfl, .of (hm_of hm upd_same), up_nm _ _ _ (hm_mono (e3.trans (same_new hp))) hx, PD.up hy (same_new hp)⟩)⟩
theorem er_hall {h : Hall} (wd : Wd M H) (ha : EvD K M ta σ H (nI h.k)) (hb : EvR M tb σ H (WebV K h.web)) (hc : EvD K M tc σ H (.tuple (h.rules.map Rule.enc))) : EvR M (tTup (tCons ta (tCons tb (tCons tc tNil)))) σ H (HallV K h) := fun H1 e1 Q q =>
  ha H1 e1 _ fun x H2 e2 hx => hb H2 (e1.trans e2) _ fun y H3 e3 hy => hc H3 ((e1.trans e2).trans e3) _ fun z H4 e4 hz => ⟨sz_ok (Nat.le_of_ble_eq_true rfl), fun p hp => q _ _ (((e2.trans e3).trans e4).trans (same_new hp)) (by
    have hm : M p = false := (wd.mono (((e1.trans e2).trans e3).trans e4)).new hp
    exact ⟨p, x, y, z, rfl, .of (hm_of hm upd_same), PD.up hx ((e3.trans e4).trans (same_new hp)), up_web _ _ _ (hm_mono (e4.trans (same_new hp))) hy, PD.up hz (same_new hp)⟩)⟩
end
section
variable {P : Program} {w : World} {K : PySem.W.Frag} {mg : Str → Option Value} {base : Heap}
def preHH (K : PySem.W.Frag) (ok : Hall → Hall → Prop) (x : Hall × Hall) (H : Hp) (vs : List V) : Prop := HallOk x.1 ∧ HallOk x.2 ∧ ok x.1 x.2 ∧ ∃ v u, vs = [v, u] ∧ HallV K x.1 H v ∧ HallV K x.2 H u
theorem eb_HH {M : Mk} {σ : L2.St} {H : Hp} {ok : Hall → Hall → Prop} {h o : Hall} {i j : Nat} {v u : V} (p1 : HallOk h) (p2 : HallOk o) (p3 : ok h o) (hs : σ[i]? = some (some v)) (hs2 : σ[j]? = some (some u)) (hv : HallV K h (Hm M H) v) (hu : HallV K o (Hm M H) u) : EvB (tCons (tVar i) (tCons (tVar j) tNil)) σ H fun vs H' => preHH K ok (h, o) (Hm M H') vs :=
  EvB.imp (eb_cons (M := M) up_hall (er_var hs up_hall hv) (eb_cons (M := M) up_hall (er_var hs2 up_hall hu) eb_nil)) fun vs H' z => by
    obtain ⟨u1, r, rfl, g1, u2, r2, rfl, g2, rfl⟩ := z
    exact ⟨p1, p2, p3, u1, u2, rfl, g1, g2⟩
theorem nm_ne {h : Hall} (ok : HallOk h) : h.web.ps ≠ [] := fun z => by
  have := ok.web.lo
  rw [z] at this
  exact absurd this (by decide)

theorem sc_joined_hall : FnScope ["hall", "other", "web"] ["hall", "other"] (defScope s_joined_hall) := ⟨rfl, rfl, rfl, by decide +kernel, rfl, by decide +kernel, by decide +kernel⟩
theorem ok_joined_hall (T : Tx K mg) : Cal P w K mg base 1 "joined_hall" ["hall", "other"] (spR (preHH K fun _ _ => True) (fun x H v => HallV K (joinH x.1 x.2) H v)) := by
  refine mkR T.d_joined_hall sc_joined_hall (fun i H vs h => by obtain ⟨_, _, _, v, u, rfl, _⟩ := h; rfl) (fun _ _ _ _ _ _ us hl => match us, hl with | [_, _], _ => rfl) fun f cdv A outer s H vs Q E hr M x wd hp q => ?_
  obtain ⟨h, o⟩ := x
  obtain ⟨p1, p2, _, v0, v1, rfl, h0, h1⟩ := hp
  simp only at p1 p2 h0 h1 q
  have n1 := p1.web.hi
  have n2 := p2.web.hi
  have r1 := p1.web.few
  have r2 := p2.web.few
  refine ⟨_, (pss_cons (ps_set (i := 2) sc_joined_hall.nd rfl (.inl rfl) (pe_tup (pa_cons (pe_op (op_catN K) (pe_ix (ix_seqK K) (pe_ix (ix_seqK K) (pv 0) pe_int (fun _ _ => rfl)) pe_int (fun _ _ => rfl)) (pe_ix (ix_seqK K) (pe_ix (ix_seqK K) (pv 1) pe_int (fun _ _ => rfl)) pe_int (fun _ _ => rfl))) (pa_cons (pe_op (op_catAK K) (pe_ix (ix_seqK K) (pe_ix (ix_seqK K) (pv 0) pe_int (fun _ _ => rfl)) pe_int (fun _ _ => rfl)) (pe_ix (ix_seqK K) (pe_ix (ix_seqK K) (pv 1) pe_int (fun _ _ => rfl)) pe_int (fun _ _ => rfl))) pa_nil))))
      (pss_one (ps_ret (pe_tup (pa_cons (pe_ix (ix_seqK K) (pv 0) pe_int (fun _ _ => rfl)) (pa_cons (pv 2) (pa_cons (pe_op (op_catAK K) (pe_ix (ix_seqK K) (pv 0) pe_int (fun _ _ => rfl)) (pe_ix (ix_seqK K) (pv 1) pe_int (fun _ _ => rfl))) pa_nil))))))), ?_⟩
  refine q_asgR (M := M) (er_web (w := (joinH h o).web) wd (er_catN wd (er_web0 (er_hall1 (er_var rfl up_hall h0))) (er_web0 (er_hall1 (er_var rfl up_hall h1))) (nm_ne p1) (nm_ne p2) (by omega)) (EvD.eq (ed_catT wd (ed_ixT' (j := 1) (ed_ixT' (j := 1) (ed_var rfl (hall_dp h0)) ed_int rfl rfl) ed_int rfl rfl) (ed_ixT' (j := 1) (ed_ixT' (j := 1) (ed_var rfl (hall_dp h1)) ed_int rfl rfl) ed_int rfl rfl) (by rw [List.length_map, List.length_map]; omega)) (by rw [← List.map_append]; rfl))) fun vw H1 e1 hw => ?_
  have hh0 := up_hall _ _ _ (hm_mono e1) h0
  have hh1 := up_hall _ _ _ (hm_mono e1) h1
  exact s_retR (er_hall (h := joinH h o) (wd.mono e1) (ed_ixT' (j := 0) (ed_var rfl (hall_dp hh0)) ed_int rfl rfl) (er_var rfl up_web hw) (EvD.eq (ed_catT (wd.mono e1) (ed_ixT' (j := 2) (ed_var rfl (hall_dp hh0)) ed_int rfl rfl) (ed_ixT' (j := 2) (ed_var rfl (hall_dp hh1)) ed_int rfl rfl) (by rw [List.length_map, List.length_map, p1.many, p2.many]; omega)) (by rw [← List.map_append]; rfl))) fun v H2 e2 hv => q v H2 (e1.trans e2) hv

theorem sc_can_join : FnScope ["hall", "other", "place"] ["hall", "other"] (defScope s_can_join) := ⟨rfl, rfl, rfl, by decide +kernel, rfl, by decide +kernel, by decide +kernel⟩
theorem ok_can_join (T : Tx K mg) : Cal P w K mg base 8 "can_join" ["hall", "other"] (spR (preHH K JoinOk) (fun x H v => Dp K H v (.bool true))) := by
  refine mkR T.d_can_join sc_can_join (fun i H vs h => by obtain ⟨_, _, _, v, u, rfl, _⟩ := h; rfl) (fun _ _ _ _ _ _ us hl => match us, hl with | [_, _], _ => rfl) fun f cdv A outer s H vs Q E hr M x wd hp q => ?_
  obtain ⟨h, o⟩ := x
  obtain ⟨p1, p2, p3, v0, v1, rfl, h0, h1⟩ := hp
  simp only at p1 p2 p3 h0 h1 q
  have n1 := p1.web.hi
  refine ⟨_, (pss_cons (ps_if (PW.pt (pw_or (pt_cmpR op_ne (pe_ix (ix_seqK K) (pv 0) pe_int (fun _ _ => rfl)) (pe_ix (ix_seqK K) (pv 1) pe_int (fun _ _ => rfl)) (nomark _)) (pw_or1 (pt_val (pe_callB (cr_anyK K rfl) (by rfl) T.b_any (by decide +kernel) (pa_cons (pe_lc (own := [("place", 2)])  rfl sc_can_join.nd (pi_tupK K (pe_ix (ix_seqK K) (pe_ix (ix_seqK K) (pv 0) pe_int (fun _ _ => rfl)) pe_int (fun _ _ => rfl))) (blkOk_by (N := ["hall", "other", "place"]) (sc := defScope s_can_join) (own := [("place", 2)]) (by decide +kernel)) (fun _ _ _ _ _ => pg_name (i := 2) sc_can_join.nd rfl (Or.inl rfl)) (fun _ _ _ _ _ => pts_nil) (fun _ _ _ _ _ => (pe_cmpR (op_in_seqK K) (pv 2) (pe_ix (ix_seqK K) (pe_ix (ix_seqK K) (pv 1) pe_int (fun _ _ => rfl)) pe_int (fun _ _ => rfl)) (by rfl)))) pa_nil)))))) (pss_one (ps_ret pe_bl)) pss_nil)
      (pss_one (ps_ret (pe_cal (ok_is_hall_form T) (hr.mono (by decide)) (by rfl) (pa_cons (pe_cal (ok_joined_hall T) (hr.mono (by decide)) (by rfl) (pa_cons (pv 0) (pa_cons (pv 1) pa_nil))) pa_nil))))), ?_⟩
  refine q_no (EvT.eq (et_or (a := false) (b := false) (EvT.eq (et_test (ed_neI (ed_ixT' (j := 0) (ed_var rfl (hall_dp h0)) ed_int rfl rfl) (ed_ixT' (j := 0) (ed_var rfl (hall_dp h1)) ed_int rfl rfl))) ?_) fun _ => EvT.eq (et_test (ed_any (bs := h.web.ps.map fun p => decide (p ∈ o.web.ps)) (EvD.eq (ed_map (xs := h.web.ps) (enc := .str) (r := fun p => .bool (decide (p ∈ o.web.ps))) wd (src_tup (ed_ixT' (j := 0) (ed_ixT' (j := 1) (ed_var rfl (hall_dp h0)) ed_int rfl rfl) ed_int rfl rfl)) (by omega) (fun _ => rfl) fun a ha M' H2 z e2 e3 wd2 hz =>
    ed_inT (ed_var rfl hz) (ed_ixT' (j := 0) (ed_ixT' (j := 1) (ed_var rfl ((hall_dp h1).up e3)) ed_int rfl rfl) ed_int rfl rfl)) (by rw [List.map_map]; rfl)))) ?_) rfl) fun H1 e1 => ?_
  · rw [p3.k, decide_eq_true rfl]; rfl
  · rw [List.any_map, List.any_eq_false]
    intro p hp
    simp only [Function.comp, id, decide_eq_true_eq]
    exact p3.apart p hp
  refine s_ret (ed_call (joinH h o) (wd.mono e1) (ea_cons (er_d (er_call (pre := preHH K fun _ _ => True) (post := fun (x : Hall × Hall) H v => HallV K (joinH x.1 x.2) H v) (h, o) (wd.mono e1) (eb_HH p1 p2 trivial rfl rfl (up_hall _ _ _ (hm_mono e1) h0) (up_hall _ _ _ (hm_mono e1) h1))) fun _ _ => hall_dp) ea_nil) p3.ok) fun v H2 e2 hv => q v H2 (e1.trans e2) hv

theorem sc_need_both : FnScope ["hall", "other"] ["hall", "other"] (defScope s_need_both) := ⟨rfl, rfl, rfl, by decide +kernel, rfl, by decide +kernel, by decide +kernel⟩
theorem ok_need_both (T : Tx K mg) : Cal P w K mg base 9 "need_both" ["hall", "other"] (spR (preHH K JoinOk) (fun x H v => Dp K H v .none)) := by
  refine mkR T.d_need_both sc_need_both (fun i H vs h => by obtain ⟨_, _, _, v, u, rfl, _⟩ := h; rfl) (fun _ _ _ _ _ _ us hl => match us, hl with | [_, _], _ => rfl) fun f cdv A outer s H vs Q E hr M x wd hp q => ?_
  obtain ⟨h, o⟩ := x
  obtain ⟨p1, p2, p3, v0, v1, rfl, h0, h1⟩ := hp
  simp only at p1 p2 p3 h0 h1 q
  refine ⟨_, (pss_cons (ps_expr (pe_cal (ok_need_hall T) (hr.mono (by decide)) (by rfl) (pa_cons (pv 0) pa_nil)))
      (pss_cons (ps_expr (pe_cal (ok_need_hall T) (hr.mono (by decide)) (by rfl) (pa_cons (pv 1) pa_nil)))
      (pss_one (ps_if (pt_not (pt_val (pe_cal (ok_can_join T) (hr.mono (by decide)) (by rfl) (pa_cons (pv 0) (pa_cons (pv 1) pa_nil))))) (pss_one ps_never) pss_nil)))), ?_⟩
  refine q_drop (ed_call h wd (ea_cons (ed_var rfl (hall_dp h0)) ea_nil) p1) fun H1 e1 => ?_
  refine q_drop (ed_call o (wd.mono e1) (ea_cons (ed_var rfl ((hall_dp h1).up (hm_mono e1))) ea_nil) p2) fun H2 e2 => ?_
  have e02 := e1.trans e2
  exact s_if (EvT.eq (et_not (et_test (ed_callR (h, o) (wd.mono e02) (eb_HH p1 p2 p3 rfl rfl (up_hall _ _ _ (hm_mono e02) h0) (up_hall _ _ _ (hm_mono e02) h1))))) rfl) (fun z => Bool.noConfusion z) fun _ H3 e3 => q _ H3 (e02.trans e3) .non

theorem sc_beside : FnScope ["hall", "other"] ["hall", "other"] (defScope s_beside) := ⟨rfl, rfl, rfl, by decide +kernel, rfl, by decide +kernel, by decide +kernel⟩
theorem ok_beside (T : Tx K mg) : Cal P w K mg base 10 "beside" ["hall", "other"] (spR (preHH K JoinOk) (fun x H v => HallV K (joinH x.1 x.2) H v)) := by
  refine mkR T.d_beside sc_beside (fun i H vs h => by obtain ⟨_, _, _, v, u, rfl, _⟩ := h; rfl) (fun _ _ _ _ _ _ us hl => match us, hl with | [_, _], _ => rfl) fun f cdv A outer s H vs Q E hr M x wd hp q => ?_
  obtain ⟨h, o⟩ := x
  obtain ⟨p1, p2, p3, v0, v1, rfl, h0, h1⟩ := hp
  simp only at p1 p2 p3 h0 h1 q
  refine ⟨_, (pss_cons (ps_expr (pe_cal (ok_need_both T) (hr.mono (by decide)) (by rfl) (pa_cons (pv 0) (pa_cons (pv 1) pa_nil))))
      (pss_one (ps_ret (pe_cal (ok_joined_hall T) (hr.mono (by decide)) (by rfl) (pa_cons (pv 0) (pa_cons (pv 1) pa_nil)))))), ?_⟩
  refine q_drop (ed_callR (h, o) wd (eb_HH p1 p2 p3 rfl rfl h0 h1)) fun H1 e1 => ?_
  exact s_retR (er_call (h, o) (wd.mono e1) (eb_HH p1 p2 trivial rfl rfl (up_hall _ _ _ (hm_mono e1) h0) (up_hall _ _ _ (hm_mono e1) h1))) fun v H2 e2 hv => q v H2 (e1.trans e2) hv
end
end EIT
end
/-! text N9 -/
section
set_option maxHeartbeats 4000000
/-! turns, woven orders. -/
namespace EIT
open PySem PySem.Spec PyProof.Rows L2
theorem inV_int (x : Int) (ys : List Int) : inV (.int x) (ys.map V.int) = decide (x ∈ ys) := by
  unfold inV
  rw [List.any_map]
  induction ys with
  | nil => rfl
  | cons y r ih =>
    rw [List.any_cons, ih]
    show ((y == x) || decide (x ∈ r)) = _
    by_cases h : x = y
    · subst h; simp
    · have h2 : (y == x) = false := by
        rw [beq_eq_false_iff_ne]; exact fun z => h z.symm
      rw [h2, Bool.false_or]
      simp [h]
theorem pop_seq {n : Nat} (h : 0 < n) : seqIndex? 0 n = some 0 := by
  obtain ⟨h1, _⟩ := ixN_seq (ixN_nat h)
  exact h1
theorem zeros_take {ts : List Nat} {i : Nat} (h : ts[i]? = some 0) : zeros (ts.take (i + 1)) = zeros (ts.take i) + 1 ∧ ones (ts.take (i + 1)) = ones (ts.take i) ∧ zeros (ts.take i) < zeros ts := by
  refine ⟨cnt_take h _, ?_, cnt_le h _ rfl⟩
  have := cnt_take h fun t => !(t == 0)
  exact this
theorem ones_take {ts : List Nat} {i : Nat} (h : ts[i]? = some 1) : zeros (ts.take (i + 1)) = zeros (ts.take i) ∧ ones (ts.take (i + 1)) = ones (ts.take i) + 1 ∧ ones (ts.take i) < ones ts := by
  refine ⟨?_, cnt_take h _, cnt_le h _ rfl⟩
  have := cnt_take h fun t => t == 0
  exact this
theorem take_zero_cnt (ts : List Nat) : zeros (ts.take 0) = 0 ∧ ones (ts.take 0) = 0 := ⟨rfl, rfl⟩
theorem drop_pop {a : List Str} {n : Nat} (h : n < a.length) : (a.drop n).map V.str = .str ((a.drop n).headD "") :: (a.drop (n + 1)).map V.str := by
  rw [List.drop_eq_getElem_cons h]
  rfl
section
variable {P : Program} {w : World} {K : PySem.W.Frag} {mg : Str → Option Value} {base : Heap}
theorem ed_inI {M : Mk} {σ : L2.St} {H : Hp} {ta tb : TE} {x : Int} {ys : List Int} (ha : EvD K M ta σ H (.int x)) (hb : EvD K M tb σ H (.tuple (ys.map .int))) : EvD K M (tOp (rIn K false) ta tb) σ H (.bool (decide (x ∈ ys))) :=
  ed_op2 ha hb fun v y H1 _ hx hy Q q => by
    obtain ⟨a, xs, rfl, hs, hall⟩ := dp_tup hy
    cases dps_ints hall
    rw [dp_int hx]
    refine ⟨a, _, rfl, .inr (sqT_mono (hm_sub M H1) hs), rfl, flat_intV ys, ?_⟩
    rw [if_neg Bool.false_ne_true, inV_int]
    exact q _ H1 (Same.refl H1) (.bl _)

theorem sc_are_turns : FnScope ["thing", "ones", "others", "part"] ["thing", "ones", "others"] (defScope s_are_turns) := ⟨rfl, rfl, rfl, by decide +kernel, rfl, by decide +kernel, by decide +kernel⟩
theorem ok_are_turns (T : Tx K mg) : Cal P w K mg base 2 "are_turns" ["thing", "ones", "others"] (spF K (ι := List Nat × Nat × Nat) (fun x => [.tuple (x.1.map nI), nI x.2.1, nI x.2.2]) (fun x => TurnOk x.1 x.2.1 x.2.2 ∧ x.1.length ≤ 1000) (fun _ => .bool true)) := by
  refine mkF T.d_are_turns sc_are_turns (fun _ => rfl) (fun _ _ _ _ _ _ us hl => match us, hl with | [_, _, _], _ => rfl) fun f cdv A outer s H vs Q E hr M x wd hv hp q => ?_
  obtain ⟨ts, n, m⟩ := x
  obtain ⟨v0, v1, v2, rfl, h0, h1, h2⟩ := three_of hv
  obtain ⟨p1, p2⟩ := hp
  simp only at p1 p2 h0 h1 h2 q
  have hz := zeros_ones ts
  rw [p1.zer, p1.one] at hz
  refine ⟨_, (pss_cons (ps_if (PW.pt (pw_or (pt_not (pt_val (pe_callB (call_isiK' K) (by rfl) T.b_isinstance (by decide +kernel) (pa_cons (pv 0) (pa_cons (pe_bltn (v := .ty "tuple") (by rfl) T.b_tuple (by decide +kernel) rfl) pa_nil))))) (pw_or1 (pt_cmpR op_ne (pe_callB (call_len_seqK K) (by rfl) T.b_len (by decide +kernel) (pa_cons (pv 0) pa_nil)) (pe_op op_add (pv 1) (pv 2)) (nomark _))))) (pss_one (ps_ret pe_bl)) pss_nil)
      (pss_cons (ps_if (pt_not (pt_val (pe_callB (cr_allK K rfl) (by rfl) T.b_all (by decide +kernel) (pa_cons (pe_lc (own := [("part", 3)])  rfl sc_are_turns.nd (pi_tupK K (pv 0)) (blkOk_by (N := ["thing", "ones", "others", "part"]) (sc := defScope s_are_turns) (own := [("part", 3)]) (by decide +kernel)) (fun _ _ _ _ _ => pg_name (i := 3) sc_are_turns.nd rfl (Or.inl rfl)) (fun _ _ _ _ _ => pts_nil) (fun _ _ _ _ _ => (pe_and (pe_cal (ok_is_integer T) (hr.mono (by decide)) (by rfl) (pa_cons (pv 3) pa_nil)) (pe_one (pe_cmpR (op_in_seqK K) (pv 3) (pe_tup (pa_cons pe_int (pa_cons pe_int pa_nil))) (by rfl)))))) pa_nil)))) (pss_one (ps_ret pe_bl)) pss_nil)
      (pss_one (ps_ret (pe_cmpR op_eq (pe_callB (cr_sumK K rfl) (by rfl) T.b_sum (by decide +kernel) (pa_cons (pe_callTy (call_list_ofK K) (by rfl) T.b_list (by decide +kernel) (pa_cons (pv 0) pa_nil)) pa_nil)) (pv 2) (nomark _)))))), ?_⟩
  refine q_no (EvT.eq (et_or (a := false) (b := false) (EvT.eq (et_not (et_test (ed_isTup (ed_var rfl h0)))) rfl) fun _ => EvT.eq (et_test (ed_neI (ed_lenT (ed_var rfl h0)) (ed_I0 (ed_var rfl h1) (ed_var rfl h2)))) ?_) rfl) fun H1 e1 => ?_
  · rw [List.length_map, ← hz, Int.natCast_add, decide_eq_true rfl]; rfl
  have h01 := h0.up (hm_mono e1)
  refine q_no (EvT.eq (et_not (et_test (ed_allP (ed_map (xs := ts) (enc := nI) (r := fun t => .bool (true && decide ((t : Int) ∈ [(0 : Int), 1]))) (wd.mono e1) (src_tup (ed_var rfl h01)) (by omega) (fun _ => rfl) fun a ha M' H2 z e2 e3 wd2 hz2 =>
    ed_and (EvD.eq (ed_call (nI a) wd2 (ea_cons (ed_var rfl hz2) ea_nil) trivial) rfl) fun _ => ed_inI (ed_var rfl hz2) (ed_tup wd2 (ea_cons ed_int (ea_cons ed_int ea_nil)))) fun a ha => by
      rcases p1.bit a ha with e | e <;> subst e <;> rfl))) rfl) fun H2 e2 => ?_
  refine s_ret (EvD.eq (ed_eqI (ed_sumN (ed_listOfT ((wd.mono e1).mono e2) (ed_var rfl (h01.up (hm_mono e2))))) (ed_var rfl (h2.up (hm_mono (e1.trans e2))))) ?_) fun v H3 e3 hv => q v H3 ((e1.trans e2).trans e3) hv
  rw [sum_ones ts p1.bit, p1.one, decide_eq_true rfl]

theorem sc_woven : FnScope ["order", "other", "turns", "left", "turn"] ["order", "other", "turns"] (defScope s_woven) := ⟨rfl, rfl, rfl, by decide +kernel, rfl, by decide +kernel, by decide +kernel⟩
theorem ok_woven (T : Tx K mg) : Cal P w K mg base 1 "woven" ["order", "other", "turns"] (spF K (ι := List Str × List Str × List Nat) (fun x => [strsD x.1, strsD x.2.1, .tuple (x.2.2.map nI)]) (fun x => TurnOk x.2.2 x.1.length x.2.1.length ∧ x.2.2.length ≤ 1000) (fun x => strsD (weave x.2.2 x.1 x.2.1))) := by
  refine mkF T.d_woven sc_woven (fun _ => rfl) (fun _ _ _ _ _ _ us hl => match us, hl with | [_, _, _], _ => rfl) fun f cdv A outer s H vs Q E hr M x wd hv hp q => ?_
  obtain ⟨a, b, ts⟩ := x
  obtain ⟨v0, v1, v2, rfl, h0, h1, h2⟩ := three_of hv
  obtain ⟨p1, p2⟩ := hp
  simp only at p1 p2 h0 h1 h2 q
  refine ⟨_, (pss_cons (ps_set (i := 3) sc_woven.nd rfl (.inr rfl) (pe_lst (pa_cons (pe_callTy (call_list_ofK K) (by rfl) T.b_list (by decide +kernel) (pa_cons (pv 0) pa_nil)) (pa_cons (pe_callTy (call_list_ofK K) (by rfl) T.b_list (by decide +kernel) (pa_cons (pv 1) pa_nil)) pa_nil))))
      (pss_one (ps_ret (pe_callTy (call_tuple_ofK K) (by rfl) T.b_tuple (by decide +kernel) (pa_cons (pe_lc (own := [("turn", 4)])  rfl sc_woven.nd (pi_tupK K (pv 2)) (blkOk_by (N := ["order", "other", "turns", "left", "turn"]) (sc := defScope s_woven) (own := [("turn", 4)]) (by decide +kernel)) (fun _ _ _ _ _ => pg_name (i := 4) sc_woven.nd rfl (Or.inl rfl)) (fun _ _ _ _ _ => pts_nil) (fun _ _ _ _ _ => (pe_bmK K PySem.F.plainAttrs_list PySem.F.slot_list_pop PySem.F.type_list_pop mt_popAt (pe_ix (ix_seqK K) (pv 3) (pv 4) (fun _ _ => rfl)) (pa_cons pe_int pa_nil)))) pa_nil))))), ?_⟩
  -- left = [list(order), list(other)]
  show tSeq (tAsg (tLst _) (gName 3)) _ _ _ _
  obtain ⟨pa, xa, rfl, hsa, hda⟩ := dp_tup h0
  obtain ⟨pb, xb, rfl, hsb, hdb⟩ := dp_tup h1
  cases dps_strs hda
  cases dps_strs hdb
  refine ⟨_, rfl, pa, _, rfl, .inr (sqT_mono (hm_sub M H) hsa), fun A' hA => ?_⟩
  have sA : Same H (upd H A' (.lst (a.map V.str))) := same_new hA
  refine ⟨_, rfl, pb, _, rfl, .inr (sqT_mono sA (sqT_mono (hm_sub M H) hsb)), fun B' hB => ?_⟩
  have sB := same_new (o := .lst (b.map V.str)) hB
  have hne : A' ≠ B' := fun z => by rw [← z, upd_same] at hB; cases hB
  refine ⟨sz_ok (Nat.le_of_ble_eq_true rfl), fun L hL => ?_⟩
  have sL := same_new (o := .lst [.ref A', .ref B']) hL
  have hLA : L ≠ A' := fun z => by rw [z, upd_ne hne, upd_same] at hL; cases hL
  have hLB : L ≠ B' := fun z => by rw [z, upd_same] at hL; cases hL
  have hmA : M A' = false := wd.new hA
  have hmB : M B' = false := (wd.mono sA).new hB
  have hHB : H B' = none := by
    cases z : H B' with
    | none => rfl
    | some o => rw [sA _ _ z] at hB; cases hB
  generalize hH1 : upd (upd (upd H A' (.lst (a.map V.str))) B' (.lst (b.map V.str))) L (.lst [.ref A', .ref B']) = H1
  have g1 : Same H H1 := by rw [← hH1]; exact (sA.trans sB).trans sL
  have gA : H1 A' = some (.lst (a.map V.str)) := by rw [← hH1, upd_ne (fun z => hLA z.symm), upd_ne hne, upd_same]
  have gB : H1 B' = some (.lst (b.map V.str)) := by rw [← hH1, upd_ne (fun z => hLB z.symm), upd_same]
  have gL : H1 L = some (.lst [.ref A', .ref B']) := by rw [← hH1, upd_same]
  let S : Mk := fun x => decide (x = A') || decide (x = B')
  have hSA : S A' = true := by show (decide (A' = A') || _) = true; rw [decide_eq_true rfl]; rfl
  have hSB : S B' = true := by show (_ || decide (B' = B')) = true; rw [decide_eq_true rfl, Bool.or_true]
  have hS : ∀ x, S x = true → x = A' ∨ x = B' := fun x h => by
    rcases Bool.or_eq_true_iff.mp h with e | e
    · exact .inl (of_decide_eq_true e)
    · exact .inr (of_decide_eq_true e)
  let M1 : Mk := fun x => M x || S x
  have hSM : ∀ x, S x = true → M1 x = true := fun x h => by show (M x || S x) = true; rw [h, Bool.or_true]
  have hMM : ∀ x, M x = true → M1 x = true := fun x h => by show (M x || S x) = true; rw [h, Bool.true_or]
  have wd1 : Wd M1 H1 := fun x hx => by
    rcases Bool.or_eq_true_iff.mp (show (M x || S x) = true from hx) with e | e
    · exact (wd.mono g1) x e
    · rcases hS x e with e2 | e2
      · rw [e2, gA]; intro z; cases z
      · rw [e2, gB]; intro z; cases z
  have eM : Same (Hm M H) (Hm M1 H1) := fun x o hx => by
    obtain ⟨k1, k2⟩ := hm_some hx
    refine hm_of ?_ (g1 _ _ k2)
    show (M x || S x) = false
    rw [k1, Bool.false_or]
    cases z : S x with
    | false => rfl
    | true =>
      rcases hS x z with e2 | e2
      · rw [e2, hA] at k2; cases k2
      · rw [e2, hHB] at k2; cases k2
  have hSL : S L = false := by
    cases z : S L with
    | false => rfl
    | true =>
      rcases hS L z with e2 | e2
      · exact absurd e2 hLA
      · exact absurd e2 hLB
  have hwl := weave_len ts a b
  have hz1 := p1.zer
  have ho1 := p1.one
  dsimp only [gName, tRet, tCB, tCons]
  refine lc_imp (K := K) (M := M1) (S := S) (xs := ts) (enc := nI) hSM wd1 (src_tup (ed_var rfl (h2.up eM))) (by omega) (fun _ => rfl)
    (fun i H' => H' A' = some (.lst ((a.drop (zeros (ts.take i))).map V.str)) ∧ H' B' = some (.lst ((b.drop (ones (ts.take i))).map V.str))) (fun i d => ∃ t, ts[i]? = some t ∧ (weave ts a b)[i]? = some (if t = 0 then (a.drop (zeros (ts.take i))).headD "" else (b.drop (ones (ts.take i))).headD "") ∧ d = .str (if t = 0 then (a.drop (zeros (ts.take i))).headD "" else (b.drop (ones (ts.take i))).headD ""))
    (fun H2 e2 => ⟨e2 _ _ gA, e2 _ _ gB⟩) (fun i H2 H3 ⟨k1, k2⟩ k => ⟨by rw [k A' hSA]; exact k1, by rw [k B' hSB]; exact k2⟩) (fun i t ht M' H2 v hMM' c2 e2 wd2 hv2 ⟨k1, k2⟩ Q2 q2 => ?turn) _ fun D' H2 ds acc c2 wd2 _ hdl hG hD' hmD' hacc hall => ?fin
  case turn =>
    have evv := dp_int hv2
    subst evv
    have hL2 : H2 L = some (.lst [.ref A', .ref B']) := c2.at hSL gL
    have hw := weave_get ts a b i t ht
    show tBM K "list" rPopAt _ _ _ _ _
    rcases p1.bit t (List.mem_of_getElem? ht) with e | e
    · subst e
      obtain ⟨z1, z2, z3⟩ := zeros_take ht
      have hlt : zeros (ts.take i) < a.length := by omega
      refine ⟨_, rfl, _, rfl, .inl ⟨L, _, 0, .ref A', rfl, rfl, .of hL2, rfl, ⟨.inl ⟨rfl, _, .of k1⟩, A', _, 0, 0, .str ((a.drop (zeros (ts.take i))).headD ""), rfl, rfl, k1, by decide, by decide, pop_seq (by rw [List.length_map, List.length_drop]; omega), ?_, ?_⟩⟩⟩
      · rw [drop_pop hlt]; rfl
      · refine q2 _ _ _ ?_ ?_ ⟨?_, ?_⟩ ⟨0, ht, hw, rfl⟩ ?_
        · intro x o hx
          obtain ⟨j1, j2⟩ := hm_some hx
          exact hm_of j1 (by rw [upd_ne (fun z => by rw [z, hSA] at j1; cases j1)]; exact j2)
        · intro x hx
          by_cases ex : x = A'
          · rw [ex, upd_same]; intro z; cases z
          · rw [upd_ne ex]; exact wd2 x hx
        · rw [upd_same, z1, drop_pop hlt]; rfl
        · rw [upd_ne (fun z => hne z.symm), z2]; exact k2
        · rw [if_pos rfl]; exact .str _
    · subst e
      obtain ⟨z1, z2, z3⟩ := ones_take ht
      have hlt : ones (ts.take i) < b.length := by omega
      refine ⟨_, rfl, _, rfl, .inl ⟨L, _, 1, .ref B', rfl, rfl, .of hL2, rfl, ⟨.inl ⟨rfl, _, .of k2⟩, B', _, 0, 0, .str ((b.drop (ones (ts.take i))).headD ""), rfl, rfl, k2, by decide, by decide, pop_seq (by rw [List.length_map, List.length_drop]; omega), ?_, ?_⟩⟩⟩
      · rw [drop_pop hlt]; rfl
      · refine q2 _ _ _ ?_ ?_ ⟨?_, ?_⟩ ⟨1, ht, hw, rfl⟩ ?_
        · intro x o hx
          obtain ⟨j1, j2⟩ := hm_some hx
          exact hm_of j1 (by rw [upd_ne (fun z => by rw [z, hSB] at j1; cases j1)]; exact j2)
        · intro x hx
          by_cases ex : x = B'
          · rw [ex, upd_same]; intro z; cases z
          · rw [upd_ne ex]; exact wd2 x hx
        · rw [upd_ne hne, z1]; exact k1
        · rw [upd_same, z2, drop_pop hlt]; rfl
        · rw [if_neg (by decide)]; exact .str _
  case fin =>
    -- the list of names
    have eds : ds = (weave ts a b).map .str := by
      apply List.ext_getElem?
      intro i
      by_cases hi : i < ds.length
      · obtain ⟨t, h3, h4, h5⟩ := hG i ds[i] (List.getElem?_eq_getElem hi)
        rw [List.getElem?_eq_getElem hi, List.getElem?_map, h4, h5]
        rfl
      · rw [List.getElem?_eq_none (by omega), List.getElem?_eq_none (by rw [List.length_map, hwl]; omega)]
    subst eds
    refine ⟨D', _, rfl, .inl ⟨.of hacc, fun p hp => ?_⟩⟩
    have g2 : Same H H2 := c2.same g1 fun x hx => by
      rcases hS x hx with e | e
      · rw [e]; exact hA
      · rw [e]; exact hHB
    refine q _ _ (g2.trans (same_new hp)) ?_
    have hmp : M p = false := (wd.mono g2).new hp
    refine .tup (.of (hm_of hmp upd_same)) (hall.up ?_)
    intro x o hx
    obtain ⟨j1, j2⟩ := hm_some hx
    refine hm_of ?_ (same_new hp _ _ j2)
    cases z : M x with
    | false => rfl
    | true => rw [hMM x z] at j1; cases j1

def preWov (K : PySem.W.Frag) (x : Hall × Hall × List Str × List Str × List Nat) (H : Hp) (vs : List V) : Prop := HallOk x.1 ∧ HallOk x.2.1 ∧ JoinOk x.1 x.2.1 ∧ OrdOk x.1.web x.2.2.1 ∧ OrdOk x.2.1.web x.2.2.2.1 ∧ TurnOk x.2.2.2.2 x.2.2.1.length x.2.2.2.1.length ∧
  ∃ v u, ∃ r, vs = v :: u :: r ∧ HallV K x.1 H v ∧ HallV K x.2.1 H u ∧ DpAll K H r [strsD x.2.2.1, strsD x.2.2.2.1, .tuple (x.2.2.2.2.map nI)]
theorem sc_woven_order : FnScope ["hall", "other", "order", "second", "turns"] ["hall", "other", "order", "second", "turns"] (defScope s_woven_order) := ⟨rfl, rfl, rfl, by decide +kernel, rfl, by decide +kernel, by decide +kernel⟩
theorem ok_woven_order (T : Tx K mg) : Cal P w K mg base 10 "woven_order" ["hall", "other", "order", "second", "turns"] (spR (preWov K) (fun x H v => Dp K H v (strsD (weave x.2.2.2.2 x.2.2.1 x.2.2.2.1)))) := by
  refine mkR T.d_woven_order sc_woven_order (fun i H vs h => by
    obtain ⟨_, _, _, _, _, _, v, u, r, rfl, _, _, h⟩ := h
    rw [List.length_cons, List.length_cons, dps_len h]; rfl) (fun _ _ _ _ _ _ us hl => match us, hl with | [_, _, _, _, _], _ => rfl) fun f cdv A outer s H vs Q E hr M x wd hp q => ?_
  obtain ⟨h, o, oa, ob, ts⟩ := x
  obtain ⟨p1, p2, p3, p4, p5, p6, v0, v1, r, rfl, h0, h1, hr3⟩ := hp
  obtain ⟨v2, v3, v4, rfl, h2, h3, h4⟩ := three_of hr3
  simp only at p1 p2 p3 p4 p5 p6 h0 h1 h2 h3 h4 q
  have n1 := p1.web.hi
  have n2 := p2.web.hi
  have l1 := p4.len
  have l2 := p5.len
  have hz := zeros_ones ts
  rw [p6.zer, p6.one] at hz
  refine ⟨_, (pss_cons (ps_expr (pe_cal (ok_need_both T) (hr.mono (by decide)) (by rfl) (pa_cons (pv 0) (pa_cons (pv 1) pa_nil))))
      (pss_cons (ps_expr (pe_cal (ok_need_order T) (hr.mono (by decide)) (by rfl) (pa_cons (pe_ix (ix_seqK K) (pv 0) pe_int (fun _ _ => rfl)) (pa_cons (pv 2) pa_nil))))
      (pss_cons (ps_expr (pe_cal (ok_need_order T) (hr.mono (by decide)) (by rfl) (pa_cons (pe_ix (ix_seqK K) (pv 1) pe_int (fun _ _ => rfl)) (pa_cons (pv 3) pa_nil))))
      (pss_cons (ps_if (pt_not (pt_val (pe_cal (ok_are_turns T) (hr.mono (by decide)) (by rfl) (pa_cons (pv 4) (pa_cons (pe_callB (call_len_seqK K) (by rfl) T.b_len (by decide +kernel) (pa_cons (pv 2) pa_nil)) (pa_cons (pe_callB (call_len_seqK K) (by rfl) T.b_len (by decide +kernel) (pa_cons (pv 3) pa_nil)) pa_nil)))))) (pss_one ps_never) pss_nil)
      (pss_one (ps_ret (pe_cal (ok_woven T) (hr.mono (by decide)) (by rfl) (pa_cons (pv 2) (pa_cons (pv 3) (pa_cons (pv 4) pa_nil)))))))))), ?_⟩
  refine q_drop (ed_callR (h, o) wd (eb_HH p1 p2 p3 rfl rfl h0 h1)) fun H1 e1 => ?_
  have hh1 := up_hall _ _ _ (hm_mono e1) h0
  refine q_drop (ed_call (h.web, oa) (wd.mono e1) (ea_cons (ed_ixT' (j := 1) (ed_var rfl (hall_dp hh1)) ed_int rfl rfl) (ea_cons (ed_var rfl (h2.up (hm_mono e1))) ea_nil)) ⟨p4.mem, p4.nd, p4.len, by show oa.length < 32; omega⟩) fun H2 e2 => ?_
  have e02 := e1.trans e2
  refine q_drop (ed_call (o.web, ob) (wd.mono e02) (ea_cons (ed_ixT' (j := 1) (ed_var rfl ((hall_dp h1).up (hm_mono e02))) ed_int rfl rfl) (ea_cons (ed_var rfl (h3.up (hm_mono e02))) ea_nil)) ⟨p5.mem, p5.nd, p5.len, by show ob.length < 32; omega⟩) fun H3 e3 => ?_
  have e03 := e02.trans e3
  refine q_no (EvT.eq (et_not (et_test (ed_call (ts, oa.length, ob.length) (wd.mono e03) (ea_cons (ed_var rfl (h4.up (hm_mono e03))) (ea_cons (EvD.eq (ed_lenT (ed_var rfl (h2.up (hm_mono e03)))) (by rw [List.length_map]; rfl)) (ea_cons (EvD.eq (ed_lenT (ed_var rfl (h3.up (hm_mono e03)))) (by rw [List.length_map]; rfl)) ea_nil))) ⟨p6, by show ts.length ≤ 1000; omega⟩))) rfl) fun H4 e4 => ?_
  have e04 := e03.trans e4
  exact s_ret (ed_call (oa, ob, ts) (wd.mono e04) (ea_cons (ed_var rfl (h2.up (hm_mono e04))) (ea_cons (ed_var rfl (h3.up (hm_mono e04))) (ea_cons (ed_var rfl (h4.up (hm_mono e04))) ea_nil))) ⟨p6, by show ts.length ≤ 1000; omega⟩) fun v H5 e5 hv => q v H5 (e04.trans e5) hv
end
end EIT
end
/-! text L6 -/
section
set_option maxHeartbeats 4000000
/-! names, orders, neighbours. -/
namespace EIT
open PySem PySem.Spec PyProof.Rows L2
def names12 : List Str := ["a", "b10", "b", "zz", "a1", "q1w2e3r4", "b9", "x", "m0", "road", "k", "a1b"]
theorem names12_nd : names12.Nodup := by decide +kernel
theorem perm_map_str : ∀ {ys : List V} {xs : List Str}, ys.Perm (xs.map V.str) → ∃ zs : List Str, ys = zs.map V.str ∧ zs.Perm xs := fun {ys xs} h => by
  refine ⟨ys.map fun v => match v with | .str x => x | _ => "", ?_, ?_⟩
  · rw [List.map_map]
    refine ((List.map_congr_left fun v hv => ?_).trans (List.map_id ys)).symm
    obtain ⟨x, _, rfl⟩ := List.mem_map.mp (h.mem_iff.mp hv)
    rfl
  · have z := h.map fun v => match v with | V.str x => x | _ => ("" : Str)
    rw [List.map_map] at z
    have e : xs.map ((fun v => match v with | V.str x => x | _ => ("" : Str)) ∘ V.str) = xs := (List.map_congr_left fun _ _ => rfl).trans (List.map_id xs)
    rwa [e] at z
section
variable {P : Program} {w : World} {K : PySem.W.Frag} {mg : Str → Option Value} {base : Heap}
/-- names, as many as wanted, unlike, of the twelve -/
def IsNames (K : PySem.W.Frag) (m : Nat) (H : Hp) (v : V) : Prop := ∃ ns : List Str, ns.length = m ∧ ns.Nodup ∧ (∀ x ∈ ns, x ∈ names12) ∧ Dp K H v (.list (ns.map .str))
theorem sc_law_names : FnScope ["_law_feed_here", "_law_many"] ["_law_feed_here", "_law_many"] (defScope s_law_names) := ⟨rfl, rfl, rfl, by decide +kernel, rfl, by decide +kernel, by decide +kernel⟩
theorem ok_law_names (T : Tx K mg) : Cal P w K mg base 3 "_law_names" ["_law_feed_here", "_law_many"] (spI (fun m H r => m ≤ 12 ∧ r = [.int ((m : Nat) : Int)]) 64 fun m H v => IsNames K m H v) := by
  refine mkI T.d_law_names sc_law_names (fun i H vs h => by obtain ⟨_, rfl⟩ := h; rfl) (fun _ _ _ _ _ _ us hl => match us, hl with | [_, _], _ => rfl) fun f cdv A outer s H Q E hr M fa n m r wd hm fd hn hp q => ?_
  obtain ⟨p1, rfl⟩ := hp
  refine ⟨_, (pss_one (ps_ret (pe_slice (sl_listK K) (pe_cal (ok_law_mixed T) (hr.mono (by decide)) (by rfl) (pa_cons (pv 0) (pa_cons (pe_lst (pa_cons pe_str (pa_cons pe_str (pa_cons pe_str (pa_cons pe_str (pa_cons pe_str (pa_cons pe_str (pa_cons pe_str (pa_cons pe_str (pa_cons pe_str (pa_cons pe_str (pa_cons pe_str (pa_cons pe_str pa_nil))))))))))))) pa_nil))) po_none (po_some (pv 1))))), ?_⟩
  show tRet (tSl (rSlL K) (tCall _ [] _ (tCons (tVar 0) (tCons (tLst _) tNil))) tNoPart (tPart (tVar 1))) _ _ _
  refine ⟨.ref fa, rfl, ?_⟩
  refine (ed_lst (K := K) (M := M) (ds := names12.map .str) wd (ea_cons ed_str (ea_cons ed_str (ea_cons ed_str (ea_cons ed_str (ea_cons ed_str (ea_cons ed_str (ea_cons ed_str (ea_cons ed_str (ea_cons ed_str (ea_cons ed_str (ea_cons ed_str (ea_cons ed_str ea_nil))))))))))))) H (Same.refl _) _ fun v1 H1 e1 hv1 => ?_
  obtain ⟨a, xs, rfl, hs, hall⟩ := dp_lst hv1
  cases dps_strs hall
  refine ⟨M, fa, n, names12.map V.str, [.ref a], wd.mono e1, hm, fd.same e1, hn, rfl, ⟨by decide, .ref a, rfl, a, rfl, .inl hs⟩, fun v H2 b2 f2 hv => ?_⟩
  obtain ⟨p, ys, rfl, hp, hperm⟩ := hv
  obtain ⟨zs, rfl, hz⟩ := perm_map_str hperm
  refine ⟨.int (m : Nat), rfl, m, rfl, p, _, rfl, .of (hm_some hp).2, fun p2 hp2 => ?_⟩
  have wd2 : Wd M H2 := b2.wd' (wd.mono e1) f2
  have hm2 : M p2 = false := wd2.new hp2
  have hl : zs.length = 12 := hz.length_eq
  refine q _ _ (((But.of e1).trans b2).trans (But.of (same_new hp2))) (f2.same (same_new hp2)) ⟨zs.take m, by rw [List.length_take]; omega, (List.take_sublist m zs).nodup ((hz.nodup_iff).mpr names12_nd), fun x hx => hz.mem_iff.mp (List.mem_of_mem_take hx), ?_⟩
  refine .lst (.of (hm_of hm2 upd_same)) ?_
  have e : cutV (zs.map V.str) none (some (m : Int)) = (zs.take m).map V.str := by
    unfold cutV
    have s1 : HT.sIx (zs.map V.str).length 0 none = 0 := rfl
    have s2 : HT.sIx (zs.map V.str).length (zs.map V.str).length (some (m : Int)) = m := by
      rw [List.length_map, hl]
      unfold HT.sIx
      simp
      rw [if_neg (by omega)]
      omega
    rw [s1, s2, List.drop_zero, Nat.sub_zero, List.map_take]
  rw [e]
  exact dps_of_strs _

theorem sc_law_order : FnScope ["_law_feed_here", "_law_web_here"] ["_law_feed_here", "_law_web_here"] (defScope s_law_order) := ⟨rfl, rfl, rfl, by decide +kernel, rfl, by decide +kernel, by decide +kernel⟩
theorem ok_law_order (T : Tx K mg) : Cal P w K mg base 3 "_law_order" ["_law_feed_here", "_law_web_here"] (spI (fun web H r => web.ps.length ≤ 64 ∧ ∃ v, r = [v] ∧ Dp K H v (Web.enc web)) 64 fun web H v => ∃ o : List Str, o.Perm web.ps ∧ Dp K H v (strsD o)) := by
  refine mkI T.d_law_order sc_law_order (fun i H vs h => by obtain ⟨_, v, rfl, _⟩ := h; rfl) (fun _ _ _ _ _ _ us hl => match us, hl with | [_, _], _ => rfl) fun f cdv A outer s H Q E hr M fa n web r wd hm fd hn hp q => ?_
  obtain ⟨p1, v, rfl, hv⟩ := hp
  refine ⟨_, (pss_one (ps_ret (pe_callTy (call_tuple_ofK K) (by rfl) T.b_tuple (by decide +kernel) (pa_cons (pe_cal (ok_law_mixed T) (hr.mono (by decide)) (by rfl) (pa_cons (pv 0) (pa_cons (pe_ix (ix_seqK K) (pv 1) pe_int (fun _ _ => rfl)) pa_nil))) pa_nil)))), ?_⟩
  show tRet (tCB _ (tCons (tCall _ [] _ (tCons (tVar 0) (tCons _ tNil))) tNil)) _ _ _
  refine ⟨.ref fa, rfl, ?_⟩
  refine (ed_ixT' (K := K) (M := M) (d := strsD web.ps) (j := 0) (ed_var rfl hv) ed_int rfl rfl) H (Same.refl _) _ fun v1 H1 e1 hv1 => ?_
  obtain ⟨a, xs, rfl, hs, hall⟩ := dp_tup hv1
  cases dps_strs hall
  refine ⟨M, fa, n, web.ps.map V.str, [.ref a], wd.mono e1, hm, fd.same e1, hn, rfl, ⟨by rw [List.length_map]; exact p1, .ref a, rfl, a, rfl, .inr hs⟩, fun v H2 b2 f2 hv => ?_⟩
  obtain ⟨p, ys, rfl, hp, hperm⟩ := hv
  obtain ⟨zs, rfl, hz⟩ := perm_map_str hperm
  have wd2 : Wd M H2 := b2.wd' (wd.mono e1) f2
  refine ⟨p, _, rfl, .inl ⟨.of (hm_some hp).2, fun p2 hp2 => ?_⟩⟩
  have hm2 : M p2 = false := wd2.new hp2
  exact q _ _ (((But.of e1).trans b2).trans (But.of (same_new hp2))) (f2.same (same_new hp2)) ⟨zs, hz, .tup (.of (hm_of hm2 upd_same)) (dps_of_strs _)⟩

theorem sc_law_neighbours : FnScope ["_law_web_here", "_law_place", "_law_got", "_law_other"] ["_law_web_here", "_law_place"] (defScope s_law_neighbours) := ⟨rfl, rfl, rfl, by decide +kernel, rfl, by decide +kernel, by decide +kernel⟩
theorem ok_law_neighbours (T : Tx K mg) : Cal P w K mg base 1 "_law_neighbours" ["_law_web_here", "_law_place"] (spF K (ι := Web × Str) (fun x => [x.1.enc, .str x.2]) (fun x => WebOk x.1 ∧ x.2 ∈ x.1.ps) (fun x => .list ((nbs x.1 x.2).map .str))) := by
  refine mkF T.d_law_neighbours sc_law_neighbours (fun _ => rfl) (fun _ _ _ _ _ _ us hl => match us, hl with | [_, _], _ => rfl) fun f cdv A outer s H vs Q E hr M x wd hv hp q => ?_
  obtain ⟨web, a⟩ := x
  obtain ⟨v0, v1, rfl, h0, h1⟩ := two_of hv
  obtain ⟨p1, p2⟩ := hp
  simp only at p1 p2 h0 h1 q
  have sa := (p1.name a p2).str
  have hn8 := p1.hi
  refine ⟨_, (pss_cons (ps_set (i := 2) sc_law_neighbours.nd rfl (.inl rfl) (pe_lst pa_nil))
      (pss_cons (ps_for PassesOwn.never rfl (pi_tupK K (pe_ix (ix_seqK K) (pv 0) pe_int (fun _ _ => rfl))) (pg_name (i := 3) sc_law_neighbours.nd rfl (.inl rfl)) (pss_one (ps_if (PW.pt (pw_or (pt_cmpR (op_inDT K (room65 hr)) (pe_tup (pa_cons (pv 1) (pa_cons (pv 3) pa_nil))) (pe_ix (ix_seqK K) (pv 0) pe_int (fun _ _ => rfl)) (by rfl)) (pw_or1 (pt_cmpR (op_inDT K (room65 hr)) (pe_tup (pa_cons (pv 3) (pa_cons (pv 1) pa_nil))) (pe_ix (ix_seqK K) (pv 0) pe_int (fun _ _ => rfl)) (by rfl))))) (pss_one (ps_expr (pe_bmK K PySem.F.plainAttrs_list PySem.F.slot_list_append PySem.F.type_list_append mt_append (pv 2) (pa_cons (pv 3) pa_nil)))) pss_nil)))
      (pss_one (ps_ret (pv 2))))), ?_⟩
  refine q_new (K := K) wd fun L hL fl => ?_
  have hmL : M L = false := wd.new hL
  refine q_for (K := K) (M := addM M L) (ds := web.ps.map .str) (src_tup (ed_ixT' (j := 0) (ed_var rfl (h0.up fl.dat)) ed_int rfl rfl)) fun H2 e2 => ⟨fun i σ' H' => ∃ y, σ' = [some v0, some v1, some (.ref L), y] ∧ Fill K M L H H' (((web.ps.take i).filter fun o => adj web.rs a o).map .str) ∧ Same (Hm (addM M L) H2) (Hm (addM M L) H'), ?_, ?_, ?_, ?_⟩
  · exact ⟨none, rfl, fl.up e2, Same.refl _⟩
  · rintro i σ' H' ⟨y, rfl, f3, e3⟩
    exact ⟨e3, f3.wd⟩
  · rintro i d x σ' H' H'' hd ⟨y, rfl, f3, e3⟩ e4 hx
    have hi : i < web.ps.length := by
      obtain ⟨g, _⟩ := List.getElem?_eq_some_iff.mp hd
      rw [List.length_map] at g; exact g
    have hdi : d = .str web.ps[i] := by
      rw [List.getElem?_map, List.getElem?_eq_getElem hi] at hd
      exact (Option.some.inj hd).symm
    subst hdi
    have htk := List.take_succ_eq_append_getElem hi
    have sb := (p1.name _ (List.getElem_mem hi)).str
    have hlt : ((web.ps.take i).filter fun o => adj web.rs a o).length ≤ i := Nat.le_trans (List.length_filter_le _ _) (by rw [List.length_take]; omega)
    generalize web.ps[i] = b at hx htk sb
    have f4 := f3.up e4
    have h0' := h0.up f4.dat
    have h1' := h1.up f4.dat
    have hout : (web.ps.take (i + 1)).filter (fun o => adj web.rs a o) = (web.ps.take i).filter (fun o => adj web.rs a o) ++ if adj web.rs a b = true then [b] else [] := by
      rw [htk, List.filter_append, List.filter_cons, List.filter_nil]
    dsimp only [gName]
    refine s_if (b := adj web.rs a b) (et_or (et_test (ed_inDT (ed_tup f4.wd (ea_cons (ed_var rfl h1') (ea_cons (ed_var rfl hx) ea_nil))) (ed_ixT' (j := 1) (ed_var rfl h0') ed_int rfl rfl) (shaped_road (r := (a, b)) sa sb) (shaped_roads _ p1.strs) (any_road web.rs (a, b)))) fun _ =>
      et_test (ed_inDT (ed_tup f4.wd (ea_cons (ed_var rfl hx) (ea_cons (ed_var rfl h1') ea_nil))) (ed_ixT' (j := 1) (ed_var rfl h0') ed_int rfl rfl) (shaped_road (r := (b, a)) sb sa) (shaped_roads _ p1.strs) (any_road web.rs (b, a)))) (fun hb H5 e5 => ?_) fun hb H5 e5 => ?_
    · refine s_app (d := .str b) (ev_var rfl) (f4.up e5) hL (ed_var rfl (hx.up (hm_mono e5))) (by rw [List.length_map]; omega) fun H6 f6 b6 => ⟨_, rfl, ?_, (e3.trans (hm_mono (e4.trans e5))).trans (b6.hm addM_same)⟩
      rw [hout, if_pos hb, List.map_append]
      exact f6
    · refine ⟨_, rfl, ?_, e3.trans (hm_mono (e4.trans e5))⟩
      rw [hout, if_neg (by rw [hb]; decide), List.append_nil]
      exact f4.up e5
  · rintro σ' H' ⟨y, rfl, f3, e3⟩
    rw [List.length_map, List.take_length] at f3
    exact s_ret (ed_var rfl (f3.done hmL)) fun v H5 e6 hv => q v H5 (f3.old.trans e6) hv
end
end EIT
end
/-! text R9 -/
section
set_option maxHeartbeats 4000000
/-! not in a list of data; draws in more places; a feed and a list that grows. -/
namespace EIT
open PySem PySem.Spec PyProof.Rows L2
section
variable {X : Cx}
def rNotInDL (K : PySem.W.Frag) : R2 := fun x y H Q => ∃ d ds, Dp K H x d ∧ Dp K H y (.list ds) ∧ SeqAt.shaped d = true ∧ SeqAt.shaped (.list ds) = true ∧ Q (.bl (!ds.any fun z => PyData.eqv z d)) H
theorem op_notInDL (K : PySem.W.Frag) (hu : X.A.units + 65 < cLine) (hK : X.K = K := by rfl) : OpR X (compareOp .NotIn) (rNotInDL K) := by
  subst hK
  intro pins s σ H x y v u Q I rx ry h
  obtain ⟨d, ds, hd, he, sd, se, q⟩ := h
  obtain ⟨as, r1⟩ := Dp.reads I d x v hd rx
  obtain ⟨bs, r2⟩ := Dp.reads I (.list ds) y u he ry
  exact SeqAt.notIn_list_reads r2 r1 (SeqAt.canLay_of_shaped se) (SeqAt.canLay_of_shaped sd) (room_in_shaped sd hu) ⟨.bl _, H, I, rfl, q⟩
end
def pairI (p : Nat × Nat) : PyData := .tuple [nI p.1, nI p.2]
theorem shaped_pairI (p : Nat × Nat) : SeqAt.shaped (pairI p) = true := by
  unfold SeqAt.shaped pairI
  simp [PyData.canLay0, PyData.canLayAll0, nI, PyData.depth, PyData.depthAll]
theorem canLayAll_pairI : ∀ ps : List (Nat × Nat), PyData.canLayAll0 (ps.map pairI) = true
  | [] => by simp [PyData.canLayAll0]
  | p :: ps => by
    rw [List.map_cons]
    simp only [PyData.canLayAll0, canLayAll_pairI ps, Bool.and_true]
    simp [PyData.canLay0, PyData.canLayAll0, nI, pairI]
theorem depthAll_pairI : ∀ ps : List (Nat × Nat), PyData.depthAll (ps.map pairI) ≤ 2
  | [] => by simp [PyData.depthAll]
  | p :: ps => by
    have := depthAll_pairI ps
    rw [List.map_cons]
    have e : (pairI p).depth ≤ 2 := by simp [PyData.depth, PyData.depthAll, nI, pairI]
    simp only [PyData.depthAll]
    omega
theorem shaped_pairIs (ps : List (Nat × Nat)) : SeqAt.shaped (.list (ps.map pairI)) = true := by
  unfold SeqAt.shaped
  rw [Bool.and_eq_true]
  refine ⟨?_, decide_eq_true ?_⟩
  · simp only [PyData.canLay0]
    exact canLayAll_pairI ps
  · have := depthAll_pairI ps
    simp only [PyData.depth]
    omega
theorem eqv_pairI (a r : Nat × Nat) : PyData.eqv (pairI a) (pairI r) = decide (a = r) := by
  obtain ⟨a1, a2⟩ := a
  obtain ⟨r1, r2⟩ := r
  simp [PyData.eqv, PyData.eqvAll, pairI, nI]
  by_cases h1 : a1 = r1 <;> by_cases h2 : a2 = r2 <;> simp [h1, h2] <;> omega
theorem any_pairI (ps : List (Nat × Nat)) (r : Nat × Nat) : ((ps.map pairI).any fun z => PyData.eqv z (pairI r)) = decide (r ∈ ps) := by
  induction ps with
  | nil => rfl
  | cons a ps ih =>
    rw [List.map_cons, List.any_cons, ih, eqv_pairI]
    by_cases h : a = r
    · subst h; simp
    · rw [decide_eq_false h, Bool.false_or]
      refine decide_eq_decide.mpr ?_
      rw [List.mem_cons]
      exact ⟨.inr, fun z => z.resolve_left fun e => h e.symm⟩
section
variable {K : PySem.W.Frag} {M : Mk} {σ : L2.St} {H H' : Hp} {ta tb te to : TE} {tr : TA} {d e : PyData} {ds es : List PyData} {tz : TS} {D : Ends} {R : Hp → V → Prop} {wi : TI} {g : TG} {tu : TS} {L f : Addr} {B B' n : Nat} {t u : TT}
theorem Cell.dp {out : List PyData} (c : Cell K M L H out) : Dp K H (.ref L) (.list out) := by
  obtain ⟨m, acc, h1, h2⟩ := c
  exact .lst (.of h1) (h2.up (hm_sub M H))
theorem ed_notInC {ps : List (Nat × Nat)} {r : Nat × Nat} (ha : EvD K M ta σ H (pairI r)) (hb : EvV tb σ H (.ref L)) (c : Cell K M L H (ps.map pairI)) : EvD K M (tOp (rNotInDL K) ta tb) σ H (.bool (!decide (r ∈ ps))) := fun H1 e1 Q q =>
  ha H1 e1 _ fun x H2 e2 hx => hb H2 (e1.trans e2) _ fun y H3 e3 hy => by
    cases hy
    exact ⟨pairI r, ps.map pairI, L2.Dp.up (PD.up hx e3) (hm_sub M H3), (c.up ((e1.trans e2).trans e3)).dp, shaped_pairI r, shaped_pairIs ps, by rw [any_pairI]; exact q _ H3 (e2.trans e3) (.bl _)⟩
theorem src_rng2 {lo hi : Nat} (h : EvA K M tr σ H [nI lo, nI hi]) (hn : hi ≤ 16777216) (hl : lo ≤ hi) : Src K M (iRng2 tr) σ H ((List.range (hi - lo)).map fun i : Nat => PyData.int (((lo : Nat) : Int) + (i : Nat))) := fun H1 e R q => h H1 e _ fun vs H2 e2 hv => by
  obtain ⟨x, y, rfl, h1, h2⟩ := two_of hv
  cases dp_int h1
  cases dp_int h2
  refine ⟨(lo : Int), (hi : Int), rfl, ⟨by omega, by omega, by omega, by omega⟩, q _ H2 e2 ?_⟩
  have z : ((hi : Int) - (lo : Int)).toNat = hi - lo := by omega
  rw [z]
  exact wlk_range
theorem ef_cb {r : List V → Hp → VK → Prop} {P : Hp → List V → Prop} (h : EvFA f B M tr σ H P) (k : ∀ vs H1, But f H H1 → P (Hm M H1) vs → ∀ Q : VK, (∀ v H2, Same H1 H2 → R (Hm M H2) v → Q v H2) → r vs H1 Q) : EvF f B M (tCB r tr) σ H R := fun n H1 b fd hn Q q =>
  h n H1 b fd hn _ fun vs H2 b2 f2 hv => k vs H2 (b.trans b2) hv Q fun v H3 e3 hv3 => q v H3 (b2.trans (But.of e3)) (f2.same e3) hv3
theorem eft_test {S : Bool → Prop} (h : EvF f B M te σ H fun _ v => ∃ b, v = .bl b ∧ S b) : EvFT f B (tTest te) σ H S := fun n H1 b fd hn Q q =>
  h n H1 b fd hn _ fun v H2 b2 f2 ⟨x, e, hs⟩ => ⟨x, e, q x H2 b2 f2 hs⟩
theorem eft_or {b : Bool} {S : Bool → Prop} (h : ∀ H1, But f H H1 → EvT t σ H1 b) (h1 : b = true → S true) (h2 : b = false → EvFT f B u σ H S) : EvFT f B (tOr t u) σ H S := fun n H1 bt fd hn Q q => h H1 bt H1 (Same.refl _) _ fun H2 e2 => by
  cases b with
  | true => exact iteT (q true H2 (But.of e2) ((fd.up (Nat.le_add_right _ _)).same e2) (h1 rfl))
  | false => exact iteF (h2 rfl n H2 (bt.trans (But.of e2)) (fd.same e2) hn Q fun v H3 b3 f3 hs => q v H3 ((But.of e2).trans b3) f3 hs)
theorem ef_ifp {b : Bool} (h : ∀ H1, But f H H1 → H1 f ≠ none → EvT t σ H1 b) (h1 : b = true → EvF f B M ta σ H R) (h2 : b = false → EvF f B M tb σ H R) : EvF f B M (tIf t ta tb) σ H R := fun n H1 bt fd hn Q q => h H1 bt fd.there H1 (Same.refl _) _ fun H2 e2 => by
  cases b with
  | true => exact iteT (h1 rfl n H2 (bt.trans (But.of e2)) (fd.same e2) hn Q fun v H3 b3 f3 hs => q v H3 ((But.of e2).trans b3) f3 hs)
  | false => exact iteF (h2 rfl n H2 (bt.trans (But.of e2)) (fd.same e2) hn Q fun v H3 b3 f3 hs => q v H3 ((But.of e2).trans b3) f3 hs)
theorem er_int {i : Nat} : EvR M (tC (.int (i : Nat))) σ H (fun _ v => v = .int (i : Nat)) := fun H1 _ Q q => q _ H1 (Same.refl _) rfl
theorem er_nat {i : Nat} (h : EvD K M te σ H (nI i)) : EvR M te σ H (fun _ v => v = .int (i : Nat)) := EvR.imp (R := fun H v => Dp K H v (nI i)) h fun _ _ hv => dp_int hv
/-- a for over what a draw says -/
theorem q_forRF {S : Nat → Prop} (fd : Feed f n H) (hn : n + B ≤ topN) (h : EvFA f B M tr σ H fun _ vs => ∃ i : Nat, vs = [.int (i : Nat)] ∧ S i) (hm : ∀ i, S i → i ≤ 1000)
    (k : ∀ i H2, But f H H2 → Feed f (n + B) H2 → S i → ∃ Pv : Nat → L2.St → Hp → Prop, Pv 0 σ H2 ∧
    (∀ (j : Nat) σ' H' , j < i → Pv j σ' H' → g (.int ((0 : Int) + (j : Nat))) σ' H' fun σ2 H3 => tu { D with nx := Pv (j + 1), ct := Pv (j + 1), bk := tz D } σ2 H3) ∧
    (∀ σ' H', Pv i σ' H' → tz D σ' H')) : tSeq (tFor (iRng1 tr) g tu) tz D σ H := h n H (But.refl _ _) fd hn _ fun vs H2 b2 f2 ⟨i, e, hi⟩ => by
  subst e
  obtain ⟨Pv, h0, hs, hd⟩ := k i H2 b2 f2 hi
  have := hm i hi
  refine ⟨(i : Int), rfl, by omega, by omega, ?_⟩
  rw [Int.toNat_natCast]
  refine ⟨fun j m σ' H' => m = i - j ∧ j ≤ i ∧ Pv j σ' H', ⟨i, by omega, Nat.zero_le _, h0⟩, ?_⟩
  rintro j m σ' H' ⟨rfl, hj, p⟩
  by_cases hlt : j < i
  · refine .inr ⟨hlt, Pv (j + 1), fun σ'' H'' p' => ⟨i - (j + 1), by omega, rfl, hlt, p'⟩, fun x H'' hy => ?_⟩
    obtain ⟨rfl, rfl⟩ := hy
    exact hs j σ' H'' hlt p
  · have e : j = i := by omega
    subst e
    exact .inl ⟨Nat.le_refl _, hd σ' H' p⟩
/-- a for over a list of data that a draw makes -/
theorem q_forLF {P : List V → Prop} (fd : Feed f n H) (hm : M f = true) (wd : Wd M H) (hn : n + B ≤ topN) (h : EvF f B M te σ H fun H v => ∃ p xs, v = .ref p ∧ SqL K H p xs ∧ P xs)
    (k : ∀ xs H2, But f H H2 → Feed f (n + B) H2 → P xs → ∃ Pv : Nat → L2.St → Hp → Prop, Pv 0 σ H2 ∧ (∀ j σ' H', Pv j σ' H' → Same (Hm M H2) (Hm M H')) ∧
    (∀ (j : Nat) x σ' H' , xs[j]? = some x → Pv j σ' H' → g x σ' H' fun σ2 H3 => tu { D with nx := Pv (j + 1), ct := Pv (j + 1), bk := tz D } σ2 H3) ∧
    (∀ σ' H', Pv xs.length σ' H' → tz D σ' H')) : tSeq (tFor (iList K te) g tu) tz D σ H := h n H (But.refl _ _) fd hn _ fun v H2 b2 f2 ⟨a, xs, e, sq0, hp⟩ => by
  subst e
  obtain ⟨Pv, h0, hk, hs, hd⟩ := k xs H2 b2 f2 hp
  have sq : ∀ H', Same (Hm M H2) (Hm M H') → SqL K H' a xs := fun H' e => sqL_mono (hm_sub M H') (sqL_mono e sq0)
  refine ⟨a, rfl, ⟨xs, sq H2 (Same.refl _)⟩, fun j m σ' H' => m = xs.length - j ∧ j ≤ xs.length ∧ Pv j σ' H', ⟨xs.length, by omega, Nat.zero_le _, h0⟩, ?_⟩
  rintro j m σ' H' ⟨rfl, hj, p⟩
  have q := sq H' (hk j σ' H' p)
  by_cases hlt : j < xs.length
  · refine .inr ⟨⟨xs, xs[j], q, List.getElem?_eq_getElem hlt⟩, Pv (j + 1), fun σ'' H'' p' => ⟨xs.length - (j + 1), by omega, rfl, hlt, p'⟩, fun x H'' y => ?_⟩
    obtain ⟨rfl, f⟩ := y
    exact hs j x σ' _ (f xs q) p
  · have e : j = xs.length := by omega
    subst e
    exact .inl ⟨⟨xs, q, Nat.le_refl _⟩, hd σ' H' p⟩

/-! ### natural numbers, drawn -/
def NatP (S : Nat → Prop) : Hp → V → Prop := fun _ v => ∃ i : Nat, v = .int (i : Nat) ∧ S i
theorem up_natP {S : Nat → Prop} : Up (NatP S) := fun _ _ _ _ h => h
theorem er_natP {i : Nat} {S : Nat → Prop} (h : EvD K M te σ H (nI i)) (hs : S i) : EvR M te σ H (NatP S) := EvR.imp (R := fun H v => Dp K H v (nI i)) h fun _ _ hv => ⟨i, dp_int hv, hs⟩
theorem ef_natP {i : Nat} {S : Nat → Prop} (h : ∀ H1, But f H H1 → EvD K M te σ H1 (nI i)) (hs : S i) : EvF f 0 M te σ H (NatP S) := ef_pure fun H1 b => er_natP (h H1 b) hs
theorem ef_draw {m i : Nat} {E : XK} (hf : M f = true) (wd : Wd M H) (hs : σ[i]? = some (some (.ref f))) (h : ∀ H1, But f H H1 → EvD K M te σ H1 (nI m)) (h1 : 0 < m) (h2 : m ≤ 100000) :
    EvF f 1 M (tCall (spI preDraw 1 fun m H v => ILt m H v) [] E (tCons (tVar i) (tCons te tNil))) σ H (NatP fun j => j < m) :=
  (ef_call (pre := preDraw) (B := 1) (B1 := 0) (post := fun m H v => ILt m H v) m hf wd hs (efa_imp (P := fun H vs => ∃ v r, vs = v :: r ∧ v = .int (m : Nat) ∧ r = []) (efa_cons hf (fun _ _ _ _ h => h) (ef_pure fun H1 b => er_nat (h H1 b)) efa_nil) fun H v hv => by
    obtain ⟨x, r, rfl, rfl, rfl⟩ := hv
    exact ⟨h1, Nat.lt_of_le_of_lt h2 (Nat.lt_of_lt_of_le (by decide : 100000 < 2 ^ 30) (Nat.pow_le_pow_right (by decide) (by decide))), rfl⟩) : EvF f (0 + 1) M _ σ H _)
theorem ef_addP {S T U : Nat → Prop} (hf : M f = true) (ha : EvF f B M ta σ H (NatP S)) (hb : EvF f B' M tb σ H (NatP T)) (k : ∀ i j, S i → T j → U (i + j)) : EvF f (B + B') M (tOp (rI0 fun i j => V.int (i + j)) ta tb) σ H (NatP U) :=
  ef_op2 hf up_natP ha hb fun x y H1 _ hx hy Q q => by
    obtain ⟨i, rfl, hi⟩ := hx
    obtain ⟨j, rfl, hj⟩ := hy
    exact ⟨_, _, rfl, rfl, q _ H1 (Same.refl _) ⟨i + j, by rw [Int.natCast_add], k i j hi hj⟩⟩
theorem ef_modP {S T U : Nat → Prop} (hf : M f = true) (ha : EvF f B M ta σ H (NatP S)) (hb : EvF f B' M tb σ H (NatP T)) (k : ∀ i j, S i → T j → 0 < j ∧ U (i % j)) : EvF f (B + B') M (tOp (rI (fun _ j => 0 < j) fun i j => V.int (i % j)) ta tb) σ H (NatP U) :=
  ef_op2 hf up_natP ha hb fun x y H1 _ hx hy Q q => by
    obtain ⟨i, rfl, hi⟩ := hx
    obtain ⟨j, rfl, hj⟩ := hy
    obtain ⟨k1, k2⟩ := k i j hi hj
    exact ⟨_, _, rfl, rfl, by omega, q _ H1 (Same.refl _) ⟨i % j, by rw [Int.natCast_emod], k2⟩⟩
theorem ef_intP {S : Nat → Prop} (hf : M f = true) (ha : EvF f B M ta σ H (NatP S)) : EvF f B M (tCB (fun xs H Q => (∃ i, xs = [V.int i] ∧ Q (.int i) H) ∨ ∃ k, xs = [V.bl k] ∧ Q (.int (if k then 1 else 0)) H) (tCons ta tNil)) σ H (NatP S) :=
  ef_cb (B := B) (efa_cons hf up_natP ha efa_nil) fun vs H1 _ hv Q q => by
    obtain ⟨x, r, rfl, ⟨i, rfl, hi⟩, rfl⟩ := hv
    exact .inl ⟨_, rfl, q _ H1 (Same.refl _) ⟨i, rfl, hi⟩⟩
theorem ef_max2P {S T U : Nat → Prop} (hf : M f = true) (ha : EvF f B M ta σ H (NatP S)) (hb : EvF f B' M tb σ H (NatP T)) (k : ∀ i j, S i → T j → U (max i j)) : EvF f (B + B') M (tCB (fun xs H Q => ∃ i j, xs = [.int i, .int j] ∧ Q (.int (if j > i then j else i)) H) (tCons ta (tCons tb tNil))) σ H (NatP U) :=
  ef_cb (efa_cons (B2 := B') hf up_natP ha (efa_cons (B2 := 0) hf up_natP hb efa_nil)) fun vs H1 _ hv Q q => by
    obtain ⟨x, r, rfl, ⟨i, rfl, hi⟩, y, r2, rfl, ⟨j, rfl, hj⟩, rfl⟩ := hv
    refine ⟨_, _, rfl, q _ H1 (Same.refl _) ⟨max i j, ?_, k i j hi hj⟩⟩
    congr 1
    split <;> omega
theorem ed_max2 {i j : Nat} (ha : EvD K M ta σ H (nI i)) (hb : EvD K M tb σ H (nI j)) : EvD K M (tCB (fun xs H Q => ∃ i j, xs = [.int i, .int j] ∧ Q (.int (if j > i then j else i)) H) (tCons ta (tCons tb tNil))) σ H (nI (max i j)) :=
  ed_cb (ea_cons ha (ea_cons hb ea_nil)) fun vs H1 _ hv Q q => by
    obtain ⟨x, y, rfl, h1, h2⟩ := two_of hv
    cases dp_int h1
    cases dp_int h2
    refine ⟨_, _, rfl, q _ H1 (Same.refl _) ?_⟩
    have e : (if (j : Int) > (i : Int) then (j : Int) else (i : Int)) = ((max i j : Nat) : Int) := by split <;> omega
    rw [e]
    exact .int _
theorem ed_min2 {i j : Nat} (ha : EvD K M ta σ H (nI i)) (hb : EvD K M tb σ H (nI j)) : EvD K M (tCB (fun xs H Q => ∃ i j, xs = [.int i, .int j] ∧ Q (.int (if j < i then j else i)) H) (tCons ta (tCons tb tNil))) σ H (nI (min i j)) :=
  ed_cb (ea_cons ha (ea_cons hb ea_nil)) fun vs H1 _ hv Q q => by
    obtain ⟨x, y, rfl, h1, h2⟩ := two_of hv
    cases dp_int h1
    cases dp_int h2
    refine ⟨_, _, rfl, q _ H1 (Same.refl _) ?_⟩
    have e : (if (j : Int) < (i : Int) then (j : Int) else (i : Int)) = ((min i j : Nat) : Int) := by split <;> omega
    rw [e]
    exact .int _
theorem ed_neS {i j : Str} (ha : EvD K M ta σ H (.str i)) (hb : EvD K M tb σ H (.str j)) : EvD K M (tOp rNe ta tb) σ H (.bool (!decide (i = j))) :=
  ed_op2 ha hb fun x y H1 _ hx hy Q q => by
    rw [dp_str hx, dp_str hy]
    refine ⟨rfl, ?_⟩
    have e : decide (V.str i = V.str j) = decide (i = j) := by
      rw [Bool.eq_iff_iff]; simp
    rw [e]
    exact q _ H1 (Same.refl _) (.bl _)
/-- an if that ends alike either way -/
theorem q_ifJ {b : Bool} {tt : TT} {tw : TS} (P : L2.St → Hp → Prop) (h : EvT tt σ H b) (k : ∀ σ' H', P σ' H' → tz D σ' H') (h1 : (∀ σ' H', P σ' H' → tz D σ' H') → b = true → ∀ H1, Same H H1 → tu { D with nx := tz D } σ H1) (h2 : (∀ σ' H', P σ' H' → tz D σ' H') → b = false → ∀ H1, Same H H1 → tw { D with nx := tz D } σ H1) : tSeq (tIfS tt tu tw) tz D σ H := q_if h (h1 k) (h2 k)
/-! ### a feed and a list that grows -/
structure Sit (K : PySem.W.Frag) (M : Mk) (f L : Addr) (Hs Hb H : Hp) (m : Nat) (out : List PyData) : Prop where
  c : Cell K M L H out
  fd : Feed f m H
  w : Wd M H
  b : But f Hs H
  s : Same (Hm M Hb) (Hm M H)
variable {Hs Hb : Hp} {m m' : Nat} {out : List PyData}
theorem Sit.up (S : Sit K M f L Hs Hb H m out) (e : Same H H') : Sit K M f L Hs Hb H' m out := ⟨S.c.up e, S.fd.same e, S.w.mono e, S.b.trans (But.of e), S.s.trans (hm_mono e)⟩
theorem Sit.draw (S : Sit K M f L Hs Hb H m out) (hm : M f = true) (hne : L ≠ f) (b : But f H H') (fd : Feed f m' H') : Sit K M f L Hs Hb H' m' out := ⟨S.c.but b hm hne, fd, b.wd' S.w fd, S.b.trans b, S.s.trans (b.hm hm)⟩
theorem Sit.put {out' : List PyData} (S : Sit K M f L Hs Hb H m out) (hne : L ≠ f) (hs : Hs L = none) (c : Cell K M L H' out') (b : But L H H') : Sit K M f L Hs Hb H' m out' := by
  refine ⟨c, ?_, b.wd S.w c.there, fun a o ha ho => b a o (fun z => by rw [z, hs] at ho; cases ho) (S.b a o ha ho), S.s.trans (b.hm S.c.msk)⟩
  obtain ⟨x, y, z, h1, h2⟩ := S.fd.ex
  exact ⟨⟨x, y, z, b _ _ (fun e => hne e.symm) h1, h2⟩⟩
theorem Sit.fed (S : Sit K M f L Hs Hb H m out) (h : m ≤ m') : Sit K M f L Hs Hb H m' out := ⟨S.c, S.fd.up h, S.w, S.b, S.s⟩
theorem Sit.re (S : Sit K M f L Hs Hb H m out) : Sit K M f L Hs H H m out := ⟨S.c, S.fd, S.w, S.b, Same.refl _⟩
theorem s_appS {d : PyData} (S : Sit K M f L Hs Hb H m out) (hne : L ≠ f) (hs : Hs L = none) (ht : EvV to σ H (.ref L)) (hz : EvD K M te σ H d) (hl : out.length < 100000) (k : ∀ H', Sit K M f L Hs Hb H' m (out ++ [d]) → D.nx σ H') : tDrop (tBM K "list" rAppend to (tCons te tNil)) D σ H :=
  s_appC ht S.c hz hl fun H' c b => k H' (S.put hne hs c b)
theorem s_appF {P : PyData → Prop} (S : Sit K M f L Hs Hb H m out) (hm : M f = true) (hne : L ≠ f) (hs : Hs L = none) (ht : EvV to σ H (.ref L)) (hz : EvF f B M te σ H fun H v => ∃ d, P d ∧ Dp K H v d) (hn : m + B ≤ topN) (hl : out.length < 100000) (k : ∀ d H', P d → Sit K M f L Hs Hb H' (m + B) (out ++ [d]) → D.nx σ H') : tDrop (tBM K "list" rAppend to (tCons te tNil)) D σ H :=
  ht H (Same.refl _) _ fun v H3 e3 hv => by
    cases hv
    refine ⟨.inl ⟨rfl, (S.c.up e3).acc.imp fun acc h => .inl (.inl h.1)⟩, hz m H3 (But.of e3) (S.fd.same e3) hn _ fun z H4 b4 f4 ⟨d, hd, hz4⟩ => ?_⟩
    have S4 := (S.up e3).draw hm hne b4 f4
    obtain ⟨mk, acc, k1, k2⟩ := S4.c
    refine ⟨L, acc, z, rfl, rfl, k1, sz_lt (by rw [dps_len k2]; exact hl), k d _ hd (S4.put hne hs (H' := upd H4 L (.lst (acc ++ [z]))) ⟨mk, acc ++ [z], upd_same, ?_⟩ fun a o ha h => by rw [upd_ne ha]; exact h)⟩
    rw [hm_upd mk]
    exact dps_append k2 (dps_one hz4)
theorem q_newS (hm : M f = true) (wd : Wd M H) (fd : Feed f m H) (bs : But f Hs H) {i : Nat} (k : ∀ L H1, Same H H1 → H1 L = none → L ≠ f → Hs L = none → Sit K (addM M L) f L Hs (upd H1 L (.lst [])) (upd H1 L (.lst [])) m [] → tz D (σ.set i (some (.ref L))) (upd H1 L (.lst []))) : tSeq (tAsg (tLst tNil) (gName i)) tz D σ H := by
  refine q_newC (K := K) (M := M) (ds := []) ea_nil rfl fun L H1 vs e hL hv => ?_
  cases hv
  have hne : L ≠ f := fun z => (fd.same e).there (by rw [← z]; exact hL)
  exact k L H1 e hL hne (by
    cases z : Hs L with
    | none => rfl
    | some o => rw [e _ _ (bs _ _ hne z)] at hL; cases hL) ⟨cell_new (wd.mono e) hL .nil, (fd.same e).same (same_new hL), wd_new (wd.mono e) hL, (bs.trans (But.of e)).trans (But.of (same_new hL)), Same.refl _⟩
theorem dps_perm {α : Type} {enc : α → PyData} {ys acc : List V} (p : ys.Perm acc) : ∀ as : List α, DpAll K H acc (as.map enc) → ∃ bs : List α, bs.Perm as ∧ DpAll K H ys (bs.map enc) := by
  induction p with
  | nil => exact fun as h => ⟨as, List.Perm.refl _, h⟩
  | cons x _ ih =>
    intro as h
    match as, h with
    | a :: as, .cons h1 h2 =>
      obtain ⟨bs, hb, h3⟩ := ih as h2
      exact ⟨a :: bs, hb.cons a, .cons h1 h3⟩
  | swap x y l =>
    intro as h
    match as, h with
    | a :: b :: as, .cons h1 (.cons h2 h3) => exact ⟨b :: a :: as, List.Perm.swap a b as, .cons h2 (.cons h1 h3)⟩
  | trans _ _ ih1 ih2 =>
    intro as h
    obtain ⟨bs, hb, h3⟩ := ih2 as h
    obtain ⟨cs, hc, h4⟩ := ih1 bs h3
    exact ⟨cs, hc.trans hb, h4⟩
theorem ef_purew {R : Hp → V → Prop} (h : ∀ H1, But f H H1 → H1 f ≠ none → EvR M te σ H1 R) : EvF f 0 M te σ H R := fun n H1 b fd _ Q q => h H1 b fd.there H1 (Same.refl _) Q fun v H2 e hv => q v H2 (But.of e) (fd.same e) hv
theorem dps_at2 : ∀ {vs : List V} {ds : List PyData} {j : Nat} {v : V}, DpAll K H vs ds → vs[j]? = some v → ∃ d, ds[j]? = some d ∧ Dp K H v d
  | _, _, 0, _, .cons h _, e => ⟨_, rfl, by cases e; exact h⟩
  | _, _, j + 1, _, .cons _ t, e => dps_at2 (j := j) t e
theorem hm_less {p : Addr} : Same (Hm (addM M p) H) (Hm M H) := fun a o h => by
  obtain ⟨g1, g2⟩ := hm_some h
  refine hm_of ?_ g2
  cases z : M a with
  | false => rfl
  | true => rw [addM_old z] at g1; cases g1
theorem EvD.r (h : EvD K M te σ H d) : EvR M te σ H (fun H v => Dp K H v d) := h
end
end EIT
end
/-! text R10 -/
section
set_option maxHeartbeats 4000000
/-! comprehensions that draw; data told by what holds of it. -/
namespace EIT
open PySem PySem.Spec PyProof.Rows L2
def DpP (K : PySem.W.Frag) (P : PyData → Prop) : Hp → V → Prop := fun H v => ∃ d, P d ∧ Dp K H v d
def DpsP (K : PySem.W.Frag) (P : PyData → Prop) (n : Nat) : Hp → List V → Prop := fun H vs => ∃ ds, ds.length = n ∧ (∀ d ∈ ds, P d) ∧ DpAll K H vs ds
def LstP (K : PySem.W.Frag) (P : PyData → Prop) (n : Nat) : Hp → V → Prop := DpP K fun d => ∃ ds, d = .list ds ∧ ds.length = n ∧ ∀ d ∈ ds, P d
def TupP (K : PySem.W.Frag) (P : PyData → Prop) (n : Nat) : Hp → V → Prop := DpP K fun d => ∃ ds, d = .tuple ds ∧ ds.length = n ∧ ∀ d ∈ ds, P d
theorem up_dpP {K : PySem.W.Frag} {P : PyData → Prop} : Up (DpP K P) := fun _ _ _ e ⟨d, h1, h2⟩ => ⟨d, h1, h2.up e⟩
section
variable {K : PySem.W.Frag} {M : Mk} {σ : L2.St} {H H' : Hp} {ta tb te to : TE} {tr : TA} {d e : PyData} {ds es : List PyData} {tz : TS} {D : Ends} {R : Hp → V → Prop} {wi : TI} {g : TG} {tu : TS} {L f : Addr} {B B' B1 B2 n : Nat} {t u : TT} {P P' : PyData → Prop}
theorem ef_dp (h : ∀ H1, But f H H1 → H1 f ≠ none → EvD K M te σ H1 d) (hp : P d) : EvF f 0 M te σ H (DpP K P) := ef_purew fun H1 b z => EvR.imp (EvD.r (h H1 b z)) fun _ _ hv => ⟨d, hp, hv⟩
theorem ef_dpi (h : EvF f B M te σ H (DpP K P)) (k : ∀ d, P d → P' d) : EvF f B M te σ H (DpP K P') := ef_imp h fun _ _ ⟨d, h1, h2⟩ => ⟨d, k d h1, h2⟩
theorem ef_map {ι : Type} {xs : List ι} {enc : ι → PyData} {G : PyData → Prop} {j : Nat} {vs : List Nat} (hm : M f = true) (wd : Wd M H) (hsr : ∀ H1, But f H H1 → H1 f ≠ none → Src K M wi σ H1 (xs.map enc)) (hz : xs.length ≤ 50000) (hw : ∀ x, wipe ((wipe σ vs).set j (some x)) vs = wipe σ vs)
    (turn : ∀ a ∈ xs, ∀ (M' : Mk) (H1 : Hp) (v : V), (∀ a, M a = true → M' a = true) → Same (Hm M H) (Hm M' H1) → Wd M' H1 → Dp K (Hm M' H1) v (enc a) → EvF f B M' te ((wipe σ vs).set j (some v)) H1 (DpP K G)) :
    EvF f (xs.length * B) M (tLc wi (gName j) tYes te vs) σ H (LstP K G xs.length) := fun n H1 b fd hn Q q => by
  have wd1 : Wd M H1 := b.wd' wd fd
  let S : Mk := fun a => decide (a = f)
  have hS : ∀ a, S a = true → a = f := fun a h => of_decide_eq_true h
  have toBut : ∀ {A B : Hp}, Chg S A B → But f A B := fun c a o ha ho => c.at (decide_eq_false ha) ho
  have toChg : ∀ {A B : Hp}, But f A B → Chg S A B := fun b a o h => by
    obtain ⟨h1, h2⟩ := hm_some h
    exact hm_of h1 (b a o (of_decide_eq_false h1) h2)
  refine lc_imp (K := K) (M := M) (S := S) (enc := enc) (xs := xs) (fun a h => by rw [hS a h]; exact hm) wd1 (hsr H1 b fd.there) hz hw (fun i H' => Feed f (n + i * B) H') (fun _ d => G d) (fun H2 e => by rw [Nat.zero_mul]; exact fd.same e) (fun i H2 H3 h e => h.at (e f (decide_eq_true rfl))) ?turn Q ?fin
  case turn =>
    intro i a hi M' H2 v sub c s wd2 hv hI Q' q'
    have hlt := (List.getElem?_eq_some_iff.mp hi).1
    have hle : (i + 1) * B ≤ xs.length * B := Nat.mul_le_mul_right B hlt
    rw [Nat.succ_mul] at hle
    refine turn a (List.mem_of_getElem? hi) M' H2 v sub ((b.hm hm).trans s) wd2 hv (n + i * B) H2 (But.refl _ _) hI (by omega) Q' fun z H3 b3 f3 ⟨d, hd, hz⟩ => q' z H3 d (toChg b3) (b3.wd' wd2 f3) ?_ hd hz
    rw [Nat.succ_mul, ← Nat.add_assoc]
    exact f3
  case fin =>
    intro D H2 ds acc c wd2 hI hl hG hD hmD hDl hall
    exact q _ H2 (toBut c) hI ⟨.list ds, ⟨ds, rfl, hl, fun d hd => by obtain ⟨i, hi, rfl⟩ := List.getElem_of_mem hd; exact hG i _ (List.getElem?_eq_getElem hi)⟩, .lst (.of (hm_of hmD hDl)) hall⟩
theorem ef_mapI {ι : Type} {xs : List ι} {enc : ι → PyData} {G : Nat → PyData → Prop} {j : Nat} {vs : List Nat} (hm : M f = true) (wd : Wd M H) (hsr : ∀ H1, But f H H1 → H1 f ≠ none → Src K M wi σ H1 (xs.map enc)) (hz : xs.length ≤ 50000) (hw : ∀ x, wipe ((wipe σ vs).set j (some x)) vs = wipe σ vs)
    (turn : ∀ (i : Nat) a, xs[i]? = some a → ∀ (M' : Mk) (H1 : Hp) (v : V), (∀ a, M a = true → M' a = true) → Same (Hm M H) (Hm M' H1) → Wd M' H1 → Dp K (Hm M' H1) v (enc a) → EvF f B M' te ((wipe σ vs).set j (some v)) H1 (DpP K (G i))) :
    EvF f (xs.length * B) M (tLc wi (gName j) tYes te vs) σ H (DpP K fun d => ∃ ds, d = .list ds ∧ ds.length = xs.length ∧ ∀ (i : Nat) d, ds[i]? = some d → G i d) := fun n H1 b fd hn Q q => by
  have wd1 : Wd M H1 := b.wd' wd fd
  let S : Mk := fun a => decide (a = f)
  have hS : ∀ a, S a = true → a = f := fun a h => of_decide_eq_true h
  have toBut : ∀ {A B : Hp}, Chg S A B → But f A B := fun c a o ha ho => c.at (decide_eq_false ha) ho
  have toChg : ∀ {A B : Hp}, But f A B → Chg S A B := fun b a o h => by
    obtain ⟨h1, h2⟩ := hm_some h
    exact hm_of h1 (b a o (of_decide_eq_false h1) h2)
  refine lc_imp (K := K) (M := M) (S := S) (enc := enc) (xs := xs) (fun a h => by rw [hS a h]; exact hm) wd1 (hsr H1 b fd.there) hz hw (fun i H' => Feed f (n + i * B) H') G (fun H2 e => by rw [Nat.zero_mul]; exact fd.same e) (fun i H2 H3 h e => h.at (e f (decide_eq_true rfl))) ?turn Q ?fin
  case turn =>
    intro i a hi M' H2 v sub c s wd2 hv hI Q' q'
    have hlt := (List.getElem?_eq_some_iff.mp hi).1
    have hle : (i + 1) * B ≤ xs.length * B := Nat.mul_le_mul_right B hlt
    rw [Nat.succ_mul] at hle
    refine turn i a hi M' H2 v sub ((b.hm hm).trans s) wd2 hv (n + i * B) H2 (But.refl _ _) hI (by omega) Q' fun z H3 b3 f3 ⟨d, hd, hz⟩ => q' z H3 d (toChg b3) (b3.wd' wd2 f3) ?_ hd hz
    rw [Nat.succ_mul, ← Nat.add_assoc]
    exact f3
  case fin =>
    intro D H2 ds acc c wd2 hI hl hG hD hmD hDl hall
    exact q _ H2 (toBut c) hI ⟨.list ds, ⟨ds, rfl, hl, hG⟩, .lst (.of (hm_of hmD hDl)) hall⟩
theorem ef_tupleD (hm : M f = true) (wd : Wd M H) (h : EvF f B M ta σ H (DpP K fun d => ∃ ds, d = .list ds ∧ P (.tuple ds))) : EvF f B M (tCB (fun xs H Q => ∃ p ys, xs = [V.ref p] ∧ ((SqL K H p ys ∧ ∀ l, H l = none → Q (.ref l) (upd H l (.tup ys))) ∨ (SqT K H p ys ∧ Q (.ref p) H))) (tCons ta tNil)) σ H (DpP K P) := fun n H1 b fd hn Q q =>
  h n H1 b fd hn _ fun v H2 b2 f2 ⟨d, ⟨ds, e, h1⟩, hv⟩ => by
    subst e
    obtain ⟨a, xs, rfl, hs, ha⟩ := dp_lst hv
    refine ⟨a, xs, rfl, .inl ⟨sqL_mono (hm_sub M H2) hs, fun p hp => q _ _ (b2.trans (But.of (same_new hp))) (f2.same (same_new hp)) ?_⟩⟩
    have hm : M p = false := ((b.trans b2).wd' wd f2).new hp
    exact ⟨_, h1, .tup (.of (hm_of hm upd_same)) (ha.up (hm_mono (same_new hp)))⟩
theorem efd_nil : EvFA f 0 M tNil σ H (DpsP K P 0) := efa_imp efa_nil fun _ _ e => by subst e; exact ⟨[], rfl, (fun _ h => nomatch h), .nil⟩
theorem efd_cons {m : Nat} (hm : M f = true) (h : EvF f B1 M te σ H (DpP K P)) (hr : EvFA f B2 M tr σ H (DpsP K P m)) : EvFA f (B1 + B2) M (tCons te tr) σ H (DpsP K P (m + 1)) := efa_imp (efa_cons hm up_dpP h hr) fun _ _ ⟨v, r, e, ⟨d, hd, hv⟩, ds, h1, h2, h3⟩ => by
  subst e
  refine ⟨d :: ds, congrArg (· + 1) h1, fun x hx => ?_, .cons hv h3⟩
  rcases List.mem_cons.mp hx with z | z
  · rw [z]; exact hd
  · exact h2 x z
theorem ef_lstP {m : Nat} (wd : Wd M H) (h : EvFA f B M tr σ H (DpsP K P m)) (hl : m ≤ 100000) : EvF f B M (tLst tr) σ H (LstP K P m) := fun n H1 b fd hn Q q =>
  h n H1 b fd hn _ fun xs H2 b2 f2 ⟨ds, h1, h2, h3⟩ => ⟨sz_ok (by rw [dps_len h3, h1]; exact hl), fun p hp => q _ _ (b2.trans (But.of (same_new hp))) (f2.same (same_new hp)) (by
    have hm : M p = false := ((b.trans b2).wd' wd f2).new hp
    exact ⟨.list ds, ⟨ds, rfl, h1, h2⟩, .lst (.of (hm_of hm upd_same)) (h3.up (hm_mono (same_new hp)))⟩)⟩
theorem ef_tupS {c : Str} (hm : M f = true) (wd : Wd M H) (h : EvF f B M te σ H (DpP K P)) : EvF f B M (tTup (tCons (tC (.str c)) (tCons te tNil))) σ H (DpP K fun d => ∃ x, P x ∧ d = .tuple [.str c, x]) := fun n H1 b fd hn Q q =>
  h n H1 b fd hn _ fun v H2 b2 f2 ⟨x, h1, h2⟩ => ⟨sz_ok (Nat.le_of_ble_eq_true rfl), fun p hp => q _ _ (b2.trans (But.of (same_new hp))) (f2.same (same_new hp)) (by
    have hm : M p = false := ((b.trans b2).wd' wd f2).new hp
    exact ⟨_, ⟨x, h1, rfl⟩, .tup (.of (hm_of hm upd_same)) (.cons (.str _) (.cons (h2.up (hm_mono (same_new hp))) .nil))⟩)⟩
theorem ef_tupleL {m : Nat} (hm : M f = true) (wd : Wd M H) (h : EvF f B M ta σ H (LstP K P m)) : EvF f B M (tCB (fun xs H Q => ∃ p ys, xs = [V.ref p] ∧ ((SqL K H p ys ∧ ∀ l, H l = none → Q (.ref l) (upd H l (.tup ys))) ∨ (SqT K H p ys ∧ Q (.ref p) H))) (tCons ta tNil)) σ H (TupP K P m) := fun n H1 b fd hn Q q =>
  h n H1 b fd hn _ fun v H2 b2 f2 ⟨d, ⟨ds, e, h1, h2⟩, hv⟩ => by
    subst e
    obtain ⟨a, xs, rfl, hs, ha⟩ := dp_lst hv
    refine ⟨a, xs, rfl, .inl ⟨sqL_mono (hm_sub M H2) hs, fun p hp => q _ _ (b2.trans (But.of (same_new hp))) (f2.same (same_new hp)) ?_⟩⟩
    have hm : M p = false := ((b.trans b2).wd' wd f2).new hp
    exact ⟨_, ⟨ds, rfl, h1, h2⟩, .tup (.of (hm_of hm upd_same)) (ha.up (hm_mono (same_new hp)))⟩
theorem ef_ixP {m : Nat} (hm : M f = true) (ha : EvF f B1 M ta σ H (LstP K P m)) (hb : EvF f B2 M tb σ H (NatP fun i => i < m)) : EvF f (B1 + B2) M (tOp (rIx K) ta tb) σ H (DpP K P) :=
  ef_op2 hm up_dpP ha hb fun x y H1 _ hx hy Q q => by
    obtain ⟨d, ⟨ds, rfl, h1, h2⟩, hx⟩ := hx
    obtain ⟨i, rfl, hi⟩ := hy
    obtain ⟨a, xs, rfl, hs, ha⟩ := dp_lst hx
    have hi : i < ds.length := by omega
    obtain ⟨v, g1, g2⟩ := dps_get ha (List.getElem?_eq_getElem hi)
    refine .inl ⟨a, xs, i, v, rfl, rfl, sqL_mono (hm_sub M H1) hs, atI_nat g1, q _ H1 (Same.refl _) ⟨_, h2 _ (List.getElem_mem hi), g2⟩⟩
/-- a list of numbers, one of it -/
theorem ef_oneI {E : XK} {i : Nat} {ns : List Nat} (hm : M f = true) (wd : Wd M H) (hs : σ[i]? = some (some (.ref f))) (h : ∀ H1, But f H H1 → H1 f ≠ none → EvD K M te σ H1 (.list (ns.map nI))) (h1 : 0 < ns.length) (h2 : ns.length ≤ 100) :
    EvF f 1 M (tCall (spI (preOne K) 1 fun xs _ v => v ∈ xs) [] E (tCons (tVar i) (tCons te tNil))) σ H (NatP fun x => x ∈ ns) :=
  ef_imp (R := fun _ v => v ∈ ns.map fun n : Nat => V.int (n : Int)) (B := 0 + 1) (ef_call (B1 := 0) (pre := preOne K) (post := fun xs _ v => v ∈ xs) (ns.map fun n : Nat => V.int (n : Int)) hm wd hs (efa_imp (efa_cons (R := fun H v => ∃ a, v = .ref a ∧ SqL K H a (ns.map fun n : Nat => V.int (n : Int))) hm (fun _ _ _ e ⟨a, g1, g2⟩ => ⟨a, g1, sqL_mono e g2⟩) (ef_purew fun H1 b z => EvR.imp (EvD.r (h H1 b z)) fun H v hv => by
      obtain ⟨a, xs, rfl, hs, hall⟩ := dp_lst hv
      rw [natsI] at hall
      cases dps_ints hall
      rw [List.map_map] at hs
      exact ⟨a, rfl, hs⟩) efa_nil) fun H v hv => by
    obtain ⟨x, r, rfl, ⟨a, rfl, hs⟩, rfl⟩ := hv
    exact ⟨by rw [List.length_map]; exact h1, by rw [List.length_map]; omega, a, rfl, hs⟩)) fun H v hv => by
    obtain ⟨x, hx, rfl⟩ := List.mem_map.mp hv
    exact ⟨x, rfl, hx⟩
/-- a list of texts, one of it -/
theorem ef_oneS {E : XK} {i : Nat} {ns : List Str} (hm : M f = true) (wd : Wd M H) (hs : σ[i]? = some (some (.ref f))) (h : ∀ H1, But f H H1 → H1 f ≠ none → EvD K M te σ H1 (.list (ns.map .str))) (h1 : 0 < ns.length) (h2 : ns.length ≤ 100) :
    EvF f 1 M (tCall (spI (preOne K) 1 fun xs _ v => v ∈ xs) [] E (tCons (tVar i) (tCons te tNil))) σ H (DpP K fun d => ∃ x ∈ ns, d = .str x) :=
  ef_imp (R := fun _ v => v ∈ ns.map V.str) (B := 0 + 1) (ef_call (B1 := 0) (pre := preOne K) (post := fun xs _ v => v ∈ xs) (ns.map V.str) hm wd hs (efa_imp (efa_cons (R := fun H v => ∃ a, v = .ref a ∧ SqL K H a (ns.map V.str)) hm (fun _ _ _ e ⟨a, g1, g2⟩ => ⟨a, g1, sqL_mono e g2⟩) (ef_purew fun H1 b z => EvR.imp (EvD.r (h H1 b z)) fun H v hv => by
      obtain ⟨a, xs, rfl, hs, hall⟩ := dp_lst hv
      cases dps_strs hall
      exact ⟨a, rfl, hs⟩) efa_nil) fun H v hv => by
    obtain ⟨x, r, rfl, ⟨a, rfl, hs⟩, rfl⟩ := hv
    exact ⟨by rw [List.length_map]; exact h1, by rw [List.length_map]; omega, a, rfl, hs⟩)) fun H v hv => by
    obtain ⟨x, hx, rfl⟩ := List.mem_map.mp hv
    exact ⟨_, ⟨x, hx, rfl⟩, .str _⟩
/-- list(range(k)), mixed -/
theorem ef_mixR {E : XK} {i k : Nat} (hm : M f = true) (wd : Wd M H) (hs : σ[i]? = some (some (.ref f))) (h : ∀ H1, But f H H1 → EvD K M te σ H1 (nI k)) (h2 : k ≤ 64) :
    EvF f 64 M (tCall (spI (preMix K) 64 fun xs H v => IsMix xs H v) [] E (tCons (tVar i) (tCons (tLstRg (tRg1 te)) tNil))) σ H (fun H v => ∃ (l : List Nat) (p : Addr), v = .ref p ∧ l.Perm (List.range k) ∧ H p = some (.lst (l.map fun n : Nat => V.int (n : Int)))) :=
  ef_imp (R := IsMix ((List.range k).map fun n : Nat => V.int (n : Int))) (B := 0 + 64) (ef_call (B1 := 0) (pre := preMix K) (post := fun xs H v => IsMix xs H v) ((List.range k).map fun n : Nat => V.int (n : Int)) hm wd hs (efa_imp (efa_cons (R := SqV K ((List.range k).map fun n : Nat => V.int (n : Int))) hm up_sqV (ef_purew fun H1 b z => EvR.imp (EvD.r (ed_listRg (b.wd wd z) (h H1 b) rfl (by omega))) fun H v hv => by
      obtain ⟨a, xs, rfl, hs, hall⟩ := dp_lst hv
      have : xs = ((List.range k).map fun n : Nat => V.int (n : Int)) := by
        have hall2 : DpAll K H xs (((List.range k).map fun n : Nat => (n : Int)).map .int) := by rw [List.map_map]; exact hall
        cases dps_ints hall2
        rw [List.map_map]; rfl
      subst this
      exact ⟨a, rfl, .inl hs⟩) efa_nil) fun H v hv => by
    obtain ⟨x, r, rfl, hs, rfl⟩ := hv
    exact ⟨by rw [List.length_map, List.length_range]; exact h2, x, rfl, hs⟩)) fun H v hv => by
    obtain ⟨p, ys, rfl, hp, hperm⟩ := hv
    refine ⟨ys.map fun v => match v with | .int x => x.toNat | _ => 0, p, rfl, ?_, ?_⟩
    · have := hperm.map fun v => match v with | V.int x => x.toNat | _ => 0
      rw [List.map_map] at this
      refine this.trans (List.Perm.of_eq ((List.map_congr_left fun n _ => ?_).trans (List.map_id _)))
      simp
    · rw [hp, List.map_map]
      congr 2
      refine ((List.map_congr_left fun v hv => ?_).trans (List.map_id ys)).symm
      obtain ⟨n, _, rfl⟩ := List.mem_map.mp (hperm.mem_iff.mp hv)
      simp
theorem dps_nats : ∀ l : List Nat, DpAll K H (l.map fun n : Nat => V.int (n : Int)) (l.map nI)
  | [] => .nil
  | _ :: l => .cons (.int _) (dps_nats l)
theorem ltD_range {k : Nat} {l : List Nat} (h : l.Perm (List.range k)) : ∀ x ∈ l, x < k := fun x hx => List.mem_range.mp (h.mem_iff.mp hx)
theorem lists_of {α : Type} {Q : α → Prop} {enc : α → PyData} : ∀ {ds : List PyData}, (∀ d ∈ ds, ∃ l, Q l ∧ d = enc l) → ∃ ls : List α, ds = ls.map enc ∧ ∀ l ∈ ls, Q l
  | [], _ => ⟨[], rfl, fun _ h => nomatch h⟩
  | d :: ds, h => by
    obtain ⟨ls, rfl, hx⟩ := lists_of (ds := ds) fun x hx => h x (List.mem_cons_of_mem _ hx)
    obtain ⟨l, hl, rfl⟩ := h d List.mem_cons_self
    exact ⟨l :: ls, rfl, fun x hx' => by
      rcases List.mem_cons.mp hx' with z | z
      · subst z; exact hl
      · exact hx x z⟩
variable {Hs Hb : Hp} {m : Nat} {out : List PyData}
/-- cells.extend(..), a list drawn -/
theorem s_extF {P : List PyData → Prop} (S : Sit K M f L Hs Hb H m out) (hm : M f = true) (hne : L ≠ f) (hs : Hs L = none) (ht : EvV to σ H (.ref L)) (hz : EvF f B M te σ H fun H v => ∃ p zs es, v = .ref p ∧ H p = some (.lst zs) ∧ DpAll K H zs es ∧ P es) (hn : m + B ≤ topN) (hl : ∀ es, P es → out.length + es.length ≤ 100000) (k : ∀ es H', P es → Sit K M f L Hs Hb H' (m + B) (out ++ es) → D.nx σ H') : tDrop (tBM K "list" rExtend to (tCons te tNil)) D σ H :=
  ht H (Same.refl _) _ fun v H3 e3 hv => by
    cases hv
    refine ⟨.inl ⟨rfl, (S.c.up e3).acc.imp fun acc h => .inl (.inl h.1)⟩, hz m H3 (But.of e3) (S.fd.same e3) hn _ fun z H4 b4 f4 ⟨p, zs, es, ez, hp, hes, hd⟩ => ?_⟩
    subst ez
    have S4 := (S.up e3).draw hm hne b4 f4
    obtain ⟨mk, acc, k1, k2⟩ := S4.c
    refine ⟨L, p, acc, zs, rfl, rfl, k1, (hm_some hp).2, sz_ok (by rw [dps_len k2, dps_len hes]; exact hl es hd), k es _ hd (S4.put hne hs (H' := upd H4 L (.lst (acc ++ zs))) ⟨mk, acc ++ zs, upd_same, ?_⟩ fun a o ha h => by rw [upd_ne ha]; exact h)⟩
    rw [hm_upd mk]
    exact dps_append k2 hes
end
end EIT
end
/-! text L7 -/
section
set_option maxHeartbeats 4000000
/-! webs drawn. -/
namespace EIT
open PySem PySem.Spec PyProof.Rows L2
def nmOf (ns : List Str) (i : Nat) : Str := ns[i]?.getD ""
theorem nmOf_mem {ns : List Str} {i : Nat} (h : i < ns.length) : nmOf ns i ∈ ns := by
  unfold nmOf
  rw [List.getElem?_eq_getElem h]
  exact List.getElem_mem h
theorem nmOf_inj {ns : List Str} (nd : ns.Nodup) {i j : Nat} (hi : i < ns.length) (hj : j < ns.length) (h : nmOf ns i = nmOf ns j) : i = j := by
  unfold nmOf at h
  rw [List.getElem?_eq_getElem hi, List.getElem?_eq_getElem hj] at h
  exact (List.getElem_inj nd).mp h
/-- a road of a pair of numbers -/
def RoadOf (ns : List Str) (p : Nat × Nat) (r : Str × Str) : Prop := r = (nmOf ns p.1, nmOf ns p.2) ∨ r = (nmOf ns p.2, nmOf ns p.1)
def PairOk (m : Nat) (p : Nat × Nat) : Prop := p.1 < p.2 ∧ p.2 < m
theorem road_srt {ns : List Str} {p : Nat × Nat} {r : Str × Str} (h : RoadOf ns p r) : (r.1 = nmOf ns p.1 ∧ r.2 = nmOf ns p.2) ∨ (r.1 = nmOf ns p.2 ∧ r.2 = nmOf ns p.1) := by
  rcases h with rfl | rfl
  · exact .inl ⟨rfl, rfl⟩
  · exact .inr ⟨rfl, rfl⟩
theorem pair_of_road {ns : List Str} (nd : ns.Nodup) {p q : Nat × Nat} {r s : Str × Str} (hp : PairOk ns.length p) (hq : PairOk ns.length q) (h1 : RoadOf ns p r) (h2 : RoadOf ns q s) (h : srt2 r.1 r.2 = srt2 s.1 s.2) : p = q := by
  obtain ⟨p1, p2⟩ := hp
  obtain ⟨q1, q2⟩ := hq
  have key : ∀ {a b c d : Nat}, a < ns.length → b < ns.length → nmOf ns a = nmOf ns b → a = b := fun ha hb h => nmOf_inj nd ha hb h
  have i : ∀ {a b : Nat}, a < ns.length → b < ns.length → nmOf ns a = nmOf ns b → a = b := fun ha hb h => nmOf_inj nd ha hb h
  obtain ⟨pa, pb⟩ := p
  obtain ⟨qa, qb⟩ := q
  simp only at p1 p2 q1 q2
  rcases road_srt h1 with ⟨e1, e2⟩ | ⟨e1, e2⟩ <;> rcases road_srt h2 with ⟨e3, e4⟩ | ⟨e3, e4⟩ <;> rw [e1, e2, e3, e4] at h <;> rcases srt2_eq h with ⟨h3, h4⟩ | ⟨h3, h4⟩ <;>
    · have k1 := i (by simp only; omega) (by simp only; omega) h3
      have k2 := i (by simp only; omega) (by simp only; omega) h4
      simp only at k1 k2
      first
        | (subst k1; subst k2; rfl)
        | omega
theorem names12_ok : ∀ p ∈ names12, NameOk p := by
  intro p hp
  have : ∀ p ∈ names12, (1 ≤ p.length ∧ p.length ≤ 8) ∧ (match p.cps.toList[0]? with | some c => decide (c ∈ lets.cps.toList) | none => false) = true ∧ ∀ c ∈ p.cps.toList, c ∈ lets.cps.toList ∨ c ∈ digs.cps.toList := by decide +kernel
  obtain ⟨⟨h1, h2⟩, h3, h4⟩ := this p hp
  refine ⟨h1, h2, ?_, h4⟩
  cases z : p.cps.toList[0]? with
  | none => rw [z] at h3; cases h3
  | some c => rw [z] at h3; exact ⟨c, rfl, of_decide_eq_true h3⟩
theorem web_ok {ns zs : List Str} {ps : List (Nat × Nat)} {rs : List (Str × Str)} (n1 : 1 ≤ ns.length) (n2 : ns.length ≤ 4) (nd : ns.Nodup) (sub : ∀ x ∈ ns, x ∈ names12) (hz : zs.Perm ns) (hl : rs.length = ps.length) (hf : ps.length ≤ 7) (pd : ps.Nodup) (pk : ∀ p ∈ ps, PairOk ns.length p)
    (h : ∀ (k : Nat) p r, ps[k]? = some p → rs[k]? = some r → RoadOf ns p r) : WebOk ⟨zs, rs⟩ := by
  have len := hz.length_eq
  refine ⟨by show 1 ≤ zs.length; omega, by show zs.length ≤ 8; omega, fun p hp => names12_ok p (sub p (hz.mem_iff.mp hp)), (hz.nodup_iff).mpr nd, by show rs.length ≤ 14; omega, fun r hr => ?_, ?_⟩
  · obtain ⟨k, hk, rfl⟩ := List.getElem_of_mem hr
    have hk2 : k < ps.length := by rw [← hl]; exact hk
    obtain ⟨h1, h2⟩ := pk _ (List.getElem_mem hk2)
    have g := h k _ _ (List.getElem?_eq_getElem hk2) (List.getElem?_eq_getElem hk)
    have m1 := hz.mem_iff.mpr (nmOf_mem (ns := ns) (i := ps[k].1) (by omega))
    have m2 := hz.mem_iff.mpr (nmOf_mem (ns := ns) (i := ps[k].2) (by omega))
    have ne : nmOf ns ps[k].1 ≠ nmOf ns ps[k].2 := fun e => by have := nmOf_inj nd (by omega) (by omega) e; omega
    rcases road_srt g with ⟨e1, e2⟩ | ⟨e1, e2⟩ <;> rw [e1, e2]
    · exact ⟨m1, m2, ne⟩
    · exact ⟨m2, m1, fun e => ne e.symm⟩
  · rw [List.nodup_iff_pairwise_ne, List.pairwise_map, List.pairwise_iff_getElem]
    intro i j hi hj hij e
    have hi2 : i < ps.length := by rw [← hl]; exact hi
    have hj2 : j < ps.length := by rw [← hl]; exact hj
    have k := pair_of_road nd (pk _ (List.getElem_mem hi2)) (pk _ (List.getElem_mem hj2)) (h i _ _ (List.getElem?_eq_getElem hi2) (List.getElem?_eq_getElem hi)) (h j _ _ (List.getElem?_eq_getElem hj2) (List.getElem?_eq_getElem hj)) e
    have := (List.getElem_inj pd).mp k
    omega
section
variable {P : Program} {w : World} {K : PySem.W.Frag} {mg : Str → Option Value} {base : Heap}
def preWeb (x : Str × Nat) (_ : Hp) (r : List V) : Prop := 1 ≤ x.2 ∧ x.2 ≤ 4 ∧ r = [.str x.1, .int (x.2 : Nat)]
structure WebP (x : Str × Nat) (web : Web) : Prop where
  ok : WebOk web
  few : web.rs.length ≤ 7
  m4 : web.ps.length ≤ 4
  most : x.1 ≠ "ring" → web.ps.length ≤ x.2
  sub : ∀ p ∈ web.ps, p ∈ names12
def manyS (x : Str × Nat) (m : Nat) : Prop := 1 ≤ m ∧ m ≤ 4 ∧ (x.1 = "ring" → 3 ≤ m) ∧ (x.1 ≠ "ring" → m ≤ x.2)
structure Prs (way : Str) (i : Nat) (prs : List (Nat × Nat)) : Prop where
  lt : ∀ p ∈ prs, p.1 < p.2 ∧ p.2 < i + 1
  nd : prs.Nodup
  len : prs.length ≤ i
  ring : way = "ring" → ∀ p ∈ prs, p.1 + 1 = p.2
theorem Prs.add {way : Str} {i b : Nat} {prs : List (Nat × Nat)} (h : Prs way i prs) (hb : b < i + 1) (hr : way = "ring" → b = i) : Prs way (i + 1) (prs ++ [(b, 1 + i)]) := by
  refine ⟨fun p hp => ?_, ?_, by rw [List.length_append]; have := h.len; exact Nat.add_le_add_right this 1, fun e p hp => ?_⟩
  · rcases List.mem_append.mp hp with z | z
    · have := h.lt p z; omega
    · cases List.mem_singleton.mp z; simp only; omega
  · rw [List.nodup_append]
    refine ⟨h.nd, by simp, fun a ha b hb e => ?_⟩
    cases List.mem_singleton.mp hb
    subst e
    have := h.lt _ ha
    simp only at this
    omega
  · rcases List.mem_append.mp hp with z | z
    · exact h.ring e p z
    · cases List.mem_singleton.mp z
      have := hr e
      simp only; omega
theorem Prs.skip {way : Str} {i : Nat} {prs : List (Nat × Nat)} (h : Prs way i prs) : Prs way (i + 1) prs :=
  ⟨fun p hp => by have := h.lt p hp; omega, h.nd, by have := h.len; omega, h.ring⟩
structure PrsB (way : Str) (many c : Nat) (prs : List (Nat × Nat)) : Prop where
  lt : ∀ p ∈ prs, PairOk many p
  nd : prs.Nodup
  len : prs.length ≤ 4 + c
  ring : way ≠ "ring" → prs.length ≤ 3 + c
theorem sc_law_web : FnScope ["_law_feed_here", "_law_way", "_law_most", "_law_many", "_law_pairs", "_law_shape", "_law_at", "_law_back", "_law_turn", "_law_one_here", "_law_other", "_law_pair", "_law_names_here", "_law_roads"] ["_law_feed_here", "_law_way", "_law_most"] (defScope s_law_web) := ⟨rfl, rfl, rfl, by decide +kernel, rfl, by decide +kernel, by decide +kernel⟩
theorem ok_law_web (T : Tx K mg) : Cal P w K mg base 4 "_law_web" ["_law_feed_here", "_law_way", "_law_most"] (spI preWeb 300 fun x H v => ∃ web, WebP x web ∧ WebV K web H v) := by
  refine mkI T.d_law_web sc_law_web (fun i H vs h => by obtain ⟨_, _, rfl⟩ := h; rfl) (fun _ _ _ _ _ _ us hl => match us, hl with | [_, _, _], _ => rfl) fun f cdv A outer s H Q E hr M fa n x r wd hm fd hn hp q => ?_
  obtain ⟨way, most⟩ := x
  obtain ⟨p1, p2, rfl⟩ := hp
  simp only at p1 p2 q
  refine ⟨_, (pss_cons (ps_set (i := 3) sc_law_web.nd rfl (.inl rfl) (pe_ifExp (pt_cmpR op_eq (pv 1) pe_str (nomark _)) (pe_callB (call_max2 rfl) (by rfl) T.b_max (by decide +kernel) (pa_cons pe_int (pa_cons (pe_op op_add pe_int (pe_cal (ok_law_draw T) (hr.mono (by decide)) (by rfl) (pa_cons (pv 0) (pa_cons (pv 2) pa_nil)))) pa_nil))) (pe_op op_add pe_int (pe_cal (ok_law_draw T) (hr.mono (by decide)) (by rfl) (pa_cons (pv 0) (pa_cons (pv 2) pa_nil))))))
      (pss_cons (ps_par (i := 4) (j := 5) rfl sc_law_web.nd rfl rfl (by decide) rfl rfl (pa_cons (pe_lst pa_nil) (pa_cons (pe_cal (ok_law_draw T) (hr.mono (by decide)) (by rfl) (pa_cons (pv 0) (pa_cons pe_int pa_nil))) pa_nil)) (by rfl))
      (pss_cons (ps_for PassesOwn.never rfl (pi_range2 (by rfl) T.b_range (pa_cons pe_int (pa_cons (pv 3) pa_nil))) (pg_name (i := 6) sc_law_web.nd rfl (.inl rfl)) (pss_cons (ps_set (i := 7) sc_law_web.nd rfl (.inl rfl) (pe_ifExp (PW.pt (pw_or (pt_cmpR op_eq (pv 5) pe_int (nomark _)) (pw_or1 (pt_cmpR op_eq (pv 1) pe_str (nomark _))))) (pe_op op_sub (pv 6) pe_int) (pe_ifExp (pt_cmpR op_eq (pv 5) pe_int (nomark _)) pe_int (pe_cal (ok_law_draw T) (hr.mono (by decide)) (by rfl) (pa_cons (pv 0) (pa_cons (pv 6) pa_nil))))))
      (pss_one (ps_if (PW.pt (pw_or (pt_cmpR op_ne (pv 1) pe_str (nomark _)) (pw_or1 (pt_cmpR op_gt (pe_cal (ok_law_draw T) (hr.mono (by decide)) (by rfl) (pa_cons (pv 0) (pa_cons pe_int pa_nil))) pe_int (nomark _))))) (pss_one (ps_expr (pe_bmK K PySem.F.plainAttrs_list PySem.F.slot_list_append PySem.F.type_list_append mt_append (pv 4) (pa_cons (pe_tup (pa_cons (pv 7) (pa_cons (pv 6) pa_nil))) pa_nil)))) pss_nil))))
      (pss_cons (ps_if (pt_cmpR op_eq (pv 1) pe_str (nomark _)) (pss_one (ps_expr (pe_bmK K PySem.F.plainAttrs_list PySem.F.slot_list_append PySem.F.type_list_append mt_append (pv 4) (pa_cons (pe_tup (pa_cons pe_int (pa_cons (pe_op op_sub (pv 3) pe_int) pa_nil))) pa_nil)))) pss_nil)
      (pss_cons (ps_for PassesOwn.never rfl (pi_range1 (by rfl) T.b_range (pa_cons (pe_ifExp (PW.pt (pw_and (pt_cmpR (op_in_seqK K) (pv 1) (pe_tup (pa_cons pe_str (pa_cons pe_str pa_nil))) (by rfl)) (pw_and1 (pt_cmpR op_gt (pv 3) pe_int (nomark _))))) (pe_cal (ok_law_draw T) (hr.mono (by decide)) (by rfl) (pa_cons (pv 0) (pa_cons pe_int pa_nil))) pe_int) pa_nil)) (pg_name (i := 8) sc_law_web.nd rfl (.inl rfl)) (pss_cons (ps_set (i := 9) sc_law_web.nd rfl (.inl rfl) (pe_cal (ok_law_draw T) (hr.mono (by decide)) (by rfl) (pa_cons (pv 0) (pa_cons (pv 3) pa_nil))))
      (pss_cons (ps_set (i := 10) sc_law_web.nd rfl (.inl rfl) (pe_op op_mod (pe_callTy call_int1 (by rfl) T.b_int (by decide +kernel) (pa_cons (pe_op op_add (pe_op op_add (pv 9) pe_int) (pe_cal (ok_law_draw T) (hr.mono (by decide)) (by rfl) (pa_cons (pv 0) (pa_cons (pe_op op_sub (pv 3) pe_int) pa_nil)))) pa_nil)) (pv 3)))
      (pss_cons (ps_set (i := 11) sc_law_web.nd rfl (.inl rfl) (pe_tup (pa_cons (pe_callB (call_min2 rfl) (by rfl) T.b_min (by decide +kernel) (pa_cons (pv 9) (pa_cons (pv 10) pa_nil))) (pa_cons (pe_callB (call_max2 rfl) (by rfl) T.b_max (by decide +kernel) (pa_cons (pv 9) (pa_cons (pv 10) pa_nil))) pa_nil))))
      (pss_one (ps_if (pt_cmpR (op_notInDL K (room65 hr)) (pv 11) (pv 4) (by rfl)) (pss_one (ps_expr (pe_bmK K PySem.F.plainAttrs_list PySem.F.slot_list_append PySem.F.type_list_append mt_append (pv 4) (pa_cons (pv 11) pa_nil)))) pss_nil))))))
      (pss_cons (ps_set (i := 12) sc_law_web.nd rfl (.inl rfl) (pe_cal (ok_law_names T) (hr.mono (by decide)) (by rfl) (pa_cons (pv 0) (pa_cons (pv 3) pa_nil))))
      (pss_cons (ps_set (i := 13) sc_law_web.nd rfl (.inl rfl) (pe_lst pa_nil))
      (pss_cons (ps_for PassesOwn.never rfl (pi_listK K (pe_cal (ok_law_mixed T) (hr.mono (by decide)) (by rfl) (pa_cons (pv 0) (pa_cons (pv 4) pa_nil)))) (pg_tupK (n := 2) K rfl (pgs_cons (pg_name (i := 9) sc_law_web.nd rfl (.inl rfl)) (pgs_cons (pg_name (i := 10) sc_law_web.nd rfl (.inl rfl)) pgs_nil))) (pss_one (ps_expr (pe_bmK K PySem.F.plainAttrs_list PySem.F.slot_list_append PySem.F.type_list_append mt_append (pv 13) (pa_cons (pe_ifExp (pt_cmpR op_eq (pe_cal (ok_law_draw T) (hr.mono (by decide)) (by rfl) (pa_cons (pv 0) (pa_cons pe_int pa_nil))) pe_int (nomark _)) (pe_tup (pa_cons (pe_ix (ix_seqK K) (pv 12) (pv 9) (fun _ _ => rfl)) (pa_cons (pe_ix (ix_seqK K) (pv 12) (pv 10) (fun _ _ => rfl)) pa_nil))) (pe_tup (pa_cons (pe_ix (ix_seqK K) (pv 12) (pv 10) (fun _ _ => rfl)) (pa_cons (pe_ix (ix_seqK K) (pv 12) (pv 9) (fun _ _ => rfl)) pa_nil)))) pa_nil)))))
      (pss_one (ps_ret (pe_tup (pa_cons (pe_callTy (call_tupleN K) (by rfl) T.b_tuple (by decide +kernel) (pa_cons (pe_cal (ok_law_mixed T) (hr.mono (by decide)) (by rfl) (pa_cons (pv 0) (pa_cons (pv 12) pa_nil))) pa_nil)) (pa_cons (pe_callTy (call_tuple_ofK K) (by rfl) T.b_tuple (by decide +kernel) (pa_cons (pv 13) pa_nil)) pa_nil))))))))))))), ?_⟩
  have hn' : n + 300 ≤ 1125899906842624 := hn
  have upT : ∀ {a}, a ≤ n + 300 → a ≤ topN := fun h => Nat.le_trans h hn
  refine q_asgF (M := M) (B := 1) (R := NatP (manyS (way, most))) fd (upT (by omega)) (ef_ifp (b := decide (way = "ring")) (fun H1 b _ => et_test (ed_eqS (K := K) (M := M) (ed_var rfl (.str _)) ed_str)) (fun hb => ?_) fun hb => ?_) fun v3 H1 b1 f1 h3 => ?_
  · have hb := of_decide_eq_true hb
    refine ef_max2P (B := 0) (B' := 1) (S := fun i => i = 3) (T := fun j => 1 ≤ j ∧ j ≤ most) hm (ef_natP (K := K) (i := 3) (fun _ _ => ed_int) rfl) (ef_addP (B := 0) (B' := 1) (S := fun i => i = 1) (T := fun j => j < most) hm (ef_natP (K := K) (i := 1) (fun _ _ => ed_int) rfl) (ef_draw hm wd rfl (fun _ _ => ed_var (K := K) rfl (.int _)) (by omega) (by omega)) (fun i j hi hj => by omega)) (fun i j hi hj => ⟨by omega, by omega, fun _ => by omega, fun z => absurd hb z⟩)
  · have hb := of_decide_eq_false hb
    exact ef_addP (B := 0) (B' := 1) (S := fun i => i = 1) (T := fun j => j < most) hm (ef_natP (K := K) (i := 1) (fun _ _ => ed_int) rfl) (ef_draw hm wd rfl (fun _ _ => ed_var (K := K) rfl (.int _)) (by omega) (by omega)) (fun i j hi hj => ⟨by omega, by omega, fun z => absurd z hb, fun _ => by show i + j ≤ most; omega⟩)
  obtain ⟨many, rfl, hmany⟩ := h3
  have m1 := hmany.1
  have m2 := hmany.2.1
  refine ⟨sz_ok (Nat.zero_le _), fun L hL => ?_⟩
  have hne : L ≠ fa := fun z => f1.there (by rw [← z]; exact hL)
  have hLs : H L = none := by
    cases z : H L with
    | none => rfl
    | some o => rw [b1 _ _ hne z] at hL; cases hL
  have S0 : Sit K (addM M L) fa L H (upd H1 L (.lst [])) (upd H1 L (.lst [])) (n + 1) [] := ⟨cell_new (b1.wd' wd f1) hL .nil, f1.same (same_new hL), wd_new (b1.wd' wd f1) hL, b1.trans (But.of (same_new hL)), Same.refl _⟩
  generalize upd H1 L (.lst []) = H2 at S0
  have hmL : M L = false := (b1.wd' wd f1).new hL
  have hm1 : addM M L fa = true := addM_old hm
  refine ef_draw (K := K) (M := addM M L) (m := 3) hm1 S0.w rfl (fun _ _ => ed_int) (by decide) (by decide) (n + 1) H2 (But.refl _ _) S0.fd (upT (by omega)) _ fun v5 H3 b3 f3 h5 => ⟨_, _, rfl, ?_⟩
  obtain ⟨shape, rfl, _⟩ := h5
  have S3 := (S0.draw hm1 hne b3 f3).re
  show tSeq _ _ _ _ _
  refine q_for (K := K) (M := addM M L) (src_rng2 (lo := 1) (hi := many) (ea_cons ed_int (ea_cons (ed_var rfl (.int _)) ea_nil)) (by omega) m1) fun H4 e4 => ⟨fun i σ' H' => ∃ y6 y7 prs, σ' = [some (.ref fa), some (.str way), some (.int (most : Nat)), some (.int (many : Nat)), some (.ref L), some (.int (shape : Nat)), y6, y7, none, none, none, none, none, none] ∧ Sit K (addM M L) fa L H H4 H' (n + 2 + 2 * i) (prs.map pairI) ∧ Prs way i prs, ?_, ?_, ?_, ?_⟩
  · exact ⟨none, none, [], rfl, (S3.up e4).re, ⟨(fun p hp => nomatch hp), List.nodup_nil, Nat.le_refl _, (fun _ p hp => nomatch hp)⟩⟩
  · rintro i σ' H' ⟨y6, y7, prs, rfl, S, _⟩
    exact ⟨S.s, S.w⟩
  · rintro i d x σ' H' H'' hd ⟨y6, y7, prs, rfl, S, hP⟩ e5 hx
    have hi : i < many - 1 := by
      obtain ⟨z, _⟩ := List.getElem?_eq_some_iff.mp hd
      rw [List.length_map, List.length_range] at z; exact z
    have hdd : d = nI (1 + i) := by
      rw [List.getElem?_map, List.getElem?_range hi] at hd
      rw [← Option.some.inj hd]
      show PyData.int _ = PyData.int _
      congr 1
    subst hdd
    cases dp_int hx
    have S := S.up e5
    show tSeq _ _ _ _ _
    refine q_asgF (M := addM M L) (B := 1) (R := NatP fun b => b < i + 1 ∧ (way = "ring" → b = i)) S.fd (upT (by omega)) (ef_ifp (b := decide (shape = 0) || decide (way = "ring")) (fun H1 b _ => et_or (et_test ((ed_eqI (K := K) (M := addM M L) (ed_var rfl (.int _)) ed_int).eq (by simp))) fun _ => et_test (ed_eqS (K := K) (M := addM M L) (ed_var rfl (.str _)) ed_str)) (fun hb => ?_) fun hb => ?_) fun v7 H5 b5 f5 h7 => ?_
    · refine ef_le (ef_natP (K := K) (i := i) (fun _ _ => (ed_I0 (ed_var rfl (.int _)) ed_int).eq ?_) ⟨by omega, fun _ => rfl⟩) (by decide)
      show PyData.int _ = PyData.int _
      congr 1
      omega
    · rw [Bool.or_eq_false_iff] at hb
      have hw : way ≠ "ring" := of_decide_eq_false hb.2
      refine ef_ifp (b := decide (shape = 1)) (fun H1 b _ => et_test ((ed_eqI (K := K) (M := addM M L) (ed_var rfl (.int _)) ed_int).eq (by simp; omega))) (fun hb => ?_) fun hb => ?_
      · exact ef_le (ef_natP (K := K) (i := 0) (fun _ _ => ed_int) ⟨by omega, fun z => absurd z hw⟩) (by decide)
      · refine ef_imp (ef_draw (K := K) (m := 1 + i) hm1 S.w rfl (fun _ _ => ed_var rfl (.int _)) (by omega) (by omega)) fun _ _ ⟨j, e, hj⟩ => ⟨j, e, by omega, fun z => absurd z hw⟩
    obtain ⟨b, rfl, hb, hbr⟩ := h7
    have S5 := S.draw hm1 hne b5 f5
    show tIfS _ _ _ _ _ _
    refine s_ifF (R := fun _ => True) (B := 1) S5.fd (upT (by omega)) (eft_or (b := !decide (way = "any")) (fun H1 b => et_test (EvD.eq (K := K) (M := addM M L) (ed_neS (ed_var rfl (.str _)) ed_str) rfl)) (fun _ => trivial) fun _ => eft_test (ef_op2 (B1 := 1) (B2 := 0) hm1 up_natP (ef_draw (K := K) (m := 5) hm1 S5.w rfl (fun _ _ => ed_int) (by decide) (by decide)) (ef_natP (K := K) (i := 0) (S := fun i => i = 0) (fun _ _ => ed_int) rfl) fun x y H1 _ hx hy Q q => ?_)) (fun _ H6 b6 f6 => ?_) fun _ H6 b6 f6 => ?_
    · obtain ⟨i, rfl, hi⟩ := hx
      obtain ⟨j, rfl, hj⟩ := hy
      exact ⟨_, _, rfl, rfl, q _ H1 (Same.refl _) ⟨_, rfl, trivial⟩⟩
    · have S6 := S5.draw hm1 hne b6 f6
      have hlen := hP.len
      refine s_appS (d := pairI (b, 1 + i)) S6 hne hLs (ev_var rfl) (ed_tup S6.w (ea_cons (ed_var rfl (.int _)) (ea_cons (ed_var rfl (.int _)) ea_nil))) (by rw [List.length_map]; omega) fun H7 S7 => ?_
      refine ⟨_, _, prs ++ [(b, 1 + i)], rfl, ?_, hP.add hb hbr⟩
      rw [List.map_append]
      exact S7.fed (by omega)
    · exact ⟨_, _, prs, rfl, (S5.draw hm1 hne b6 f6).fed (by omega), hP.skip⟩
  rintro σ' H' ⟨y6, y7, prs, rfl, S, hP⟩
  rw [List.length_map, List.length_range] at S hP
  have S : Sit K (addM M L) fa L H H' H' (n + 8) (prs.map pairI) := (S.re).fed (by omega)
  have hpk : ∀ p ∈ prs, PairOk many p := fun p hp => by
    have := hP.lt p hp
    exact ⟨this.1, by omega⟩
  have hlen : prs.length ≤ 3 := by have := hP.len; omega
  clear S3 S0 b3 f3
  refine q_ifJ (b := decide (way = "ring")) (fun σ' H' => ∃ prs, σ' = [some (.ref fa), some (.str way), some (.int (most : Nat)), some (.int (many : Nat)), some (.ref L), some (.int (shape : Nat)), y6, y7, none, none, none, none, none, none] ∧ Sit K (addM M L) fa L H H' H' (n + 8) (prs.map pairI) ∧ PrsB way many 0 prs) (et_test (ed_eqS (K := K) (M := M) (ed_var rfl (.str _)) ed_str)) (fun σ' H' h => ?_) (fun k hb H4 e4 => ?_) (fun k hb H4 e4 => ?_)
  rotate_left
  · have hb := of_decide_eq_true hb
    have h3 := hmany.2.2.1 hb
    refine s_appS (d := pairI (0, many - 1)) (S.up e4) hne hLs (ev_var rfl) (ed_tup (S.up e4).w (ea_cons ed_int (ea_cons ((ed_I0 (ed_var rfl (.int _)) ed_int).eq ?_) ea_nil))) (by rw [List.length_map]; omega) fun H5 S5 => k _ _ ⟨prs ++ [(0, many - 1)], rfl, ?_, ?_⟩
    · show PyData.int _ = PyData.int _
      congr 1
      omega
    · rw [List.map_append]
      exact S5.re
    · refine ⟨fun p hp => ?_, ?_, by rw [List.length_append]; show _ + 1 ≤ _; omega, fun z => absurd hb z⟩
      · rcases List.mem_append.mp hp with z | z
        · exact hpk p z
        · cases List.mem_singleton.mp z
          exact ⟨by simp only; omega, by simp only; omega⟩
      · rw [List.nodup_append]
        refine ⟨hP.nd, by simp, fun a ha b hb2 e => ?_⟩
        cases List.mem_singleton.mp hb2
        subst e
        have := hP.ring hb _ ha
        simp only at this
        omega
  · exact k _ _ ⟨prs, rfl, (S.up e4).re, hpk, hP.nd, by omega, fun _ => by omega⟩
  obtain ⟨prs, rfl, S, hP⟩ := h
  show tSeq _ _ _ _ _
  refine q_forRF (M := addM M L) (B := 1) (S := fun i => i ≤ 4 ∧ (i = 0 ∨ (2 < many ∧ way ≠ "ring"))) S.fd (upT (by omega)) (efa_imp (B := 1) (efa_cons (B1 := 1) (B2 := 0) hm1 up_natP (ef_ifp (B := 1) (R := NatP fun i => i ≤ 4 ∧ (i = 0 ∨ (2 < many ∧ way ≠ "ring"))) (b := decide (way ∈ (["whole", "any"] : List Str)) && decide (2 < many)) (fun H1 b1 z1 => et_and (et_test (ed_inT (K := K) (M := addM M L) (ys := ["whole", "any"]) (ed_var rfl (.str _)) (ed_tup (b1.wd S.w z1) (ea_cons ed_str (ea_cons ed_str ea_nil))))) fun _ => et_test (EvD.eq (K := K) (M := addM M L) (ed_IB (g := fun i j => decide (j < i)) (ed_var rfl (.int _)) ed_int) (by simp; omega))) (fun hb => ?_) fun hb => ?_) efa_nil) fun _ _ ⟨v, r, e1, ⟨i, e2, hi⟩, e3⟩ => ⟨i, by rw [e1, e2, e3], hi⟩) (fun i h => by omega) fun cnt H4 b4 f4 hcnt => ?_
  · rw [Bool.and_eq_true] at hb
    have h1 := of_decide_eq_true hb.1
    have h2 := of_decide_eq_true hb.2
    have h3 : way ≠ "ring" := fun z => by rw [z] at h1; revert h1; decide
    exact ef_imp (ef_draw (K := K) (m := 5) hm1 S.w rfl (fun _ _ => ed_int) (by decide) (by decide)) fun _ _ ⟨j, e, hj⟩ => ⟨j, e, by omega, .inr ⟨h2, h3⟩⟩
  · exact ef_le (ef_natP (K := K) (i := 0) (fun _ _ => ed_int) ⟨by omega, .inl rfl⟩) (by decide)
  have S4 := (S.draw hm1 hne b4 f4).re
  refine ⟨fun j σ' H' => ∃ y8 y9 y10 y11 prs, σ' = [some (.ref fa), some (.str way), some (.int (most : Nat)), some (.int (many : Nat)), some (.ref L), some (.int (shape : Nat)), y6, y7, y8, y9, y10, y11, none, none] ∧ Sit K (addM M L) fa L H H' H' (n + 9 + 2 * j) (prs.map pairI) ∧ PrsB way many j prs, ?_, ?_, ?_⟩
  · exact ⟨none, none, none, none, prs, rfl, S4, hP⟩
  · rintro j σ' H5 hj ⟨y8, y9, y10, y11, prs, rfl, S, hP⟩
    have h2 : 2 < many ∧ way ≠ "ring" := hcnt.2.resolve_left (by omega)
    have hlen := hP.len
    have hlen2 := hP.ring h2.2
    show tSeq _ _ _ _ _
    refine q_asgF (M := addM M L) (B := 1) S.fd (upT (by omega)) (ef_draw (K := K) (m := many) hm1 S.w rfl (fun _ _ => ed_var rfl (.int _)) (by omega) (by omega)) fun v9 H6 b6 f6 h9 => ?_
    obtain ⟨one, rfl, ho⟩ := h9
    have S := (S.draw hm1 hne b6 f6).re
    show tSeq _ _ _ _ _
    refine q_asgF (M := addM M L) (B := 1) (R := NatP fun o => o < many ∧ o ≠ one) S.fd (upT (by omega)) (ef_modP (B := 1) (B' := 0) (S := fun t => ∃ j, t = one + 1 + j ∧ j < many - 1) (T := fun m => m = many) hm1 (ef_intP hm1 (ef_addP (B := 0) (B' := 1) (S := fun i => i = one + 1) (T := fun j => j < many - 1) hm1 (ef_natP (K := K) (i := one + 1) (fun _ _ => ed_addN (ed_var rfl (.int _)) (ed_nat (n := 1))) rfl) (ef_draw (K := K) (m := many - 1) hm1 S.w rfl (fun _ _ => (ed_I0 (ed_var rfl (.int _)) ed_int).eq ?_) (by omega) (by omega)) fun i j hi hj => ⟨j, by omega, hj⟩)) (ef_natP (K := K) (i := many) (fun _ _ => ed_var rfl (.int _)) rfl) fun t m ht he => ?_) fun v10 H7 b7 f7 h10 => ?_
    · show PyData.int _ = PyData.int _
      congr 1
      omega
    · obtain ⟨j, rfl, hj⟩ := ht
      subst he
      refine ⟨by omega, Nat.mod_lt _ (by omega), ?_⟩
      by_cases z : one + 1 + j < m
      · rw [Nat.mod_eq_of_lt z]; omega
      · rw [Nat.mod_eq_sub_mod (by omega), Nat.mod_eq_of_lt (by omega)]; omega
    obtain ⟨other, rfl, hol, hon⟩ := h10
    have S := (S.draw hm1 hne b7 f7).re
    show tSeq _ _ _ _ _
    refine q_asg (K := K) (M := addM M L) (d := pairI (min one other, max one other)) (ed_tup S.w (ea_cons (ed_min2 (ed_var rfl (.int _)) (ed_var rfl (.int _))) (ea_cons (ed_max2 (ed_var rfl (.int _)) (ed_var rfl (.int _))) ea_nil))) fun v11 H8 e8 h11 => ?_
    have S := (S.up e8).re
    show tIfS _ _ _ _ _ _
    refine s_if (et_test (ed_notInC (ed_var rfl h11) (ev_var rfl) S.c)) (fun hb H9 e9 => ?_) (fun hb H9 e9 => ?_)
    · have hni : ¬ (min one other, max one other) ∈ prs := by simpa using hb
      refine s_appS (S.up e9) hne hLs (ev_var rfl) (ed_var rfl (PD.up h11 e9)) (by rw [List.length_map]; omega) fun H10 S10 => ⟨_, _, _, _, prs ++ [(min one other, max one other)], rfl, ?_, ?_⟩
      · rw [List.map_append]
        exact S10.re
      · refine ⟨fun p hp => ?_, ?_, by rw [List.length_append]; show _ + 1 ≤ _; omega, fun _ => by rw [List.length_append]; show _ + 1 ≤ _; omega⟩
        · rcases List.mem_append.mp hp with z | z
          · exact hP.lt p z
          · cases List.mem_singleton.mp z
            exact ⟨by simp only; omega, by simp only; omega⟩
        · rw [List.nodup_append]
          refine ⟨hP.nd, by simp, fun a ha b hb2 e => ?_⟩
          cases List.mem_singleton.mp hb2
          exact hni (e ▸ ha)
    · exact ⟨_, _, _, _, prs, rfl, (S.up e9).re, hP.lt, hP.nd, by omega, fun _ => by omega⟩
  rintro σ' H5 ⟨y8, y9, y10, y11, prs, rfl, S, hP⟩
  have hlen7 : prs.length ≤ 7 := by
    rcases hcnt.2 with z | ⟨_, z⟩
    · have := hP.len; omega
    · have := hP.ring z; omega
  have hprs : Dp K (Hm M H5) (.ref L) (.list (prs.map pairI)) := S.c.done hmL add_sub
  have w5 : Wd M H5 := fun a ha => S.w a (addM_old ha)
  have f5 : Feed fa (n + 17) H5 := S.fd.up (by omega)
  have b5 := S.b
  have hlt := hP.lt
  have hnd := hP.nd
  clear S hP S4
  show tSeq _ _ _ _ _
  refine q_asgF (M := M) (B := 64) f5 (upT (by omega)) (ef_call (pre := fun m H r => m ≤ 12 ∧ r = [.int ((m : Nat) : Int)]) (B := 64) (B1 := 0) (post := fun m H v => IsNames K m H v) many hm w5 rfl (efa_imp (efa_cons hm (fun _ _ _ _ h => h) (ef_pure fun H1 b => er_nat (ed_var (K := K) rfl (.int _))) efa_nil) fun H v hv => ?_)) fun v12 H6 b6 f6 h12 => ?_
  · obtain ⟨x, r, rfl, rfl, rfl⟩ := hv
    exact ⟨by omega, rfl⟩
  obtain ⟨ns, nsl, nsd, nsub, hns⟩ := h12
  have w6 : Wd M H6 := b6.wd' w5 f6
  have hprs6 := L2.Dp.up hprs (b6.hm hm)
  show tSeq _ _ _ _ _
  refine q_newS (K := K) hm w6 f6 (b5.trans b6) fun R H7 e7 hR hneR hRs SR => ?_
  have hmR : M R = false := (w6.mono e7).new hR
  have e67 : Same (Hm M H6) (Hm (addM M R) (upd H7 R (.lst []))) := (hm_mono e7).trans (hm_new hR)
  have hprs7 := L2.Dp.up hprs6 e67
  have hns7 := L2.Dp.up hns e67
  have hm2 : addM M R fa = true := addM_old hm
  generalize upd H7 R (.lst []) = H8 at SR hprs7 hns7
  obtain ⟨L', acc, el, hacc, hall⟩ := dp_lst hprs7
  cases el
  have hal : acc.length = prs.length := by rw [dps_len hall, List.length_map]
  show tSeq _ _ _ _ _
  refine q_forLF (K := K) (M := addM M R) (B := 64) (P := fun ys => ys.Perm acc) SR.fd hm2 SR.w (upT (by omega)) (ef_imp (ef_call (pre := preMix K) (B := 64) (B1 := 0) (post := fun xs H v => IsMix xs H v) acc hm2 SR.w rfl (efa_imp (efa_cons hm2 up_sqV (ef_pure fun H1 b => er_var rfl up_sqV (up_sqV (K := K) (xs := acc) _ _ _ (b.hm hm2) ⟨L, rfl, .inl hacc⟩)) efa_nil) fun H v hv => ?_)) fun H v hv => ?_) fun ys H9 b9 f9 hperm => ?_
  · obtain ⟨x, r, rfl, hx, rfl⟩ := hv
    exact ⟨by omega, x, rfl, hx⟩
  · obtain ⟨p, ys, rfl, h1, h2⟩ := hv
    exact ⟨p, ys, rfl, .of h1, h2⟩
  obtain ⟨bs, hbs, hdy⟩ := dps_perm hperm prs hall
  have hdy9 := L2.DpAll.up hdy (b9.hm hm2)
  have hns9 := L2.Dp.up hns7 (b9.hm hm2)
  have hbl : bs.length = prs.length := hbs.length_eq
  have hyl : ys.length = bs.length := by rw [dps_len hdy, List.length_map]
  refine ⟨fun j σ' H' => ∃ (y9 y10 : Option V) (rs : List (Str × Str)), σ' = [some (.ref fa), some (.str way), some (.int (most : Nat)), some (.int (many : Nat)), some (.ref L), some (.int (shape : Nat)), y6, y7, y8, y9, y10, y11, some v12, some (.ref R)] ∧ Sit K (addM M R) fa R H H9 H' (n + 145 + j) (rs.map roadD) ∧ rs.length = j ∧ ∀ (k : Nat) p r, bs[k]? = some p → rs[k]? = some r → RoadOf ns p r, ?_, ?_, ?_, ?_⟩
  · exact ⟨_, _, [], rfl, (SR.draw hm2 hneR b9 f9).re.fed (by omega), rfl, fun k p r _ hr => by cases hr⟩
  · rintro j σ' H' ⟨y9, y10, rs, rfl, S, _⟩
    exact S.s
  · rintro j x σ' H' hx ⟨y9, y10, rs, rfl, S, hrl, hro⟩
    obtain ⟨d, hd1, hd2⟩ := dps_at2 hdy9 hx
    obtain ⟨hj, _⟩ := List.getElem?_eq_some_iff.mp hx
    have hjb : j < bs.length := by omega
    rw [List.getElem?_map, List.getElem?_eq_getElem hjb] at hd1
    cases Option.some.inj hd1
    obtain ⟨hp1, hp2⟩ := hlt _ (hbs.mem_iff.mp (List.getElem_mem hjb))
    have hbj : bs[j]? = some bs[j] := List.getElem?_eq_getElem hjb
    generalize bs[j] = pq at hd2 hp1 hp2 hbj
    obtain ⟨i1, i2⟩ := pq
    simp only at hp1 hp2
    refine g_two (L2.Dp.up hd2 S.s) fun x y hx hy => ?_
    cases dp_int hx
    cases dp_int hy
    have hn10 := L2.Dp.up hns9 S.s
    have name : ∀ {i : Nat}, i < many → (ns.map PyData.str)[i]? = some (.str (nmOf ns i)) := fun {i} hi => by
      unfold nmOf
      rw [List.getElem?_map, List.getElem?_eq_getElem (by omega)]
      rfl
    refine s_appF (P := fun d => ∃ r, d = roadD r ∧ RoadOf ns (i1, i2) r) (B := 1) S hm2 hneR hRs (ev_var rfl) (ef_if (B1 := 1) (B2 := 0) (R := fun _ => True) (eft_test (ef_op2 (B1 := 1) (B2 := 0) hm2 up_natP (ef_draw (K := K) (m := 2) hm2 S.w rfl (fun _ _ => ed_int) (by decide) (by decide)) (ef_natP (K := K) (i := 0) (S := fun i => i = 0) (fun _ _ => ed_int) rfl) fun x y H1 _ hx hy Q q => ?_)) (fun _ => ef_purew fun H1 b z => EvR.imp (EvD.r (ed_tup (K := K) (b.wd S.w z) (ea_cons (ed_ixL' (j := i1) (ed_var rfl (L2.Dp.up hn10 (b.hm hm2))) (ed_var rfl (.int _)) rfl (name (by omega))) (ea_cons (ed_ixL' (j := i2) (ed_var rfl (L2.Dp.up hn10 (b.hm hm2))) (ed_var rfl (.int _)) rfl (name (by omega))) ea_nil)))) fun H v h => ⟨_, ⟨_, rfl, .inl rfl⟩, h⟩) fun _ => ef_purew fun H1 b z => EvR.imp (EvD.r (ed_tup (K := K) (b.wd S.w z) (ea_cons (ed_ixL' (j := i2) (ed_var rfl (L2.Dp.up hn10 (b.hm hm2))) (ed_var rfl (.int _)) rfl (name (by omega))) (ea_cons (ed_ixL' (j := i1) (ed_var rfl (L2.Dp.up hn10 (b.hm hm2))) (ed_var rfl (.int _)) rfl (name (by omega))) ea_nil)))) fun H v h => ⟨_, ⟨_, rfl, .inr rfl⟩, h⟩) (upT (by omega)) (by rw [List.length_map]; omega) fun d H10 hd S10 => ?_
    · obtain ⟨i, rfl, hi⟩ := hx
      obtain ⟨j, rfl, hj⟩ := hy
      exact ⟨rfl, q _ H1 (Same.refl _) ⟨_, rfl, trivial⟩⟩
    · obtain ⟨r, rfl, hr⟩ := hd
      refine ⟨_, _, rs ++ [r], rfl, ?_, by rw [List.length_append, hrl]; rfl, fun k p r2 hk hr2 => ?_⟩
      · rw [List.map_append]
        exact S10.fed (by omega)
      · by_cases z : k < rs.length
        · rw [List.getElem?_append_left z] at hr2
          exact hro k p r2 hk hr2
        · rw [List.getElem?_append_right (by omega)] at hr2
          have : k - rs.length = 0 := by
            cases y : k - rs.length with
            | zero => rfl
            | succ m => rw [y] at hr2; cases hr2
          rw [this] at hr2
          cases hr2
          have ek : k = j := by omega
          subst ek
          rw [hbj] at hk
          cases hk
          exact hr
  rintro σ' H' ⟨y9, y10, rs, rfl, S, hrl, hro⟩
  have hroads : Dp K (Hm M H') (.ref R) (.list (rs.map roadD)) := S.c.done hmR add_sub
  have w' : Wd M H' := fun a ha => S.w a (addM_old ha)
  have hnsA : Dp K (Hm M H') v12 (.list (ns.map .str)) := L2.Dp.up (L2.Dp.up hns9 S.s) hm_less
  obtain ⟨A1, xs, rfl, hA, hallA⟩ := dp_lst hnsA
  cases dps_strs hallA
  have hpl : prs.length = rs.length := by omega
  show tRet (tTup (tCons (tCB (rTupN K) (tCons (tCall _ [] _ (tCons (tVar 0) (tCons (tVar 12) tNil))) tNil)) (tCons (tCB _ (tCons (tVar 13) tNil)) tNil))) _ _ _
  refine ef_call (M := M) (pre := preMix K) (B := 64) (B1 := 0) (post := fun xs H v => IsMix xs H v) (ns.map V.str) hm w' rfl (efa_imp (efa_cons hm up_sqV (ef_pure fun H1 b => er_var rfl up_sqV (up_sqV (K := K) (xs := ns.map V.str) _ _ _ (b.hm hm) ⟨A1, rfl, .inl hA⟩)) efa_nil) fun H v hv => ?_) (n + 145 + ys.length) H' (But.refl _ _) S.fd (upT (by omega)) _ fun v H11 b11 f11 hv => ?_
  · obtain ⟨x, r, rfl, hx, rfl⟩ := hv
    exact ⟨by rw [List.length_map]; omega, x, rfl, hx⟩
  obtain ⟨p, zs0, rfl, hp, hperm2⟩ := hv
  obtain ⟨zs, rfl, hzs⟩ := perm_map_str hperm2
  refine ⟨p, _, rfl, .of (hm_some hp).2, fun l o hl hc hd => ?_⟩
  have w11 : Wd M H11 := b11.wd' w' f11
  have hml : M l = false := w11.new hl
  have hroads12 := L2.Dp.up (L2.Dp.up hroads (b11.hm hm)) (hm_mono (same_new (o := .frz o (.tup (zs.map V.str))) hl))
  have hl12 : (Hm M (upd H11 l (.frz o (.tup (zs.map V.str))))) l = some (.frz o (.tup (zs.map V.str))) := hm_of hml upd_same
  have sl := same_new (o := .frz o (.tup (zs.map V.str))) hl
  have w12 := w11.mono sl
  generalize upd H11 l (.frz o (.tup (zs.map V.str))) = H12 at hroads12 hl12 sl w12
  refine ed_tupleOfL (K := K) (M := M) w12 (ed_var rfl hroads12) H12 (Same.refl _) _ fun y H13 e13 hy => ⟨sz_ok (Nat.le_of_ble_eq_true rfl), fun t ht => ?_⟩
  have hmt : M t = false := (w12.mono e13).new ht
  have e1314 := same_new (o := .tup [.ref l, y]) ht
  have web := web_ok (zs := zs) (rs := rs) (by omega) (by omega) nsd nsub hzs (by omega) (by omega) ((hbs.nodup_iff).mpr hnd) (fun p hp => by rw [nsl]; exact hlt p (hbs.mem_iff.mp hp)) hro
  have zl := hzs.length_eq
  refine q _ _ ((((S.b.trans b11).trans (But.of sl)).trans (But.of e13)).trans (But.of e1314)) (((f11.same (sl.trans e13)).same e1314).up (by omega)) ⟨⟨zs, rs⟩, ⟨web, by show rs.length ≤ 7; omega, by show zs.length ≤ 4; omega, fun h => by show zs.length ≤ most; have := hmany.2.2.2 h; omega, fun p hp => nsub p (hzs.mem_iff.mp hp)⟩, t, .ref l, y, rfl, .of (hm_of hmt upd_same), ⟨l, rfl, .inl (.inr ⟨o, ?_⟩), o, .tup (zs.map V.str), ?_, hc, hd⟩, PD.up hy e1314⟩
  · exact hm_mono e1314 _ _ (hm_mono e13 _ _ hl12)
  · exact hm_mono e1314 _ _ (hm_mono e13 _ _ hl12)
end
end EIT
end
/-! text L8 -/
section
set_option maxHeartbeats 4000000
/-! rules drawn. -/
namespace EIT
open PySem PySem.Spec PyProof.Rows L2
theorem canLayAll_strs : ∀ xs : List Str, (∀ x ∈ xs, PyData.strOk x = true) → PyData.canLayAll0 (xs.map .str) = true
  | [], _ => by simp [PyData.canLayAll0]
  | x :: xs, h => by
    rw [List.map_cons]
    simp only [PyData.canLayAll0, canLayAll_strs xs fun y hy => h y (List.mem_cons_of_mem _ hy), Bool.and_true]
    simp [PyData.canLay0, h x List.mem_cons_self]
theorem depthAll_strs : ∀ xs : List Str, PyData.depthAll (xs.map .str) ≤ 2
  | [] => by simp [PyData.depthAll]
  | x :: xs => by
    have := depthAll_strs xs
    rw [List.map_cons]
    have e : (PyData.str x).depth ≤ 2 := by simp [PyData.depth]
    simp only [PyData.depthAll]
    omega
theorem shaped_strs {xs : List Str} (h : ∀ x ∈ xs, NameOk x) : SeqAt.shaped (.list (xs.map .str)) = true := by
  unfold SeqAt.shaped
  rw [Bool.and_eq_true]
  refine ⟨?_, decide_eq_true ?_⟩
  · simp only [PyData.canLay0]
    exact canLayAll_strs xs fun x hx => (h x hx).str
  · have := depthAll_strs xs
    simp only [PyData.depth]
    omega
theorem eqv_nilS (xs : List Str) : PyData.eqv (.list (xs.map .str)) (.list []) = decide (xs = []) := by
  have := eqvAll_strs xs []
  rw [List.map_nil] at this
  simp only [PyData.eqv, this]
theorem shaped_nil : SeqAt.shaped (.list []) = true := by
  unfold SeqAt.shaped
  simp [PyData.canLay0, PyData.canLayAll0, PyData.depth, PyData.depthAll]
section
variable {P : Program} {w : World} {K : PySem.W.Frag} {mg : Str → Option Value} {base : Heap}
structure RuleX where
  k : Nat
  near : List Str
  sort : Str
def preRule (K : PySem.W.Frag) (x : RuleX) (H : Hp) (r : List V) : Prop := (x.k = 2 ∨ x.k = 3) ∧ x.near.length ≤ 3 ∧ (∀ p ∈ x.near, NameOk p) ∧ x.sort ≠ "quiet" ∧ ∃ v, r = [.int (x.k : Nat), v, .str x.sort] ∧ Dp K H v (.list (x.near.map .str))
def RuleP (x : RuleX) (d : PyData) : Prop := ∃ r, RuleOk x.k x.near r ∧ d = r.enc
def LtD (k : Nat) (d : PyData) : Prop := ∃ i : Nat, d = nI i ∧ i < k
theorem ltD_ints {k : Nat} : ∀ {ds : List PyData}, (∀ d ∈ ds, LtD k d) → ∃ xs : List Int, ds = xs.map .int ∧ ∀ x ∈ xs, 0 ≤ x ∧ x < k
  | [], _ => ⟨[], rfl, fun _ h => nomatch h⟩
  | d :: ds, h => by
    obtain ⟨xs, rfl, hx⟩ := ltD_ints fun x hx => h x (List.mem_cons_of_mem _ hx)
    obtain ⟨i, rfl, hi⟩ := h d List.mem_cons_self
    refine ⟨(i : Int) :: xs, rfl, fun x hx' => ?_⟩
    rcases List.mem_cons.mp hx' with z | z
    · subst z; omega
    · exact hx x z
theorem rule_table {x : RuleX} {ds : List PyData} (hl : ds.length = x.k ^ (x.near.length + 1)) (h : ∀ d ∈ ds, LtD x.k d) : RuleP x (.tuple [.str "table", .tuple ds]) := by
  obtain ⟨xs, rfl, hx⟩ := ltD_ints h
  exact ⟨.table xs, ⟨by rw [List.length_map] at hl; exact hl, hx⟩, rfl⟩
theorem rule_rows {k m : Nat} : ∀ {ds : List PyData}, (∀ d ∈ ds, ∃ es, d = .tuple es ∧ es.length = m ∧ ∀ e ∈ es, LtD k e) → ∃ rows : List (List Int), ds = rows.map intsD ∧ ∀ r ∈ rows, r.length = m ∧ ∀ x ∈ r, 0 ≤ x ∧ x < k
  | [], _ => ⟨[], rfl, fun _ h => nomatch h⟩
  | d :: ds, h => by
    obtain ⟨rows, rfl, hx⟩ := rule_rows fun x hx => h x (List.mem_cons_of_mem _ hx)
    obtain ⟨es, rfl, hl, he⟩ := h d List.mem_cons_self
    obtain ⟨xs, rfl, hxs⟩ := ltD_ints he
    refine ⟨xs :: rows, rfl, fun x hx' => ?_⟩
    rcases List.mem_cons.mp hx' with z | z
    · subst z; exact ⟨by rw [List.length_map] at hl; exact hl, hxs⟩
    · exact hx x z
theorem rule_sum {x : RuleX} {ds : List PyData} (hl : ds.length = x.k) (h : ∀ d ∈ ds, ∃ es, d = .tuple es ∧ es.length = x.near.length * (x.k - 1) + 1 ∧ ∀ e ∈ es, LtD x.k e) : RuleP x (.tuple [.str "sum", .tuple ds]) := by
  obtain ⟨rows, rfl, hx⟩ := rule_rows h
  exact ⟨.sum rows, ⟨by rw [List.length_map] at hl; exact hl, hx⟩, rfl⟩
theorem ef_six {f : Addr} {M : Mk} {σ : L2.St} {H : Hp} {P : PyData → Prop} {t1 t2 t3 t4 t5 t6 : TE} (hm : M f = true) (h1 : EvF f 0 M t1 σ H (DpP K P)) (h2 : EvF f 0 M t2 σ H (DpP K P)) (h3 : EvF f 0 M t3 σ H (DpP K P)) (h4 : EvF f 0 M t4 σ H (DpP K P)) (h5 : EvF f 1 M t5 σ H (DpP K P)) (h6 : EvF f 0 M t6 σ H (DpP K P)) :
    EvFA f 1 M (tCons t1 (tCons t2 (tCons t3 (tCons t4 (tCons t5 (tCons t6 tNil)))))) σ H (DpsP K P 6) :=
  efd_cons (B1 := 0) (B2 := 1) hm h1 (efd_cons (B1 := 0) (B2 := 1) hm h2 (efd_cons (B1 := 0) (B2 := 1) hm h3 (efd_cons (B1 := 0) (B2 := 1) hm h4 (efd_cons (B1 := 1) (B2 := 0) hm h5 (efd_cons (B1 := 0) (B2 := 0) hm h6 efd_nil)))))
theorem sc_law_rule : FnScope ["_law_feed_here", "_law_k", "_law_others", "_law_sort", "_law_way", "_law_many", "_law_other", "_law_rows", "_law_cells", "_law_turn", "_law_own", "_law_row"] ["_law_feed_here", "_law_k", "_law_others", "_law_sort"] (defScope s_law_rule) := ⟨rfl, rfl, rfl, by decide +kernel, rfl, by decide +kernel, by decide +kernel⟩
theorem ok_law_rule (T : Tx K mg) : Cal P w K mg base 3 "_law_rule" ["_law_feed_here", "_law_k", "_law_others", "_law_sort"] (spI (preRule K) 3000 fun x H v => DpP K (RuleP x) H v) := by
  refine mkI T.d_law_rule sc_law_rule (fun i H vs h => by obtain ⟨_, _, _, _, v, rfl, _⟩ := h; rfl) (fun _ _ _ _ _ _ us hl => match us, hl with | [_, _, _, _], _ => rfl) fun f cdv A outer s H Q E hr M fa n x r wd hm fd hn hp q => ?_
  obtain ⟨hk, hnl, hnames, hq, v2, rfl, h2⟩ := hp
  have h2 : Dp K (Hm M H) v2 (.list (x.near.map .str)) := h2
  have upT : ∀ {a}, a ≤ n + 3000 → a ≤ topN := fun h => Nat.le_trans h hn
  have fin : ∀ {v H' m}, But fa H H' → m ≤ n + 3000 → Feed fa m H' → DpP K (RuleP x) (Hm M H') v → Q v H' := fun b h f hv => q _ _ b (f.up h) hv
  have wdB : ∀ {H'}, But fa H H' → H' fa ≠ none → Wd M H' := fun b z => b.wd wd z
  have h2B : ∀ {H'}, But fa H H' → Dp K (Hm M H') v2 (.list (x.near.map .str)) := fun b => L2.Dp.up h2 (b.hm hm)
  have hk3 : x.k ≤ 3 := by omega
  have hk0 : 0 < x.k := by omega
  have sh := shaped_strs hnames
  refine ⟨_, (pss_cons (ps_if (pt_cmpR op_eq (pv 3) pe_str (nomark _)) (pss_one (ps_ret (pe_tup (pa_cons pe_str (pa_cons (pe_ifExp (pt_cmpR op_eq (pe_cal (ok_law_draw T) (hr.mono (by decide)) (by rfl) (pa_cons (pv 0) (pa_cons pe_int pa_nil))) pe_int (nomark _)) (pe_cal (ok_law_draw T) (hr.mono (by decide)) (by rfl) (pa_cons (pv 0) (pa_cons (pe_op op_add (pe_callB (call_len_seqK K) (by rfl) T.b_len (by decide +kernel) (pa_cons (pv 2) pa_nil)) pe_int) pa_nil))) (pe_cal (ok_law_draw T) (hr.mono (by decide)) (by rfl) (pa_cons (pv 0) (pa_cons pe_int pa_nil)))) pa_nil))))) pss_nil)
      (pss_cons (ps_if (pt_cmpR op_eq (pv 3) pe_str (nomark _)) (pss_cons (ps_set (i := 4) sc_law_rule.nd rfl (.inl rfl) (pe_cal (ok_law_draw T) (hr.mono (by decide)) (by rfl) (pa_cons (pv 0) (pa_cons pe_int pa_nil))))
      (pss_one (ps_ret (pe_ifExp (pt_cmpR op_eq (pv 4) pe_int (nomark _)) (pe_tup (pa_cons pe_str pa_nil)) (pe_ifExp (PW.pt (pw_and (pt_cmpR op_eq (pv 4) pe_int (nomark _)) (pw_and1 (pt_cmpR (op_neDK K (Nat.lt_trans (Nat.lt_succ_self _) (room65 hr))) (pv 2) (pe_lst pa_nil) (nomark _))))) (pe_tup (pa_cons pe_str (pa_cons (pe_cal (ok_law_one T) (hr.mono (by decide)) (by rfl) (pa_cons (pv 0) (pa_cons (pv 2) pa_nil))) pa_nil))) (pe_tup (pa_cons pe_str pa_nil))))))) pss_nil)
      (pss_cons (ps_set (i := 5) sc_law_rule.nd rfl (.inl rfl) pe_int)
      (pss_cons (ps_for PassesOwn.never rfl (pi_listK K (pv 2)) (pg_name (i := 6) sc_law_rule.nd rfl (.inl rfl)) (pss_one (ps_set (i := 5) sc_law_rule.nd rfl (.inl rfl) (pe_op op_mulX (pv 5) (pv 1)))))
      (pss_cons (ps_if (pt_cmpR op_eq (pv 3) pe_str (nomark _)) (pss_cons (ps_set (i := 4) sc_law_rule.nd rfl (.inl rfl) (pe_cal (ok_law_draw T) (hr.mono (by decide)) (by rfl) (pa_cons (pv 0) (pa_cons pe_int pa_nil))))
      (pss_cons (ps_if (pt_cmpR op_lt (pv 4) pe_int (nomark _)) (pss_one (ps_ret (pe_ix (ix_seqK K) (pe_lst (pa_cons (pe_tup (pa_cons pe_str pa_nil)) (pa_cons (pe_tup (pa_cons pe_str pa_nil)) (pa_cons (pe_ifExp (pt_cmpR (op_eqDK K (Nat.lt_trans (Nat.lt_succ_self _) (room65 hr))) (pv 2) (pe_lst pa_nil) (nomark _)) (pe_tup (pa_cons pe_str pa_nil)) (pe_tup (pa_cons pe_str pa_nil))) pa_nil)))) (pv 4) (fun _ _ => rfl)))) pss_nil)
      (pss_cons (ps_if (pt_cmpR op_eq (pv 4) pe_int (nomark _)) (pss_cons (ps_set (i := 7) sc_law_rule.nd rfl (.inr rfl) (pe_lc (own := [("_law_turn", 9)])  rfl sc_law_rule.nd (pi_range1 (by rfl) T.b_range (pa_cons (pe_op op_add (pe_op op_mulX (pe_callB (call_len_seqK K) (by rfl) T.b_len (by decide +kernel) (pa_cons (pv 2) pa_nil)) (pe_op op_sub (pv 1) pe_int)) pe_int) pa_nil)) (blkOk_by (N := ["_law_feed_here", "_law_k", "_law_others", "_law_sort", "_law_way", "_law_many", "_law_other", "_law_rows", "_law_cells", "_law_turn", "_law_own", "_law_row"]) (sc := defScope s_law_rule) (own := [("_law_turn", 9)]) (by decide +kernel)) (fun _ _ _ _ _ => pg_name (i := 9) sc_law_rule.nd rfl (Or.inl rfl)) (fun _ _ _ _ _ => pts_nil) (fun _ _ _ _ _ => (pe_cal (ok_law_mixed T) (hr.mono (by decide)) (by rfl) (pa_cons (pv 0) (pa_cons (pe_listRg rfl (by rfl) T.b_list (prg_1 (by rfl) T.b_range (pv 1))) pa_nil))))))
      (pss_one (ps_ret (pe_tup (pa_cons pe_str (pa_cons (pe_callTy (call_tuple_ofK K) (by rfl) T.b_tuple (by decide +kernel) (pa_cons (pe_lc (own := [("_law_own", 10)])  rfl sc_law_rule.nd (pi_range1 (by rfl) T.b_range (pa_cons (pv 1) pa_nil)) (blkOk_by (N := ["_law_feed_here", "_law_k", "_law_others", "_law_sort", "_law_way", "_law_many", "_law_other", "_law_rows", "_law_cells", "_law_turn", "_law_own", "_law_row"]) (sc := defScope s_law_rule) (own := [("_law_own", 10)]) (by decide +kernel)) (fun _ _ _ _ _ => pg_name (i := 10) sc_law_rule.nd rfl (Or.inr rfl)) (fun _ _ _ _ _ => pts_nil) (fun _ _ _ _ _ => (pe_callTy (call_tuple_ofK K) (by rfl) T.b_tuple (by decide +kernel) (pa_cons (pe_lc (own := [("_law_row", 11)])  rfl sc_law_rule.nd (pi_listK K (pv 7)) (blkOk_by (N := ["_law_feed_here", "_law_k", "_law_others", "_law_sort", "_law_way", "_law_many", "_law_other", "_law_rows", "_law_cells", "_law_turn", "_law_own", "_law_row"]) (sc := _) (own := [("_law_row", 11)]) (Eq.refl true)) (fun _ _ _ _ _ => pg_name (i := 11) sc_law_rule.nd rfl (Or.inl rfl)) (fun _ _ _ _ _ => pts_nil) (fun _ _ _ _ _ => (pe_ix (ix_seqK K) (pv 11) (pv 10) (fun _ _ => rfl)))) pa_nil)))) pa_nil)) pa_nil)))))) pss_nil)
      (pss_cons (ps_set (i := 8) sc_law_rule.nd rfl (.inl rfl) (pe_lst pa_nil))
      (pss_cons (ps_for PassesOwn.never rfl (pi_range1 (by rfl) T.b_range (pa_cons (pv 5) pa_nil)) (pg_name (i := 9) sc_law_rule.nd rfl (.inl rfl)) (pss_one (ps_expr (pe_bmK K PySem.F.plainAttrs_list PySem.F.slot_list_extend PySem.F.type_list_extend mt_extend (pv 8) (pa_cons (pe_cal (ok_law_mixed T) (hr.mono (by decide)) (by rfl) (pa_cons (pv 0) (pa_cons (pe_listRg rfl (by rfl) T.b_list (prg_1 (by rfl) T.b_range (pv 1))) pa_nil))) pa_nil)))))
      (pss_one (ps_ret (pe_tup (pa_cons pe_str (pa_cons (pe_callTy (call_tuple_ofK K) (by rfl) T.b_tuple (by decide +kernel) (pa_cons (pv 8) pa_nil)) pa_nil)))))))))) pss_nil)
      (pss_cons (ps_set (i := 4) sc_law_rule.nd rfl (.inl rfl) (pe_cal (ok_law_draw T) (hr.mono (by decide)) (by rfl) (pa_cons (pv 0) (pa_cons pe_int pa_nil))))
      (pss_cons (ps_if (pt_cmpR op_lt (pv 4) pe_int (nomark _)) (pss_one (ps_ret (pe_tup (pa_cons pe_str (pa_cons (pe_callTy (call_tuple_ofK K) (by rfl) T.b_tuple (by decide +kernel) (pa_cons (pe_lc (own := [("_law_turn", 9)])  rfl sc_law_rule.nd (pi_range1 (by rfl) T.b_range (pa_cons (pe_op op_mulX (pv 5) (pv 1)) pa_nil)) (blkOk_by (N := ["_law_feed_here", "_law_k", "_law_others", "_law_sort", "_law_way", "_law_many", "_law_other", "_law_rows", "_law_cells", "_law_turn", "_law_own", "_law_row"]) (sc := defScope s_law_rule) (own := [("_law_turn", 9)]) (by decide +kernel)) (fun _ _ _ _ _ => pg_name (i := 9) sc_law_rule.nd rfl (Or.inl rfl)) (fun _ _ _ _ _ => pts_nil) (fun _ _ _ _ _ => (pe_cal (ok_law_draw T) (hr.mono (by decide)) (by rfl) (pa_cons (pv 0) (pa_cons (pv 1) pa_nil))))) pa_nil)) pa_nil))))) pss_nil)
      (pss_cons (ps_if (pt_cmpR op_eq (pv 4) pe_int (nomark _)) (pss_one (ps_ret (pe_tup (pa_cons pe_str (pa_cons (pe_callTy (call_tuple_ofK K) (by rfl) T.b_tuple (by decide +kernel) (pa_cons (pe_lc (own := [("_law_own", 10)])  rfl sc_law_rule.nd (pi_range1 (by rfl) T.b_range (pa_cons (pv 1) pa_nil)) (blkOk_by (N := ["_law_feed_here", "_law_k", "_law_others", "_law_sort", "_law_way", "_law_many", "_law_other", "_law_rows", "_law_cells", "_law_turn", "_law_own", "_law_row"]) (sc := defScope s_law_rule) (own := [("_law_own", 10)]) (by decide +kernel)) (fun _ _ _ _ _ => pg_name (i := 10) sc_law_rule.nd rfl (Or.inl rfl)) (fun _ _ _ _ _ => pts_nil) (fun _ _ _ _ _ => (pe_callTy (call_tuple_ofK K) (by rfl) T.b_tuple (by decide +kernel) (pa_cons (pe_lc (own := [("_law_turn", 9)])  rfl sc_law_rule.nd (pi_range1 (by rfl) T.b_range (pa_cons (pe_op op_add (pe_op op_mulX (pe_callB (call_len_seqK K) (by rfl) T.b_len (by decide +kernel) (pa_cons (pv 2) pa_nil)) (pe_op op_sub (pv 1) pe_int)) pe_int) pa_nil)) (blkOk_by (N := ["_law_feed_here", "_law_k", "_law_others", "_law_sort", "_law_way", "_law_many", "_law_other", "_law_rows", "_law_cells", "_law_turn", "_law_own", "_law_row"]) (sc := _) (own := [("_law_turn", 9)]) (Eq.refl true)) (fun _ _ _ _ _ => pg_name (i := 9) sc_law_rule.nd rfl (Or.inl rfl)) (fun _ _ _ _ _ => pts_nil) (fun _ _ _ _ _ => (pe_cal (ok_law_draw T) (hr.mono (by decide)) (by rfl) (pa_cons (pv 0) (pa_cons (pv 1) pa_nil))))) pa_nil)))) pa_nil)) pa_nil))))) pss_nil)
      (pss_cons (ps_if (PW.pt (pw_and (pt_cmpR op_eq (pv 4) pe_int (nomark _)) (pw_and1 (pt_cmpR (op_neDK K (Nat.lt_trans (Nat.lt_succ_self _) (room65 hr))) (pv 2) (pe_lst pa_nil) (nomark _))))) (pss_one (ps_ret (pe_tup (pa_cons pe_str (pa_cons (pe_cal (ok_law_one T) (hr.mono (by decide)) (by rfl) (pa_cons (pv 0) (pa_cons (pv 2) pa_nil))) pa_nil))))) pss_nil)
      (pss_one (ps_ret (pe_ix (ix_seqK K) (pe_lst (pa_cons (pe_tup (pa_cons pe_str pa_nil)) (pa_cons (pe_tup (pa_cons pe_str pa_nil)) (pa_cons (pe_tup (pa_cons pe_str pa_nil)) (pa_cons (pe_tup (pa_cons pe_str pa_nil)) (pa_cons (pe_tup (pa_cons pe_str (pa_cons (pe_cal (ok_law_draw T) (hr.mono (by decide)) (by rfl) (pa_cons (pv 0) (pa_cons pe_int pa_nil))) pa_nil))) (pa_cons (pe_tup (pa_cons pe_str pa_nil)) pa_nil))))))) (pe_op op_sub (pv 4) pe_int) (fun _ _ => rfl))))))))))))), ?_⟩
  refine q_no (EvT.eq (et_test (ed_eqS (K := K) (M := M) (ed_var rfl (.str _)) ed_str)) (decide_eq_false hq)) fun H1 e1 => ?_
  have fd1 := fd.same e1
  have b1 : But fa H H1 := But.of e1
  have w1 := wd.mono e1
  clear e1
  refine q_if (b := decide (x.sort = "adding")) (et_test (ed_eqS (K := K) (M := M) (ed_var rfl (.str _)) ed_str)) (fun hb H2 e2 => ?_) fun hb H2 e2 => ?_
  · have b2 := b1.trans (But.of e2)
    refine q_asgF (M := M) (B := 1) (fd1.same e2) (upT (by omega)) (ef_draw (K := K) (m := 4) hm (w1.mono e2) rfl (fun _ _ => ed_int) (by decide) (by decide)) fun v4 H3 b3 f3 h4 => ?_
    obtain ⟨way, rfl, hway⟩ := h4
    have b23 := b2.trans b3
    have w3 := wdB b23 f3.there
    refine s_retF (M := M) (B := 1) (R := DpP K (RuleP x)) f3 (upT (by omega)) (ef_ifp (b := decide (way = 0)) (fun H1 b _ => et_test ((ed_eqI (K := K) (M := M) (ed_var rfl (.int _)) ed_int).eq (by simp))) (fun hb => ?_) fun hb => ?_) fun v H4 b4 f4 hv => fin (b23.trans b4) (by omega) f4 hv
    · exact ef_le (ef_dp (fun H1 b z => ed_tup (b.wd w3 z) (ea_cons ed_str ea_nil)) ⟨.keep, trivial, rfl⟩) (by decide)
    · refine ef_ifp (b := decide (way = 1) && !decide (x.near = [])) (fun H1 b z => et_and (et_test ((ed_eqI (K := K) (M := M) (ed_var rfl (.int _)) ed_int).eq (by simp; omega))) fun _ => et_test ((ed_neD (ed_var rfl (h2B (b23.trans b))) (ed_lst (b.wd w3 z) ea_nil) sh shaped_nil).eq (by rw [eqv_nilS]))) (fun hb => ?_) fun hb => ?_
      · have hne : x.near ≠ [] := by simpa using (Bool.and_eq_true_iff.mp hb).2
        refine ef_dpi (ef_tupS hm w3 (ef_oneS (ns := x.near) hm w3 rfl (fun H1 b z => ed_var rfl (h2B (b23.trans b))) (List.length_pos_iff.mpr hne) (by omega))) fun d ⟨y, ⟨z, hz, e⟩, e2⟩ => ?_
        subst e; subst e2
        exact ⟨.copy z, hz, rfl⟩
      · exact ef_le (ef_dp (fun H1 b z => ed_tup (b.wd w3 z) (ea_cons ed_str ea_nil)) ⟨.odd, trivial, rfl⟩) (by decide)
  have b2 := b1.trans (But.of e2)
  have fd2 := fd1.same e2
  have w2 := w1.mono e2
  clear e2
  refine q_asg (K := K) (M := M) (d := nI 1) ed_int fun v5 H3 e3 h5 => ?_
  cases dp_int h5
  have b3 := b2.trans (But.of e3)
  have fd3 := fd2.same e3
  have w3 := w2.mono e3
  clear e3 h5
  refine q_for (K := K) (M := M) (src_list (ed_var rfl (h2B b3))) fun H4 e4 => ⟨fun i σ' H' => ∃ y6, σ' = [some (.ref fa), some (.int (x.k : Nat)), some v2, some (.str x.sort), none, some (.int ((x.k ^ i : Nat) : Int)), y6, none, none, none, none, none] ∧ Same H4 H', ⟨none, rfl, Same.refl _⟩, (by rintro i σ' H' ⟨y6, rfl, e⟩; exact ⟨hm_mono e, (w3.mono e4).mono e⟩), ?_, ?_⟩
  · rintro i d y σ' H' H'' hd ⟨y6, rfl, e⟩ e5 hy
    have hi : i < x.near.length := by
      obtain ⟨z, _⟩ := List.getElem?_eq_some_iff.mp hd
      rw [List.length_map] at z; exact z
    have hpw : x.k ^ i < 2 ^ 15 := Nat.lt_of_le_of_lt (pow_small hk3 (by omega)) (by decide)
    dsimp only [gName]
    refine s_asg (K := K) (M := M) (ed_mulN (ed_var rfl (.int _)) (ed_var rfl (.int _)) hpw (by omega : x.k < 2 ^ 2) (by decide)) fun v H6 e6 hv => ⟨some y, ?_, (e.trans e5).trans e6⟩
    cases dp_int hv
    rw [Nat.pow_succ]
    rfl
  rintro σ' H' ⟨y6, rfl, e⟩
  rw [List.length_map]
  have b4 := b3.trans (But.of (e4.trans e))
  have fd4 := fd3.same (e4.trans e)
  have w4 := w3.mono (e4.trans e)
  clear e e4
  have hmany : x.k ^ x.near.length ≤ 27 := Nat.le_trans (Nat.pow_le_pow_left hk3 _) (Nat.le_trans (Nat.pow_le_pow_right (by decide) hnl) (by decide))
  have hsuc : x.k ^ (x.near.length + 1) = x.k ^ x.near.length * x.k := Nat.pow_succ ..
  have hmk : x.k ^ x.near.length * x.k ≤ 81 := Nat.le_trans (Nat.mul_le_mul hmany hk3) (by decide)
  have hrw : x.near.length * (x.k - 1) + 1 ≤ 7 := Nat.add_le_add_right (Nat.mul_le_mul hnl (by omega : x.k - 1 ≤ 2)) 1
  have rowsE : ∀ {M : Mk} {σ : L2.St} {H1 : Hp}, Dp K (Hm M H1) v2 (.list (x.near.map .str)) → σ[2]? = some (some v2) → σ[1]? = some (some (.int (x.k : Nat))) → EvD K M (tOp (rI0 fun i j => V.int (i + j)) (tOp (rI CMulX fun i j => V.int (i * j)) (tCB (fun xs H Q => ∃ p ys, xs = [.ref p] ∧ (SqL K H p ys ∨ SqT K H p ys) ∧ Q (.int ys.length) H) (tCons (tVar 2) tNil)) (tOp (rI0 fun i j => V.int (i - j)) (tVar 1) (tC (.int 1)))) (tC (.int 1))) σ H1 (nI (x.near.length * (x.k - 1) + 1)) := fun b g1 g2 =>
    ed_addN (b := 1) (ed_mulN (a := x.near.length) (b := x.k - 1) ((ed_lenL (ed_var g1 b)).eq (by rw [List.length_map]; rfl)) ((ed_I0 (ed_var g2 (.int _)) ed_int).eq (by show PyData.int _ = PyData.int _; congr 1; omega)) (by omega : x.near.length < 2 ^ 2) (by omega : x.k - 1 < 2 ^ 2) (by decide)) ed_int
  refine q_if (b := decide (x.sort = "undone")) (et_test (ed_eqS (K := K) (M := M) (ed_var rfl (.str _)) ed_str)) (fun hb H5 e5 => ?_) fun hb H5 e5 => ?_
  · have b5 := b4.trans (But.of e5)
    have fd5 := fd4.same e5
    have w5 := w4.mono e5
    clear e5
    refine q_asgF (M := M) (B := 1) fd5 (upT (by omega)) (ef_draw (K := K) (m := 6) hm w5 rfl (fun _ _ => ed_int) (by decide) (by decide)) fun v4 H6 b6 f6 h4 => ?_
    obtain ⟨way, rfl, hway⟩ := h4
    have b6 := b5.trans b6
    have w6 := wdB b6 f6.there
    refine q_if (b := decide (way < 3)) (et_test (EvD.eq (K := K) (M := M) (ed_IB (g := fun i j => decide (i < j)) (ed_var rfl (.int _)) ed_int) (by simp; omega))) (fun hb H7 e7 => ?_) fun hb H7 e7 => ?_
    · have hb := of_decide_eq_true hb
      have b7 := b6.trans (But.of e7)
      have w7 := w6.mono e7
      refine s_retF (M := M) (B := 0) (R := DpP K (RuleP x)) (f6.same e7) (upT (by omega)) (ef_le (ef_ixP (m := 3) hm (ef_lstP w7 (efd_cons hm (ef_dp (fun H1 b z => ed_tup (b.wd w7 z) (ea_cons ed_str ea_nil)) ⟨.odd, trivial, rfl⟩) (efd_cons hm (ef_dp (fun H1 b z => ed_tup (b.wd w7 z) (ea_cons ed_str ea_nil)) ⟨.keep, trivial, rfl⟩) (efd_cons (B1 := 0) hm (ef_ifp (b := decide (x.near = [])) (fun H1 b z => et_test ((ed_eqD (ed_var rfl (h2B (b7.trans b))) (ed_lst (b.wd w7 z) ea_nil) sh shaped_nil).eq (by rw [eqv_nilS]))) (fun _ => ef_dp (fun H1 b z => ed_tup (b.wd w7 z) (ea_cons ed_str ea_nil)) ⟨.least, trivial, rfl⟩) fun _ => ef_dp (fun H1 b z => ed_tup (b.wd w7 z) (ea_cons ed_str ea_nil)) ⟨.odd, trivial, rfl⟩) efd_nil))) (by decide)) (ef_natP (K := K) (i := way) (fun _ _ => ed_var rfl (.int _)) hb)) (by decide)) fun v H8 b8 f8 hv => fin (b7.trans b8) (by omega) f8 hv
    have b7 := b6.trans (But.of e7)
    have w7 := w6.mono e7
    have f7 := f6.same e7
    clear e7 b6 w6 f6
    refine q_if (b := decide (way = 3)) (et_test ((ed_eqI (K := K) (M := M) (ed_var rfl (.int _)) ed_int).eq (by simp; omega))) (fun hb H8 e8 => ?_) fun hb H8 e8 => ?_
    · have b8 := b7.trans (But.of e8)
      have w8 := w7.mono e8
      show tSeq _ _ _ _ _
      refine q_asgF (M := M) (B := 7 * 64) (f7.same e8) (upT (by omega)) (ef_le (ef_map (xs := List.range (x.near.length * (x.k - 1) + 1)) (enc := fun i : Nat => PyData.int (i : Nat)) (B := 64) (G := fun d => ∃ l : List Nat, l.Perm (List.range x.k) ∧ d = .list (l.map nI)) hm w8 (fun H1 b z => src_rng (K := K) (ea_cons (rowsE (h2B (b8.trans b)) rfl rfl) ea_nil) rfl (by omega)) (by rw [List.length_range]; omega) (fun _ => rfl) fun a ha M' H1 v sub s1 wd' hv => ?_) (by rw [List.length_range]; exact Nat.mul_le_mul_right _ hrw)) fun v7 H9 b9 f9 h7 => ?_
      · refine ef_imp (ef_mixR (K := K) (k := x.k) (sub _ hm) wd' rfl (fun _ _ => ed_var rfl (.int _)) (by omega)) fun H v hv => ?_
        obtain ⟨l, p, rfl, hl, hp⟩ := hv
        exact ⟨_, ⟨l, hl, rfl⟩, .lst (.of hp) (dps_nats l)⟩
      obtain ⟨d, ⟨ds, rfl, hdl, hds⟩, h7⟩ := h7
      obtain ⟨ls, rfl, hls⟩ := lists_of hds
      rw [List.length_map, List.length_range] at hdl
      have b9 := b8.trans b9
      have w9 := wdB b9 f9.there
      refine s_ret (ed_tup w9 (ea_cons ed_str (ea_cons (ed_tupleOfL w9 (ed_map (xs := List.range x.k) (enc := fun i : Nat => PyData.int (i : Nat)) (r := fun own => .tuple (ls.map fun l => nI (l[own]?.getD 0))) w9 (src_rng (ea_cons (ed_var rfl (.int _)) ea_nil) rfl (by omega)) (by rw [List.length_range]; omega) (fun _ => rfl) fun own hown M' H1 v e1 e2 wd' hv => ?_)) ea_nil))) fun v H10 e10 hv => fin (b9.trans (But.of e10)) (by omega) (f9.same e10) ⟨_, rule_sum (ds := (List.range x.k).map fun own => .tuple (ls.map fun l => nI (l[own]?.getD 0))) (by rw [List.length_map, List.length_range]) (fun d hd => ?_), hv⟩
      · have hown := List.mem_range.mp hown
        refine ed_tupleOfL wd' (ed_map (xs := ls) (enc := fun l => .list (l.map nI)) (r := fun l => nI (l[own]?.getD 0)) wd' (src_list (ed_var rfl (L2.Dp.up h7 e2))) (by omega) (fun _ => rfl) fun l hl M2 H2 v2 e3 e4 wd2 hv2 => ?_)
        have hll : own < l.length := by rw [(hls l hl).length_eq, List.length_range]; exact hown
        exact ed_ixL' (j := own) (ed_var rfl hv2) (ed_var rfl (L2.Dp.up hv e4)) rfl (by rw [List.getElem?_map, List.getElem?_eq_getElem hll]; rfl)
      · obtain ⟨own, hown, rfl⟩ := List.mem_map.mp hd
        have hown := List.mem_range.mp hown
        refine ⟨_, rfl, by rw [List.length_map, hdl], fun e he => ?_⟩
        obtain ⟨l, hl, rfl⟩ := List.mem_map.mp he
        have hll : own < l.length := by rw [(hls l hl).length_eq, List.length_range]; exact hown
        refine ⟨_, rfl, ?_⟩
        rw [List.getElem?_eq_getElem hll]
        exact ltD_range (hls l hl) _ (List.getElem_mem hll)
    have b8 := b7.trans (But.of e8)
    have w8 := w7.mono e8
    have f8 := f7.same e8
    clear e8 b7 w7 f7
    show tSeq _ _ _ _ _
    refine q_newS (K := K) hm w8 f8 b8 fun L H9 e9 hL hne hLs S => ?_
    have hmL : M L = false := (w8.mono e9).new hL
    have hm1 : addM M L fa = true := addM_old hm
    generalize upd H9 L (.lst []) = H10 at S
    show tSeq _ _ _ _ _
    refine q_for (K := K) (M := addM M L) (src_rng (n := x.k ^ x.near.length) (ea_cons (ed_var rfl (.int _)) ea_nil) rfl (by omega)) fun H11 e11 => ⟨fun i σ' H' => ∃ (y9 : Option V) (out : List PyData), σ' = [some (.ref fa), some (.int (x.k : Nat)), some v2, some (.str x.sort), some (.int (way : Nat)), some (.int ((x.k ^ x.near.length : Nat) : Int)), y6, none, some (.ref L), y9, none, none] ∧ Sit K (addM M L) fa L H H11 H' (n + 1 + 64 * i) out ∧ out.length = i * x.k ∧ ∀ d ∈ out, LtD x.k d, ⟨none, [], rfl, ((S.up e11).re).fed (by omega), (by rw [Nat.zero_mul]; rfl), (fun _ h => nomatch h)⟩, (by rintro i σ' H' ⟨y9, out, rfl, S, _⟩; exact ⟨S.s, S.w⟩), ?_, ?_⟩
    · rintro i d y σ' H' H'' hd ⟨y9, out, rfl, S, hol, hod⟩ e5 hy
      have hi : i < x.k ^ x.near.length := by
        obtain ⟨z, _⟩ := List.getElem?_eq_some_iff.mp hd
        rw [List.length_map, List.length_range] at z; exact z
      have S := S.up e5
      have hik : i * x.k ≤ 27 * 3 := Nat.mul_le_mul (by omega) hk3
      show tDrop _ _ _ _
      refine s_extF (B := 64) (P := fun es => es.length = x.k ∧ ∀ d ∈ es, LtD x.k d) S hm1 hne hLs (ev_var rfl) (ef_imp (ef_mixR (K := K) (k := x.k) hm1 S.w rfl (fun _ _ => ed_var rfl (.int _)) (by omega)) fun H v hv => ?_) (upT (by omega)) (fun es h => by omega) fun es H12 ⟨g1, g2⟩ S12 => ⟨some y, _, rfl, S12.fed (by omega), by rw [List.length_append, hol, g1, Nat.succ_mul], fun d hd => ?_⟩
      · obtain ⟨l, p, rfl, hl, hp⟩ := hv
        refine ⟨p, _, l.map nI, rfl, hp, dps_nats l, by rw [List.length_map, hl.length_eq, List.length_range], fun d hd => ?_⟩
        obtain ⟨z, hz, rfl⟩ := List.mem_map.mp hd
        exact ⟨z, rfl, ltD_range hl z hz⟩
      · rcases List.mem_append.mp hd with z | z
        · exact hod d z
        · exact g2 d z
    rintro σ' H' ⟨y9, out, rfl, S, hol, hod⟩
    rw [List.length_map, List.length_range] at hol S
    have hc : Dp K (Hm M H') (.ref L) (.list out) := S.c.done hmL add_sub
    have w' : Wd M H' := fun a ha => S.w a (addM_old ha)
    exact s_ret (ed_tup w' (ea_cons ed_str (ea_cons (ed_tupleOfL w' (ed_var rfl hc)) ea_nil))) fun v H12 e12 hv => fin (S.b.trans (But.of e12)) (by omega) (S.fd.same e12) ⟨_, rule_table (by rw [hol, hsuc]) hod, hv⟩
  have b5 := b4.trans (But.of e5)
  have fd5 := fd4.same e5
  have w5 := w4.mono e5
  clear e5
  refine q_asgF (M := M) (B := 1) fd5 (upT (by omega)) (ef_draw (K := K) (m := 10) hm w5 rfl (fun _ _ => ed_int) (by decide) (by decide)) fun v4 H6 b6 f6 h4 => ?_
  obtain ⟨way, rfl, hway⟩ := h4
  have b6 := b5.trans b6
  have w6 := wdB b6 f6.there
  refine q_if (b := decide (way < 3)) (et_test (EvD.eq (K := K) (M := M) (ed_IB (g := fun i j => decide (i < j)) (ed_var rfl (.int _)) ed_int) (by simp; omega))) (fun hb H7 e7 => ?_) fun hb H7 e7 => ?_
  · have b7 := b6.trans (But.of e7)
    have w7 := w6.mono e7
    refine s_retF (M := M) (B := 81) (f6.same e7) (upT (by omega)) (ef_tupS hm w7 (ef_le (ef_tupleL hm w7 (ef_map (xs := List.range (x.k ^ x.near.length * x.k)) (enc := fun i : Nat => PyData.int (i : Nat)) (B := 1) (G := LtD x.k) hm w7 (fun H1 b z => src_rng (K := K) (ea_cons (ed_mulN (ed_var rfl (.int _)) (ed_var rfl (.int _)) (by omega : x.k ^ x.near.length < 2 ^ 5) (by omega : x.k < 2 ^ 2) (by decide)) ea_nil) rfl (by omega)) (by rw [List.length_range]; omega) (fun _ => rfl) fun a ha M' H1 v sub s1 wd' hv => ?_)) (by rw [List.length_range]; omega))) fun v H8 b8 f8 hv => fin (b7.trans b8) (by omega) f8 ?_
    · exact ef_imp (ef_draw (K := K) (m := x.k) (sub _ hm) wd' rfl (fun _ _ => ed_var rfl (.int _)) (by omega) (by omega)) fun H v ⟨j, e, hj⟩ => ⟨nI j, ⟨j, rfl, hj⟩, by rw [e]; exact .int _⟩
    · obtain ⟨d, ⟨y, ⟨ds, rfl, h1, h2⟩, rfl⟩, hv⟩ := hv
      exact ⟨_, rule_table (by rw [h1, List.length_range, hsuc]) h2, hv⟩
  have b7 := b6.trans (But.of e7)
  have w7 := w6.mono e7
  have f7 := f6.same e7
  have hb3 := of_decide_eq_false hb
  clear e7 b6 w6 f6
  refine q_if (b := decide (way = 3)) (et_test ((ed_eqI (K := K) (M := M) (ed_var rfl (.int _)) ed_int).eq (by simp; omega))) (fun hb H8 e8 => ?_) fun hb H8 e8 => ?_
  · have b8 := b7.trans (But.of e8)
    have w8 := w7.mono e8
    refine s_retF (M := M) (B := 21) (f7.same e8) (upT (by omega)) (ef_tupS hm w8 (ef_le (ef_tupleL hm w8 (ef_map (xs := List.range x.k) (enc := fun i : Nat => PyData.int (i : Nat)) (B := 7) (G := fun d => ∃ es, d = .tuple es ∧ es.length = x.near.length * (x.k - 1) + 1 ∧ ∀ e ∈ es, LtD x.k e) hm w8 (fun H1 b z => src_rng (K := K) (ea_cons (ed_var rfl (.int _)) ea_nil) rfl (by omega)) (by rw [List.length_range]; omega) (fun _ => rfl) fun a ha M' H1 v sub s1 wd' hv => ?_)) (by rw [List.length_range]; omega))) fun v H9 b9 f9 hv => fin (b8.trans b9) (by omega) f9 ?_
    · refine ef_dpi (ef_le (ef_tupleL (sub _ hm) wd' (ef_map (xs := List.range (x.near.length * (x.k - 1) + 1)) (enc := fun i : Nat => PyData.int (i : Nat)) (B := 1) (G := LtD x.k) (sub _ hm) wd' (fun H2 b z => src_rng (K := K) (ea_cons (rowsE (L2.Dp.up (L2.Dp.up (h2B b8) s1) (b.hm (sub _ hm))) rfl rfl) ea_nil) rfl (by omega)) (by rw [List.length_range]; omega) (fun _ => rfl) fun a ha M2 H2 v sub2 s2 wd2 hv => ?_)) (by rw [List.length_range]; omega)) fun d ⟨es, e, h1, h2⟩ => ⟨es, e, by rw [h1, List.length_range], h2⟩
      · exact ef_imp (ef_draw (K := K) (m := x.k) (sub2 _ (sub _ hm)) wd2 rfl (fun _ _ => ed_var rfl (.int _)) (by omega) (by omega)) fun H v ⟨j, e, hj⟩ => ⟨nI j, ⟨j, rfl, hj⟩, by rw [e]; exact .int _⟩
    · obtain ⟨d, ⟨y, ⟨ds, rfl, h1, h2⟩, rfl⟩, hv⟩ := hv
      exact ⟨_, rule_sum (by rw [h1, List.length_range]) h2, hv⟩
  have b8 := b7.trans (But.of e8)
  have w8 := w7.mono e8
  have f8 := f7.same e8
  have hb4 := of_decide_eq_false hb
  clear e8 b7 w7 f7
  refine q_if (b := decide (way = 4) && !decide (x.near = [])) (et_and (et_test ((ed_eqI (K := K) (M := M) (ed_var rfl (.int _)) ed_int).eq (by simp; omega))) fun _ => et_test ((ed_neD (ed_var rfl (h2B b8)) (ed_lst w8 ea_nil) sh shaped_nil).eq (by rw [eqv_nilS]))) (fun hb H9 e9 => ?_) fun hb H9 e9 => ?_
  · have b9 := b8.trans (But.of e9)
    have w9 := w8.mono e9
    have hne : x.near ≠ [] := by simpa using (Bool.and_eq_true_iff.mp hb).2
    refine s_retF (M := M) (B := 1) (R := DpP K (RuleP x)) (f8.same e9) (upT (by omega)) (ef_dpi (ef_tupS hm w9 (ef_oneS (ns := x.near) hm w9 rfl (fun H1 b z => ed_var rfl (h2B (b9.trans b))) (List.length_pos_iff.mpr hne) (by omega))) fun d ⟨y, ⟨z, hz, e⟩, e2⟩ => ?_) fun v H10 b10 f10 hv => fin (b9.trans b10) (by omega) f10 hv
    subst e; subst e2
    exact ⟨.copy z, hz, rfl⟩
  have b9 := b8.trans (But.of e9)
  have w9 := w8.mono e9
  have pl : ∀ {σ : L2.St} {c : Str} {r : Rule}, RuleOk x.k x.near r → r.enc = .tuple [.str c] → EvF fa 0 M (tTup (tCons (tC (.str c)) tNil)) σ H9 (DpP K (RuleP x)) := fun {σ c r} h e => ef_dp (fun H1 b z => ed_tup (b.wd w9 z) (ea_cons ed_str ea_nil)) ⟨r, h, e.symm⟩
  refine s_retF (M := M) (B := 1) (R := DpP K (RuleP x)) (f8.same e9) (upT (by omega)) (ef_ixP (m := 6) (B1 := 1) (B2 := 0) hm (ef_lstP w9 (ef_six hm (pl (r := .keep) trivial rfl) (pl (r := .least) trivial rfl) (pl (r := .greatest) trivial rfl) (pl (r := .odd) trivial rfl) (ef_dpi (ef_tupS (P := LtD 10) hm w9 (ef_imp (ef_draw (K := K) (m := 10) hm w9 rfl (fun _ _ => ed_int) (by decide) (by decide)) fun H v ⟨j, e, hj⟩ => ⟨nI j, ⟨j, rfl, hj⟩, by rw [e]; exact .int _⟩)) fun d ⟨y, ⟨j, e1, hj⟩, e2⟩ => ?_) (pl (r := .least) trivial rfl)) (by decide)) (ef_natP (K := K) (i := way - 4) (fun _ _ => (ed_I0 (ed_var rfl (.int _)) ed_int).eq (by show PyData.int _ = PyData.int _; congr 1; omega)) (by omega))) fun v H10 b10 f10 hv => fin (b9.trans b10) (by omega) f10 hv
  subst e1; subst e2
  exact ⟨.most j, ⟨by omega, by omega⟩, rfl⟩
end
end EIT
end
/-! text L9 -/
section
set_option maxHeartbeats 4000000
/-! halls drawn. -/
namespace EIT
open PySem PySem.Spec PyProof.Rows L2
/-- rules for a web, all right -/
def RulesP (k : Nat) (web : Web) (d : PyData) : Prop := ∃ rules : List Rule, d = .tuple (rules.map Rule.enc) ∧ rules.length = web.ps.length ∧ ∀ (i : Nat) p r, web.ps[i]? = some p → rules[i]? = some r → RuleOk k (nbs web p) r
theorem rules_of {k : Nat} {web : Web} {ds : List PyData} (hl : ds.length = web.ps.length) (h : ∀ (i : Nat) d, ds[i]? = some d → ∃ p, web.ps[i]? = some p ∧ RuleP ⟨k, nbs web p, ""⟩ d) : RulesP k web (.tuple ds) := by
  have key : ∀ {ds : List PyData} {F : Nat → Rule → Prop}, (∀ (i : Nat) d, ds[i]? = some d → ∃ r, F i r ∧ d = r.enc) → ∃ rules : List Rule, ds = rules.map Rule.enc ∧ ∀ (i : Nat) r, rules[i]? = some r → F i r := fun {ds} => by
    induction ds with
    | nil => exact fun _ => ⟨[], rfl, fun i r h => by cases h⟩
    | cons d ds ih =>
      intro F h
      obtain ⟨r, hr, e⟩ := h 0 d rfl
      obtain ⟨rules, e2, h2⟩ := ih (F := fun i r => F (i + 1) r) fun i d hd => h (i + 1) d hd
      refine ⟨r :: rules, by rw [List.map_cons, e, e2], fun i r' hi => ?_⟩
      cases i with
      | zero => cases hi; exact hr
      | succ i => exact h2 i r' hi
  obtain ⟨rules, rfl, h2⟩ := key (ds := ds) (F := fun i r => ∃ p, web.ps[i]? = some p ∧ RuleOk k (nbs web p) r) fun i d hd => by
    obtain ⟨p, hp, r, hr, e⟩ := h i d hd
    exact ⟨r, ⟨p, hp, hr⟩, e⟩
  refine ⟨rules, rfl, by rw [List.length_map] at hl; exact hl, fun i p r hp hr => ?_⟩
  obtain ⟨p', hp', h3⟩ := h2 i r hr
  rw [hp] at hp'
  cases hp'
  exact h3
section
variable {P : Program} {w : World} {K : PySem.W.Frag} {mg : Str → Option Value} {base : Heap}
theorem nbs_three {web : Web} (ok : WebOk web) (h4 : web.ps.length ≤ 4) {p : Str} (hp : p ∈ web.ps) : (nbs web p).length ≤ 3 := by
  have h : (nbs web p).Sublist web.ps := List.filter_sublist
  have hn : ¬ p ∈ nbs web p := fun hm => by
    have := (List.mem_filter.mp hm).2
    unfold adj at this
    rw [Bool.or_eq_true, decide_eq_true_iff] at this
    rcases this with z | z
    · exact (ok.road _ z).2.2 rfl
    · exact (ok.road _ z).2.2 rfl
  have hl := h.length_le
  by_cases e : (nbs web p).length = web.ps.length
  · exact absurd hp (by rw [← h.eq_of_length e]; exact hn)
  · omega
/-- tuple([rule(feed, k, neighbours(web, place), sort) for place in web[0]]) -/
theorem ef_rules {f : Addr} {M : Mk} {σ : L2.St} {H : Hp} {E1 E2 : XK} {ik iw is j : Nat} {vs : List Nat} {k : Nat} {web : Web} {sort : Str} {v : V} (hm : M f = true) (wd : Wd M H) (hk : k = 2 ∨ k = 3) (ok : WebOk web) (h4 : web.ps.length ≤ 4) (hq : sort ≠ "quiet")
    (hv : Dp K (Hm M H) v web.enc) (sw : σ[iw]? = some (some v)) (hw : ∀ x, wipe ((wipe σ vs).set j (some x)) vs = wipe σ vs)
    (g0 : ∀ x, ((wipe σ vs).set j (some x))[0]? = some (some (.ref f))) (gk : ∀ x, ((wipe σ vs).set j (some x))[ik]? = some (some (.int (k : Nat)))) (gw : ∀ x, ((wipe σ vs).set j (some x))[iw]? = some (some v)) (gs : ∀ x, ((wipe σ vs).set j (some x))[is]? = some (some (.str sort))) (gj : ∀ x, ((wipe σ vs).set j (some x))[j]? = some (some x)) :
    EvF f (4 * 3000) M (tCB (fun xs H Q => ∃ p ys, xs = [V.ref p] ∧ ((SqL K H p ys ∧ ∀ l, H l = none → Q (.ref l) (upd H l (.tup ys))) ∨ (SqT K H p ys ∧ Q (.ref p) H))) (tCons (tLc (iTup K (tOp (rIx K) (tVar iw) (tC (.int 0)))) (gName j) tYes (tCall (spI (preRule K) 3000 fun x H v => DpP K (RuleP x) H v) [] E1 (tCons (tVar 0) (tCons (tVar ik) (tCons (tCall (spF K (ι := Web × Str) (fun x => [x.1.enc, .str x.2]) (fun x => WebOk x.1 ∧ x.2 ∈ x.1.ps) (fun x => .list ((nbs x.1 x.2).map .str))) [] E2 (tCons (tVar iw) (tCons (tVar j) tNil))) (tCons (tVar is) tNil))))) vs) tNil)) σ H (DpP K (RulesP k web)) := by
  refine ef_tupleD hm wd (ef_dpi (ef_le (ef_mapI (K := K) (xs := web.ps) (enc := .str) (B := 3000) (G := fun i d => ∃ p, web.ps[i]? = some p ∧ RuleP ⟨k, nbs web p, ""⟩ d) hm wd (fun H1 b z => src_tup (ed_ixT' (j := 0) (ed_var sw (L2.Dp.up hv (b.hm hm))) ed_int rfl rfl)) (by omega) hw fun i p hp M' H1 x sub s wd' hx => ?_) (Nat.mul_le_mul_right _ h4)) fun d ⟨ds, e, h1, h2⟩ => ⟨ds, e, rules_of h1 h2⟩)
  have hpm := List.mem_of_getElem? hp
  have hv' := L2.Dp.up hv s
  refine ef_imp (R := fun H v => DpP K (RuleP ⟨k, nbs web p, sort⟩) H v) (B := 0 + 3000) (ef_call (B1 := 0) (pre := preRule K) (post := fun x H v => DpP K (RuleP x) H v) ⟨k, nbs web p, sort⟩ (sub _ hm) wd' (g0 x) (efa_imp (efa_cons (R := fun _ v => v = .int (k : Nat)) (sub _ hm) (fun _ _ _ _ h => h) (ef_pure fun H2 b => er_nat (K := K) (ed_var (gk x) (.int _))) (efa_cons (R := fun H v => Dp K H v (.list ((nbs web p).map .str))) (sub _ hm) up_dp (ef_purew fun H2 b z => EvD.r (d := .list ((nbs web p).map .str)) (ed_call (K := K) (ι := Web × Str) (args := fun x => [x.1.enc, .str x.2]) (pre := fun x => WebOk x.1 ∧ x.2 ∈ x.1.ps) (res := fun x => .list ((nbs x.1 x.2).map .str)) (web, p) (b.wd wd' z) (ea_cons (ed_var (gw x) (L2.Dp.up hv' (b.hm (sub _ hm)))) (ea_cons (ed_var (gj x) (L2.Dp.up hx (b.hm (sub _ hm)))) ea_nil)) ⟨ok, hpm⟩)) (efa_cons (R := fun _ v => v = .str sort) (sub _ hm) (fun _ _ _ _ h => h) (ef_pure fun H2 b => EvR.imp (EvD.r (ed_var (K := K) (gs x) (.str _))) fun _ _ h => dp_str h) efa_nil))) fun H v hv => ?_)) fun H v ⟨d, ⟨r, hr, e⟩, hd⟩ => ⟨d, ⟨p, hp, r, hr, e⟩, hd⟩
  obtain ⟨y1, r1, rfl, rfl, y2, r2, rfl, h2, y3, r3, rfl, rfl, rfl⟩ := hv
  exact ⟨hk, nbs_three ok h4 hpm, fun q hq => ok.name q (nbs_sub hq), hq, y2, rfl, h2⟩
structure HallX where
  way : Str
  sort : Str
  most : Nat
def preHall (x : HallX) (_ : Hp) (r : List V) : Prop := 1 ≤ x.most ∧ x.most ≤ 4 ∧ x.sort ≠ "quiet" ∧ r = [.str x.way, .str x.sort, .int (x.most : Nat)]
structure HallP (x : HallX) (h : Hall) : Prop where
  ok : HallOk h
  web : WebP (x.way, x.most) h.web
theorem four_pow {k m : Nat} (hk : k = 2 ∨ k = 3) (h : m ≤ 4) : k ^ m ≤ 256 := Nat.le_trans (Nat.pow_le_pow_left (by omega : k ≤ 3) m) (Nat.le_trans (Nat.pow_le_pow_right (by decide) h) (by decide))
theorem hall_of {k : Nat} {web : Web} {rules : List Rule} (hk : k = 2 ∨ k = 3) (ok : WebOk web) (few : k ^ web.ps.length ≤ 256) (h1 : rules.length = web.ps.length) (h2 : ∀ (i : Nat) p r, web.ps[i]? = some p → rules[i]? = some r → RuleOk k (nbs web p) r) : HallOk ⟨k, web, rules⟩ := ⟨hk, ok, few, h1, h2⟩
theorem sc_law_hall : FnScope ["_law_feed_here", "_law_way", "_law_sort", "_law_most", "_law_k", "_law_web_here", "_law_place"] ["_law_feed_here", "_law_way", "_law_sort", "_law_most"] (defScope s_law_hall) := ⟨rfl, rfl, rfl, by decide +kernel, rfl, by decide +kernel, by decide +kernel⟩
theorem ok_law_hall (T : Tx K mg) : Cal P w K mg base 5 "_law_hall" ["_law_feed_here", "_law_way", "_law_sort", "_law_most"] (spI preHall 13000 fun x H v => ∃ h, HallP x h ∧ HallV K h H v) := by
  refine mkI T.d_law_hall sc_law_hall (fun i H vs h => by obtain ⟨_, _, _, rfl⟩ := h; rfl) (fun _ _ _ _ _ _ us hl => match us, hl with | [_, _, _, _], _ => rfl) fun f cdv A outer s H Q E hr M fa n x r wd hm fd hn hp q => ?_
  obtain ⟨p1, p2, p3, rfl⟩ := hp
  have upT : ∀ {a}, a ≤ n + 13000 → a ≤ topN := fun h => Nat.le_trans h hn
  refine ⟨_, (pss_cons (ps_set (i := 4) sc_law_hall.nd rfl (.inr rfl) (pe_ifExp (pt_cmpR op_eq (pv 2) pe_str (nomark _)) pe_int (pe_cal (ok_law_one T) (hr.mono (by decide)) (by rfl) (pa_cons (pv 0) (pa_cons (pe_lst (pa_cons pe_int (pa_cons pe_int (pa_cons pe_int (pa_cons pe_int pa_nil))))) pa_nil)))))
      (pss_cons (ps_set (i := 5) sc_law_hall.nd rfl (.inr rfl) (pe_cal (ok_law_web T) (hr.mono (by decide)) (by rfl) (pa_cons (pv 0) (pa_cons (pv 1) (pa_cons (pe_ifExp (pt_cmpR op_eq (pv 4) pe_int (nomark _)) (pe_callB (call_min2 rfl) (by rfl) T.b_min (by decide +kernel) (pa_cons (pv 3) (pa_cons pe_int pa_nil))) (pv 3)) pa_nil)))))
      (pss_one (ps_ret (pe_tup (pa_cons (pv 4) (pa_cons (pv 5) (pa_cons (pe_callTy (call_tuple_ofK K) (by rfl) T.b_tuple (by decide +kernel) (pa_cons (pe_lc (own := [("_law_place", 6)])  rfl sc_law_hall.nd (pi_tupK K (pe_ix (ix_seqK K) (pv 5) pe_int (fun _ _ => rfl))) (blkOk_by (N := ["_law_feed_here", "_law_way", "_law_sort", "_law_most", "_law_k", "_law_web_here", "_law_place"]) (sc := defScope s_law_hall) (own := [("_law_place", 6)]) (by decide +kernel)) (fun _ _ _ _ _ => pg_name (i := 6) sc_law_hall.nd rfl (Or.inl rfl)) (fun _ _ _ _ _ => pts_nil) (fun _ _ _ _ _ => (pe_cal (ok_law_rule T) (hr.mono (by decide)) (by rfl) (pa_cons (pv 0) (pa_cons (pv 4) (pa_cons (pe_cal (ok_law_neighbours T) (hr.mono (by decide)) (by rfl) (pa_cons (pv 5) (pa_cons (pv 6) pa_nil))) (pa_cons (pv 2) pa_nil))))))) pa_nil)) pa_nil)))))))), ?_⟩
  refine q_asgF (M := M) (B := 1) (R := NatP fun k => k = 2 ∨ k = 3) fd (upT (by omega)) (ef_ifp (b := false) (fun H1 b _ => EvT.eq (et_test (ed_eqS (K := K) (M := M) (ed_var rfl (.str _)) ed_str)) (decide_eq_false p3)) (fun z => Bool.noConfusion z) fun _ => ?_) fun v4 H1 b1 f1 h4 => ?_
  · exact ef_imp (ef_oneI (K := K) (ns := [2, 2, 2, 3]) hm wd rfl (fun H1 b z => ed_lst (b.wd wd z) (ea_cons ed_int (ea_cons ed_int (ea_cons ed_int (ea_cons ed_int ea_nil))))) (by decide) (by decide)) fun H v ⟨i, e, hi⟩ => ⟨i, e, by simp at hi; exact hi⟩
  obtain ⟨k, rfl, hk⟩ := h4
  have w1 : Wd M H1 := b1.wd' wd f1
  refine q_asgF (M := M) (B := 300) (R := fun H v => ∃ web, WebP (x.way, x.most) web ∧ WebV K web H v) f1 (upT (by omega)) (ef_call (B := 300) (B1 := 0) (pre := preWeb) (post := fun x H v => ∃ web, WebP x web ∧ WebV K web H v) (x.way, x.most) hm w1 rfl (efa_imp (efa_cons (R := fun _ v => v = .str x.way) hm (fun _ _ _ _ h => h) (ef_pure fun H2 b => EvR.imp (EvD.r (ed_var (K := K) rfl (.str _))) fun _ _ h => dp_str h) (efa_cons (B1 := 0) (B2 := 0) (R := fun _ v => v = .int (x.most : Nat)) hm (fun _ _ _ _ h => h) (ef_ifp (b := decide (k = 3)) (fun H1 b _ => et_test ((ed_eqI (K := K) (M := M) (ed_var rfl (.int _)) ed_int).eq (by simp; omega))) (fun _ => ef_pure fun H2 b => er_nat (K := K) ((ed_min2 (ed_var rfl (.int _)) (ed_nat (n := 4))).eq (by rw [Nat.min_eq_left p2]))) fun _ => ef_pure fun H2 b => er_nat (K := K) (ed_var rfl (.int _))) efa_nil)) fun H v hv => ?_)) fun v5 H2 b2 f2 h5 => ?_
  · obtain ⟨y1, r1, rfl, rfl, y2, r2, rfl, rfl, rfl⟩ := hv
    exact ⟨p1, p2, rfl⟩
  obtain ⟨web, hwp, hwv⟩ := h5
  have w2 : Wd M H2 := b2.wd' w1 f2
  show tRet (tTup (tCons (tVar 4) (tCons (tVar 5) (tCons (tCB _ (tCons _ tNil)) tNil)))) _ _ _
  refine ⟨.int (k : Nat), rfl, v5, rfl, ?_⟩
  refine ef_rules (K := K) (M := M) (k := k) (web := web) (sort := x.sort) (v := v5) hm w2 hk hwp.ok hwp.m4 p3 (web_dp hwv) rfl (fun _ => rfl) (fun _ => rfl) (fun _ => rfl) (fun _ => rfl) (fun _ => rfl) (fun _ => rfl) (n + 1 + 300) H2 (But.refl _ _) f2 (upT (by omega)) _ fun z H3 b3 f3 hz => ⟨sz_ok (Nat.le_of_ble_eq_true rfl), fun t ht => ?_⟩
  obtain ⟨d, ⟨rules, rfl, g1, g2⟩, hd⟩ := hz
  have w3 : Wd M H3 := b3.wd' w2 f3
  have hmt : M t = false := w3.new ht
  have e34 := same_new (o := .tup [.int (k : Nat), v5, z]) ht
  refine q _ _ (((b1.trans b2).trans b3).trans (But.of e34)) ((f3.same e34).up (by omega)) ⟨⟨k, web, rules⟩, ⟨hall_of hk hwp.ok (four_pow hk hwp.m4) g1 g2, hwp⟩, t, .int (k : Nat), v5, z, rfl, .of (hm_of hmt upd_same), .int _, up_web _ _ _ (hm_mono e34) (up_web _ _ _ (b3.hm hm) hwv), L2.Dp.up hd (hm_mono e34)⟩
end
end EIT
end
/-! text L10 -/
section
set_option maxHeartbeats 4000000
/-! halls renamed. -/
namespace EIT
open PySem PySem.Spec PyProof.Rows L2
def renS (p : Str) : Str := ("w" : Str) ++ cutS p none (some 7)
def renR : Rule → Rule
  | .copy p => .copy (renS p)
  | r => r
def renW (w : Web) : Web := ⟨w.ps.map renS, w.rs.map fun r => (renS r.1, renS r.2)⟩
def renH (h : Hall) : Hall := ⟨h.k, renW h.web, h.rules.map renR⟩
theorem ren_nd : (names12.map renS).Nodup := by decide +kernel
theorem ren_inj {a b : Str} (ha : a ∈ names12) (hb : b ∈ names12) (h : renS a = renS b) : a = b := by
  have k : ∀ a ∈ names12, ∀ b ∈ names12, renS a = renS b → a = b := by decide +kernel
  exact k a ha b hb h
theorem ren_ok : ∀ p ∈ names12, NameOk (renS p) := by
  intro p hp
  have : ∀ p ∈ names12, (1 ≤ (renS p).length ∧ (renS p).length ≤ 8) ∧ (match (renS p).cps.toList[0]? with | some c => decide (c ∈ lets.cps.toList) | none => false) = true ∧ ∀ c ∈ (renS p).cps.toList, c ∈ lets.cps.toList ∨ c ∈ digs.cps.toList := by decide +kernel
  obtain ⟨⟨h1, h2⟩, h3, h4⟩ := this p hp
  refine ⟨h1, h2, ?_, h4⟩
  cases z : (renS p).cps.toList[0]? with
  | none => rw [z] at h3; cases h3
  | some c => rw [z] at h3; exact ⟨c, rfl, of_decide_eq_true h3⟩
theorem ren_apart : ∀ a ∈ names12, ∀ b ∈ names12, a ≠ renS b := by decide +kernel
theorem ren_len : ∀ p ∈ names12, ("w" : Str).length + (cutS p none (some 7)).length ≤ 100000 ∧ p.length ≤ 100000 := by decide +kernel
theorem nodup_ren {ps : List Str} (nd : ps.Nodup) (sub : ∀ p ∈ ps, p ∈ names12) : (ps.map renS).Nodup := by
  rw [List.nodup_iff_pairwise_ne, List.pairwise_map]
  exact List.Pairwise.imp_of_mem (fun ha hb hab h => hab (ren_inj (sub _ ha) (sub _ hb) h)) (List.nodup_iff_pairwise_ne.mp nd)
theorem ren_adj {rs : List (Str × Str)} {a b : Str} (ha : a ∈ names12) (hb : b ∈ names12) (h : ∀ r ∈ rs, r.1 ∈ names12 ∧ r.2 ∈ names12) : adj (rs.map fun r => (renS r.1, renS r.2)) (renS a) (renS b) = adj rs a b := by
  have key : ∀ {x y : Str}, x ∈ names12 → y ∈ names12 → ((renS x, renS y) ∈ (rs.map fun r => (renS r.1, renS r.2)) ↔ (x, y) ∈ rs) := fun {x y} hx hy => by
    constructor
    · intro h1
      obtain ⟨r, hr, e⟩ := List.mem_map.mp h1
      injection e with e1 e2
      have g := h r hr
      have := ren_inj g.1 hx e1
      have := ren_inj g.2 hy e2
      obtain ⟨r1, r2⟩ := r
      simp only at *
      subst_vars
      exact hr
    · exact fun h1 => List.mem_map.mpr ⟨_, h1, rfl⟩
  unfold adj
  rw [decide_eq_decide.mpr (key ha hb), decide_eq_decide.mpr (key hb ha)]
theorem ren_nbs {w : Web} {p : Str} (ok : WebOk w) (sub : ∀ p ∈ w.ps, p ∈ names12) (hp : p ∈ w.ps) : nbs (renW w) (renS p) = (nbs w p).map renS := by
  unfold nbs renW
  simp only
  rw [List.filter_map]
  congr 1
  refine List.filter_congr fun o ho => ?_
  exact ren_adj (sub p hp) (sub o ho) fun r hr => ⟨sub _ (ok.road r hr).1, sub _ (ok.road r hr).2.1⟩
theorem srt2_comm : ∀ a ∈ names12, ∀ b ∈ names12, srt2 a b = srt2 b a := by decide +kernel
theorem ren_srt {a b c d : Str} (ha : a ∈ names12) (hb : b ∈ names12) (hc : c ∈ names12) (hd : d ∈ names12) (h : srt2 (renS a) (renS b) = srt2 (renS c) (renS d)) : srt2 a b = srt2 c d := by
  rcases srt2_eq h with ⟨h1, h2⟩ | ⟨h1, h2⟩
  · rw [ren_inj ha hc h1, ren_inj hb hd h2]
  · rw [ren_inj ha hd h1, ren_inj hb hc h2]
    exact srt2_comm d hd c hc
theorem ren_web {w : Web} (ok : WebOk w) (sub : ∀ p ∈ w.ps, p ∈ names12) : WebOk (renW w) := by
  have rn : ∀ r ∈ w.rs, r.1 ∈ names12 ∧ r.2 ∈ names12 := fun r hr => ⟨sub _ (ok.road r hr).1, sub _ (ok.road r hr).2.1⟩
  refine ⟨by show 1 ≤ (w.ps.map renS).length; rw [List.length_map]; exact ok.lo, by show (w.ps.map renS).length ≤ 8; rw [List.length_map]; exact ok.hi, fun p hp => ?_, nodup_ren ok.nd sub, by show (w.rs.map _).length ≤ 14; rw [List.length_map]; exact ok.few, fun r hr => ?_, ?_⟩
  · obtain ⟨q, hq, rfl⟩ := List.mem_map.mp hp
    exact ren_ok q (sub q hq)
  · obtain ⟨q, hq, rfl⟩ := List.mem_map.mp hr
    obtain ⟨h1, h2, h3⟩ := ok.road q hq
    exact ⟨List.mem_map.mpr ⟨_, h1, rfl⟩, List.mem_map.mpr ⟨_, h2, rfl⟩, fun e => h3 (ren_inj (sub _ h1) (sub _ h2) e)⟩
  · have h := ok.unlike
    rw [List.nodup_iff_pairwise_ne, List.pairwise_map] at h ⊢
    show List.Pairwise _ (w.rs.map _)
    rw [List.pairwise_map]
    exact List.Pairwise.imp_of_mem (fun {a b} ha hb hab e => hab (ren_srt (rn a ha).1 (rn a ha).2 (rn b hb).1 (rn b hb).2 e)) h
theorem ren_rule {k : Nat} {near : List Str} {r : Rule} (h : RuleOk k near r) : RuleOk k (near.map renS) (renR r) := by
  cases r with
  | table t => exact ⟨by rw [List.length_map]; exact h.1, h.2⟩
  | sum rows => exact ⟨h.1, fun r hr => ⟨by rw [List.length_map]; exact (h.2 r hr).1, (h.2 r hr).2⟩⟩
  | copy p => exact List.mem_map.mpr ⟨p, h, rfl⟩
  | most n => exact h
  | _ => trivial
theorem ren_hall {h : Hall} (ok : HallOk h) (sub : ∀ p ∈ h.web.ps, p ∈ names12) : HallOk (renH h) := by
  refine ⟨ok.k, ren_web ok.web sub, by show h.k ^ (h.web.ps.map renS).length ≤ 256; rw [List.length_map]; exact ok.few, by show (h.rules.map renR).length = (h.web.ps.map renS).length; rw [List.length_map, List.length_map]; exact ok.many, fun i p r hp hr => ?_⟩
  have hp : (h.web.ps.map renS)[i]? = some p := hp
  have hr : (h.rules.map renR)[i]? = some r := hr
  rw [List.getElem?_map] at hp hr
  cases ep : h.web.ps[i]? with
  | none => rw [ep] at hp; cases hp
  | some p' =>
    cases er : h.rules[i]? with
    | none => rw [er] at hr; cases hr
    | some r' =>
      rw [ep] at hp
      rw [er] at hr
      cases hp
      cases hr
      show RuleOk h.k (nbs (renW h.web) (renS p')) (renR r')
      rw [ren_nbs ok.web sub (List.mem_of_getElem? ep)]
      exact ren_rule (ok.rule i p' r' ep er)
/-! ### the table -/
def rDictK (K : PySem.W.Frag) : List V → Hp → VK → Prop := fun xs H Q => ∃ (a : Addr) (ps : List Addr) (kvs : List (Key × V)), xs = [.ref a] ∧ SqL K H a (ps.map V.ref) ∧ Paired (fun p kv => SqT K H p [kV kv.1, kv.2]) ps kvs ∧ ∀ p, H p = none → Q (.ref p) (upd H p (.dK (mergeK [] kvs)))
theorem call_dictPK {X : Cx} (K : PySem.W.Frag) (hc : X.calm = true) (hK : X.K = K := by rfl) : CallR X (.type "dict") (rDictK K) := by subst hK; exact call_dictP hc

theorem paired_up {K : PySem.W.Frag} {H H' : Hp} (e : Same H H') : ∀ {as : List Addr} {kvs : List (Key × V)}, Paired (fun p kv => SqT K H p [kV kv.1, kv.2]) as kvs → Paired (fun p kv => SqT K H' p [kV kv.1, kv.2]) as kvs
  | _, _, .nil => .nil
  | _, _, .cons h t => .cons (sqT_mono e h) (paired_up e t)

def renK (ps : List Str) : List (Key × V) := ps.map fun p => (Sum.inr p, V.str (renS p))
theorem dps_ren {K : PySem.W.Frag} {H : Hp} : ∀ {ps : List Str} {xs : List V}, DpAll K H xs (ps.map fun p => .tuple [.str p, .str (renS p)]) → ∃ as : List Addr, xs = as.map V.ref ∧ Paired (fun p kv => SqT K H p [kV kv.1, kv.2]) as (renK ps)
  | [], _, h => by cases h; exact ⟨[], rfl, .nil⟩
  | p :: ps, _, .cons h t => by
    obtain ⟨a, ys, rfl, hs, hall⟩ := dp_tup h
    obtain ⟨x, y, rfl, hx, hy⟩ := two_of hall
    cases dp_str hx
    cases dp_str hy
    obtain ⟨as, rfl, hp⟩ := dps_ren t
    exact ⟨a :: as, rfl, .cons hs hp⟩
theorem val_ren : ∀ {ps : List Str} {p : Str}, p ∈ ps → valV (renK ps) (Sum.inr p) = some (.str (renS p))
  | q :: ps, p, h => by
    by_cases e : q = p
    · subst e
      exact valV_pos rfl
    · rcases List.mem_cons.mp h with z | z
      · exact absurd z.symm e
      · show valV ((Sum.inr q, V.str (renS q)) :: renK ps) _ = _
        rw [valV_neg fun z => e (Sum.inr.inj z)]
        exact val_ren z
theorem merge_ren : ∀ (ps qs : List Str), (qs ++ ps).Nodup → mergeK (renK qs) (renK ps) = renK (qs ++ ps)
  | [], qs, _ => by rw [List.append_nil]; rfl
  | p :: ps, qs, nd => by
    show mergeK (putK (renK qs) (Sum.inr p) (.str (renS p))) (renK ps) = _
    have e : putK (renK qs) (Sum.inr p) (.str (renS p)) = renK (qs ++ [p]) := by
      unfold putK
      rw [if_neg]
      · unfold renK; rw [List.map_append]; rfl
      · intro h
        obtain ⟨kv, h1, h2⟩ := List.any_eq_true.mp h
        obtain ⟨q, hq, rfl⟩ := List.mem_map.mp h1
        have := Sum.inr.inj (of_decide_eq_true h2)
        subst this
        rw [List.nodup_append] at nd
        exact nd.2.2 q hq q List.mem_cons_self rfl
    rw [e, merge_ren ps (qs ++ [p]) (by rw [List.append_assoc]; exact nd), List.append_assoc]
    rfl
section
variable {K : PySem.W.Frag} {M : Mk} {σ : L2.St} {H : Hp} {ta tb te to : TE} {L : Addr} {kvs : List (Key × V)}
theorem er_dict {ps : List Str} {Q : VK} (wd : Wd M H) (nd : ps.Nodup) (h : EvD K M te σ H (.list (ps.map fun p => .tuple [.str p, .str (renS p)]))) (q : ∀ L H2, Same H H2 → H2 L = some (.dK (renK ps)) → Q (.ref L) H2) : tCB (rDictK K) (tCons te tNil) σ H Q :=
  h H (Same.refl _) _ fun v2 H2 e2 h2 => by
    obtain ⟨a, xs, rfl, hs, hall⟩ := dp_lst h2
    obtain ⟨as, rfl, hpr⟩ := dps_ren hall
    refine ⟨a, as, renK ps, rfl, sqL_mono (hm_sub M H2) hs, paired_up (hm_sub M H2) hpr, fun L hL => ?_⟩
    have em : mergeK [] (renK ps) = renK ps := merge_ren ps [] nd
    rw [em]
    exact q L _ (e2.trans (same_new hL)) upd_same
theorem ed_use {d : PyData} {Q : VK} (h : EvD K M te σ H d) (q : ∀ v H2, Same H H2 → Dp K (Hm M H2) v d → Q v H2) : te σ H Q := h H (Same.refl _) Q q
theorem ed_dgetS {z y : Str} (ht : EvV to σ H (.ref L)) (hl : H L = some (.dK kvs)) (hv : valV kvs (.inr z) = some (.str y)) (hk : EvD K M te σ H (.str z)) : EvD K M (tDGet to te) σ H (.str y) := fun H1 e Q q =>
  ht H1 e _ fun v H2 e2 hv1 => hk H2 (e.trans e2) _ fun u H3 e3 hu => by
    cases hv1
    rw [dp_str hu]
    refine ⟨L, .str y, rfl, .inl ⟨kvs, .inr z, .of (e3 _ _ (e2 _ _ (e _ _ hl))), rfl, hv.symm⟩, q _ H3 (e2.trans e3) (.str _)⟩
theorem ed_catS {a b : Str} (ha : EvD K M ta σ H (.str a)) (hb : EvD K M tb σ H (.str b)) (hz : a.length + b.length ≤ 100000) : EvD K M (tOp (fun x y H Q => ∃ i j, x = .str i ∧ y = .str j ∧ i.length + j.length ≤ sizeLine ∧ Q (.str (i ++ j)) H) ta tb) σ H (.str (a ++ b)) :=
  ed_op2 ha hb fun x y H1 _ hx hy Q q => by
    rw [dp_str hx, dp_str hy]
    exact ⟨a, b, rfl, rfl, sz_ok hz, q _ H1 (Same.refl _) (.str _)⟩
theorem ed_slS {a : Str} {t1 t2 : TO} {lo hi : Option Int} (ha : EvD K M ta σ H (.str a)) (h1 : EvO t1 σ H lo) (h2 : EvO t2 σ H hi) (hz : a.length ≤ 100000) : EvD K M (tSl rSlS ta t1 t2) σ H (.str (cutS a lo hi)) := fun H1 e1 Q q =>
  ha H1 e1 _ fun x H2 e2 hx => h1 H2 (e1.trans e2) _ fun H3 e3 => h2 H3 ((e1.trans e2).trans e3) _ fun H4 e4 => by
    rw [dp_str hx]
    exact ⟨a, rfl, sz_ok hz, q _ H4 ((e2.trans e3).trans e4) (.str _)⟩
theorem er_tupleN {xs : List Str} (wd : Wd M H) (h : EvD K M ta σ H (.list (xs.map .str))) : EvR M (tCB (rTupN K) (tCons ta tNil)) σ H (NmV K xs) := fun H1 e1 Q q =>
  h H1 e1 _ fun v H2 e2 hv => by
    obtain ⟨a, ys, rfl, hs, hall⟩ := dp_lst hv
    cases dps_strs hall
    refine ⟨a, _, rfl, sqL_mono (hm_sub M H2) hs, fun l o hl hc hd => q _ _ (e2.trans (same_new hl)) ?_⟩
    have hm : M l = false := (wd.mono (e1.trans e2)).new hl
    have hl2 : Hm M (upd H2 l (.frz o (.tup (xs.map V.str)))) l = some (.frz o (.tup (xs.map V.str))) := hm_of hm upd_same
    exact ⟨l, rfl, .inl (.inr ⟨o, hl2⟩), o, _, hl2, hc, hd⟩
end
section
variable {P : Program} {w : World} {K : PySem.W.Frag} {mg : Str → Option Value} {base : Heap}
theorem sc_law_renamed : FnScope ["_law_hall_here", "_law_web_here", "_law_table", "_law_rules", "_law_place", "_law_rule_here", "_law_one_here", "_law_two"] ["_law_hall_here"] (defScope s_law_renamed) := ⟨rfl, rfl, rfl, by decide +kernel, rfl, by decide +kernel, by decide +kernel⟩
theorem ok_law_renamed (T : Tx K mg) : Cal P w K mg base 1 "_law_renamed" ["_law_hall_here"] (spR (fun (x : Hall) H vs => HallOk x ∧ (∀ p ∈ x.web.ps, p ∈ names12) ∧ ∃ v, vs = [v] ∧ HallV K x H v) (fun x H v => HallV K (renH x) H v)) := by
  refine mkR T.d_law_renamed sc_law_renamed (fun i H vs h => by obtain ⟨_, _, v, rfl, _⟩ := h; rfl) (fun _ _ _ _ _ _ us hl => match us, hl with | [_], _ => rfl) fun f cdv A outer s H vs Q E hr M x wd hp q => ?_
  obtain ⟨ok, sub, v0, rfl, h0⟩ := hp
  refine ⟨_, (pss_cons (ps_asg (pe_tup (pa_cons (pe_ix (ix_seqK K) (pv 0) pe_int (fun _ _ => rfl)) (pa_cons (pe_callTy (call_dictPK K rfl) (by rfl) T.b_dict (by decide +kernel) (pa_cons (pe_lc (own := [("_law_place", 4)])  rfl sc_law_renamed.nd (pi_tupK K (pe_ix (ix_seqK K) (pe_ix (ix_seqK K) (pv 0) pe_int (fun _ _ => rfl)) pe_int (fun _ _ => rfl))) (blkOk_by (N := ["_law_hall_here", "_law_web_here", "_law_table", "_law_rules", "_law_place", "_law_rule_here", "_law_one_here", "_law_two"]) (sc := defScope s_law_renamed) (own := [("_law_place", 4)]) (by decide +kernel)) (fun _ _ _ _ _ => pg_name (i := 4) sc_law_renamed.nd rfl (Or.inl rfl)) (fun _ _ _ _ _ => pts_nil) (fun _ _ _ _ _ => (pe_tup (pa_cons (pv 4) (pa_cons (pe_op op_add_str pe_str (pe_slice sl_str (pv 4) po_none (po_some pe_int))) pa_nil))))) pa_nil)) pa_nil))) (pg_tupK (n := 2) K rfl (pgs_cons (pg_name (i := 1) sc_law_renamed.nd rfl (.inl rfl)) (pgs_cons (pg_name (i := 2) sc_law_renamed.nd rfl (.inr rfl)) pgs_nil))))
      (pss_cons (ps_setLc (i := 3) (own := [("_law_rule_here", 5)])  rfl sc_law_renamed.nd rfl rfl (sw_true rfl rfl rfl (by decide +kernel)) (pi_tupK K (pe_ix (ix_seqK K) (pv 0) pe_int (fun _ _ => rfl))) (blkOk_by (N := ["_law_hall_here", "_law_web_here", "_law_table", "_law_rules", "_law_place", "_law_rule_here", "_law_one_here", "_law_two"]) (sc := defScope s_law_renamed) (own := [("_law_rule_here", 5)]) (by decide +kernel)) (fun _ _ _ _ _ => pg_name (i := 5) sc_law_renamed.nd rfl (Or.inl rfl)) (fun _ _ _ _ _ => pts_nil) (fun _ _ _ _ _ => (pe_ifExp (pt_cmpR op_eq (pe_ix (ix_seqK K) (pv 5) pe_int (fun _ _ => rfl)) pe_str (nomark _)) (pe_tup (pa_cons pe_str (pa_cons (pe_dget (room1 hr) (pv 2) (pe_ix (ix_seqK K) (pv 5) pe_int (fun _ _ => rfl)) (fun _ _ => rfl)) pa_nil))) (pv 5))))
      (pss_one (ps_ret (pe_tup (pa_cons (pe_ix (ix_seqK K) (pv 0) pe_int (fun _ _ => rfl)) (pa_cons (pe_tup (pa_cons (pe_callTy (call_tupleN K) (by rfl) T.b_tuple (by decide +kernel) (pa_cons (pe_lc (own := [("_law_place", 4)])  rfl sc_law_renamed.nd (pi_tupK K (pe_ix (ix_seqK K) (pv 1) pe_int (fun _ _ => rfl))) (blkOk_by (N := ["_law_hall_here", "_law_web_here", "_law_table", "_law_rules", "_law_place", "_law_rule_here", "_law_one_here", "_law_two"]) (sc := defScope s_law_renamed) (own := [("_law_place", 4)]) (by decide +kernel)) (fun _ _ _ _ _ => pg_name (i := 4) sc_law_renamed.nd rfl (Or.inl rfl)) (fun _ _ _ _ _ => pts_nil) (fun _ _ _ _ _ => (pe_dget (room1 hr) (pv 2) (pv 4) (fun _ _ => rfl)))) pa_nil)) (pa_cons (pe_callTy (call_tuple_ofK K) (by rfl) T.b_tuple (by decide +kernel) (pa_cons (pe_lc (own := [("_law_one_here", 6), ("_law_two", 7)])  rfl sc_law_renamed.nd (pi_tupK K (pe_ix (ix_seqK K) (pv 1) pe_int (fun _ _ => rfl))) (blkOk_by (N := ["_law_hall_here", "_law_web_here", "_law_table", "_law_rules", "_law_place", "_law_rule_here", "_law_one_here", "_law_two"]) (sc := defScope s_law_renamed) (own := [("_law_one_here", 6), ("_law_two", 7)]) (by decide +kernel)) (fun _ _ _ _ _ => pg_tupK (n := 2) K rfl (pgs_cons (pg_name (i := 6) sc_law_renamed.nd rfl (Or.inl rfl)) (pgs_cons (pg_name (i := 7) sc_law_renamed.nd rfl (Or.inl rfl)) pgs_nil))) (fun _ _ _ _ _ => pts_nil) (fun _ _ _ _ _ => (pe_tup (pa_cons (pe_dget (room1 hr) (pv 2) (pv 6) (fun _ _ => rfl)) (pa_cons (pe_dget (room1 hr) (pv 2) (pv 7) (fun _ _ => rfl)) pa_nil))))) pa_nil)) pa_nil))) (pa_cons (pe_callTy (call_tuple_ofK K) (by rfl) T.b_tuple (by decide +kernel) (pa_cons (pv 3) pa_nil)) pa_nil)))))))), ?_⟩
  have hn8 := ok.web.hi
  show tSeq (tAsg (tTup (tCons _ (tCons (tCB _ (tCons _ tNil)) tNil))) _) _ _ _ _
  refine (er_hall1 (er_var rfl up_hall h0)) H (Same.refl _) _ fun v1 H1 e1 h1 => ?_
  refine er_dict (K := K) (M := M) (wd.mono e1) ok.web.nd (ed_map (xs := x.web.ps) (enc := .str) (r := fun p => .tuple [.str p, .str (renS p)]) (wd.mono e1) (src_tup (er_d (er_web0 (er_hall1 (er_var rfl up_hall (up_hall _ _ _ (hm_mono e1) h0)))) fun _ _ => nm_dp)) (by omega) (fun _ => rfl) fun p hp M' H2 z e2 e3 wd2 hz => ed_tup wd2 (ea_cons (ed_var rfl hz) (ea_cons (ed_catS (a := "w") ed_str (ed_slS (ed_var rfl hz) eo_none (eo_some (K := K) (M := M) ed_int) (ren_len p (sub p hp)).2) (ren_len p (sub p hp)).1) ea_nil))) fun L H2 eA hL2 => ⟨sz_ok (Nat.le_of_ble_eq_true rfl), fun t ht => ?_⟩
  have eT := same_new (o := .tup [v1, .ref L]) ht
  have hLL := eT _ _ hL2
  refine ⟨t, _, rfl, .of upd_same, rfl, v1, [.ref L], rfl, .ref L, [], rfl, rfl, ?_⟩
  have eA := eA.trans eT
  have h1 := up_web _ _ _ (hm_mono eA) h1
  have h0 := up_hall _ _ _ (hm_mono (e1.trans eA)) h0
  have w3 := wd.mono (e1.trans eA)
  have e03 := e1.trans eA
  generalize upd H2 t (.tup [v1, .ref L]) = H3 at hLL h1 h0 w3 e03
  have hsub : ∀ r ∈ x.web.rs, r.1 ∈ x.web.ps ∧ r.2 ∈ x.web.ps := fun r hr => ⟨(ok.web.road r hr).1, (ok.web.road r hr).2.1⟩
  have hrl : x.rules.length ≤ 8 := by rw [ok.many]; exact hn8
  have hcopy : ∀ p, Rule.copy p ∈ x.rules → p ∈ x.web.ps := fun p hp => by
    obtain ⟨i, hi, e⟩ := List.getElem_of_mem hp
    have hi2 : i < x.web.ps.length := by rw [← ok.many]; exact hi
    have := ok.rule i _ _ (List.getElem?_eq_getElem hi2) (List.getElem?_eq_getElem hi)
    rw [e] at this
    exact nbs_sub this
  show tSeq _ _ _ _ _
  refine q_asg (K := K) (M := M) (ed_map (xs := x.rules) (enc := Rule.enc) (r := fun r => (renR r).enc) w3 (src_tup (ed_ixT' (j := 2) (ed_var rfl (hall_dp h0)) ed_int rfl rfl)) (by omega) (fun _ => rfl) fun r hr M' H4 z e4 e5 wd4 hz => ?_) fun v3 H4 e4 h3 => ?_
  · cases r with
    | copy p =>
      exact ed_if (b := true) (EvT.eq (et_test (ed_eqS (ed_ixT' (j := 0) (ed_var rfl hz) ed_int rfl rfl) ed_str)) (by decide)) (fun _ => ed_tup wd4 (ea_cons ed_str (ea_cons (ed_dgetS (ev_var rfl) (e4 _ _ hLL) (val_ren (hcopy p hr)) (ed_ixT' (j := 1) (ed_var rfl hz) ed_int rfl rfl)) ea_nil))) fun z => Bool.noConfusion z
    | _ => exact ed_if (b := false) (EvT.eq (et_test (ed_eqS (ed_ixT' (j := 0) (ed_var rfl hz) ed_int rfl rfl) ed_str)) (by decide)) (fun z => Bool.noConfusion z) fun _ => ed_var rfl hz
  have h0 := up_hall _ _ _ (hm_mono e4) h0
  have h1 := up_web _ _ _ (hm_mono e4) h1
  have hLL := e4 _ _ hLL
  have w4 := w3.mono e4
  have e04 := e03.trans e4
  clear e4 w3 e03
  refine s_retR (er_hall (h := renH x) w4 (ed_ixT' (j := 0) (ed_var rfl (hall_dp h0)) ed_int rfl rfl) (er_web (w := renW x.web) w4 (er_tupleN (xs := x.web.ps.map renS) w4 (EvD.eq (ed_map (xs := x.web.ps) (enc := .str) (r := fun p => .str (renS p)) w4 (src_tup (er_d (er_web0 (er_var rfl up_web h1)) fun _ _ => nm_dp)) (by omega) (fun _ => rfl) fun p hp M' H5 z e5 e6 wd5 hz => ed_dgetS (ev_var rfl) (e5 _ _ hLL) (val_ren hp) (ed_var rfl hz)) (by rw [List.map_map]; rfl))) (EvD.eq (ed_tupleOfL w4 (ed_map2 (xs := x.web.rs) (ea := fun r => .str r.1) (eb := fun r => .str r.2) (r := fun r => roadD (renS r.1, renS r.2)) w4 (src_tup (ed_ixT' (j := 1) (ed_var rfl (web_dp h1)) ed_int rfl rfl)) (by have := ok.web.few; omega) (fun _ _ => rfl) fun r hr M' H5 y z e5 e6 wd5 hy hz => ed_tup wd5 (ea_cons (ed_dgetS (ev_var rfl) (e5 _ _ hLL) (val_ren (hsub r hr).1) (ed_var rfl hy)) (ea_cons (ed_dgetS (ev_var rfl) (e5 _ _ hLL) (val_ren (hsub r hr).2) (ed_var rfl hz)) ea_nil)))) (by unfold renW; rw [List.map_map]; rfl))) (EvD.eq (ed_tupleOfL w4 (ed_var rfl h3)) (by unfold renH; rw [List.map_map]; rfl))) fun v H5 e5 hv => q v H5 (e04.trans e5) hv
end
end EIT
end
/-! text L11 -/
section
set_option maxHeartbeats 4000000
/-! feed, common, states. -/
namespace EIT
open PySem PySem.Spec PyProof.Rows L2
theorem lt_bitsI (z : Int) : z.natAbs < 2 ^ Builtin.Int.intBits z := by
  unfold Builtin.Int.intBits
  by_cases h : z.natAbs = 0
  · rw [h]; exact Nat.pow_pos (by decide)
  · have h2 : z ≠ 0 := fun e => h (by rw [e]; rfl)
    rw [if_neg (by simpa using h2)]
    exact Nat.lt_log2_self
theorem bitsI_le {z : Int} {B : Nat} (h : z.natAbs < 2 ^ B) : Builtin.Int.intBits z ≤ B := PyProof.Rows.intBits_le h
theorem natAbs_bits {z : Int} {B : Nat} (h : Builtin.Int.intBits z ≤ B) : z.natAbs < 2 ^ B := Nat.lt_of_lt_of_le (lt_bitsI z) (Nat.pow_le_pow_right (by decide) h)
theorem bits_add {z : Int} {m B : Nat} (h : Builtin.Int.intBits z ≤ B) (hm : m < 2 ^ 20) : Builtin.Int.intBits ((m : Int) + z) ≤ B + 21 := by
  refine bitsI_le ?_
  have h1 := natAbs_bits h
  have e1 : (2 : Nat) ^ (B + 21) = 2 ^ B * 2 ^ 21 := by rw [← Nat.pow_add]
  have e2 : (1 : Nat) ≤ 2 ^ B := Nat.pow_pos (by decide)
  rw [e1]
  generalize (2 : Nat) ^ B = N at h1 e2
  omega
def cutN : Nat := 10 ^ 18
theorem bits_cut {c : Int} {B : Nat} (h : Builtin.Int.intBits c ≤ B) : Builtin.Int.intBits (((c - (cutN : Int)).toNat : Nat) : Int) ≤ B := by
  refine bitsI_le ?_
  have h1 := natAbs_bits h
  rw [Int.natAbs_natCast]
  generalize (2 : Nat) ^ B = N at h1
  omega
theorem bits_take {zs : List Int} (p3 : ∀ z ∈ zs, Builtin.Int.intBits z ≤ 1048576) : Builtin.Int.intBits (zs.take 1).sum ≤ 1048576 := by
  cases zs with
  | nil => exact Nat.zero_le _
  | cons z zs =>
    have e : ((z :: zs).take 1).sum = z := by show z + 0 = z; rw [Int.add_zero]
    rw [e]
    exact p3 z List.mem_cons_self
def modN : Nat := 10 ^ 39 + 23
theorem modN_pos : 0 < modN := by unfold modN; exact Nat.succ_pos _
theorem modN_lt : modN < 2 ^ 130 := by decide
theorem emod_nat (z : Int) : z % (modN : Int) = ((z % (modN : Int)).toNat : Nat) := by
  have h0 := modN_pos
  have := Int.emod_nonneg z (b := (modN : Int)) (by omega)
  omega
theorem emod_bound (z : Int) : (z % (modN : Int)).toNat < 2 ^ 130 := by
  have h0 := modN_pos
  have h1 := Int.emod_lt_of_pos z (b := (modN : Int)) (by omega)
  have h2 := modN_lt
  omega
theorem ea_use {K : PySem.W.Frag} {M : Mk} {σ : L2.St} {H : Hp} {ta : TA} {ds : List PyData} {Q : List V → Hp → Prop} (h : EvA K M ta σ H ds) (q : ∀ vs H2, Same H H2 → DpAll K (Hm M H2) vs ds → Q vs H2) : ta σ H Q := h H (Same.refl _) Q q
section
variable {P : Program} {w : World} {K : PySem.W.Frag} {mg : Str → Option Value} {base : Heap}
theorem sc_law_common : FnScope ["_law_one_here", "_law_two"] ["_law_one_here", "_law_two"] (defScope s_law_common) := ⟨rfl, rfl, rfl, by decide +kernel, rfl, by decide +kernel, by decide +kernel⟩
theorem ok_law_common (T : Tx K mg) : Cal P w K mg base 1 "_law_common" ["_law_one_here", "_law_two"] (spF K (ι := Nat × Nat) (fun x => [nI x.1, nI x.2]) (fun _ => True) (fun x => nI (Nat.gcd x.1 x.2))) := by
  refine mkF T.d_law_common sc_law_common (fun _ => rfl) (fun _ _ _ _ _ _ us hl => match us, hl with | [_, _], _ => rfl) fun f cdv A outer s H vs Q E hr M x wd hv hp q => ?_
  obtain ⟨a, b⟩ := x
  obtain ⟨v0, v1, rfl, h0, h1⟩ := two_of hv
  cases dp_int h0
  cases dp_int h1
  refine ⟨_, (pss_cons (ps_while PassesOwn.never (pt_cmpR op_gt (pv 1) pe_int (nomark _)) (pss_one (ps_par (i := 0) (j := 1) rfl sc_law_common.nd rfl rfl (by decide) rfl rfl (pa_cons (pv 1) (pa_cons (pe_op op_mod (pe_callTy call_int1 (by rfl) T.b_int (by decide +kernel) (pa_cons (pv 0) pa_nil)) (pv 1)) pa_nil)) (by rfl))))
      (pss_one (ps_ret (pv 0)))), ?_⟩
  refine q_while (fun m σ' H' => ∃ a' b' : Nat, σ' = [some (.int (a' : Nat)), some (.int (b' : Nat))] ∧ m = b' ∧ Nat.gcd a' b' = Nat.gcd a b ∧ Same H H') b ⟨a, b, rfl, rfl, rfl, Same.refl _⟩ ?_
  rintro m σ' H' ⟨a', b', rfl, rfl, hg, e⟩
  refine ⟨decide (0 < m), et_test (EvD.eq (K := K) (M := M) (ed_IB (g := fun i j => decide (j < i)) (ed_var rfl (.int _)) ed_int) (by simp)), fun hb H1 e1 => ?_, fun hb H1 e1 => ?_⟩
  · have hb := of_decide_eq_true hb
    refine ⟨fun σ' H' => ∃ a' b' : Nat, σ' = [some (.int (a' : Nat)), some (.int (b' : Nat))] ∧ b' < m ∧ Nat.gcd a' b' = Nat.gcd a b ∧ Same H H', fun σ2 H2 ⟨a2, b2, e2, h2, h3, h4⟩ => ⟨b2, h2, a2, b2, e2, rfl, h3, h4⟩, ?_⟩
    refine (ea_cons (K := K) (M := M) (ed_var rfl (.int _)) (ea_cons (ed_modN (a := a') (b := m) (ed_intI (ed_var rfl (.int _))) (ed_var rfl (.int _)) hb) ea_nil)) H1 (Same.refl _) _ fun vs H2 e2 hvs => ?_
    obtain ⟨x, y, rfl, hx, hy⟩ := two_of hvs
    cases dp_int hx
    cases dp_int hy
    refine ⟨_, _, rfl, m, a' % m, rfl, Nat.mod_lt _ hb, ?_, (e.trans e1).trans e2⟩
    rw [← hg, Nat.gcd_comm a' m, Nat.gcd_rec m a', Nat.gcd_comm]
  · have hb := of_decide_eq_false hb
    have : m = 0 := by omega
    subst this
    rw [Nat.gcd_zero_right] at hg
    subst hg
    exact s_ret (ed_var rfl (.int _)) fun v H2 e2 hv => q v H2 ((e.trans e1).trans e2) hv
def statesOn (l : List (Nat × Nat)) : Nat := (l.map fun p => p.1 * p.2).sum
theorem sc_law_states_on : FnScope ["_law_lengths", "_law_length", "_law_many"] ["_law_lengths"] (defScope s_law_states_on) := ⟨rfl, rfl, rfl, by decide +kernel, rfl, by decide +kernel, by decide +kernel⟩
theorem ok_law_states_on (T : Tx K mg) : Cal P w K mg base 1 "_law_states_on" ["_law_lengths"] (spF K (ι := List (Nat × Nat)) (fun x => [pairsD x]) (fun x => Sz 4000 x ∧ x.length ≤ 50000) (fun x => nI (statesOn x))) := by
  refine mkF T.d_law_states_on sc_law_states_on (fun _ => rfl) (fun _ _ _ _ _ _ us hl => match us, hl with | [_], _ => rfl) fun f cdv A outer s H vs Q E hr M x wd hv hp q => ?_
  obtain ⟨v0, rfl, h0⟩ := one_of hv
  refine ⟨_, (pss_one (ps_ret (pe_callB (cr_sumK K rfl) (by rfl) T.b_sum (by decide +kernel) (pa_cons (pe_lc (own := [("_law_length", 1), ("_law_many", 2)])  rfl sc_law_states_on.nd (pi_listK K (pv 0)) (blkOk_by (N := ["_law_lengths", "_law_length", "_law_many"]) (sc := defScope s_law_states_on) (own := [("_law_length", 1), ("_law_many", 2)]) (by decide +kernel)) (fun _ _ _ _ _ => pg_tupK (n := 2) K rfl (pgs_cons (pg_name (i := 1) sc_law_states_on.nd rfl (Or.inl rfl)) (pgs_cons (pg_name (i := 2) sc_law_states_on.nd rfl (Or.inl rfl)) pgs_nil))) (fun _ _ _ _ _ => pts_nil) (fun _ _ _ _ _ => (pe_op op_mulX (pv 1) (pv 2)))) pa_nil)))), ?_⟩
  refine s_ret (EvD.eq (ed_sumN (l := x.map fun p => p.1 * p.2) (EvD.eq (ed_map2 (xs := x) (ea := fun p => nI p.1) (eb := fun p => nI p.2) (r := fun p => nI (p.1 * p.2)) wd (src_list (ed_var rfl h0)) (Nat.le_trans hp.2 (by decide)) (fun _ _ => rfl) fun p hp' M' H1 y z e1 e2 wd' hy hz => ed_mulN (ed_var rfl hy) (ed_var rfl hz) (hp.1 p hp').1 (hp.1 p hp').2 (by decide)) (by rw [List.map_map]; rfl))) rfl) q
/-- a new feed -/
def spFeed (K : PySem.W.Frag) : Sp := fun vs H Q _ => ∃ (M : Mk) (zs : List Int) (k : Nat) (v : V), Wd M H ∧ zs.length ≤ 1000 ∧ k ≤ 3 ∧ (∀ z ∈ zs, Builtin.Int.intBits z ≤ 1048576) ∧ vs = [v, .int (k : Nat)] ∧ Dp K (Hm M H) v (.list (zs.map .int)) ∧
  ∀ L H', Same H H' → H L = none → Feed L 0 H' → Q (.ref L) H'
theorem sc_law_feed : FnScope ["_law_script", "_law_k", "_law_cell"] ["_law_script", "_law_k"] (defScope s_law_feed) := ⟨rfl, rfl, rfl, by decide +kernel, rfl, by decide +kernel, by decide +kernel⟩
theorem ok_law_feed (T : Tx K mg) : Cal P w K mg base 1 "_law_feed" ["_law_script", "_law_k"] (spFeed K) := by
  refine mkS T.d_law_feed sc_law_feed (fun vs H Q E h => by obtain ⟨_, _, _, v, _, _, _, _, rfl, _⟩ := h; rfl) (fun _ _ _ _ _ _ us hl => match us, hl with | [_, _], _ => rfl) fun f cdv A outer s H vs Q E hr h => ?_
  obtain ⟨M, zs, k, v0, wd, p1, p2, p3, rfl, h0, q⟩ := h
  refine ⟨_, (pss_cons (ps_set (i := 2) sc_law_feed.nd rfl (.inl rfl) (pe_op op_add (pe_op op_mulX pe_int (pv 1)) (pe_callB (cr_sumK K rfl) (by rfl) T.b_sum (by decide +kernel) (pa_cons (pe_slice (sl_listK K) (pv 0) po_none (po_some pe_int)) pa_nil))))
      (pss_cons (ps_if (pt_cmpR op_lt (pv 1) (pe_callB (call_len_seqK K) (by rfl) T.b_len (by decide +kernel) (pa_cons (pv 0) pa_nil)) (nomark _)) (pss_one (ps_set (i := 2) sc_law_feed.nd rfl (.inl rfl) (pe_ix (ix_seqK K) (pv 0) (pv 1) (fun _ _ => rfl)))) pss_nil)
      (pss_one (ps_ret (pe_lst (pa_cons (pe_callB (call_max2 rfl) (by rfl) T.b_max (by decide +kernel) (pa_cons pe_int (pa_cons (pe_op op_sub (pv 2) (pe_op op_pow pe_int pe_int)) pa_nil))) (pa_cons (pe_op op_mod (pe_callTy call_int1 (by rfl) T.b_int (by decide +kernel) (pa_cons (pe_op op_add (pe_op op_mulX (pv 2) pe_int) (pe_op op_mulX pe_int (pv 1))) pa_nil)) (pe_op op_add (pe_op op_pow pe_int pe_int) pe_int)) (pa_cons pe_int pa_nil)))))))), ?_⟩
  have hcut : (((zs.map PyData.int).drop (HT.sIx (zs.map PyData.int).length 0 none)).take (HT.sIx (zs.map PyData.int).length (zs.map PyData.int).length (some 1) - HT.sIx (zs.map PyData.int).length 0 none)) = (zs.take 1).map PyData.int := by
    have s1 : HT.sIx (zs.map PyData.int).length 0 none = 0 := rfl
    rw [s1, List.drop_zero, Nat.sub_zero, List.map_take]
    cases zs with
    | nil => rfl
    | cons z zs =>
      have s2 : HT.sIx ((z :: zs).map PyData.int).length ((z :: zs).map PyData.int).length (some 1) = 1 := by
        rw [List.length_map, List.length_cons]
        unfold HT.sIx
        simp
      rw [s2]
  refine q_asg (K := K) (M := M) (d := .int (((977 * k : Nat) : Int) + (zs.take 1).sum)) (ed_I0 (ed_mulN (a := 977) (b := k) (ed_nat (n := 977)) (ed_var rfl (.int _)) (by decide : 977 < 2 ^ 10) (by omega : k < 2 ^ 2) (by decide)) (ed_sum (ns := zs.take 1) (EvD.eq (ed_slL wd (ed_var rfl h0) eo_none (eo_some (K := K) (M := M) ed_int)) (by rw [hcut])))) fun v2 H1 e1 h2 => ?_
  cases dp_int h2
  have hc0 : Builtin.Int.intBits (((977 * k : Nat) : Int) + (zs.take 1).sum) ≤ 1048600 := Nat.le_trans (bits_add (bits_take p3) (by omega)) (by decide)
  have hk : ∀ {z}, zs[k]? = some z → Builtin.Int.intBits z ≤ 1048600 := fun {z} hz => Nat.le_trans (p3 z (List.mem_of_getElem? hz)) (by decide)
  generalize ((977 * k : Nat) : Int) + (zs.take 1).sum = c0 at hc0
  refine q_ifJ (b := decide (k < zs.length)) (fun σ' H' => ∃ c : Int, σ' = [some v0, some (.int (k : Nat)), some (.int c)] ∧ Builtin.Int.intBits c ≤ 1048600 ∧ Same H H') (et_test (EvD.eq (K := K) (M := M) (ed_IB (g := fun i j => decide (i < j)) (ed_var rfl (.int _)) ((ed_lenL (ed_var rfl (PD.up h0 e1))).eq (by rw [List.length_map]))) (by simp))) (fun σ' H' hc => ?_) (fun kk hb H2 e2 => ?_) fun kk hb H2 e2 => kk _ _ ⟨_, rfl, hc0, e1.trans e2⟩
  rotate_left
  · have hb := of_decide_eq_true hb
    have hz : zs[k]? = some zs[k] := List.getElem?_eq_getElem hb
    refine s_asg (K := K) (M := M) (d := .int zs[k]) (ed_ixL' (j := k) (ed_var rfl (PD.up h0 (e1.trans e2))) (ed_var rfl (.int _)) rfl (by rw [List.getElem?_map, hz]; rfl)) fun v H3 e3 hv => ?_
    cases dp_int hv
    exact kk _ _ ⟨_, rfl, hk hz, (e1.trans e2).trans e3⟩
  obtain ⟨c, rfl, hcb, e⟩ := hc
  show tRet (tLst (tCons _ (tCons _ (tCons _ tNil)))) _ _ _
  refine ea_use (K := K) (M := M) (ds := [nI (c - (cutN : Int)).toNat, nI ((c * 19 + ((7 * k : Nat) : Int)) % (modN : Int)).toNat, nI 0]) ?_ fun vs H3 e3 hvs => ⟨sz_ok (by rw [dps_len hvs]; exact Nat.le_of_ble_eq_true rfl), fun L hL => ?_⟩
  · refine ea_cons (ed_cb (ea_cons ed_int (ea_cons (d := .int (c - (cutN : Int))) (ed_I0 (ed_var rfl (.int _)) (EvD.eq (e := nI cutN) (ed_powN (ed_nat (n := 10)) (ed_nat (n := 18)) (by decide) (by decide)) (by unfold cutN; rfl))) ea_nil)) fun vs H1 _ hv Q q => ?_) (ea_cons (EvD.eq (ed_IC (ed_intI (ed_I0 (ed_IC (ed_var rfl (.int _)) ed_int ?_) (ed_mulN (a := 7) (b := k) (ed_nat (n := 7)) (ed_var rfl (.int _)) (by decide : 7 < 2 ^ 3) (by omega : k < 2 ^ 2) (by decide)))) (EvD.eq (e := nI modN) (ed_addN (ed_powN (ed_nat (n := 10)) (ed_nat (n := 39)) (by decide) (by decide)) (ed_nat (n := 23))) (by unfold modN; rfl)) ?_) ?_) (ea_cons ed_int ea_nil))
    · obtain ⟨x, y, rfl, hx, hy⟩ := two_of hv
      cases dp_int hx
      cases dp_int hy
      refine ⟨_, _, rfl, q _ H1 (Same.refl _) ?_⟩
      have e : (if c - (cutN : Int) > 0 then c - (cutN : Int) else (0 : Int)) = (((c - (cutN : Int)).toNat : Nat) : Int) := by split <;> omega
      rw [e]
      exact .int _
    · show CMulX c 19
      have h19 : Builtin.Int.intBits 19 ≤ 5 := bitsI_le (by decide)
      unfold CMulX
      omega
    · show (0 : Int) < (modN : Int)
      have := modN_pos
      omega
    · show PyData.int _ = PyData.int _
      exact congrArg PyData.int (emod_nat _)
  obtain ⟨x, y, z, rfl, hx, hy, hz⟩ := three_of hvs
  cases dp_int hx
  cases dp_int hy
  cases dp_int hz
  have hLH : H L = none := by
    cases g : H L with
    | none => rfl
    | some o => rw [e3 _ _ (e _ _ g)] at hL; cases hL
  exact q L _ ((e.trans e3).trans (same_new hL)) hLH ⟨⟨(c - (cutN : Int)).toNat, _, 0, upd_same, Nat.le_trans (bits_cut hcb) (by decide), emod_bound _, Nat.le_refl _⟩⟩
end
end EIT
end
/-! text P4 -/
section
/-! Plain: tallies of lengths: either way round, three lists, one alone, none. -/
namespace EIT
theorem sum2 {α : Type} (g h : α → Nat) : ∀ l : List α, (l.map fun x => g x + h x).sum = (l.map g).sum + (l.map h).sum
  | [] => rfl
  | x :: l => by
    rw [List.map_cons, List.map_cons, List.map_cons, List.sum_cons, List.sum_cons, List.sum_cons, sum2 g h l]
    omega
theorem sum0 {α : Type} : ∀ l : List α, (l.map fun _ => 0).sum = 0
  | [] => rfl
  | _ :: l => by rw [List.map_cons, List.sum_cons, sum0 l]
theorem sum_swap {α β : Type} (F : α → β → Nat) (b : List β) : ∀ a : List α, (a.map fun p => (b.map fun q => F p q).sum).sum = (b.map fun q => (a.map fun p => F p q).sum).sum
  | [] => (sum0 b).symm
  | p :: a => by
    rw [List.map_cons, List.sum_cons, sum_swap F b a, ← sum2]
    rfl
theorem sum_flat {α β γ : Type} (h : α → β → γ) (f : γ → Nat) (b : List β) : ∀ a : List α, ((a.flatMap fun p => b.map (h p)).map f).sum = (a.map fun p => (b.map fun q => f (h p q)).sum).sum
  | [] => rfl
  | p :: a => by
    rw [List.flatMap_cons, List.map_append, List.sum_append, sum_flat h f b a, List.map_map, List.map_cons, List.sum_cons]
    rfl
theorem sum_cong {α : Type} {f g : α → Nat} {l : List α} (h : ∀ x ∈ l, f x = g x) : (l.map f).sum = (l.map g).sum := by rw [List.map_congr_left h]
theorem sum_mulR {α : Type} (f : α → Nat) (c : Nat) : ∀ l : List α, (l.map fun x => f x * c).sum = (l.map f).sum * c
  | [] => (Nat.zero_mul c).symm
  | x :: l => by rw [List.map_cons, List.map_cons, List.sum_cons, List.sum_cons, sum_mulR f c l, Nat.add_mul]
theorem sum_mulL {α : Type} (f : α → Nat) (c : Nat) : ∀ l : List α, (l.map fun x => c * f x).sum = c * (l.map f).sum
  | [] => rfl
  | x :: l => by rw [List.map_cons, List.map_cons, List.sum_cons, List.sum_cons, sum_mulL f c l, Nat.mul_add]
/-! weighted sums -/
def wsum (f : Nat → Nat) (l : List (Nat × Nat)) : Nat := (l.map fun p => f p.1 * p.2).sum
theorem sum_point (f : Nat → Nat) (p v : Nat) : ∀ N, ((List.range N).map fun k => f k * (if p = k then v else 0)).sum = if p < N then f p * v else 0
  | 0 => rfl
  | N + 1 => by
    rw [List.range_succ, List.map_append, List.sum_append, sum_point f p v N, List.map_cons, List.map_nil, List.sum_cons, List.sum_nil]
    by_cases h : p = N
    · subst h
      rw [if_neg (Nat.lt_irrefl _), if_pos rfl, if_pos (Nat.lt_succ_self _)]
      omega
    · rw [if_neg h]
      by_cases g : p < N
      · rw [if_pos g, if_pos (by omega)]
        omega
      · rw [if_neg g, if_neg (by omega)]
        omega
theorem wsum_tal (f : Nat → Nat) (N : Nat) : ∀ l : List (Nat × Nat), (∀ p ∈ l, p.1 < N) → ((List.range N).map fun k => f k * tal l k).sum = wsum f l
  | [], _ => by
    have e : ((List.range N).map fun k => f k * tal [] k) = (List.range N).map fun _ => 0 := List.map_congr_left fun k _ => rfl
    rw [e, sum0]
    rfl
  | p :: l, h => by
    have e : ((List.range N).map fun k => f k * tal (p :: l) k) = (List.range N).map fun k => f k * (if p.1 = k then p.2 else 0) + f k * tal l k := List.map_congr_left fun k _ => by rw [tal_cons, Nat.mul_add]
    rw [e, sum2, sum_point, if_pos (h p List.mem_cons_self), wsum_tal f N l fun q hq => h q (List.mem_cons_of_mem _ hq)]
    unfold wsum
    rw [List.map_cons, List.sum_cons]
theorem key_le : ∀ {l : List (Nat × Nat)} {p : Nat × Nat}, p ∈ l → p.1 ≤ (l.map (·.1)).sum
  | q :: l, p, h => by
    rw [List.map_cons, List.sum_cons]
    rcases List.mem_cons.mp h with e | e
    · rw [e]; omega
    · have := key_le e
      omega
theorem wsum_congr {l m : List (Nat × Nat)} (f : Nat → Nat) (h : ∀ k, tal l k = tal m k) : wsum f l = wsum f m := by
  rw [← wsum_tal f ((l.map (·.1)).sum + (m.map (·.1)).sum + 1) l fun p hp => by have := key_le hp; omega,
    ← wsum_tal f ((l.map (·.1)).sum + (m.map (·.1)).sum + 1) m fun p hp => by have := key_le hp; omega]
  exact sum_cong fun k _ => by rw [h k]
/-! T by its lists' tallies alone -/
def wOf (b : List (Nat × Nat)) (k m : Nat) : Nat := (b.map fun q => if Nat.lcm m q.1 = k then q.2 * Nat.gcd m q.1 else 0).sum
theorem T1_w (p : Nat × Nat) (b : List (Nat × Nat)) (k : Nat) : T1 p b k = wOf b k p.1 * p.2 := by
  unfold T1 wOf
  rw [← sum_mulR]
  refine sum_cong fun q _ => ?_
  split
  · rw [Nat.mul_comm p.2 q.2, Nat.mul_assoc, Nat.mul_comm p.2, ← Nat.mul_assoc]
  · rw [Nat.zero_mul]
theorem T_w (a b : List (Nat × Nat)) (k : Nat) : T a b k = wsum (wOf b k) a := sum_cong fun p _ => T1_w p b k
theorem T_left {a a' : List (Nat × Nat)} (h : ∀ k, tal a k = tal a' k) (b : List (Nat × Nat)) (k : Nat) : T a b k = T a' b k := by rw [T_w, T_w, wsum_congr _ h]
theorem T_comm (a b : List (Nat × Nat)) (k : Nat) : T a b k = T b a k := by
  unfold T T1
  rw [sum_swap]
  refine sum_cong fun q _ => sum_cong fun p _ => ?_
  rw [Nat.lcm_comm p.1 q.1, Nat.gcd_comm p.1 q.1, Nat.mul_comm p.2 q.2]
theorem T_right {b b' : List (Nat × Nat)} (h : ∀ k, tal b k = tal b' k) (a : List (Nat × Nat)) (k : Nat) : T a b k = T a b' k := by rw [T_comm a b, T_comm a b', T_left h]
def prods (a b : List (Nat × Nat)) : List (Nat × Nat) := a.flatMap fun p => b.map fun q => (Nat.lcm p.1 q.1, p.2 * q.2 * Nat.gcd p.1 q.1)
theorem tal_prods (a b : List (Nat × Nat)) (k : Nat) : tal (prods a b) k = T a b k := by
  unfold tal prods
  rw [sum_flat]
  rfl
def PosK (l : List (Nat × Nat)) : Prop := ∀ p ∈ l, 1 ≤ p.1 ∧ 1 ≤ p.2
theorem three {p q r : Nat} (hp : 1 ≤ p) (hq : 1 ≤ q) (hr : 1 ≤ r) : Nat.gcd p q * Nat.gcd (Nat.lcm p q) r = Nat.gcd q r * Nat.gcd p (Nat.lcm q r) := by
  have h1 := Nat.gcd_mul_lcm p q
  have h2 := Nat.gcd_mul_lcm (Nat.lcm p q) r
  have h3 := Nat.gcd_mul_lcm q r
  have h4 := Nat.gcd_mul_lcm p (Nat.lcm q r)
  have h5 := Nat.lcm_assoc p q r
  have hL : 0 < Nat.lcm p (Nat.lcm q r) := Nat.lcm_pos hp (Nat.lcm_pos hq hr)
  refine Nat.eq_of_mul_eq_mul_right hL ?_
  rw [Nat.mul_assoc, Nat.mul_assoc, h4]
  rw [← h5, h2, ← Nat.mul_assoc, h1, Nat.mul_left_comm, h3, Nat.mul_assoc]
theorem T_assoc {a b c : List (Nat × Nat)} (ha : PosK a) (hb : PosK b) (hc : PosK c) (k : Nat) : T (prods a b) c k = T a (prods b c) k := by
  have e1 : T (prods a b) c k = (a.map fun p => (b.map fun q => T1 (Nat.lcm p.1 q.1, p.2 * q.2 * Nat.gcd p.1 q.1) c k).sum).sum := sum_flat _ _ _ _
  rw [e1]
  refine sum_cong fun p hp => ?_
  have e2 : T1 p (prods b c) k = (b.map fun q => (c.map fun r => if Nat.lcm p.1 (Nat.lcm q.1 r.1) = k then p.2 * (q.2 * r.2 * Nat.gcd q.1 r.1) * Nat.gcd p.1 (Nat.lcm q.1 r.1) else 0).sum).sum := by
    unfold T1 prods
    exact sum_flat _ _ _ _
  rw [e2]
  refine sum_cong fun q hq => sum_cong fun r hr => ?_
  show (if Nat.lcm (Nat.lcm p.1 q.1) r.1 = k then p.2 * q.2 * Nat.gcd p.1 q.1 * r.2 * Nat.gcd (Nat.lcm p.1 q.1) r.1 else 0) = _
  rw [Nat.lcm_assoc]
  split
  · have h := three (ha p hp).1 (hb q hq).1 (hc r hr).1
    calc p.2 * q.2 * Nat.gcd p.1 q.1 * r.2 * Nat.gcd (Nat.lcm p.1 q.1) r.1 = p.2 * q.2 * r.2 * (Nat.gcd p.1 q.1 * Nat.gcd (Nat.lcm p.1 q.1) r.1) := by
          rw [Nat.mul_right_comm _ _ r.2, Nat.mul_assoc (p.2 * q.2 * r.2)]
      _ = p.2 * q.2 * r.2 * (Nat.gcd q.1 r.1 * Nat.gcd p.1 (Nat.lcm q.1 r.1)) := by rw [h]
      _ = p.2 * (q.2 * r.2 * Nat.gcd q.1 r.1) * Nat.gcd p.1 (Nat.lcm q.1 r.1) := by simp only [Nat.mul_assoc]
  · rfl
/-- whichever two of three are taken first -/
theorem tal_three {a b c x y : List (Nat × Nat)} (ha : PosK a) (hb : PosK b) (hc : PosK c) (hx : ∀ k, tal x k = T a b k) (hy : ∀ k, tal y k = T b c k) (k : Nat) : T x c k = T a y k := by
  rw [T_left (a' := prods a b) (fun k => (hx k).trans (tal_prods a b k).symm), T_right (b := y) (b' := prods b c) (fun k => (hy k).trans (tal_prods b c k).symm), T_assoc ha hb hc]
theorem T_one (a : List (Nat × Nat)) (k : Nat) : T a [(1, 1)] k = tal a k := by
  refine sum_cong fun p _ => ?_
  unfold T1
  simp only [List.map_cons, List.map_nil, List.sum_cons, List.sum_nil, Nat.lcm_one_right, Nat.gcd_one_right, Nat.mul_one, Nat.add_zero]
theorem T_none (a : List (Nat × Nat)) (k : Nat) : T a [] k = 0 := sum0 a
/-! states -/
theorem states_w (l : List (Nat × Nat)) : statesOn l = wsum (fun n => n) l := rfl
theorem states_prods (a b : List (Nat × Nat)) : statesOn (prods a b) = statesOn a * statesOn b := by
  unfold statesOn prods
  rw [sum_flat, ← sum_mulR]
  refine sum_cong fun p _ => ?_
  rw [← sum_mulL]
  refine sum_cong fun q _ => ?_
  show Nat.lcm p.1 q.1 * (p.2 * q.2 * Nat.gcd p.1 q.1) = p.1 * p.2 * (q.1 * q.2)
  have h := Nat.gcd_mul_lcm p.1 q.1
  calc Nat.lcm p.1 q.1 * (p.2 * q.2 * Nat.gcd p.1 q.1) = Nat.gcd p.1 q.1 * Nat.lcm p.1 q.1 * (p.2 * q.2) := by
        rw [Nat.mul_comm (p.2 * q.2), ← Nat.mul_assoc, Nat.mul_comm (Nat.lcm _ _)]
    _ = p.1 * q.1 * (p.2 * q.2) := by rw [h]
    _ = p.1 * p.2 * (q.1 * q.2) := by simp only [Nat.mul_assoc, Nat.mul_left_comm]
theorem states_mul {a b z : List (Nat × Nat)} (h : ∀ k, tal z k = T a b k) : statesOn z = statesOn a * statesOn b := by
  rw [← states_prods, states_w, states_w, wsum_congr _ fun k => (h k).trans (tal_prods a b k).symm]
/-! sizes -/
theorem T_small {a b : List (Nat × Nat)} {B n : Nat} (sa : Sz B a) (sb : Sz B b) (la : a.length ≤ n) (lb : b.length ≤ n) (k : Nat) : T a b k ≤ n * (n * (2 ^ B * 2 ^ B * 2 ^ B)) := by
  have h1 : ∀ p ∈ a, T1 p b k ≤ n * (2 ^ B * 2 ^ B * 2 ^ B) := fun p hp => by
    refine Nat.le_trans (sum_le (c := 2 ^ B * 2 ^ B * 2 ^ B) _ fun x hx => ?_) (by rw [List.length_map]; exact Nat.mul_le_mul_right _ lb)
    obtain ⟨q, hq, rfl⟩ := List.mem_map.mp hx
    split
    · have h2 := sa p hp
      have h3 := sb q hq
      refine Nat.mul_le_mul (Nat.mul_le_mul (Nat.le_of_lt h2.2) (Nat.le_of_lt h3.2)) ?_
      rcases Nat.eq_zero_or_pos p.1 with e | e
      · rw [e, Nat.gcd_zero_left]; exact Nat.le_of_lt h3.1
      · exact Nat.le_trans (Nat.gcd_le_left _ e) (Nat.le_of_lt h2.1)
    · exact Nat.zero_le _
  refine Nat.le_trans (sum_le (c := n * (2 ^ B * 2 ^ B * 2 ^ B)) _ fun x hx => ?_) (by rw [List.length_map]; exact Nat.mul_le_mul_right _ la)
  obtain ⟨p, hp, rfl⟩ := List.mem_map.mp hx
  exact h1 p hp
theorem sum_ne {α : Type} (f : α → Nat) : ∀ l : List α, (l.map f).sum ≠ 0 → ∃ x ∈ l, f x ≠ 0
  | [], h => absurd rfl h
  | x :: l, h => by
    rw [List.map_cons, List.sum_cons] at h
    by_cases e : f x = 0
    · obtain ⟨y, h1, h2⟩ := sum_ne f l (by omega)
      exact ⟨y, List.mem_cons_of_mem _ h1, h2⟩
    · exact ⟨x, List.mem_cons_self, e⟩
theorem T_key {a b : List (Nat × Nat)} {k : Nat} (h : T a b k ≠ 0) : ∃ p ∈ a, ∃ q ∈ b, Nat.lcm p.1 q.1 = k := by
  obtain ⟨p, hp, h2⟩ := sum_ne _ _ h
  obtain ⟨q, hq, h3⟩ := sum_ne _ _ h2
  refine ⟨p, hp, q, hq, Classical.byContradiction fun e => h3 (if_neg e)⟩
theorem sz_made {a b z : List (Nat × Nat)} {B : Nat} (ca : PosK a) (cb : PosK b) (cz : Canon z) (hz : ∀ k, tal z k = T a b k) (sa : Sz B a) (sb : Sz B b) (la : a.length ≤ 512) (lb : b.length ≤ 512) : Sz (3 * B + 20) z := fun p hp => by
  have e1 : p.2 = T a b p.1 := by rw [← hz, tal_of cz.nd hp]
  have e2 := (cz.pos p hp).2
  obtain ⟨q, hq, r, hr, e3⟩ := T_key (a := a) (b := b) (k := p.1) (by omega)
  have hb : 2 ^ B * 2 ^ B * 2 ^ B = 2 ^ (3 * B) := by rw [← Nat.pow_add, ← Nat.pow_add]; congr 1; omega
  have e20 : 2 ^ (3 * B + 20) = 2 ^ (3 * B) * 2 ^ 20 := Nat.pow_add _ _ _
  have hpos : 0 < 2 ^ (3 * B) := Nat.pow_pos (by decide)
  refine ⟨?_, ?_⟩
  · rw [← e3]
    have h1 : Nat.lcm q.1 r.1 ≤ q.1 * r.1 := Nat.le_of_dvd (Nat.mul_pos (ca q hq).1 (cb r hr).1) (Nat.lcm_dvd_mul _ _)
    have h2 : q.1 * r.1 ≤ 2 ^ B * 2 ^ B := Nat.mul_le_mul (Nat.le_of_lt (sa q hq).1) (Nat.le_of_lt (sb r hr).1)
    have h3 : 2 ^ B * 2 ^ B ≤ 2 ^ (3 * B) := by rw [← Nat.pow_add]; exact Nat.pow_le_pow_right (by decide) (by omega)
    rw [e20]
    have h4 : 2 ^ (3 * B) * 1 < 2 ^ (3 * B) * 2 ^ 20 := Nat.mul_lt_mul_of_pos_left (by decide) hpos
    omega
  · have h1 := T_small sa sb la lb p.1
    rw [hb, ← Nat.mul_assoc] at h1
    rw [e1, e20]
    have h4 : 512 * 512 * 2 ^ (3 * B) < 2 ^ 20 * 2 ^ (3 * B) := Nat.mul_lt_mul_of_pos_right (by decide) hpos
    rw [Nat.mul_comm (2 ^ (3 * B))]
    omega
theorem sz_mono {l : List (Nat × Nat)} {B C : Nat} (h : Sz B l) (e : B ≤ C) : Sz C l := fun p hp => by
  have e2 : (2 : Nat) ^ B ≤ 2 ^ C := Nat.pow_le_pow_right (by decide) e
  have := h p hp
  omega
end EIT
end
/-! text L12 -/
section
set_option maxHeartbeats 4000000
/-! due, drawn. -/
namespace EIT
open PySem PySem.Spec PyProof.Rows L2
section
variable {P : Program} {w : World} {K : PySem.W.Frag} {mg : Str → Option Value} {base : Heap}
theorem keys_sorted (l : List Nat) (nd : l.Nodup) : ∃ ks : List Nat, Asc ks ∧ ks.Perm l := by
  refine ⟨l.mergeSort (fun a b => decide (a ≤ b)), ?_, List.mergeSort_perm ..⟩
  have h1 := List.pairwise_mergeSort (le := fun a b : Nat => decide (a ≤ b)) (fun a b c h1 h2 => by simp at *; omega) (fun a b => by simp; omega) l
  have h2 : (l.mergeSort (fun a b => decide (a ≤ b))).Nodup := (List.mergeSort_perm ..).nodup_iff.mpr nd
  exact List.Pairwise.imp₂ (fun a b h g => by
    have := of_decide_eq_true h
    exact Nat.lt_of_le_of_ne this g) h1 h2
theorem tal_keys (f : Nat → Nat) : ∀ (ks : List Nat), ks.Nodup → ∀ k, tal (ks.map fun k => (k, f k)) k = if k ∈ ks then f k else 0
  | [], _, _ => rfl
  | a :: ks, nd, k => by
    obtain ⟨h1, h2⟩ := List.nodup_cons.mp nd
    rw [List.map_cons, tal_cons, tal_keys f ks h2]
    simp only
    by_cases e : a = k
    · subst e
      rw [if_pos rfl, if_neg h1, if_pos List.mem_cons_self, Nat.add_zero]
    · rw [if_neg e, Nat.zero_add]
      by_cases g : k ∈ ks
      · rw [if_pos g, if_pos (List.mem_cons_of_mem _ g)]
      · rw [if_neg g, if_neg fun z => (List.mem_cons.mp z).elim (fun z => e z.symm) g]
theorem canon_dd {d : List (Nat × Nat)} {g : Nat → Nat} (h : Dd d g) {ks : List Nat} (ha : Asc ks) (hp : ks.Perm (d.map (·.1))) : Canon (ks.map fun k => (k, tal d k)) ∧ ∀ k, tal (ks.map fun k => (k, tal d k)) k = g k := by
  have nd : ks.Nodup := hp.nodup_iff.mpr h.nd
  have at' : ∀ k ∈ ks, ∃ p ∈ d, p.1 = k := fun k hk => by
    obtain ⟨p, hp', e⟩ := List.mem_map.mp (hp.mem_iff.mp hk)
    exact ⟨p, hp', e⟩
  refine ⟨⟨?_, fun p hp' => ?_⟩, fun k => ?_⟩
  · rw [List.pairwise_map]; exact ha
  · obtain ⟨k, hk, rfl⟩ := List.mem_map.mp hp'
    obtain ⟨p, h1, rfl⟩ := at' k hk
    simp only
    rw [tal_of h.nd h1]
    exact h.pos p h1
  · rw [tal_keys _ ks nd, ← h.val k]
    split
    · rfl
    · rename_i hn
      exact (tal_no d k fun p hp' e => hn (hp.mem_iff.mpr (List.mem_map.mpr ⟨p, hp', e⟩))).symm
theorem val_encS : ∀ (d : List (Nat × Nat)) (k : Nat), (d.map (·.1)).Nodup → k ∈ d.map (·.1) → valV (encD d) (Sum.inl (k : Int)) = some (.int (tal d k : Nat))
  | p :: d, k, nd, hk => by
    rw [List.map_cons] at nd hk
    obtain ⟨h1, h2⟩ := List.nodup_cons.mp nd
    show valV (((Sum.inl (p.1 : Int) : Key), V.int (p.2 : Int)) :: encD d) _ = _
    rw [tal_cons]
    by_cases h : p.1 = k
    · rw [valV_pos ((key_inj _ _).mpr h), if_pos h, tal_no d k fun q hq z => h1 (List.mem_map.mpr ⟨q, hq, by rw [h]; exact z⟩)]
      rfl
    · rw [valV_neg fun z => h ((key_inj _ _).mp z), if_neg h, Nat.zero_add]
      exact val_encS d k h2 ((List.mem_cons.mp hk).resolve_left fun e => h e.symm)
section
variable {M : Mk} {σ : L2.St} {H : Hp} {to te ta : TE} {L : Addr} {d : List (Nat × Nat)} {g : Nat → Nat}
theorem ed_dgetN {k : Nat} (ht : EvV to σ H (.ref L)) (hl : H L = some (.dK (encD d))) (nd : (d.map (·.1)).Nodup) (hm : k ∈ d.map (·.1)) (hk : EvD K M te σ H (nI k)) : EvD K M (tDGet to te) σ H (nI (tal d k)) := fun H1 e Q q =>
  ht H1 e _ fun v H2 e2 hv1 => hk H2 (e.trans e2) _ fun u H3 e3 hu => by
    cases hv1
    rw [dp_int hu]
    refine ⟨L, .int (tal d k : Nat), rfl, .inl ⟨encD d, .inl (k : Int), .of (e3 _ _ (e2 _ _ (e _ _ hl))), rfl, (val_encS d k nd hm).symm⟩, q _ H3 (e2.trans e3) (.int _)⟩
def rListD : List V → Hp → VK → Prop := fun xs H Q => ∃ (a : Addr) (kvs : List (Key × V)), xs = [.ref a] ∧ Rd H a (.dK kvs) ∧ ∀ p, H p = none → Q (.ref p) (upd H p (.lst (kvs.map fun kv => kV kv.1)))
/-- sorted(list(d)) -/
theorem ed_sortKeys {ks : List Nat} (wd : Wd M H) (ht : EvV to σ H (.ref L)) (hl : H L = some (.dK (encD d))) (ha : Asc ks) (hp : ks.Perm (d.map (·.1))) : EvD K M (tCB (rSortedI K) (tCons (tCB rListD (tCons to tNil)) tNil)) σ H (.list (ks.map nI)) := fun H1 e Q q =>
  ht H1 e _ fun v H2 e2 hv => by
    cases hv
    refine ⟨L, encD d, rfl, .of (e2 _ _ (e _ _ hl)), fun p hpn => ?_⟩
    have ek : ((encD d).map fun kv => kV kv.1) = (d.map fun p => (p.1 : Int)).map V.int := by
      unfold encD
      rw [List.map_map, List.map_map]
      rfl
    rw [ek]
    refine ⟨p, d.map fun p => (p.1 : Int), rfl, .of upd_same, fun ns p2 h1 h2 hp2 => ?_⟩
    have ens : ns = ks.map fun n : Nat => (n : Int) := by
      have hns : ns.Nodup := h1.nodup_iff.mpr (by
        have : d.map (fun p => (p.1 : Int)) = (d.map (·.1)).map fun n : Nat => (n : Int) := by rw [List.map_map]; rfl
        rw [this, List.nodup_iff_pairwise_ne, List.pairwise_map]
        refine List.Pairwise.imp (fun h z => h (Int.ofNat.inj z)) (List.nodup_iff_pairwise_ne.mp (hp.nodup_iff.mp ?_))
        exact List.nodup_iff_pairwise_ne.mpr (List.Pairwise.imp (fun h => Nat.ne_of_lt h) ha))
      refine asc_extI (List.Pairwise.imp₂ (fun a b h g => by omega) h2 hns) (asc_cast ha) fun x => ?_
      rw [h1.mem_iff, List.mem_map, List.mem_map]
      constructor
      · rintro ⟨q, hq, rfl⟩
        exact ⟨q.1, hp.mem_iff.mpr (List.mem_map.mpr ⟨q, hq, rfl⟩), rfl⟩
      · rintro ⟨n, hn, rfl⟩
        obtain ⟨q, hq, rfl⟩ := List.mem_map.mp (hp.mem_iff.mp hn)
        exact ⟨q, hq, rfl⟩
    subst ens
    refine q _ _ ((e2.trans (same_new hpn)).trans (same_new hp2)) ?_
    have hm2 : M p2 = false := ((wd.mono (e.trans e2)).mono (same_new hpn)).new hp2
    rw [natsI]
    exact .lst (.of (hm_of hm2 upd_same)) (dps_of_ints _)
end
def DueP (K : PySem.W.Frag) (a b : List (Nat × Nat)) (H : Hp) (v : V) : Prop := ∃ zs : List (Nat × Nat), Canon zs ∧ (∀ k, tal zs k = T a b k) ∧ zs.length ≤ a.length * b.length ∧ Dp K H v (pairsD zs)
theorem sc_law_due : FnScope ["_law_lengths", "_law_others", "_law_got", "_law_one_here", "_law_many", "_law_two", "_law_more", "_law_shared", "_law_length"] ["_law_lengths", "_law_others"] (defScope s_law_due) := ⟨rfl, rfl, rfl, by decide +kernel, rfl, by decide +kernel, by decide +kernel⟩
theorem ok_law_due (T : Tx K mg) : Cal P w K mg base 2 "_law_due" ["_law_lengths", "_law_others"] (spR (fun (x : List (Nat × Nat) × List (Nat × Nat)) H vs => LbOk x.1 x.2 ∧ DpAll K H vs [pairsD x.1, pairsD x.2]) (fun x H v => DueP K x.1 x.2 H v)) := by
  refine mkR T.d_law_due sc_law_due (fun i H vs h => by obtain ⟨_, h⟩ := h; exact dps_len h) (fun _ _ _ _ _ _ us hl => match us, hl with | [_, _], _ => rfl) fun f cdv A outer s H vs Q E hr M x wd hp q => ?_
  obtain ⟨a, b⟩ := x
  obtain ⟨ok, hv⟩ := hp
  have ok : LbOk a b := ok
  have q : ∀ v H', Same H H' → DueP K a b (Hm M H') v → Q v H' := q
  obtain ⟨v0, v1, rfl, h0, h1⟩ := two_of hv
  simp only at h0 h1
  obtain ⟨ca, cb, sa, sb, la, lb⟩ := ok
  refine ⟨_, (pss_cons (ps_set (i := 2) sc_law_due.nd rfl (.inr rfl) pe_dnewK)
      (pss_cons (ps_for PassesOwn.never rfl (pi_listK K (pv 0)) (pg_tupK (n := 2) K rfl (pgs_cons (pg_name (i := 3) sc_law_due.nd rfl (.inl rfl)) (pgs_cons (pg_name (i := 4) sc_law_due.nd rfl (.inl rfl)) pgs_nil))) (pss_one (ps_for PassesOwn.never rfl (pi_listK K (pv 1)) (pg_tupK (n := 2) K rfl (pgs_cons (pg_name (i := 5) sc_law_due.nd rfl (.inl rfl)) (pgs_cons (pg_name (i := 6) sc_law_due.nd rfl (.inl rfl)) pgs_nil))) (pss_cons (ps_set (i := 7) sc_law_due.nd rfl (.inl rfl) (pe_cal (ok_law_common T) (hr.mono (by decide)) (by rfl) (pa_cons (pv 3) (pa_cons (pv 5) pa_nil))))
      (pss_one (ps_asg (pe_op op_add (pe_dget2 (room1 hr) (pv 2) (pe_op op_fdivW (pe_op op_mulX (pv 3) (pv 5)) (pv 7)) pe_int ⟨rfl, rfl, rfl, rfl⟩) (pe_op op_mulX (pe_op op_mulX (pv 4) (pv 6)) (pv 7))) (pg_sub (pv 2) (pe_op op_fdivW (pe_op op_mulX (pv 3) (pv 5)) (pv 7)) (set_dict (room1 hr)))))))))
      (pss_one (ps_ret (pe_lc (own := [("_law_length", 8)])  rfl sc_law_due.nd (pi_listK K (pe_callB (cr_sortedIK K) (by rfl) T.b_sorted (by decide +kernel) (pa_cons (pe_callTy (call_listD rfl) (by rfl) T.b_list (by decide +kernel) (pa_cons (pv 2) pa_nil)) pa_nil))) (blkOk_by (N := ["_law_lengths", "_law_others", "_law_got", "_law_one_here", "_law_many", "_law_two", "_law_more", "_law_shared", "_law_length"]) (sc := defScope s_law_due) (own := [("_law_length", 8)]) (by decide +kernel)) (fun _ _ _ _ _ => pg_name (i := 8) sc_law_due.nd rfl (Or.inl rfl)) (fun _ _ _ _ _ => pts_nil) (fun _ _ _ _ _ => (pe_tup (pa_cons (pv 8) (pa_cons (pe_dget (room1 hr) (pv 2) (pv 8) (fun _ _ => rfl)) pa_nil))))))))), ?_⟩
  refine q_dnew fun L hL => ?_
  have s0 := same_new (o := .dK (encD [])) hL
  have hmL : M L = false := wd.new hL
  have e0 := hm_new (M := M) (o := .dK (encD [])) hL
  have w0 := wd_new (o := .dK (encD [])) wd hL
  have d0 : (upd H L (.dK (encD []))) L = some (.dK (encD [])) := upd_same
  generalize upd H L (.dK (encD [])) = H1 at s0 e0 w0 d0
  refine q_for (K := K) (M := addM M L) (src_list (ed_var rfl (h0.up e0))) fun H2 e2 => ⟨fun i σ' H' => ∃ y3 y4 y5 y6 y7, σ' = [some v0, some v1, some (.ref L), y3, y4, y5, y6, y7, none] ∧ Same H H' ∧ Same (Hm (addM M L) H2) (Hm (addM M L) H') ∧ Wd (addM M L) H' ∧
    ∃ d, H' L = some (.dK (encD d)) ∧ Dd d (fun k => EIT.T (a.take i) b k) ∧ d.length ≤ i * b.length, ?_, ?_, ?_, ?_⟩
  · exact ⟨none, none, none, none, none, rfl, s0.trans e2, Same.refl _, w0.mono e2, [], e2 _ _ d0, Dd.empty, Nat.zero_le _⟩
  · rintro i σ' H' ⟨y3, y4, y5, y6, y7, rfl, g1, g2, g3, _⟩
    exact ⟨g2, g3⟩
  · rintro i di x σ' H' H'' hd ⟨y3, y4, y5, y6, y7, rfl, g1, g2, g3, d, hdl, hdd, hdn⟩ e4 hx
    have hi : i < a.length := by
      obtain ⟨g, _⟩ := List.getElem?_eq_some_iff.mp hd
      rw [List.length_map] at g; exact g
    have hdi : di = pairD a[i] := by
      rw [List.getElem?_map, List.getElem?_eq_getElem hi] at hd
      exact (Option.some.inj hd).symm
    subst hdi
    have hpa := ca.pos _ (List.getElem_mem hi)
    have hza := sa _ (List.getElem_mem hi)
    have htk := List.take_succ_eq_append_getElem hi
    generalize a[i] = pr at hx hpa hza htk
    refine g_two hx fun x3 x4 hx3 hx4 => ?_
    cases (dp_int hx3)
    cases (dp_int hx4)
    have g1 := g1.trans e4
    have g2 := g2.trans (hm_mono e4)
    have g3 := g3.mono e4
    have hdl := e4 _ _ hdl
    have eM : Same (Hm M H) (Hm (addM M L) H'') := (e0.trans (hm_mono e2)).trans g2
    refine s_for (K := K) (M := addM M L) (src_list (ed_var rfl (h1.up eM))) fun H3 e5 => ⟨fun j σ' H' => ∃ y5 y6 y7, σ' = [some v0, some v1, some (.ref L), some (.int (pr.1 : Nat)), some (.int (pr.2 : Nat)), y5, y6, y7, none] ∧ Same H H' ∧ Same (Hm (addM M L) H3) (Hm (addM M L) H') ∧ Wd (addM M L) H' ∧
      ∃ d, H' L = some (.dK (encD d)) ∧ Dd d (fun k => EIT.T (a.take i) b k + T1 pr (b.take j) k) ∧ d.length ≤ i * b.length + j, ?_, ?_, ?_, ?_⟩
    · exact ⟨y5, y6, y7, rfl, g1.trans e5, Same.refl _, g3.mono e5, d, e5 _ _ hdl, hdd.congr fun k => rfl, hdn⟩
    · rintro j σ' H' ⟨y5, y6, y7, rfl, k1, k2, k3, _⟩
      exact ⟨k2, k3⟩
    · rintro j dj z σ' H' H4 hd2 ⟨y5, y6, y7, rfl, k1, k2, k3, d, hdl, hdd, hdn⟩ e6 hz
      have hj : j < b.length := by
        obtain ⟨g, _⟩ := List.getElem?_eq_some_iff.mp hd2
        rw [List.length_map] at g; exact g
      have hdj : dj = pairD b[j] := by
        rw [List.getElem?_map, List.getElem?_eq_getElem hj] at hd2
        exact (Option.some.inj hd2).symm
      subst hdj
      have hqb := cb.pos _ (List.getElem_mem hj)
      have hzb := sb _ (List.getElem_mem hj)
      have htb := List.take_succ_eq_append_getElem hj
      generalize b[j] = qr at hz hqb hzb htb
      refine g_two hz fun x5 x6 hx5 hx6 => ?_
      cases (dp_int hx5)
      cases (dp_int hx6)
      have hdl := e6 _ _ hdl
      show tSeq _ _ _ _ _
      refine q_asg (K := K) (M := addM M L) (d := nI (Nat.gcd pr.1 qr.1)) (ed_call (pr.1, qr.1) (k3.mono e6) (ea_cons (ed_var rfl (.int _)) (ea_cons (ed_var rfl (.int _)) ea_nil)) trivial) fun v7 H5 e7 hv7 => ?_
      cases (dp_int hv7)
      have hg1 : Nat.gcd pr.1 qr.1 ≤ pr.1 := Nat.gcd_le_left _ hpa.1
      have hgp : 0 < Nat.gcd pr.1 qr.1 := Nat.gcd_pos_of_pos_left _ hpa.1
      have b2 : (2 : Nat) ^ 2000 ≤ 2 ^ 8000 := Nat.pow_le_pow_right (by decide) (by decide)
      have key : ∀ {H6 : Hp} {σ : L2.St}, σ[3]? = some (some (.int (pr.1 : Nat))) → σ[5]? = some (some (.int (qr.1 : Nat))) → σ[7]? = some (some (.int ((Nat.gcd pr.1 qr.1 : Nat) : Int))) → EvD K (addM M L) (tOp (rI CDivW fun i j => V.int (i / j)) (tOp (rI CMulX fun i j => V.int (i * j)) (tVar 3) (tVar 5)) (tVar 7)) σ H6 (nI (Nat.lcm pr.1 qr.1)) := fun h3 h5 h7 =>
        ed_divN (ed_mulN (ed_var h3 (.int _)) (ed_var h5 (.int _)) hza.1 hzb.1 (by decide)) (ed_var h7 (.int _)) hgp (Nat.lt_of_le_of_lt hg1 (Nat.lt_of_lt_of_le hza.1 b2))
      have e68 := e6.trans e7
      have hdl6 := e7 _ _ hdl
      have bnd : i * b.length + j < 100000 := by
        have h1 : i * b.length ≤ 299 * 300 := Nat.mul_le_mul (by omega) lb
        omega
      refine s_dput (K := K) (M := addM M L) (k := Nat.lcm pr.1 qr.1) (v := (EIT.T (a.take i) b (Nat.lcm pr.1 qr.1) + T1 pr (b.take j) (Nat.lcm pr.1 qr.1)) + pr.2 * qr.2 * Nat.gcd pr.1 qr.1) (EvD.eq (ed_I0 (ed_get (ev_var rfl) hdl6 hdd (key rfl rfl rfl)) (ed_IC (ed_IC (ed_var rfl (.int _)) (ed_var rfl (.int _)) (mulX_nat hza.2 hzb.2 (by decide))) (ed_var rfl (.int _)) ?_)) ?_) (ev_var rfl) (key rfl rfl rfl) hdl6 (by omega) fun H7 b7 hdl7 => ?_
      · rw [← Int.natCast_mul]
        refine mulX_nat (B := 4000) (C := 2000) ?_ (Nat.lt_of_le_of_lt hg1 hza.1) (by decide)
        rw [show (4000 : Nat) = 2000 + 2000 from rfl, Nat.pow_add]
        exact Nat.mul_lt_mul'' hza.2 hzb.2
      · show PyData.int _ = .int _
        rw [← Int.natCast_mul, ← Int.natCast_mul, ← Int.natCast_add]
      refine ⟨_, _, _, rfl, b7.same (k1.trans e68) ?_, (k2.trans (hm_mono e68)).trans (b7.hm addM_same), b7.wd (k3.mono e68) (by rw [hdl7]; intro z; cases z), _, hdl7, ?_, ?_⟩
      · exact hL
      · rw [htb]
        exact dd_step hdd hpa hqb
      · have := put_len d (Nat.lcm pr.1 qr.1) ((EIT.T (a.take i) b (Nat.lcm pr.1 qr.1) + T1 pr (b.take j) (Nat.lcm pr.1 qr.1)) + pr.2 * qr.2 * Nat.gcd pr.1 qr.1)
        omega
    · rintro σ' H' ⟨y5, y6, y7, rfl, k1, k2, k3, d, hdl, hdd, hdn⟩
      rw [List.length_map] at hdd hdn
      rw [List.take_length] at hdd
      refine ⟨_, _, _, _, _, rfl, k1, (g2.trans (hm_mono e5)).trans k2, k3, d, hdl, hdd.congr fun k => ?_, ?_⟩
      · rw [htk, T_snoc]
      · rw [Nat.succ_mul]; exact hdn
  · rintro σ' H' ⟨y3, y4, y5, y6, y7, rfl, g1, g2, g3, d, hdl, hdd, hdn⟩
    rw [List.length_map] at hdd hdn
    rw [List.take_length] at hdd
    have nd := hdd.nd
    obtain ⟨ks, hka, hkp⟩ := keys_sorted (d.map (·.1)) nd
    obtain ⟨hcan, htal⟩ := canon_dd hdd hka hkp
    have wE : Wd M H' := wd.mono g1
    have hkl : ks.length = d.length := by rw [hkp.length_eq, List.length_map]
    have hab : a.length * b.length ≤ 300 * 300 := Nat.mul_le_mul la lb
    refine s_ret (ed_map (K := K) (M := M) (xs := ks) (enc := nI) (r := fun k => pairD (k, tal d k)) wE (src_list (ed_sortKeys wE (ev_var rfl) hdl hka hkp)) (by omega) (fun _ => rfl) fun k hk M' H3 z e3 e4 w3 hz => ed_tup w3 (ea_cons (ed_var rfl hz) (ea_cons (ed_dgetN (ev_var rfl) (e3 _ _ hdl) nd (hkp.mem_iff.mp hk) (ed_var rfl hz)) ea_nil))) fun v H3 e3 hv => q v H3 (g1.trans e3) ⟨_, hcan, htal, by rw [List.length_map]; omega, ?_⟩
    unfold pairsD
    rw [List.map_map]
    exact hv
end
end EIT
end
/-! text P5 -/
section
/-! Plain: how many numbers stand on rings of each length; two maps beside one another. -/
namespace EIT
section
variable {F G : Nat → Nat} {N M : Nat}
theorem it_comm (F : Nat → Nat) (a b x : Nat) : it F a (it F b x) = it F b (it F a x) := by rw [← it_add, ← it_add, Nat.add_comm]
theorem mp_of_it {n : Nat} (h : 0 < mp F N n) (i : Nat) : mp F N (it F i n) = mp F N n := by
  obtain ⟨h1, h2, h3⟩ := mp_spec h
  refine mp_unique h h1 (by rw [it_comm, h2]) fun k hk e => mp_dvd h ?_
  -- n is again behind i steps
  have e1 : it F ((mp F N n) * i - i) (it F i n) = n := by
    rw [← it_add, show mp F N n * i - i + i = mp F N n * i by
      have := Nat.le_mul_of_pos_left i h
      omega]
    exact it_mul h2 i
  have e2 := congrArg (it F (mp F N n * i - i)) e
  rw [it_comm, e1] at e2
  exact e2
theorem mem_ring {n x : Nat} (h : 0 < mp F N n) : x ∈ ringOf F N n ↔ ∃ i, it F i n = x := by
  obtain ⟨h1, h2, h3⟩ := mp_spec h
  unfold ringOf
  rw [List.mem_map]
  constructor
  · rintro ⟨i, _, e⟩; exact ⟨i, e⟩
  · rintro ⟨i, e⟩
    refine ⟨i % mp F N n, List.mem_range.mpr (Nat.mod_lt _ h), ?_⟩
    rw [← e]
    have e2 : i = i % mp F N n + mp F N n * (i / mp F N n) := by rw [Nat.add_comm]; exact (Nat.div_add_mod i _).symm
    conv => rhs; rw [e2, it_add, it_mul h2]
theorem ring_nd {n : Nat} (h : 0 < mp F N n) : (ringOf F N n).Nodup := by
  obtain ⟨h1, h2, h3⟩ := mp_spec h
  unfold ringOf
  refine List.pairwise_map.mpr (List.Pairwise.imp_of_mem ?_ (List.pairwise_lt_range (n := mp F N n)))
  intro i j hi hj hij e
  have hj := List.mem_range.mp hj
  have e2 := congrArg (it F (mp F N n - j)) e
  rw [← it_add, ← it_add, show mp F N n - j + j = mp F N n by omega, h2] at e2
  exact h3 (mp F N n - j + i) (by omega) (by omega) e2
theorem ring_back {n x : Nat} (h : 0 < mp F N n) (hx : x ∈ ringOf F N n) : n ∈ ringOf F N x := by
  obtain ⟨i, e⟩ := (mem_ring h).mp hx
  obtain ⟨h1, h2, h3⟩ := mp_spec h
  rw [mem_ring (by rw [← e, mp_of_it h]; exact h)]
  refine ⟨mp F N n * i - i, ?_⟩
  rw [← e, ← it_add, show mp F N n * i - i + i = mp F N n * i by
      have := Nat.le_mul_of_pos_left i h
      omega]
  exact it_mul h2 i
theorem mark_get : ∀ (ring : List Nat) (met : List Bool) (x : Nat), x < met.length → ((mark met ring)[x]?.getD false = true ↔ met[x]?.getD false = true ∨ x ∈ ring)
  | [], _, _, _ => by show _ ↔ _ ∨ _; simp [mark]
  | a :: ring, met, x, h => by
    show (mark (met.set a true) ring)[x]?.getD false = true ↔ _
    rw [mark_get ring (met.set a true) x (by rw [List.length_set]; exact h), List.getElem?_set]
    by_cases e : a = x
    · subst e
      rw [if_pos rfl, if_pos h]
      simp
    · rw [if_neg e]
      have : ¬ x = a := fun z => e z.symm
      simp [this]
structure RInv (F : Nat → Nat) (N : Nat) (st : List (List Nat) × List Bool) : Prop where
  len : st.2.length = N
  met : ∀ x, x < N → (st.2[x]?.getD false = true ↔ x ∈ st.1.flatten)
  form : ∀ r ∈ st.1, ∃ n, n ∈ per F N ∧ r = ringOf F N n
  nd : st.1.flatten.Nodup
theorem per_pos {n : Nat} (h : n ∈ per F N) : 0 < mp F N n := mp_pos.mpr (mem_per.mp h).2
theorem RInv.step {st : List (List Nat) × List Bool} (I : RInv F N st) {n : Nat} (hn : n ∈ per F N) : RInv F N (rStep F N st n) ∧ n ∈ (rStep F N st n).1.flatten ∧ ∀ x ∈ st.1.flatten, x ∈ (rStep F N st n).1.flatten := by
  have hp := per_pos hn
  have hN := (mem_per.mp hn).1
  unfold rStep
  by_cases h : st.2[n]?.getD false = true
  · rw [if_pos h]
    exact ⟨I, (I.met n hN).mp h, fun _ hx => hx⟩
  · rw [if_neg h]
    have hno : n ∉ st.1.flatten := fun z => h ((I.met n hN).mpr z)
    have ef : (st.1 ++ [ringOf F N n]).flatten = st.1.flatten ++ ringOf F N n := by rw [List.flatten_append]; simp
    refine ⟨⟨?_, fun x hx => ?_, fun r hr => ?_, ?_⟩, ?_, fun x hx => ?_⟩
    · show (mark st.2 _).length = N
      rw [mark_len]; exact I.len
    · show (mark st.2 _)[x]?.getD false = true ↔ x ∈ (st.1 ++ [ringOf F N n]).flatten
      rw [mark_get _ _ _ (by rw [I.len]; exact hx), ef, List.mem_append, I.met x hx]
    · rcases List.mem_append.mp hr with e | e
      · exact I.form r e
      · exact ⟨n, hn, List.mem_singleton.mp e⟩
    · show (st.1 ++ [ringOf F N n]).flatten.Nodup
      rw [ef]
      refine List.nodup_append.mpr ⟨I.nd, ring_nd hp, ?_⟩
      intro x hx y hy e
      subst e
      obtain ⟨r, hr, hxr⟩ := List.mem_flatten.mp hx
      obtain ⟨m, hm, rfl⟩ := I.form r hr
      have hpm := per_pos hm
      refine hno (List.mem_flatten.mpr ⟨_, hr, ?_⟩)
      obtain ⟨i, ei⟩ := (mem_ring hpm).mp hxr
      have hpx : 0 < mp F N x := by rw [← ei, mp_of_it hpm]; exact hpm
      obtain ⟨j, ej⟩ := (mem_ring hpx).mp (ring_back hp hy)
      rw [mem_ring hpm]
      exact ⟨j + i, by rw [it_add, ei, ej]⟩
    · show n ∈ (st.1 ++ [ringOf F N n]).flatten
      rw [ef]
      exact List.mem_append_right _ ((mem_ring hp).mpr ⟨0, rfl⟩)
    · show x ∈ (st.1 ++ [ringOf F N n]).flatten
      rw [ef]
      exact List.mem_append_left _ hx
theorem RInv.all : ∀ (l : List Nat) (st : List (List Nat) × List Bool), RInv F N st → (∀ n ∈ l, n ∈ per F N) → RInv F N (l.foldl (rStep F N) st) ∧ (∀ n ∈ l, n ∈ (l.foldl (rStep F N) st).1.flatten) ∧ ∀ x ∈ st.1.flatten, x ∈ (l.foldl (rStep F N) st).1.flatten
  | [], st, I, _ => ⟨I, fun _ h => (by cases h), fun _ h => h⟩
  | n :: l, st, I, h => by
    obtain ⟨I1, h1, h2⟩ := I.step (h n List.mem_cons_self)
    obtain ⟨I2, h3, h4⟩ := RInv.all l _ I1 fun m hm => h m (List.mem_cons_of_mem _ hm)
    refine ⟨I2, fun m hm => ?_, fun x hx => h4 x (h2 x hx)⟩
    rcases List.mem_cons.mp hm with e | e
    · rw [e]; exact h4 n h1
    · exact h3 m e
theorem rinv_start : RInv F N ([], List.replicate N false) := ⟨List.length_replicate, fun x hx => by
    rw [List.getElem?_replicate, if_pos hx]
    simp, fun r h => (nomatch h), List.Pairwise.nil⟩
theorem rings_inv : RInv F N (ringsSt F N (per F N)) := (RInv.all (per F N) _ rinv_start fun _ h => h).1
theorem per_closed (c : Cl F N) {n : Nat} (h : n ∈ per F N) (i : Nat) : it F i n ∈ per F N := mem_per.mpr ⟨it_lt c i (mem_per.mp h).1, mp_pos.mp (by rw [mp_of_it (per_pos h)]; exact per_pos h)⟩
theorem rings_perm (c : Cl F N) : (rings F N).flatten.Perm (per F N) := by
  have I := rings_inv (F := F) (N := N)
  refine (List.perm_ext_iff_of_nodup I.nd (asc_filter _ _).nd).mpr fun x => ⟨fun hx => ?_, fun hx => (RInv.all (per F N) _ rinv_start fun _ h => h).2.1 x hx⟩
  obtain ⟨r, hr, hxr⟩ := List.mem_flatten.mp hx
  obtain ⟨n, hn, rfl⟩ := I.form r hr
  obtain ⟨i, e⟩ := (mem_ring (per_pos hn)).mp hxr
  rw [← e]
  exact per_closed c hn i
theorem flat_count (L : Nat) : ∀ rs : List (List Nat), (∀ r ∈ rs, ∃ n, n ∈ per F N ∧ r = ringOf F N n) → rs.flatten.countP (fun y => mp F N y == L) = L * (rs.map List.length).count L
  | [], _ => rfl
  | r :: rs, h => by
    obtain ⟨n, hn, e⟩ := h r List.mem_cons_self
    have hp := per_pos hn
    have hall : ∀ y ∈ r, mp F N y = mp F N n := fun y hy => by
      rw [e] at hy
      obtain ⟨i, ei⟩ := (mem_ring hp).mp hy
      rw [← ei, mp_of_it hp]
    have hl : r.length = mp F N n := by rw [e]; unfold ringOf; rw [List.length_map, List.length_range]
    rw [List.flatten_cons, List.countP_append, flat_count L rs fun r' hr' => h r' (List.mem_cons_of_mem _ hr'), List.map_cons, List.count_cons]
    by_cases q : r.length = L
    · have h1 : r.countP (fun y => mp F N y == L) = r.length := List.countP_eq_length.mpr fun y hy => by rw [hall y hy, ← hl, q]; simp
      rw [h1, q, if_pos (by simp), Nat.mul_add, Nat.mul_one]
      exact Nat.add_comm _ _
    · have h1 : r.countP (fun y => mp F N y == L) = 0 := List.countP_eq_zero.mpr fun y hy => by rw [hall y hy, ← hl]; simpa using q
      rw [h1, if_neg (by simpa using q), Nat.zero_add, Nat.add_zero]
/-- the numbers on rings of a length -/
def onRing (F : Nat → Nat) (N k : Nat) : Nat := ((List.range N).map fun y => if mp F N y = k then 1 else 0).sum
theorem countP_sum (p : Nat → Bool) : ∀ l : List Nat, l.countP p = (l.map fun y => if p y = true then 1 else 0).sum
  | [] => rfl
  | a :: l => by
    rw [List.countP_cons, List.map_cons, List.sum_cons, countP_sum p l, Nat.add_comm]
theorem lens_count (c : Cl F N) {k : Nat} (hk : 0 < k) : k * (lens F N).count k = onRing F N k := by
  have e0 : (rings F N).flatten.countP (fun y => mp F N y == k) = k * (lens F N).count k := flat_count k _ rings_inv.form
  rw [← e0]
  rw [(rings_perm c).countP_eq, show per F N = (List.range N).filter (isPer F N) from rfl, List.countP_filter, countP_sum]
  refine sum_cong fun y _ => ?_
  by_cases e : mp F N y = k
  · rw [if_pos e, if_pos]
    rw [e]
    simp [mp_pos.mp (show 0 < mp F N y by omega)]
  · rw [if_neg e, if_neg]
    simp [e]
theorem lens_pos {k : Nat} (h : k ∈ lens F N) : 0 < k := by
  obtain ⟨r, hr, rfl⟩ := List.mem_map.mp h
  obtain ⟨n, hn, rfl⟩ := rings_inv.form r hr
  unfold ringOf
  rw [List.length_map, List.length_range]
  exact per_pos hn
theorem RL_keys : Asc ((List.range (N + 1)).filter fun L => decide (L ∈ lens F N)) := asc_filter _ _
theorem RL_canon : Canon (RL F N) := by
  refine ⟨?_, fun p hp => ?_⟩
  · unfold RL
    rw [List.pairwise_map]
    exact RL_keys
  · obtain ⟨L, hL, rfl⟩ := List.mem_map.mp hp
    have h := of_decide_eq_true (List.mem_filter.mp hL).2
    exact ⟨lens_pos h, List.count_pos_iff.mpr h⟩
theorem RL_tal (k : Nat) : tal (RL F N) k = (lens F N).count k := by
  unfold RL
  rw [tal_keys _ _ RL_keys.nd]
  split
  · rfl
  · rename_i h
    refine (List.count_eq_zero.mpr fun z => h (List.mem_filter.mpr ⟨List.mem_range.mpr (Nat.lt_succ_of_le (lens_small k z)), decide_eq_true z⟩)).symm
theorem RL_on (c : Cl F N) {k : Nat} (hk : 0 < k) : k * tal (RL F N) k = onRing F N k := by rw [RL_tal, lens_count c hk]
/-! what comes again does so soon -/
theorem per_soon (c : Cl F N) {y t : Nat} (hy : y < N) (ht : 0 < t) (e : it F t y = y) : isPer F N y = true := by
  have hdup : ¬ ((List.range (N + 1)).map fun j => it F j y).Nodup := fun nd => by
    have := L2.nat_nodup_len _ (List.range N) nd fun x hx => by
      obtain ⟨j, _, rfl⟩ := List.mem_map.mp hx
      exact List.mem_range.mpr (it_lt c j hy)
    rw [List.length_map, List.length_range, List.length_range] at this
    omega
  refine Classical.byContradiction fun hno => hdup ?_
  refine List.pairwise_map.mpr (List.Pairwise.imp_of_mem ?_ (List.pairwise_lt_range (n := N + 1)))
  intro a b ha hb hab e2
  have hb' := List.mem_range.mp hb
  refine hno (isPer_iff.mpr ⟨b - a - 1, by omega, ?_⟩)
  have e3 := congrArg (it F (t * a - a)) e2
  have hle : a ≤ t * a := Nat.le_mul_of_pos_left a ht
  rw [← it_add, show t * a - a + a = t * a by omega, it_mul e a, ← it_add, show t * a - a + b = (b - a) + t * a by omega, it_add, it_mul e a] at e3
  rw [show b - a - 1 + 1 = b - a by omega]
  exact e3.symm
/-! two maps beside one another -/
structure Beside (F G H : Nat → Nat) (N M : Nat) : Prop where
  cF : Cl F N
  cG : Cl G M
  at_ : ∀ i j, i < N → j < M → H (i * M + j) = F i * M + G j
theorem pair_lt {i j : Nat} (hi : i < N) (hj : j < M) : i * M + j < N * M := by
  have : (i + 1) * M ≤ N * M := Nat.mul_le_mul_right M hi
  rw [Nat.succ_mul] at this
  omega
theorem pair_inj {i j i' j' : Nat} (hj : j < M) (hj' : j' < M) (e : i * M + j = i' * M + j') : i = i' ∧ j = j' := by
  have h0 : 0 < M := by omega
  have h1 : (i * M + j) / M = i := by rw [Nat.mul_comm, Nat.mul_add_div h0, Nat.div_eq_of_lt hj, Nat.add_zero]
  have h2 : (i' * M + j') / M = i' := by rw [Nat.mul_comm, Nat.mul_add_div h0, Nat.div_eq_of_lt hj', Nat.add_zero]
  have h3 : i = i' := by rw [← h1, ← h2, e]
  subst h3
  exact ⟨rfl, by omega⟩
variable {H : Nat → Nat}
theorem Beside.cl (B : Beside F G H N M) : Cl H (N * M) := fun x hx => by
  have h0 : 0 < M := Nat.pos_of_ne_zero fun z => by rw [z, Nat.mul_zero] at hx; exact absurd hx (Nat.not_lt_zero _)
  have h1 : x / M < N := (Nat.div_lt_iff_lt_mul h0).mpr hx
  have h2 := Nat.mod_lt x h0
  have e : x = x / M * M + x % M := by rw [Nat.mul_comm]; exact (Nat.div_add_mod x M).symm
  rw [e, B.at_ _ _ h1 h2]
  exact pair_lt (B.cF _ h1) (B.cG _ h2)
theorem Beside.it (B : Beside F G H N M) : ∀ (t : Nat) {i j : Nat}, i < N → j < M → it H t (i * M + j) = it F t i * M + it G t j
  | 0, _, _, _, _ => rfl
  | t + 1, i, j, hi, hj => by
    show H (EIT.it H t (i * M + j)) = _
    rw [B.it t hi hj, B.at_ _ _ (it_lt B.cF t hi) (it_lt B.cG t hj)]
    rfl
theorem Beside.mp (B : Beside F G H N M) {i j : Nat} (hi : i < N) (hj : j < M) : mp H (N * M) (i * M + j) = Nat.lcm (mp F N i) (mp G M j) := by
  have key : ∀ t, EIT.it H t (i * M + j) = i * M + j → EIT.it F t i = i ∧ EIT.it G t j = j := fun t e => by
    rw [B.it t hi hj] at e
    exact pair_inj (it_lt B.cG t hj) hj e
  rcases Nat.eq_zero_or_pos (EIT.mp H (N * M) (i * M + j)) with e | e
  · -- not on a ring
    rw [e]
    refine (Classical.byContradiction fun hne => ?_ : Nat.lcm (EIT.mp F N i) (EIT.mp G M j) = 0).symm
    have p1 : 0 < EIT.mp F N i := Nat.pos_of_ne_zero fun z => hne (by rw [z, Nat.lcm_zero_left])
    have p2 : 0 < EIT.mp G M j := Nat.pos_of_ne_zero fun z => hne (by rw [z, Nat.lcm_zero_right])
    obtain ⟨_, a2, _⟩ := mp_spec p1
    obtain ⟨_, b2, _⟩ := mp_spec p2
    have hl : 0 < Nat.lcm (EIT.mp F N i) (EIT.mp G M j) := Nat.lcm_pos p1 p2
    have hp := per_soon B.cl (pair_lt hi hj) hl (by
      rw [B.it _ hi hj]
      obtain ⟨u, eu⟩ := Nat.dvd_lcm_left (EIT.mp F N i) (EIT.mp G M j)
      obtain ⟨v, ev⟩ := Nat.dvd_lcm_right (EIT.mp F N i) (EIT.mp G M j)
      congr 1
      · congr 1
        rw [eu]; exact it_mul a2 u
      · rw [ev]; exact it_mul b2 v)
    have := mp_pos.mpr hp
    omega
  · obtain ⟨h1, h2, h3⟩ := mp_spec e
    obtain ⟨k1, k2⟩ := key _ h2
    have p1 := mp_pos.mpr (per_soon B.cF hi e k1)
    have p2 := mp_pos.mpr (per_soon B.cG hj e k2)
    obtain ⟨a1, a2, _⟩ := mp_spec p1
    obtain ⟨b1, b2, _⟩ := mp_spec p2
    have hl : 0 < Nat.lcm (EIT.mp F N i) (EIT.mp G M j) := Nat.lcm_pos p1 p2
    refine mp_unique hl ?_ ?_ fun k hk ek => ?_
    · exact Nat.le_trans (Nat.le_of_dvd (Nat.mul_pos p1 p2) (Nat.lcm_dvd_mul _ _)) (Nat.mul_le_mul a1 b1)
    · rw [B.it _ hi hj]
      obtain ⟨u, eu⟩ := Nat.dvd_lcm_left (EIT.mp F N i) (EIT.mp G M j)
      obtain ⟨v, ev⟩ := Nat.dvd_lcm_right (EIT.mp F N i) (EIT.mp G M j)
      congr 1
      · congr 1
        rw [eu]; exact it_mul a2 u
      · rw [ev]; exact it_mul b2 v
    · obtain ⟨g1, g2⟩ := key k ek
      exact Nat.lcm_dvd (mp_dvd p1 g1) (mp_dvd p2 g2)
/-! sums over numbers by their rings -/
theorem wsum_congr0 {l m : List (Nat × Nat)} (f : Nat → Nat) (h : ∀ k, f k ≠ 0 → tal l k = tal m k) : wsum f l = wsum f m := by
  rw [← wsum_tal f ((l.map (·.1)).sum + (m.map (·.1)).sum + 1) l fun p hp => by have := key_le hp; omega,
    ← wsum_tal f ((l.map (·.1)).sum + (m.map (·.1)).sum + 1) m fun p hp => by have := key_le hp; omega]
  refine sum_cong fun k _ => ?_
  by_cases e : f k = 0
  · rw [e, Nat.zero_mul, Nat.zero_mul]
  · rw [h k e]
theorem tal_ones (g : Nat → Nat) (k : Nat) : ∀ l : List Nat, tal (l.map fun y => (g y, 1)) k = (l.map fun y => if g y = k then 1 else 0).sum
  | [] => rfl
  | a :: l => by rw [List.map_cons, tal_cons, tal_ones g k l, List.map_cons, List.sum_cons]
theorem tal_times (k : Nat) : ∀ l : List (Nat × Nat), tal (l.map fun p => (p.1, p.1 * p.2)) k = k * tal l k
  | [] => rfl
  | p :: l => by
    rw [List.map_cons, tal_cons, tal_times k l, tal_cons, Nat.mul_add]
    congr 1
    by_cases e : p.1 = k
    · rw [if_pos e, if_pos e]
      show p.1 * p.2 = k * p.2
      rw [e]
    · rw [if_neg e, if_neg e, Nat.mul_zero]
/-- a sum over all numbers, told by the rings' lengths -/
theorem sum_rings (c : Cl F N) (f : Nat → Nat) (h0 : f 0 = 0) : ((List.range N).map fun y => f (mp F N y)).sum = ((RL F N).map fun p => f p.1 * (p.1 * p.2)).sum := by
  have e1 : ((List.range N).map fun y => f (mp F N y)).sum = wsum f ((List.range N).map fun y => (mp F N y, 1)) := by
    unfold wsum
    rw [List.map_map]
    exact sum_cong fun y _ => (Nat.mul_one _).symm
  have e2 : ((RL F N).map fun p => f p.1 * (p.1 * p.2)).sum = wsum f ((RL F N).map fun p => (p.1, p.1 * p.2)) := by
    unfold wsum
    rw [List.map_map]
    rfl
  rw [e1, e2]
  refine wsum_congr0 f fun k hk => ?_
  rw [tal_ones, tal_times]
  exact (RL_on c (Nat.pos_of_ne_zero fun z => hk (by rw [z]; exact h0))).symm
theorem sum_if {α : Type} (p : Prop) [Decidable p] (f : α → Nat) : ∀ l : List α, (if p then (l.map f).sum else 0) = (l.map fun x => if p then f x else 0).sum := fun l => by
  split
  · rfl
  · exact (sum0 l).symm
theorem Beside.on (B : Beside F G H N M) {k : Nat} (hk : 0 < k) : onRing H (N * M) k = k * T (RL F N) (RL G M) k := by
  have e1 : onRing H (N * M) k = ((List.range N).map fun i => ((List.range M).map fun j => if Nat.lcm (EIT.mp F N i) (EIT.mp G M j) = k then 1 else 0).sum).sum := by
    unfold onRing
    rw [range_mul, ← List.map_id ((List.range N).flatMap _), sum_flat]
    refine sum_cong fun i hi => sum_cong fun j hj => ?_
    show (if EIT.mp H (N * M) (i * M + j) = k then 1 else 0) = _
    rw [B.mp (List.mem_range.mp hi) (List.mem_range.mp hj)]
  have e2 : ∀ L, ((List.range M).map fun j => if Nat.lcm L (EIT.mp G M j) = k then 1 else 0).sum = ((RL G M).map fun q => (if Nat.lcm L q.1 = k then 1 else 0) * (q.1 * q.2)).sum := fun L =>
    sum_rings B.cG (fun n => if Nat.lcm L n = k then 1 else 0) (if_neg (by rw [Nat.lcm_zero_right]; omega))
  rw [e1, sum_rings B.cF (fun L => ((List.range M).map fun j => if Nat.lcm L (EIT.mp G M j) = k then 1 else 0).sum) (by
    have e : ((List.range M).map fun j => if Nat.lcm 0 (EIT.mp G M j) = k then 1 else 0) = (List.range M).map fun _ => 0 := List.map_congr_left fun j _ => if_neg (by rw [Nat.lcm_zero_left]; omega)
    rw [e, sum0])]
  unfold T T1
  rw [← sum_mulL]
  refine sum_cong fun p hp => ?_
  rw [e2, ← sum_mulR, ← sum_mulL]
  refine sum_cong fun q hq => ?_
  by_cases h : Nat.lcm p.1 q.1 = k
  · rw [if_pos h, if_pos h, Nat.one_mul]
    have e := Nat.gcd_mul_lcm p.1 q.1
    rw [h] at e
    calc q.1 * q.2 * (p.1 * p.2) = p.1 * q.1 * (p.2 * q.2) := by simp only [Nat.mul_assoc, Nat.mul_comm, Nat.mul_left_comm]
      _ = Nat.gcd p.1 q.1 * k * (p.2 * q.2) := by rw [e]
      _ = k * (p.2 * q.2 * Nat.gcd p.1 q.1) := by simp only [Nat.mul_assoc, Nat.mul_comm, Nat.mul_left_comm]
  · rw [if_neg h, if_neg h, Nat.zero_mul, Nat.zero_mul, Nat.mul_zero]
/-- THE LAW of rings beside one another -/
theorem Beside.tal (B : Beside F G H N M) (k : Nat) : EIT.tal (RL H (N * M)) k = T (RL F N) (RL G M) k := by
  rcases Nat.eq_zero_or_pos k with e | e
  · subst e
    rw [tal_no _ 0 fun p hp z => by have := (RL_canon.pos p hp).1; omega]
    refine (Classical.byContradiction fun hne => ?_ : T (RL F N) (RL G M) 0 = 0).symm
    obtain ⟨p, hp, q, hq, z⟩ := T_key hne
    have := Nat.lcm_pos (RL_canon.pos p hp).1 (RL_canon.pos q hq).1
    omega
  · have h1 := RL_on B.cl e
    rw [B.on e] at h1
    exact Nat.eq_of_mul_eq_mul_left e h1
end
end EIT
end
/-! text P6 -/
section
/-! Plain: the day of two halls beside one another. -/
namespace EIT
open PySem PySem.Spec PyProof.Rows L2
theorem dgs_join (k n : Nat) (hk : 0 < k) (i : Nat) : ∀ (m j : Nat), j < k ^ m → dgs k (n + m) (i * k ^ m + j) = dgs k n i ++ dgs k m j
  | 0, j, h => by
    have : j = 0 := by
      rw [Nat.pow_zero] at h; omega
    subst this
    rw [Nat.pow_zero, Nat.mul_one, Nat.add_zero, Nat.add_zero]
    show _ = _ ++ []
    rw [List.append_nil]
  | m + 1, j, h => by
    have h1 : j / k < k ^ m := by
      rw [Nat.pow_succ] at h
      exact (Nat.div_lt_iff_lt_mul hk).mpr h
    have e1 : (i * k ^ (m + 1) + j) / k = i * k ^ m + j / k := by
      rw [Nat.pow_succ, ← Nat.mul_assoc, Nat.mul_comm _ k, Nat.mul_add_div hk]
    have e2 : (i * k ^ (m + 1) + j) % k = j % k := by
      rw [Nat.pow_succ, ← Nat.mul_assoc, Nat.mul_comm _ k, Nat.mul_add_mod]
    show dgs k (n + m) ((i * k ^ (m + 1) + j) / k) ++ [(i * k ^ (m + 1) + j) % k] = _
    rw [e1, e2, dgs_join k n hk i m _ h1, List.append_assoc]
    rfl
theorem gt_left {x y : List Nat} {a : Nat} (h : a < x.length) : gt (x ++ y) a = gt x a := by
  unfold gt
  rw [List.getElem?_append_left h]
theorem gt_right {x y : List Nat} {n a : Nat} (h : x.length = n) : gt (x ++ y) (n + a) = gt y a := by
  unfold gt
  rw [List.getElem?_append_right (by omega), h, Nat.add_sub_cancel_left]
section
variable {h o : Hall}
theorem adj_left {rs ss : List (Str × Str)} {p q : Str} (h1 : (p, q) ∉ ss) (h2 : (q, p) ∉ ss) : adj (rs ++ ss) p q = adj rs p q := by
  unfold adj
  have e1 : ((p, q) ∈ rs ++ ss) ↔ (p, q) ∈ rs := by rw [List.mem_append]; exact ⟨fun z => z.resolve_right h1, .inl⟩
  have e2 : ((q, p) ∈ rs ++ ss) ↔ (q, p) ∈ rs := by rw [List.mem_append]; exact ⟨fun z => z.resolve_right h2, .inl⟩
  rw [decide_eq_decide.mpr e1, decide_eq_decide.mpr e2]
theorem adj_right {rs ss : List (Str × Str)} {p q : Str} (h1 : (p, q) ∉ rs) (h2 : (q, p) ∉ rs) : adj (rs ++ ss) p q = adj ss p q := by
  unfold adj
  have e1 : ((p, q) ∈ rs ++ ss) ↔ (p, q) ∈ ss := by rw [List.mem_append]; exact ⟨fun z => z.resolve_left h1, .inr⟩
  have e2 : ((q, p) ∈ rs ++ ss) ↔ (q, p) ∈ ss := by rw [List.mem_append]; exact ⟨fun z => z.resolve_left h2, .inr⟩
  rw [decide_eq_decide.mpr e1, decide_eq_decide.mpr e2]
theorem adj_no {rs : List (Str × Str)} {p q : Str} (h1 : (p, q) ∉ rs) (h2 : (q, p) ∉ rs) : adj rs p q = false := by
  unfold adj
  rw [decide_eq_false h1, decide_eq_false h2]
  rfl
theorem no_road {w : Web} (ok : WebOk w) {p q : Str} (hp : p ∉ w.ps) : (p, q) ∉ w.rs ∧ (q, p) ∉ w.rs := ⟨fun z => hp (ok.road _ z).1, fun z => hp (ok.road _ z).2.1⟩
theorem nbs_left (ok1 : WebOk h.web) (ok2 : WebOk o.web) (ap : ∀ p ∈ h.web.ps, p ∉ o.web.ps) {p : Str} (hp : p ∈ h.web.ps) : nbs (joinH h o).web p = nbs h.web p := by
  show (h.web.ps ++ o.web.ps).filter (fun q => adj (h.web.rs ++ o.web.rs) p q) = h.web.ps.filter fun q => adj h.web.rs p q
  have n2 := fun q => no_road (q := q) ok2 (ap p hp)
  have e1 : h.web.ps.filter (fun q => adj (h.web.rs ++ o.web.rs) p q) = h.web.ps.filter fun q => adj h.web.rs p q := List.filter_congr fun q _ => adj_left (n2 q).1 (n2 q).2
  have e2 : o.web.ps.filter (fun q => adj (h.web.rs ++ o.web.rs) p q) = [] := by
    rw [List.filter_eq_nil_iff]
    intro q hq
    have hq1 : q ∉ h.web.ps := fun z => ap q z hq
    have n1 := no_road (q := p) ok1 hq1
    rw [adj_left (n2 q).1 (n2 q).2, adj_no n1.2 n1.1]
    decide
  rw [List.filter_append, e1, e2, List.append_nil]
theorem nbs_right (ok1 : WebOk h.web) (ok2 : WebOk o.web) (ap : ∀ p ∈ h.web.ps, p ∉ o.web.ps) {p : Str} (hp : p ∈ o.web.ps) : nbs (joinH h o).web p = nbs o.web p := by
  show (h.web.ps ++ o.web.ps).filter (fun q => adj (h.web.rs ++ o.web.rs) p q) = o.web.ps.filter fun q => adj o.web.rs p q
  have hp1 : p ∉ h.web.ps := fun z => ap p z hp
  have n1 := fun q => no_road (q := q) ok1 hp1
  have e1 : o.web.ps.filter (fun q => adj (h.web.rs ++ o.web.rs) p q) = o.web.ps.filter fun q => adj o.web.rs p q := List.filter_congr fun q _ => adj_right (n1 q).1 (n1 q).2
  have e2 : h.web.ps.filter (fun q => adj (h.web.rs ++ o.web.rs) p q) = [] := by
    rw [List.filter_eq_nil_iff]
    intro q hq
    have n2 := no_road (q := p) ok2 (ap q hq)
    rw [adj_right (n1 q).1 (n1 q).2, adj_no n2.2 n2.1]
    decide
  rw [List.filter_append, e1, e2, List.nil_append]
theorem idx_left {a : List Str} {p : Str} (b : List Str) (hp : p ∈ a) : (a ++ b).idxOf p = a.idxOf p := by rw [List.idxOf_append, if_pos hp]
theorem idx_right {a b : List Str} {p : Str} (hp : p ∉ a) : (a ++ b).idxOf p = a.length + b.idxOf p := by rw [List.idxOf_append, if_neg hp, Nat.add_comm]
structure Apart (h o : Hall) : Prop where
  a : HallOk h
  b : HallOk o
  k : h.k = o.k
  ap : ∀ p ∈ h.web.ps, p ∉ o.web.ps
variable (A : Apart h o)
theorem name_left {a : Nat} (ha : a < h.web.ps.length) : nameAt (joinH h o) a = nameAt h a := by
  show ((h.web.ps ++ o.web.ps)[a]?).getD ("" : Str) = _
  rw [List.getElem?_append_left ha]
  rfl
theorem name_right {b : Nat} : nameAt (joinH h o) (h.web.ps.length + b) = nameAt o b := by
  show ((h.web.ps ++ o.web.ps)[h.web.ps.length + b]?).getD ("" : Str) = _
  rw [List.getElem?_append_right (Nat.le_add_right _ _), Nat.add_sub_cancel_left]
  rfl
theorem name_mem {h : Hall} {a : Nat} (ha : a < h.web.ps.length) : nameAt h a ∈ h.web.ps := List.mem_of_getElem? (nameAt_of ha)
include A in
theorem tab_left {a : Nat} (ha : a < h.web.ps.length) : tabAt (joinH h o) a = tabAt h a := by
  unfold tabAt
  have e : ruleAt (joinH h o) a = ruleAt h a := by
    show ((h.rules ++ o.rules)[a]?).getD Rule.keep = _
    rw [List.getElem?_append_left (by rw [A.a.many]; exact ha)]
    rfl
  rw [name_left ha, nbs_left A.a.web A.b.web A.ap (name_mem ha), e]
  rfl
include A in
theorem tab_right {b : Nat} (hb : b < o.web.ps.length) : tabAt (joinH h o) (h.web.ps.length + b) = tabAt o b := by
  unfold tabAt
  have e : ruleAt (joinH h o) (h.web.ps.length + b) = ruleAt o b := by
    show ((h.rules ++ o.rules)[h.web.ps.length + b]?).getD Rule.keep = _
    rw [List.getElem?_append_right (by rw [A.a.many]; exact Nat.le_add_right _ _), A.a.many, Nat.add_sub_cancel_left]
    rfl
  rw [name_right, nbs_right A.a.web A.b.web A.ap (name_mem hb), e]
  show tabOf h.k _ _ = tabOf o.k _ _
  rw [A.k]
theorem near_def (h : Hall) (a : Nat) : nearN h a = (nbs h.web (nameAt h a)).map fun q => h.web.ps.idxOf q := rfl
include A in
theorem near_left {a : Nat} (ha : a < h.web.ps.length) : nearN (joinH h o) a = nearN h a := by
  rw [near_def, near_def, name_left ha, nbs_left A.a.web A.b.web A.ap (name_mem ha)]
  exact List.map_congr_left fun q hq => idx_left _ (nbs_sub hq)
include A in
theorem near_right {b : Nat} (hb : b < o.web.ps.length) : nearN (joinH h o) (h.web.ps.length + b) = (nearN o b).map fun x => h.web.ps.length + x := by
  rw [near_def, near_def, name_right, nbs_right A.a.web A.b.web A.ap (name_mem hb), List.map_map]
  exact List.map_congr_left fun q hq => idx_right fun z => A.ap q z (nbs_sub hq)
theorem join_ps : (joinH h o).web.ps.length = h.web.ps.length + o.web.ps.length := by
  show (h.web.ps ++ o.web.ps).length = _
  rw [List.length_append]
include A in
theorem join_sized : sized (joinH h o) = sized h * sized o := by
  show h.k ^ (joinH h o).web.ps.length = h.k ^ _ * o.k ^ _
  rw [join_ps, Nat.pow_add, A.k]
theorem k_pos {h : Hall} (ok : HallOk h) : 0 < h.k := by
  have := ok.k
  omega
include A in
theorem digits_join {i j : Nat} (hj : j < sized o) : dgs (joinH h o).k (joinH h o).web.ps.length (i * sized o + j) = dgs h.k h.web.ps.length i ++ dgs o.k o.web.ps.length j := by
  rw [join_ps]
  show dgs h.k _ (i * o.k ^ _ + j) = _
  have hj : j < o.k ^ o.web.ps.length := hj
  rw [← A.k] at hj ⊢
  exact dgs_join h.k _ (k_pos A.a) i _ j hj
include A in
theorem ix_left {a i j : Nat} (ha : a < h.web.ps.length) (hj : j < sized o) : ixAt (joinH h o) a (i * sized o + j) = ixAt h a i := by
  unfold ixAt
  rw [digits_join A hj, near_left A ha]
  show nod h.k _ = nod h.k _
  congr 1
  refine List.map_congr_left fun x hx => gt_left ?_
  rw [dgs_len]
  rcases List.mem_cons.mp hx with e | e
  · rw [e]; exact ha
  · exact nearN_lt x e
include A in
theorem ix_right {b i j : Nat} (hb : b < o.web.ps.length) (hj : j < sized o) : ixAt (joinH h o) (h.web.ps.length + b) (i * sized o + j) = ixAt o b j := by
  unfold ixAt
  rw [digits_join A hj, near_right A hb]
  show nod h.k _ = nod o.k _
  rw [A.k]
  congr 1
  rw [List.map_cons, List.map_cons, List.map_map, gt_right (dgs_len _ _ _)]
  congr 1
  exact List.map_congr_left fun x _ => gt_right (dgs_len _ _ _)
include A in
theorem st_left {a i j : Nat} (ha : a < h.web.ps.length) (hi : i < sized h) (hj : j < sized o) : stN (joinH h o) a (i * sized o + j) = stN h a i * sized o + j := by
  obtain ⟨e1, e2⟩ := stI_of A.a ha hi
  unfold stN
  have e : stI (joinH h o) a (i * sized o + j) = stI h a i * (sized o : Nat) + (j : Nat) := by
    unfold stI
    rw [ix_left A ha hj, tab_left A ha, digits_join A hj, gt_left (by rw [dgs_len]; exact ha), join_ps]
    show ((_ : Nat) : Int) + (h.k : Int) ^ _ * _ = _
    have ep : (h.k : Int) ^ (h.web.ps.length + o.web.ps.length - 1 - a) = (h.k : Int) ^ (h.web.ps.length - 1 - a) * ((sized o : Nat) : Int) := by
      have e3 : ((sized o : Nat) : Int) = (h.k : Int) ^ o.web.ps.length := by unfold sized; rw [← A.k, Int.natCast_pow]
      rw [e3, ← Int.pow_add]
      congr 1
      omega
    rw [ep, Int.natCast_add, Int.natCast_mul, Int.add_mul, Int.mul_right_comm]
    omega
  rw [e, e1, ← Int.natCast_mul, ← Int.natCast_add, Int.toNat_natCast, Int.toNat_natCast]
include A in
theorem st_right {b i j : Nat} (hb : b < o.web.ps.length) (hj : j < sized o) : stN (joinH h o) (h.web.ps.length + b) (i * sized o + j) = i * sized o + stN o b j := by
  obtain ⟨e1, e2⟩ := stI_of A.b hb hj
  unfold stN
  have e : stI (joinH h o) (h.web.ps.length + b) (i * sized o + j) = ((i * sized o : Nat) : Int) + stI o b j := by
    unfold stI
    rw [ix_right A hb hj, tab_right A hb, digits_join A hj, gt_right (dgs_len _ _ _), join_ps]
    show ((_ : Nat) : Int) + (h.k : Int) ^ _ * _ = _
    rw [A.k, show h.web.ps.length + o.web.ps.length - 1 - (h.web.ps.length + b) = o.web.ps.length - 1 - b by omega, Int.natCast_add]
    omega
  rw [e, e1, ← Int.natCast_add, Int.toNat_natCast, Int.toNat_natCast]
include A in
theorem day_weave : ∀ (ts : List Nat) (a b : List Str) {i j : Nat}, zeros ts = a.length → ones ts = b.length → (∀ p ∈ a, p ∈ h.web.ps) → (∀ p ∈ b, p ∈ o.web.ps) → i < sized h → j < sized o →
    dayF (joinH h o) (weave ts a b) (i * sized o + j) = dayF h a i * sized o + dayF o b j
  | [], a, b, i, j, ha, hb, _, _, _, _ => by
    have e1 : a = [] := List.eq_nil_of_length_eq_zero ha.symm
    have e2 : b = [] := List.eq_nil_of_length_eq_zero hb.symm
    subst e1 e2
    rfl
  | t :: ts, a, b, i, j, ha, hb, pa, pb, hi, hj => by
    unfold weave
    by_cases e : t = 0
    · rw [if_pos e]
      have z : zeros (t :: ts) = zeros ts + 1 := by unfold zeros; rw [List.countP_cons, if_pos (by rw [e]; rfl)]
      have on : ones (t :: ts) = ones ts := by unfold ones; rw [List.countP_cons, if_neg (by rw [e]; decide)]; rfl
      cases a with
      | nil => rw [z] at ha; cases ha
      | cons p a =>
        have hp := pa p List.mem_cons_self
        have hx : h.web.ps.idxOf p < h.web.ps.length := idx_of hp
        have e1 : dayF (joinH h o) (p :: weave ts a b) (i * sized o + j) = dayF (joinH h o) (weave ts a b) (stN (joinH h o) ((joinH h o).web.ps.idxOf p) (i * sized o + j)) := rfl
        have e2 : (joinH h o).web.ps.idxOf p = h.web.ps.idxOf p := idx_left _ hp
        show dayF (joinH h o) (p :: weave ts a b) _ = _
        rw [e1, e2, st_left A hx hi hj, day_weave ts a b (by rw [z] at ha; exact Nat.succ.inj ha) (by rw [on] at hb; exact hb) (fun q hq => pa q (List.mem_cons_of_mem _ hq)) pb (stI_of A.a hx hi).2 hj]
        rfl
    · rw [if_neg e]
      have z : zeros (t :: ts) = zeros ts := by unfold zeros; rw [List.countP_cons, if_neg (by simpa using e)]; rfl
      have on : ones (t :: ts) = ones ts + 1 := by unfold ones; rw [List.countP_cons, if_pos (by simpa using e)]
      cases b with
      | nil => rw [on] at hb; cases hb
      | cons p b =>
        have hp := pb p List.mem_cons_self
        have hx : o.web.ps.idxOf p < o.web.ps.length := idx_of hp
        have e1 : dayF (joinH h o) (p :: weave ts a b) (i * sized o + j) = dayF (joinH h o) (weave ts a b) (stN (joinH h o) ((joinH h o).web.ps.idxOf p) (i * sized o + j)) := rfl
        have e2 : (joinH h o).web.ps.idxOf p = h.web.ps.length + o.web.ps.idxOf p := idx_right fun z => A.ap p z hp
        show dayF (joinH h o) (p :: weave ts a b) _ = _
        rw [e1, e2, st_right A hx hj, day_weave ts a b (by rw [z] at ha; exact ha) (by rw [on] at hb; exact Nat.succ.inj hb) pa (fun q hq => pb q (List.mem_cons_of_mem _ hq)) hi (stI_of A.b hx hj).2]
        rfl
include A in
theorem rings_weave {ts : List Nat} {a b : List Str} (ha : ∀ p ∈ a, p ∈ h.web.ps) (hb : ∀ p ∈ b, p ∈ o.web.ps) (ht : TurnOk ts a.length b.length) (k : Nat) :
    tal (RL (dayF (joinH h o) (weave ts a b)) (sized (joinH h o))) k = T (RL (dayF h a) (sized h)) (RL (dayF o b) (sized o)) k := by
  rw [join_sized A]
  exact Beside.tal ⟨day_lt A.a _ (ixs_lt ha), day_lt A.b _ (ixs_lt hb), fun i j hi hj => day_weave A ts a b ht.zer ht.one ha hb hi hj⟩ k
include A in
theorem join_ok (hp : h.web.ps.length + o.web.ps.length ≤ 8) (hf : h.k ^ (h.web.ps.length + o.web.ps.length) ≤ 256) (hr : h.web.rs.length + o.web.rs.length ≤ 14) : JoinOk h o := by
  have ok1 := A.a.web
  have ok2 := A.b.web
  have l1 := ok1.lo
  refine ⟨A.k, A.ap, ⟨A.a.k, ⟨?_, ?_, ?_, ?_, ?_, ?_, ?_⟩, ?_, ?_, ?_⟩⟩
  · rw [join_ps]; omega
  · rw [join_ps]; exact hp
  · intro p hp
    rcases List.mem_append.mp hp with e | e
    · exact ok1.name p e
    · exact ok2.name p e
  · refine List.nodup_append.mpr ⟨ok1.nd, ok2.nd, ?_⟩
    intro x hx y hy e
    subst e
    exact A.ap x hx hy
  · show (h.web.rs ++ o.web.rs).length ≤ 14
    rw [List.length_append]; exact hr
  · intro r hr
    rcases List.mem_append.mp hr with e | e
    · obtain ⟨a1, a2, a3⟩ := ok1.road r e
      exact ⟨List.mem_append_left _ a1, List.mem_append_left _ a2, a3⟩
    · obtain ⟨a1, a2, a3⟩ := ok2.road r e
      exact ⟨List.mem_append_right _ a1, List.mem_append_right _ a2, a3⟩
  · show ((h.web.rs ++ o.web.rs).map fun r => srt2 r.1 r.2).Nodup
    rw [List.map_append]
    refine List.nodup_append.mpr ⟨ok1.unlike, ok2.unlike, ?_⟩
    intro x hx y hy e
    obtain ⟨r, hr, rfl⟩ := List.mem_map.mp hx
    obtain ⟨s, hs, rfl⟩ := List.mem_map.mp hy
    obtain ⟨a1, _, _⟩ := ok1.road r hr
    obtain ⟨b1, b2, _⟩ := ok2.road s hs
    rcases srt2_eq e with ⟨z, _⟩ | ⟨z, _⟩
    · rw [z] at a1; exact A.ap _ a1 b1
    · rw [z] at a1; exact A.ap _ a1 b2
  · rw [join_ps]; exact hf
  · show (h.rules ++ o.rules).length = _
    rw [List.length_append, A.a.many, A.b.many, join_ps]
  · intro i p r h1 h2
    have h1 : (h.web.ps ++ o.web.ps)[i]? = some p := h1
    have h2 : (h.rules ++ o.rules)[i]? = some r := h2
    by_cases hi : i < h.web.ps.length
    · rw [List.getElem?_append_left hi] at h1
      rw [List.getElem?_append_left (by rw [A.a.many]; exact hi)] at h2
      rw [nbs_left ok1 ok2 A.ap (List.mem_of_getElem? h1)]
      exact A.a.rule i p r h1 h2
    · rw [List.getElem?_append_right (by omega)] at h1
      rw [List.getElem?_append_right (by rw [A.a.many]; omega), A.a.many] at h2
      rw [nbs_right ok1 ok2 A.ap (List.mem_of_getElem? h1)]
      show RuleOk h.k _ r
      rw [A.k]
      exact A.b.rule _ p r h1 h2
end
end EIT
end
/-! text L13 -/
section
set_option maxHeartbeats 4000000
/-! drawn. -/
namespace EIT
open PySem PySem.Spec PyProof.Rows L2
section
variable {P : Program} {w : World} {K : PySem.W.Frag} {mg : Str → Option Value} {base : Heap}
theorem ef_drawB {M : Mk} {σ : L2.St} {H : Hp} {te : TE} {f : Addr} {m i : Nat} {E : XK} (hf : M f = true) (wd : Wd M H) (hs : σ[i]? = some (some (.ref f))) (h : ∀ H1, But f H H1 → EvD K M te σ H1 (nI m)) (h1 : 0 < m) (h2 : m < 2 ^ 8000) :
    EvF f 1 M (tCall (spI preDraw 1 fun m H v => ILt m H v) [] E (tCons (tVar i) (tCons te tNil))) σ H (NatP fun j => j < m) :=
  (ef_call (pre := preDraw) (B := 1) (B1 := 0) (post := fun m H v => ILt m H v) m hf wd hs (efa_imp (P := fun H vs => ∃ v r, vs = v :: r ∧ v = .int (m : Nat) ∧ r = []) (efa_cons hf (fun _ _ _ _ h => h) (ef_pure fun H1 b => er_nat (h H1 b)) efa_nil) fun H v hv => by
    obtain ⟨x, r, rfl, rfl, rfl⟩ := hv
    exact ⟨h1, h2, rfl⟩) : EvF f (0 + 1) M _ σ H _)
theorem ef_use {M : Mk} {σ : L2.St} {H : Hp} {te : TE} {f : Addr} {B n : Nat} {R : Hp → V → Prop} {Q : VK} (h : EvF f B M te σ H R) (fd : Feed f n H) (hn : n + B ≤ topN) (q : ∀ v H2, But f H H2 → Feed f (n + B) H2 → R (Hm M H2) v → Q v H2) : te σ H Q := h n H (But.refl _ _) fd hn Q q
def Bnd (a b : Nat) (zs : List (Nat × Nat)) : Prop := ∀ p ∈ zs, p.1 ≤ a ∧ p.2 ≤ b
theorem put_bnd {a b k v : Nat} {d : List (Nat × Nat)} (h : Bnd a b d) (hk : k ≤ a) (hv : v ≤ b) : Bnd a b (putN d k v) := by
  unfold putN
  split
  · intro p hp
    obtain ⟨q, hq, rfl⟩ := List.mem_map.mp hp
    have := h q hq
    split
    · exact ⟨this.1, hv⟩
    · exact this
  · intro p hp
    rcases List.mem_append.mp hp with z | z
    · exact h p z
    · cases List.mem_singleton.mp z
      exact ⟨hk, hv⟩
def preDrawn (x : Nat × Nat) (_ : Hp) (r : List V) : Prop := 1 ≤ x.1 ∧ 1 ≤ x.2 ∧ x.1 < 2 ^ 8000 ∧ x.2 < 2 ^ 8000 ∧ r = [.int (x.1 : Nat), .int (x.2 : Nat)]
def DrawnP (K : PySem.W.Frag) (x : Nat × Nat) (H : Hp) (v : V) : Prop := ∃ zs : List (Nat × Nat), Canon zs ∧ zs.length ≤ 5 ∧ Bnd x.1 x.2 zs ∧ Dp K H v (pairsD zs)
theorem sc_law_drawn : FnScope ["_law_feed_here", "_law_most", "_law_more", "_law_got", "_law_turn", "_law_length"] ["_law_feed_here", "_law_most", "_law_more"] (defScope s_law_drawn) := ⟨rfl, rfl, rfl, by decide +kernel, rfl, by decide +kernel, by decide +kernel⟩
theorem ok_law_drawn (T : Tx K mg) : Cal P w K mg base 2 "_law_drawn" ["_law_feed_here", "_law_most", "_law_more"] (spI preDrawn 11 (DrawnP K)) := by
  refine mkI T.d_law_drawn sc_law_drawn (fun i H vs h => by obtain ⟨_, _, _, _, rfl⟩ := h; rfl) (fun _ _ _ _ _ _ us hl => match us, hl with | [_, _, _], _ => rfl) fun f cdv A outer s H Q E hr M fa n x r wd hm fd hn hp q => ?_
  obtain ⟨most, more⟩ := x
  obtain ⟨p1, p2, p3, p4, rfl⟩ := hp
  simp only at p1 p2 p3 p4
  have upT : ∀ {a}, a ≤ n + 11 → a ≤ topN := fun h => Nat.le_trans h hn
  refine ⟨_, (pss_cons (ps_set (i := 3) sc_law_drawn.nd rfl (.inr rfl) pe_dnewK)
      (pss_cons (ps_for PassesOwn.never rfl (pi_range1 (by rfl) T.b_range (pa_cons (pe_cal (ok_law_draw T) (hr.mono (by decide)) (by rfl) (pa_cons (pv 0) (pa_cons pe_int pa_nil))) pa_nil)) (pg_name (i := 4) sc_law_drawn.nd rfl (.inl rfl)) (pss_one (ps_asg (pe_op op_add pe_int (pe_cal (ok_law_draw T) (hr.mono (by decide)) (by rfl) (pa_cons (pv 0) (pa_cons (pv 2) pa_nil)))) (pg_sub (pv 3) (pe_op op_add pe_int (pe_cal (ok_law_draw T) (hr.mono (by decide)) (by rfl) (pa_cons (pv 0) (pa_cons (pv 1) pa_nil)))) (set_dict (room1 hr))))))
      (pss_one (ps_ret (pe_lc (own := [("_law_length", 5)])  rfl sc_law_drawn.nd (pi_listK K (pe_callB (cr_sortedIK K) (by rfl) T.b_sorted (by decide +kernel) (pa_cons (pe_callTy (call_listD rfl) (by rfl) T.b_list (by decide +kernel) (pa_cons (pv 3) pa_nil)) pa_nil))) (blkOk_by (N := ["_law_feed_here", "_law_most", "_law_more", "_law_got", "_law_turn", "_law_length"]) (sc := defScope s_law_drawn) (own := [("_law_length", 5)]) (by decide +kernel)) (fun _ _ _ _ _ => pg_name (i := 5) sc_law_drawn.nd rfl (Or.inl rfl)) (fun _ _ _ _ _ => pts_nil) (fun _ _ _ _ _ => (pe_tup (pa_cons (pv 5) (pa_cons (pe_dget (room1 hr) (pv 3) (pv 5) (fun _ _ => rfl)) pa_nil))))))))), ?_⟩
  refine q_dnew fun L hL => ?_
  have s0 := same_new (o := .dK (encD [])) hL
  have hne : L ≠ fa := fun z => fd.there (by rw [← z]; exact hL)
  have hmL : M L = false := wd.new hL
  have w0 := wd_new (o := .dK (encD [])) wd hL
  have d0 : (upd H L (.dK (encD []))) L = some (.dK (encD [])) := upd_same
  have f0 := fd.same s0
  generalize upd H L (.dK (encD [])) = H1 at s0 w0 d0 f0
  have hm1 : addM M L fa = true := addM_old hm
  refine q_forRF (M := addM M L) (B := 1) (S := fun i => i < 6) f0 (upT (by omega)) (efa_imp (B := 1) (efa_cons (B1 := 1) (B2 := 0) hm1 up_natP (ef_draw (K := K) (m := 6) hm1 w0 rfl (fun _ _ => ed_int) (by decide) (by decide)) efa_nil) fun _ _ ⟨v, r, e1, ⟨i, e2, hi⟩, e3⟩ => ⟨i, by rw [e1, e2, e3], hi⟩) (fun i h => by omega) fun cnt H2 b2 f2 hcnt => ?_
  refine ⟨fun j σ' H' => ∃ (y4 : Option V) (d : List (Nat × Nat)), σ' = [some (.ref fa), some (.int (most : Nat)), some (.int (more : Nat)), some (.ref L), y4, none] ∧ H' L = some (.dK (encD d)) ∧ (∃ g, Dd d g) ∧ d.length ≤ j ∧ Bnd most more d ∧ Feed fa (n + 1 + 2 * j) H' ∧ But fa H H' ∧ Wd (addM M L) H', ?_, ?_, ?_⟩
  · exact ⟨none, [], rfl, b2 _ _ hne d0, ⟨_, Dd.empty⟩, Nat.le_refl _, (fun _ h => nomatch h), f2, (But.of s0).trans b2, b2.wd' w0 f2⟩
  · rintro j σ' H' hj ⟨y4, d, rfl, hd, ⟨g, hg⟩, hl, hb, f3, b3, w3⟩
    refine ef_use (M := addM M L) (B := 1) (R := NatP fun v => 1 ≤ v ∧ v ≤ more) (ef_addP (B := 0) (B' := 1) (S := fun i => i = 1) (T := fun j => j < more) hm1 (ef_natP (K := K) (i := 1) (fun _ _ => ed_int) rfl) (ef_drawB hm1 w3 rfl (fun _ _ => ed_var (K := K) rfl (.int _)) p2 p4) fun i j hi hj => by omega) f3 (upT (by omega)) fun z H4 b4 f4 ⟨v, ev, hv⟩ => ?_
    subst ev
    refine ⟨.ref L, rfl, ?_⟩
    refine ef_use (M := addM M L) (B := 1) (R := NatP fun v => 1 ≤ v ∧ v ≤ most) (ef_addP (B := 0) (B' := 1) (S := fun i => i = 1) (T := fun j => j < most) hm1 (ef_natP (K := K) (i := 1) (fun _ _ => ed_int) rfl) (ef_drawB hm1 (b4.wd' w3 f4) rfl (fun _ _ => ed_var (K := K) rfl (.int _)) p1 p3) fun i j hi hj => by omega) f4 (upT (by omega)) fun y H5 b5 f5 ⟨k, ek, hk⟩ => ?_
    subst ek
    have w5 := b5.wd' (b4.wd' w3 f4) f5
    have hd5 := b5 _ _ hne (b4 _ _ hne hd)
    refine ⟨L, _, rfl, .inl ⟨encD d, Sum.inl (k : Int), hd5, rfl, sz_lt (by unfold encD; rw [List.length_map]; omega), rfl⟩, ?_⟩
    rw [put_enc]
    have := put_len d k v
    refine ⟨_, putN d k v, rfl, upd_same, ⟨_, hg.put hk.1 hv.1⟩, by omega, put_bnd hb hk.2 hv.2, ?_, fun a o ha ho => ?_, fun a ha hn => ?_⟩
    · exact (f5.at (upd_ne fun e => hne e.symm)).up (by omega)
    · rw [upd_ne fun e => by rw [e, hL] at ho; cases ho]
      exact b5 _ _ ha (b4 _ _ ha (b3 _ _ ha ho))
    · by_cases e : a = L
      · rw [e, upd_same] at hn; cases hn
      · rw [upd_ne e] at hn; exact w5 a ha hn
  rintro σ' H' ⟨y4, d, rfl, hdl, ⟨g, hdd⟩, hl, hb, f3, b3, w3⟩
  have nd := hdd.nd
  obtain ⟨ks, hka, hkp⟩ := keys_sorted (d.map (·.1)) nd
  obtain ⟨hcan, htal⟩ := canon_dd hdd hka hkp
  have wE : Wd M H' := fun a ha => w3 a (addM_old ha)
  have hkl : ks.length = d.length := by rw [hkp.length_eq, List.length_map]
  refine s_ret (ed_map (K := K) (M := M) (xs := ks) (enc := nI) (r := fun k => pairD (k, tal d k)) wE (src_list (ed_sortKeys wE (ev_var rfl) hdl hka hkp)) (by omega) (fun _ => rfl) fun k hk M' H3 z e3 e4 w3 hz => ed_tup w3 (ea_cons (ed_var rfl hz) (ea_cons (ed_dgetN (ev_var rfl) (e3 _ _ hdl) nd (hkp.mem_iff.mp hk) (ed_var rfl hz)) ea_nil))) fun v H3 e3 hv => q v H3 (b3.trans (But.of e3)) ((f3.same e3).up (by omega)) ⟨_, hcan, by rw [List.length_map]; omega, fun p hp => ?_, ?_⟩
  · obtain ⟨k, hk, rfl⟩ := List.mem_map.mp hp
    obtain ⟨p, hp', rfl⟩ := List.mem_map.mp (hkp.mem_iff.mp hk)
    simp only
    rw [tal_of nd hp']
    exact hb p hp'
  · unfold pairsD
    rw [List.map_map]
    exact hv
end
end EIT
end
/-! text L3 -/
section
set_option maxHeartbeats 4000000
/-! beside_lengths: a list, or BadLengths. -/
namespace EIT
open PySem PySem.Spec PyProof.Rows L2
theorem asc_of {l : List (Nat × Nat)} (h : l.Pairwise fun p q => p.1 < q.1) : ascB l = true := by
  unfold ascB
  rw [List.all_eq_true]
  intro x hx
  obtain ⟨i, hi⟩ := List.getElem?_of_mem hx
  obtain ⟨h1, h2⟩ := List.getElem?_zip_eq_some.mp hi
  rw [List.getElem?_drop] at h2
  obtain ⟨a1, a2⟩ := List.getElem?_eq_some_iff.mp h1
  obtain ⟨b1, b2⟩ := List.getElem?_eq_some_iff.mp h2
  have := List.pairwise_iff_getElem.mp h i (1 + i) a1 b1 (by omega)
  rw [a2, b2] at this
  exact decide_eq_true this
def BadV (K : PySem.W.Frag) (H : Hp) (v : V) : Prop := Bad3 K H v ∨ ∃ zs, Dp K H v (pairsD zs) ∧ PosL zs ∧ zs.length ≤ 50000 ∧ ascB zs = false
def GoodV (K : PySem.W.Frag) (H : Hp) (v : V) : Prop := ∃ zs, Dp K H v (pairsD zs) ∧ PosL zs ∧ zs.length ≤ 50000 ∧ ascB zs = true
theorem up_badV {K : PySem.W.Frag} : Up (BadV K) := fun _ _ _ e h => by
  rcases h with h | ⟨zs, h1, h2⟩
  · exact .inl (up_bad3 _ _ _ e h)
  · exact .inr ⟨zs, h1.up e, h2⟩
theorem up_goodV {K : PySem.W.Frag} : Up (GoodV K) := fun _ _ _ e h => by
  obtain ⟨zs, h1, h2⟩ := h
  exact ⟨zs, h1.up e, h2⟩
theorem good_of {K : PySem.W.Frag} {H : Hp} {v : V} {a : List (Nat × Nat)} (c : Canon a) (hl : a.length ≤ 300) (h : Dp K H v (pairsD a)) : GoodV K H v := ⟨a, h, c.pos, by omega, asc_of c.asc⟩
section
variable {P : Program} {w : World} {K : PySem.W.Frag} {mg : Str → Option Value} {base : Heap}
/-- a list, or BadLengths (the class at C) -/
def spBL (K : PySem.W.Frag) (C : Addr) : Sp := fun vs H Q E => spL K vs H Q E ∨ ∃ (M : Mk) (v u : V), Wd M H ∧ vs = [v, u] ∧ (BadV K (Hm M H) v ∨ (GoodV K (Hm M H) v ∧ BadV K (Hm M H) u)) ∧ ∀ H', Same H H' → E (.ref C) none H'
theorem ed_areLen {M : Mk} {σ : L2.St} {H : Hp} {i : Nat} {v : V} (wd : Wd M H) (hs : σ[i]? = some (some v)) : (GoodV K (Hm M H) v → EvD K M (tCall (spR (lenPre K) (fun x H v => Dp K H v (.bool (lenRes x)))) [] E0 (tCons (tVar i) tNil)) σ H (.bool true)) ∧ (BadV K (Hm M H) v → EvD K M (tCall (spR (lenPre K) (fun x H v => Dp K H v (.bool (lenRes x)))) [] E0 (tCons (tVar i) tNil)) σ H (.bool false)) := by
  have hsome : ∀ zs, Dp K (Hm M H) v (pairsD zs) → PosL zs → zs.length ≤ 50000 → EvD K M (tCall (spR (lenPre K) (fun x H v => Dp K H v (.bool (lenRes x)))) [] E0 (tCons (tVar i) tNil)) σ H (.bool (ascB zs)) := fun zs h1 h2 h3 =>
    ed_callR (pre := lenPre K) (res := fun x => .bool (lenRes x)) (some zs) wd (EvB.imp (eb_cons (M := M) (R := fun H v => Dp K H v (pairsD zs)) up_dp (er_var hs up_dp h1) eb_nil) fun vs H' ⟨x, r, e1, e2, e3⟩ => by subst e1 e3; exact ⟨x, rfl, e2, h2, h3⟩)
  refine ⟨fun ⟨zs, h1, h2, h3, h4⟩ => (hsome zs h1 h2 h3).eq (by rw [h4]), fun h => ?_⟩
  rcases h with h | ⟨zs, h1, h2, h3, h4⟩
  · exact ed_callR (pre := lenPre K) (res := fun x => .bool (lenRes x)) none wd (EvB.imp (eb_cons (M := M) up_bad3 (er_var hs up_bad3 h) eb_nil) fun vs H' ⟨x, r, e1, e2, e3⟩ => by subst e1 e3; exact ⟨x, rfl, e2⟩)
  · exact (hsome zs h1 h2 h3).eq (by rw [h4])
/-- by keywords too -/
def CalK (P : Program) (w : World) (K : PySem.W.Frag) (mg : Str → Option Value) (base : Heap) (k : Nat) (x : Str) (a b : Str) (sp : Sp) : Prop :=
  ∃ f fd, FnOk P w K mg base (L2.CX P w) k f fd [a, b] sp ∧ mg x = some (.ref f) ∧ PySem.W.keepIn K (.ref f) = true ∧ Binds K fd [a, b] [] ∧ KBn K fd [a, b] 0 [b, a] (fun _ ws => ws.reverse) (fun _ zs => zs.reverse)
theorem CalK.x {P : Program} {w : World} {K : PySem.W.Frag} {mg : Str → Option Value} {base : Heap} {k : Nat} {x a b : Str} {sp : Sp} (c : CalK P w K mg base k x a b sp) : CalX P w K mg base k x [a, b] sp := by
  obtain ⟨f, fd, F, g, kp, b, _⟩ := c
  exact ⟨f, fd, F, g, kp, b⟩
theorem sc_beside_lengths : FnScope ["lengths", "others", "one"] ["lengths", "others"] (defScope s_beside_lengths) := ⟨rfl, rfl, rfl, by decide +kernel, rfl, by decide +kernel, by decide +kernel⟩
theorem okK_beside_lengths (T : Tx K mg) {C : Addr} (bg : mg "BadLengths" = some (.ref C)) (bq : PySem.W.excIn K C He.veBase "ValueError.__new__" = true) (bk : PySem.W.keepIn K (.ref C) = true) (bs : PySem.W.subIn K (.ref C) (.type "BaseException") = some true) (bt : PySem.W.typeIn K (.ref C) = some (.type "type")) :
    CalK P w K mg base 3 "beside_lengths" "lengths" "others" (spBL K C) := by
  obtain ⟨f, fd, F, g⟩ := T.d_beside_lengths
  refine ⟨f, fd, F.ok sc_beside_lengths (fun vs H Q E h => ?_) (fun cdv A outer s H vs Q E hr h => ?_), g, F.kp, F.bindsN (fun _ _ _ _ _ _ us hl => match us, hl with | [_, _], _ => rfl), kb_two F fun _ _ _ _ _ _ _ _ => rfl⟩
  · rcases h with ⟨_, _, _, _, _, h, _⟩ | ⟨_, _, _, _, rfl, _⟩
    · exact dps_len h
    · rfl
  refine ⟨_, (pss_cons (ps_for (passes_of rfl) rfl (pi_tupK K (pe_tup (pa_cons (pv 0) (pa_cons (pv 1) pa_nil)))) (pg_name (i := 2) sc_beside_lengths.nd rfl (.inl rfl)) (pss_one (ps_if (pt_not (pt_val (pe_cal (ok_are_lengths T) (hr.mono (by decide)) (by rfl) (pa_cons (pv 2) pa_nil)))) (pss_one (ps_raise rfl (takes_of rfl rfl rfl rfl) (pmk_own PySem.F.excBase_ValueError bq bg bk (raises_own bs bt) (by rfl)))) pss_nil)))
      (pss_one (ps_ret (pe_cal (ok_lengths_beside T) (hr.mono (by decide)) (by rfl) (pa_cons (pv 0) (pa_cons (pv 1) pa_nil)))))), ?_⟩
  rcases h with ⟨M, a, b, wd, ok, hv, q⟩ | ⟨M, v0, v1, wd, rfl, hbad, q⟩
  · have hv0 := hv
    obtain ⟨v0, v1, rfl, h0, h1⟩ := two_of hv
    have g0 := good_of ok.ca ok.la h0
    have g1 := good_of ok.cb ok.lb h1
    refine q_forVT (M := M) (er_two wd rfl rfl) fun H2 e2 => ⟨fun i σ' H' => Same H2 H' ∧ ∃ y, σ' = [some v0, some v1, y], ⟨Same.refl _, none, rfl⟩, fun i σ' H' h => hm_mono h.1, ?_, ?_⟩
    · rintro i x σ' H' hx ⟨e3, y, rfl⟩
      have e03 := e2.trans e3
      have hg : GoodV K (Hm M H') x := by
        match i, hx with
        | 0, hx => cases hx; exact up_goodV _ _ _ (hm_mono e03) g0
        | 1, hx => cases hx; exact up_goodV _ _ _ (hm_mono e03) g1
        | i + 2, hx => simp at hx
      dsimp only [gName]
      exact s_if (EvT.eq (et_not (et_test ((ed_areLen (wd.mono e03) rfl).1 hg))) rfl) (fun z => Bool.noConfusion z) fun _ H4 e4 => ⟨e3.trans e4, some x, rfl⟩
    · rintro σ' H' ⟨e3, y, rfl⟩
      have e03 := e2.trans e3
      refine ⟨v0, rfl, v1, rfl, M, a, b, wd.mono e03, ok, hv0.up (hm_mono e03), fun zs p H4 ws c1 c2 c3 e4 hp hp4 hws => ?_⟩
      have hpH : H p = none := by
        cases z : H p with
        | none => rfl
        | some o => rw [e03 _ _ z] at hp; cases hp
      exact q zs p H4 ws c1 c2 c3 (e03.trans e4) hpH hp4 hws
  · refine q_forVT (M := M) (er_two wd rfl rfl) fun H2 e2 => ⟨fun i σ' H' => Same H2 H' ∧ (i = 0 ∨ (i = 1 ∧ GoodV K (Hm M H) v0 ∧ BadV K (Hm M H) v1)) ∧ ∃ y, σ' = [some v0, some v1, y], ⟨Same.refl _, .inl rfl, none, rfl⟩, fun i σ' H' h => hm_mono h.1, ?_, ?_⟩
    · rintro i x σ' H' hx ⟨e3, hi, y, rfl⟩
      have e03 := e2.trans e3
      have bad : BadV K (Hm M H) x → EvT (tNot (tB (tCall (spR (lenPre K) (fun x H v => Dp K H v (.bool (lenRes x)))) [] E0 (tCons (tVar 2) tNil)))) [some v0, some v1, some x] H' true := fun hb =>
        EvT.eq (et_not (et_test ((ed_areLen (wd.mono e03) rfl).2 (up_badV _ _ _ (hm_mono e03) hb)))) rfl
      have good : GoodV K (Hm M H) x → EvT (tNot (tB (tCall (spR (lenPre K) (fun x H v => Dp K H v (.bool (lenRes x)))) [] E0 (tCons (tVar 2) tNil)))) [some v0, some v1, some x] H' false := fun hg =>
        EvT.eq (et_not (et_test ((ed_areLen (wd.mono e03) rfl).1 (up_goodV _ _ _ (hm_mono e03) hg)))) rfl
      dsimp only [gName]
      rcases hi with rfl | ⟨rfl, _, hb1⟩
      · cases hx
        rcases hbad with hb | ⟨hg, hb⟩
        · exact s_if (bad hb) (fun _ H4 e4 => q H4 (e03.trans e4)) fun z => Bool.noConfusion z
        · exact s_if (good hg) (fun z => Bool.noConfusion z) fun _ H4 e4 => ⟨e3.trans e4, .inr ⟨rfl, hg, hb⟩, some v0, rfl⟩
      · cases hx
        exact s_if (bad hb1) (fun _ H4 e4 => q H4 (e03.trans e4)) fun z => Bool.noConfusion z
    · rintro σ' H' ⟨e3, hi, y, rfl⟩
      rcases hi with h | ⟨h, _⟩ <;> simp at h
end
end EIT
end
/-! text R11 -/
section
set_option maxHeartbeats 4000000
/-! calls whose arguments are drawn; orders woven; lists of pairs compared. -/
namespace EIT
open PySem PySem.Spec PyProof.Rows L2
section
variable {K : PySem.W.Frag} {f : Addr} {B B1 B2 n : Nat} {M : Mk} {σ : L2.St} {H H' : Hp} {te ta tb : TE} {tr : TA} {R : Hp → V → Prop} {d : PyData} {tz : TS} {D : Ends}
/-- a def that draws, called with what is drawn -/
theorem ef_callE {ι : Type} {pre : ι → Hp → List V → Prop} {post : ι → Hp → V → Prop} {E : XK} {i : Nat} (hf : M f = true) (wd : Wd M H) (hs : σ[i]? = some (some (.ref f))) (C : ι → Prop) (h : EvFA f B1 M tr σ H fun H vs => ∃ x, C x ∧ pre x H vs) :
    EvF f (B1 + B) M (tCall (spI pre B post) [] E (tCons (tVar i) tr)) σ H fun H v => ∃ x, C x ∧ post x H v := fun n H1 b fd hn Q q =>
  ⟨.ref f, hs, h n H1 b fd (by omega) _ fun r H2 b2 f2 ⟨x, hc, hr⟩ => ⟨M, f, n + B1, x, r, (b.trans b2).wd' wd f2, hf, f2, by omega, by rw [List.append_nil], hr, fun v H3 b3 f3 hv => q v H3 (b2.trans b3) (by rw [Nat.add_assoc] at f3; exact f3) ⟨x, hc, hv⟩⟩⟩
/-- one that draws not, called with what is drawn -/
theorem ef_callR {ι : Type} {pre : ι → Hp → List V → Prop} {post : ι → Hp → V → Prop} {E : XK} (wd : Wd M H) (C : ι → Prop) (h : EvFA f B M tr σ H fun H vs => ∃ x, C x ∧ pre x H vs) :
    EvF f B M (tCall (spR pre post) [] E tr) σ H fun H v => ∃ x, C x ∧ post x H v := fun n H1 b fd hn Q q =>
  h n H1 b fd hn _ fun r H2 b2 f2 ⟨x, hc, hr⟩ => ⟨M, x, (b.trans b2).wd' wd f2, by rw [List.append_nil]; exact hr, fun v H3 e3 hv => q v H3 (b2.trans (But.of e3)) (f2.same e3) ⟨x, hc, hv⟩⟩
theorem ed_rep {m n : Nat} (wd : Wd M H) (hb : EvD K M tb σ H (nI n)) (hn : n ≤ 1000) : EvD K M (tOp rRep (tLst (tCons (tC (.int (m : Nat))) tNil)) tb) σ H (.list ((List.replicate n m).map nI)) := fun H1 e Q q => by
  show ([V.int (m : Nat)].length ≤ sizeLine) ∧ _
  refine ⟨sz_ok (Nat.le_of_ble_eq_true rfl), fun p hp => hb _ (e.trans (same_new hp)) _ fun v H2 e2 hv => ?_⟩
  rw [dp_int hv]
  refine ⟨p, n, [.int (m : Nat)], rfl, rfl, e2 _ _ upd_same, by omega, by omega, sz_ok (by rw [List.length_cons, List.length_nil, Int.toNat_natCast]; omega), fun L hL => ?_⟩
  rw [Int.toNat_natCast, flat_rep]
  have e3 := (same_new hp).trans e2
  refine q _ _ (e3.trans (same_new hL)) ?_
  have hm : M L = false := (wd.mono (e.trans e3)).new hL
  rw [natsI, List.map_replicate, ← List.map_replicate (f := V.int) (a := ((m : Nat) : Int))]
  exact .lst (.of (hm_of hm upd_same)) (dps_of_ints _)
theorem efa_use {P : Hp → List V → Prop} {Q : List V → Hp → Prop} (h : EvFA f B M tr σ H P) (fd : Feed f n H) (hn : n + B ≤ topN) (q : ∀ vs H2, But f H H2 → Feed f (n + B) H2 → P (Hm M H2) vs → Q vs H2) : tr σ H Q := h n H (But.refl _ _) fd hn Q q
/-- three names at once, told by any relations -/
theorem g_three' {i j l : Nat} {v x y z : V} {Q : L2.St → Hp → Prop} (h : ∃ p, v = .ref p ∧ SqT K H p [x, y, z]) (q : Q (((σ.set i (some x)).set j (some y)).set l (some z)) H) : gTup K 3 (gCons (gName i) (gCons (gName j) (gCons (gName l) gNil))) v σ H Q := by
  obtain ⟨p, rfl, hs⟩ := h
  exact ⟨p, _, rfl, hs, rfl, x, [y, z], rfl, y, [z], rfl, z, [], rfl, rfl, q⟩
theorem eqv_pairs : ∀ z : List (Nat × Nat), PyData.eqvAll (z.map pairI) (z.map pairI) = true
  | [] => by simp [PyData.eqvAll]
  | p :: z => by
    rw [List.map_cons]
    have h1 : PyData.eqv (pairI p) (pairI p) = true := by rw [eqv_pairI]; exact decide_eq_true rfl
    simp only [PyData.eqvAll, h1, eqv_pairs z, Bool.and_self]
theorem eqv_pairsD (z : List (Nat × Nat)) : PyData.eqv (pairsD z) (pairsD z) = true := by
  show PyData.eqv (.list (z.map pairI)) (.list (z.map pairI)) = true
  simp only [PyData.eqv, eqv_pairs z]
theorem shaped_pairsD (z : List (Nat × Nat)) : SeqAt.shaped (pairsD z) = true := shaped_pairIs z
theorem ed_nePairs {z : List (Nat × Nat)} (ha : EvD K M ta σ H (pairsD z)) (hb : EvD K M tb σ H (pairsD z)) : EvD K M (tOp (rNeD K) ta tb) σ H (.bool false) := (ed_neD ha hb (shaped_pairsD z) (shaped_pairsD z)).eq (by rw [eqv_pairsD]; rfl)
end
theorem weave_perm : ∀ (ts : List Nat) (a b : List Str), zeros ts = a.length → ones ts = b.length → (weave ts a b).Perm (a ++ b)
  | [], a, b, ha, hb => by
    have e1 : a = [] := List.eq_nil_of_length_eq_zero ha.symm
    have e2 : b = [] := List.eq_nil_of_length_eq_zero hb.symm
    subst e1 e2
    exact .nil
  | t :: ts, a, b, ha, hb => by
    unfold weave
    by_cases e : t = 0
    · rw [if_pos e]
      have z : zeros (t :: ts) = zeros ts + 1 := by unfold zeros; rw [List.countP_cons, if_pos (by rw [e]; rfl)]
      have on : ones (t :: ts) = ones ts := by unfold ones; rw [List.countP_cons, if_neg (by rw [e]; decide)]; rfl
      cases a with
      | nil => rw [z] at ha; cases ha
      | cons p a => exact (weave_perm ts a b (by rw [z] at ha; exact Nat.succ.inj ha) (by rw [on] at hb; exact hb)).cons p
    · rw [if_neg e]
      have z : zeros (t :: ts) = zeros ts := by unfold zeros; rw [List.countP_cons, if_neg (by simpa using e)]; rfl
      have on : ones (t :: ts) = ones ts + 1 := by unfold ones; rw [List.countP_cons, if_pos (by simpa using e)]
      cases b with
      | nil => rw [on] at hb; cases hb
      | cons p b => exact ((weave_perm ts a b (by rw [z] at ha; exact ha) (by rw [on] at hb; exact Nat.succ.inj hb)).cons p).trans List.perm_middle.symm
theorem ord_weave {h o : Hall} (A : Apart h o) {ts : List Nat} {a b : List Str} (ha : OrdOk h.web a) (hb : OrdOk o.web b) (t : TurnOk ts a.length b.length) : OrdOk (joinH h o).web (weave ts a b) := by
  have p := weave_perm ts a b t.zer t.one
  refine ⟨fun q hq => ?_, p.nodup_iff.mpr (List.nodup_append.mpr ⟨ha.nd, hb.nd, fun x hx y hy e => ?_⟩), ?_⟩
  · rcases List.mem_append.mp (p.mem_iff.mp hq) with z | z
    · exact List.mem_append_left _ (ha.mem q z)
    · exact List.mem_append_right _ (hb.mem q z)
  · subst e
    exact A.ap x (ha.mem x hx) (hb.mem x hy)
  · rw [p.length_eq, List.length_append, ha.len, hb.len, join_ps]
theorem ord_perm {w : Web} (ok : WebOk w) {o : List Str} (p : o.Perm w.ps) : OrdOk w o := ⟨fun q hq => p.mem_iff.mp hq, p.nodup_iff.mpr ok.nd, p.length_eq⟩
/-- the turns: any sequence of so many 0 and so many 1 -/
theorem turns_of {ts : List Nat} {n m : Nat} (p : ts.Perm (List.replicate n 0 ++ List.replicate m 1)) : TurnOk ts n m := by
  refine ⟨fun t ht => ?_, ?_, ?_⟩
  · rcases List.mem_append.mp (p.mem_iff.mp ht) with z | z
    · exact .inl (List.eq_of_mem_replicate z)
    · exact .inr (List.eq_of_mem_replicate z)
  · unfold zeros
    rw [p.countP_eq, List.countP_append, List.countP_replicate, List.countP_replicate]
    simp
  · unfold ones
    rw [p.countP_eq, List.countP_append, List.countP_replicate, List.countP_replicate]
    simp
theorem sz_RL {F : Nat → Nat} {N : Nat} (hN : N ≤ 256) : Sz 9 (RL F N) ∧ (RL F N).length ≤ 300 := by
  refine ⟨fun p hp => ?_, ?_⟩
  · obtain ⟨L, hL, rfl⟩ := List.mem_map.mp hp
    have h1 := List.mem_range.mp (List.mem_filter.mp hL).1
    have h2 : (lens F N).count L ≤ (lens F N).length := List.count_le_length
    have h3 := lens_le (F := F) (N := N)
    refine ⟨?_, ?_⟩
    · show L < 2 ^ 9
      omega
    · show (lens F N).count L < 2 ^ 9
      omega
  · unfold RL
    rw [List.length_map]
    have := List.length_filter_le (fun L => decide (L ∈ lens F N)) (List.range (N + 1))
    rw [List.length_range] at this
    omega
end EIT
end
/-! text L14 -/
section
set_option maxHeartbeats 4000000
/-! the law's halls. -/
namespace EIT
open PySem PySem.Spec PyProof.Rows L2
structure HallQ (h : Hall) : Prop where
  ok : HallOk h
  m4 : h.web.ps.length ≤ 4
  few : h.web.rs.length ≤ 7
  sub : ∀ p ∈ h.web.ps, p ∈ names12
theorem sorts3 : ∀ s ∈ (["any", "undone", "adding"] : List Str), s ≠ ("quiet" : Str) := by decide +kernel
theorem ways2 : ∀ s ∈ (["tree", "any"] : List Str), s ≠ ("ring" : Str) := by decide +kernel
def mostOf (h : Hall) : Nat := if h.k = 2 then 8 - h.web.ps.length else 5 - h.web.ps.length
theorem few_both {h o : Hall} (a : HallQ h) (hk : h.k = o.k) (b : o.web.ps.length ≤ min 4 (mostOf h)) : h.web.ps.length + o.web.ps.length ≤ 8 ∧ h.k ^ (h.web.ps.length + o.web.ps.length) ≤ 256 := by
  have h4 := a.m4
  have hk3 := a.ok.k
  unfold mostOf at b
  rcases hk3 with e | e
  · rw [if_pos e] at b
    have h1 : h.web.ps.length + o.web.ps.length ≤ 8 := by omega
    rw [e]
    exact ⟨h1, Nat.le_trans (Nat.pow_le_pow_right (by decide) h1) (by decide)⟩
  · rw [if_neg (by omega)] at b
    have h1 : h.web.ps.length + o.web.ps.length ≤ 5 := by omega
    rw [e]
    exact ⟨by omega, Nat.le_trans (Nat.pow_le_pow_right (by decide) h1) (by decide)⟩
theorem perm_nats {ts : List Nat} {ys : List V} (h : ys.Perm (ts.map fun n : Nat => V.int (n : Int))) : ∃ us : List Nat, ys = us.map (fun n : Nat => V.int (n : Int)) ∧ us.Perm ts := by
  have h2 := h.map fun v => match v with | V.int x => x.toNat | _ => 0
  rw [List.map_map] at h2
  have e : (ts.map ((fun v => match v with | V.int x => x.toNat | _ => 0) ∘ fun n : Nat => V.int (n : Int))) = ts := (List.map_congr_left fun n _ => by
    show ((n : Int)).toNat = id n
    rw [Int.toNat_natCast]; rfl).trans (List.map_id _)
  rw [e] at h2
  refine ⟨_, ?_, h2⟩
  rw [List.map_map]
  refine ((List.map_congr_left fun y hy => ?_).trans (List.map_id _)).symm
  obtain ⟨n, _, rfl⟩ := List.mem_map.mp (h.mem_iff.mp hy)
  show V.int (((n : Int).toNat : Nat) : Int) = id (V.int (n : Int))
  rw [Int.toNat_natCast]; rfl
section
variable {P : Program} {w : World} {K : PySem.W.Frag} {mg : Str → Option Value} {base : Heap}
theorem er_beside {M : Mk} {σ : L2.St} {H : Hp} {tr : TA} {C : Addr} {a b : List (Nat × Nat)} (wd : Wd M H) (ok : LbOk a b) (h : EvA K M tr σ H [pairsD a, pairsD b]) : EvR M (tCall (spBL K C) [] E0 tr) σ H (DueP K a b) := fun H1 e Q q =>
  h H1 e _ fun vs H2 e2 hvs => .inl ⟨M, a, b, wd.mono (e.trans e2), ok, by rw [List.append_nil]; exact hvs, fun zs p H3 ws c1 c2 c3 e3 hp hp3 hws => q _ H3 (e2.trans e3) ⟨zs, c1, c2, c3, .lst (.of (hm_of ((wd.mono (e.trans e2)).new hp) hp3)) hws⟩⟩
theorem er_rings {M : Mk} {σ : L2.St} {H : Hp} {tr : TA} {h : Hall} {o : List Str} (wd : Wd M H) (p1 : HallOk h) (p2 : OrdOk h.web o) {v u : V} {i j : Nat} (hi : σ[i]? = some (some v)) (hj : σ[j]? = some (some u)) (hv : HallV K h (Hm M H) v) (hu : Dp K (Hm M H) u (strsD o)) :
    EvD K M (tCall (spR (preHO K) (fun x H v => Dp K H v (pairsD (RL (dayF x.1 x.2) (sized x.1))))) [] E0 (tCons (tVar i) (tCons (tVar j) tNil))) σ H (pairsD (RL (dayF h o) (sized h))) :=
  ed_callR (res := fun x : Hall × List Str => pairsD (RL (dayF x.1 x.2) (sized x.1))) (h, o) wd (EvB.imp (eb_cons (M := M) up_hall (er_var hi up_hall hv) (EvA.b (K := K) (M := M) (ea_cons (ed_var hj hu) ea_nil))) fun vs H' ⟨x, r, e1, h1, h2⟩ => by
    obtain ⟨u2, rfl, h3⟩ := one_of h2
    exact ⟨p1, p2, x, u2, e1, h1, h3⟩)
theorem sc_law_halls_right : FnScope ["_law_feed_here", "_law_hall_here", "_law_k", "_law_most", "_law_web_here", "_law_sort", "_law_other", "_law_both", "_law_order_here", "_law_second", "_law_due_here", "_law_turn", "_law_turns", "_law_place"] ["_law_feed_here"] (defScope s_law_halls_right) := ⟨rfl, rfl, rfl, by decide +kernel, rfl, by decide +kernel, by decide +kernel⟩
theorem ok_law_halls_right (T : Tx K mg) {C : Addr} (bl : CalX P w K mg base 3 "beside_lengths" ["lengths", "others"] (spBL K C)) : Cal P w K mg base 11 "_law_halls_right" ["_law_feed_here"] (spI (ι := Unit) (fun _ _ r => r = []) 30000 fun _ _ v => v = .bl true) := by
  refine mkI T.d_law_halls_right sc_law_halls_right (fun i H vs h => by subst h; rfl) (fun _ _ _ _ _ _ us hl => match us, hl with | [_], _ => rfl) fun f cdv A outer s H Q E hr M fa n x r wd hm fd hn hp q => ?_
  subst hp
  have upT : ∀ {a}, a ≤ n + 30000 → a ≤ topN := fun h => Nat.le_trans h hn
  refine ⟨_, (pss_cons (ps_set (i := 1) sc_law_halls_right.nd rfl (.inl rfl) (pe_cal (ok_law_hall T) (hr.mono (by decide)) (by rfl) (pa_cons (pv 0) (pa_cons (pe_cal (ok_law_one T) (hr.mono (by decide)) (by rfl) (pa_cons (pv 0) (pa_cons (pe_lst (pa_cons pe_str (pa_cons pe_str (pa_cons pe_str pa_nil)))) pa_nil))) (pa_cons (pe_cal (ok_law_one T) (hr.mono (by decide)) (by rfl) (pa_cons (pv 0) (pa_cons (pe_lst (pa_cons pe_str (pa_cons pe_str (pa_cons pe_str pa_nil)))) pa_nil))) (pa_cons pe_int pa_nil))))))
      (pss_cons (ps_asg (pe_tup (pa_cons (pe_ix (ix_seqK K) (pv 1) pe_int (fun _ _ => rfl)) (pa_cons (pe_ifExp (pt_cmpR op_eq (pe_ix (ix_seqK K) (pv 1) pe_int (fun _ _ => rfl)) pe_int (nomark _)) (pe_op op_sub pe_int (pe_callB (call_len_seqK K) (by rfl) T.b_len (by decide +kernel) (pa_cons (pe_ix (ix_seqK K) (pe_ix (ix_seqK K) (pv 1) pe_int (fun _ _ => rfl)) pe_int (fun _ _ => rfl)) pa_nil))) (pe_op op_sub pe_int (pe_callB (call_len_seqK K) (by rfl) T.b_len (by decide +kernel) (pa_cons (pe_ix (ix_seqK K) (pe_ix (ix_seqK K) (pv 1) pe_int (fun _ _ => rfl)) pe_int (fun _ _ => rfl)) pa_nil)))) pa_nil))) (pg_tupK (n := 2) K rfl (pgs_cons (pg_name (i := 2) sc_law_halls_right.nd rfl (.inr rfl)) (pgs_cons (pg_name (i := 3) sc_law_halls_right.nd rfl (.inl rfl)) pgs_nil))))
      (pss_cons (ps_set (i := 4) sc_law_halls_right.nd rfl (.inr rfl) (pe_cal (ok_law_web T) (hr.mono (by decide)) (by rfl) (pa_cons (pv 0) (pa_cons (pe_cal (ok_law_one T) (hr.mono (by decide)) (by rfl) (pa_cons (pv 0) (pa_cons (pe_lst (pa_cons pe_str (pa_cons pe_str pa_nil))) pa_nil))) (pa_cons (pe_callB (call_min2 rfl) (by rfl) T.b_min (by decide +kernel) (pa_cons pe_int (pa_cons (pv 3) pa_nil))) pa_nil)))))
      (pss_cons (ps_set (i := 5) sc_law_halls_right.nd rfl (.inr rfl) (pe_cal (ok_law_one T) (hr.mono (by decide)) (by rfl) (pa_cons (pv 0) (pa_cons (pe_lst (pa_cons pe_str (pa_cons pe_str (pa_cons pe_str pa_nil)))) pa_nil))))
      (pss_cons (ps_set (i := 6) sc_law_halls_right.nd rfl (.inl rfl) (pe_cal (ok_law_renamed T) (hr.mono (by decide)) (by rfl) (pa_cons (pe_tup (pa_cons (pv 2) (pa_cons (pv 4) (pa_cons (pe_callTy (call_tuple_ofK K) (by rfl) T.b_tuple (by decide +kernel) (pa_cons (pe_lc (own := [("_law_place", 13)])  rfl sc_law_halls_right.nd (pi_tupK K (pe_ix (ix_seqK K) (pv 4) pe_int (fun _ _ => rfl))) (blkOk_by (N := ["_law_feed_here", "_law_hall_here", "_law_k", "_law_most", "_law_web_here", "_law_sort", "_law_other", "_law_both", "_law_order_here", "_law_second", "_law_due_here", "_law_turn", "_law_turns", "_law_place"]) (sc := defScope s_law_halls_right) (own := [("_law_place", 13)]) (by decide +kernel)) (fun _ _ _ _ _ => pg_name (i := 13) sc_law_halls_right.nd rfl (Or.inl rfl)) (fun _ _ _ _ _ => pts_nil) (fun _ _ _ _ _ => (pe_cal (ok_law_rule T) (hr.mono (by decide)) (by rfl) (pa_cons (pv 0) (pa_cons (pv 2) (pa_cons (pe_cal (ok_law_neighbours T) (hr.mono (by decide)) (by rfl) (pa_cons (pv 4) (pa_cons (pv 13) pa_nil))) (pa_cons (pv 5) pa_nil))))))) pa_nil)) pa_nil)))) pa_nil)))
      (pss_cons (ps_par3 (i := 7) (j := 8) (l := 9) rfl sc_law_halls_right.nd rfl rfl rfl (by decide) (by decide) (by decide) rfl rfl rfl (pa_cons (pe_cal (ok_beside T) (hr.mono (by decide)) (by rfl) (pa_cons (pv 1) (pa_cons (pv 6) pa_nil))) (pa_cons (pe_cal (ok_law_order T) (hr.mono (by decide)) (by rfl) (pa_cons (pv 0) (pa_cons (pe_ix (ix_seqK K) (pv 1) pe_int (fun _ _ => rfl)) pa_nil))) (pa_cons (pe_cal (ok_law_order T) (hr.mono (by decide)) (by rfl) (pa_cons (pv 0) (pa_cons (pe_ix (ix_seqK K) (pv 6) pe_int (fun _ _ => rfl)) pa_nil))) pa_nil))) (by rfl))
      (pss_cons (ps_set (i := 10) sc_law_halls_right.nd rfl (.inl rfl) (pe_calX bl (hr.mono (by decide)) (by rfl) (pa_cons (pe_cal (ok_ring_lengths T) (hr.mono (by decide)) (by rfl) (pa_cons (pv 1) (pa_cons (pv 8) pa_nil))) (pa_cons (pe_cal (ok_ring_lengths T) (hr.mono (by decide)) (by rfl) (pa_cons (pv 6) (pa_cons (pv 9) pa_nil))) pa_nil))))
      (pss_cons (ps_for PassesOwn.never rfl (pi_range1 (by rfl) T.b_range (pa_cons pe_int pa_nil)) (pg_name (i := 11) sc_law_halls_right.nd rfl (.inl rfl)) (pss_cons (ps_set (i := 12) sc_law_halls_right.nd rfl (.inl rfl) (pe_callTy (call_tuple_ofK K) (by rfl) T.b_tuple (by decide +kernel) (pa_cons (pe_cal (ok_law_mixed T) (hr.mono (by decide)) (by rfl) (pa_cons (pv 0) (pa_cons (pe_op (op_catLK K) (pe_op op_rep (pe_lst (pa_cons pe_int pa_nil)) (pe_callB (call_len_seqK K) (by rfl) T.b_len (by decide +kernel) (pa_cons (pv 8) pa_nil))) (pe_op op_rep (pe_lst (pa_cons pe_int pa_nil)) (pe_callB (call_len_seqK K) (by rfl) T.b_len (by decide +kernel) (pa_cons (pv 9) pa_nil)))) pa_nil))) pa_nil)))
      (pss_one (ps_if (pt_cmpR (op_neDK K (Nat.lt_trans (Nat.lt_succ_self _) (room65 hr))) (pe_cal (ok_ring_lengths T) (hr.mono (by decide)) (by rfl) (pa_cons (pv 7) (pa_cons (pe_cal (ok_woven_order T) (hr.mono (by decide)) (by rfl) (pa_cons (pv 1) (pa_cons (pv 6) (pa_cons (pv 8) (pa_cons (pv 9) (pa_cons (pv 12) pa_nil)))))) pa_nil))) (pv 10) (nomark _)) (pss_one (ps_ret pe_bl)) pss_nil))))
      (pss_one (ps_ret pe_bl)))))))))), ?_⟩
  -- the first hall
  refine q_asgF (M := M) (B := 13002) (R := fun H v => ∃ h, HallQ h ∧ HallV K h H v) fd (upT (by omega)) (ef_imp (ef_le (ef_callE (B := 13000) (pre := preHall) (post := fun x H v => ∃ h, HallP x h ∧ HallV K h H v) hm wd rfl (fun _ => True) (efa_imp (efa_cons hm up_dpP (ef_oneS (K := K) (ns := ["tree", "ring", "any"]) hm wd rfl (fun H1 b z => ed_lst (b.wd wd z) (ea_cons ed_str (ea_cons ed_str (ea_cons ed_str ea_nil)))) (by decide) (by decide)) (efa_cons hm up_dpP (ef_oneS (K := K) (ns := ["any", "undone", "adding"]) hm wd rfl (fun H1 b z => ed_lst (b.wd wd z) (ea_cons ed_str (ea_cons ed_str (ea_cons ed_str ea_nil)))) (by decide) (by decide)) (efa_cons (R := fun _ v => v = .int (4 : Nat)) hm (fun _ _ _ _ h => h) (ef_pure fun H2 b => er_int) efa_nil))) fun H vs hv => ?_)) (by decide)) ?_) fun v1 H1 b1 f1 h1 => ?_
  · obtain ⟨y1, r1, rfl, ⟨d1, ⟨way, hway, rfl⟩, g1⟩, y2, r2, rfl, ⟨d2, ⟨sort, hsort, rfl⟩, g2⟩, y3, r3, rfl, rfl, rfl⟩ := hv
    rw [dp_str g1, dp_str g2]
    exact ⟨⟨way, sort, 4⟩, trivial, (show 1 ≤ 4 by decide), Nat.le_refl 4, sorts3 sort hsort, rfl⟩
  · rintro H v ⟨x, _, h, hP, hv⟩
    exact ⟨h, ⟨hP.ok, hP.web.m4, hP.web.few, hP.web.sub⟩, hv⟩
  obtain ⟨h, hq, hv1⟩ := h1
  have w1 : Wd M H1 := b1.wd' wd f1
  have hk3 := hq.ok.k
  have hlo := hq.ok.web.lo
  have hm4 := hq.m4
  -- its kind, how many places may come
  have plen : ∀ {σ : L2.St} {H' : Hp} {v : V}, σ[1]? = some (some v) → HallV K h (Hm M H') v → EvD K M (tCB (fun xs H Q => ∃ p ys, xs = [.ref p] ∧ (SqL K H p ys ∨ SqT K H p ys) ∧ Q (.int ys.length) H) (tCons (tOp (rIx K) (tOp (rIx K) (tVar 1) (tC (.int 1))) (tC (.int 0))) tNil)) σ H' (nI h.web.ps.length) := fun hs hv =>
    (ed_lenT (ds := h.web.ps.map .str) (ed_ixT' (j := 0) (ed_ixT' (j := 1) (ed_var hs (hall_dp hv)) ed_int rfl rfl) ed_int rfl rfl)).eq (by rw [List.length_map]; rfl)
  refine q_asg2 (K := K) (M := M) (a := nI h.k) (b := nI (mostOf h)) (ed_tup w1 (ea_cons (ed_ixT' (j := 0) (ed_var rfl (hall_dp hv1)) ed_int rfl rfl) (ea_cons (ed_if (et_test (ed_eqI (i := h.k) (j := 2) (ed_ixT' (j := 0) (ed_var rfl (hall_dp hv1)) ed_int rfl rfl) ed_int)) (fun z => EvD.eq (ed_I0 ed_int (plen rfl hv1)) ?_) fun z => EvD.eq (ed_I0 ed_int (plen rfl hv1)) ?_) ea_nil))) fun v2 v3 H2 e2 h2 h3 => ?_
  · have z := of_decide_eq_true z
    unfold mostOf
    rw [if_pos (by omega)]
    show PyData.int _ = PyData.int _
    congr 1
    omega
  · have z := of_decide_eq_false z
    unfold mostOf
    rw [if_neg (by omega)]
    show PyData.int _ = PyData.int _
    congr 1
    have : h.k = 3 := by omega
    have h5 : h.web.ps.length ≤ 4 := hm4
    omega
  cases dp_int h2
  cases dp_int h3
  have w2 := w1.mono e2
  have f2 := f1.same e2
  have hv2 := up_hall _ _ _ (hm_mono e2) hv1
  have hmost : 1 ≤ mostOf h := by
    unfold mostOf
    split <;> omega
  -- the other web
  refine q_asgF (M := M) (B := 301) (R := fun H v => ∃ web, (WebOk web ∧ web.ps.length ≤ min 4 (mostOf h) ∧ web.rs.length ≤ 7 ∧ ∀ p ∈ web.ps, p ∈ names12) ∧ WebV K web H v) f2 (upT (by omega)) (ef_imp (ef_le (ef_callE (B := 300) (pre := preWeb) (post := fun x H v => ∃ web, WebP x web ∧ WebV K web H v) hm w2 rfl (fun x => x.1 ≠ "ring" ∧ x.2 = min 4 (mostOf h)) (efa_imp (efa_cons hm up_dpP (ef_oneS (K := K) (ns := ["tree", "any"]) hm w2 rfl (fun H1 b z => ed_lst (b.wd w2 z) (ea_cons ed_str (ea_cons ed_str ea_nil))) (by decide) (by decide)) (efa_cons (R := fun _ v => v = .int (min 4 (mostOf h) : Nat)) hm (fun _ _ _ _ h => h) (ef_pure fun H2 b => er_nat (K := K) (ed_min2 (ed_nat (n := 4)) (ed_var rfl (.int _)))) efa_nil)) fun H vs hv => ?_)) (by decide)) ?_) fun v4 H3 b3 f3 h4 => ?_
  · obtain ⟨y1, r1, rfl, ⟨d1, ⟨way, hway, rfl⟩, g1⟩, y2, r2, rfl, rfl, rfl⟩ := hv
    rw [dp_str g1]
    exact ⟨(way, min 4 (mostOf h)), ⟨ways2 way hway, rfl⟩, by show 1 ≤ min 4 _; omega, by show min 4 _ ≤ 4; omega, rfl⟩
  · rintro H v ⟨⟨way, m⟩, ⟨hw, rfl⟩, web, hP, hv⟩
    exact ⟨web, ⟨hP.ok, hP.most hw, hP.few, hP.sub⟩, hv⟩
  obtain ⟨web, ⟨wok, wm, wf, wsub⟩, hw4⟩ := h4
  have w3 : Wd M H3 := b3.wd' w2 f3
  have wm4 : web.ps.length ≤ 4 := by omega
  -- the sort
  refine q_asgF (M := M) (B := 1) (R := DpP K fun d => ∃ x ∈ (["any", "undone", "adding"] : List Str), d = .str x) f3 (upT (by omega)) (ef_oneS (K := K) (ns := ["any", "undone", "adding"]) hm w3 rfl (fun H1 b z => ed_lst (b.wd w3 z) (ea_cons ed_str (ea_cons ed_str (ea_cons ed_str ea_nil)))) (by decide) (by decide)) fun v5 H4 b4 f4 h5 => ?_
  obtain ⟨d5, ⟨sort, hsort, rfl⟩, h5⟩ := h5
  cases dp_str h5
  have w4 : Wd M H4 := b4.wd' w3 f4
  have hw44 := up_web _ _ _ (b4.hm hm) hw4
  -- the other hall, renamed
  refine q_asgF (M := M) (B := 12000) (R := fun H v => ∃ o : Hall, (o.k = h.k ∧ o.web = web ∧ HallOk o) ∧ HallV K (renH o) H v) f4 (upT (by omega)) (ef_callR (pre := fun (x : Hall) H vs => HallOk x ∧ (∀ p ∈ x.web.ps, p ∈ names12) ∧ ∃ v, vs = [v] ∧ HallV K x H v) (post := fun x H v => HallV K (renH x) H v) w4 (fun o => o.k = h.k ∧ o.web = web ∧ HallOk o) (efa_imp (efa_cons (B1 := 12000) (B2 := 0) (R := fun H v => ∃ o : Hall, (o.k = h.k ∧ o.web = web ∧ HallOk o) ∧ HallV K o H v) hm (fun _ _ _ e ⟨o, g1, g2⟩ => ⟨o, g1, up_hall _ _ _ e g2⟩) (fun n' H' b' fd' hn' Q' q' => ?_) efa_nil) fun H vs hv => ?_)) fun v6 H5 b5 f5 h6 => ?_
  · refine ⟨.int (h.k : Nat), rfl, v4, rfl, ?_⟩
    refine ef_rules (K := K) (M := M) (k := h.k) (web := web) (sort := sort) (v := v4) hm w4 hk3 wok wm4 (sorts3 sort hsort) (web_dp hw44) rfl (fun _ => rfl) (fun _ => rfl) (fun _ => rfl) (fun _ => rfl) (fun _ => rfl) (fun _ => rfl) n' H' b' fd' (by omega) _ fun z H3 b3 f3 hz => ⟨sz_ok (Nat.le_of_ble_eq_true rfl), fun t ht => ?_⟩
    obtain ⟨d, ⟨rules, rfl, g1, g2⟩, hd⟩ := hz
    have w3 : Wd M H3 := (b'.trans b3).wd' w4 f3
    have hmt : M t = false := w3.new ht
    have e34 := same_new (o := .tup [.int (h.k : Nat), v4, z]) ht
    exact q' _ _ (b3.trans (But.of e34)) (f3.same e34) ⟨⟨h.k, web, rules⟩, ⟨rfl, rfl, hall_of hk3 wok (four_pow hk3 wm4) g1 g2⟩, t, .int (h.k : Nat), v4, z, rfl, .of (hm_of hmt upd_same), .int _, up_web _ _ _ (hm_mono e34) (up_web _ _ _ ((b'.trans b3).hm hm) hw44), L2.Dp.up hd (hm_mono e34)⟩
  · obtain ⟨y1, r1, rfl, ⟨o, ⟨o1, o2, o3⟩, hv⟩, rfl⟩ := hv
    exact ⟨o, ⟨o1, o2, o3⟩, o3, by rw [o2]; exact wsub, y1, rfl, hv⟩
  obtain ⟨o0, ⟨o1, o2, o3⟩, hv6⟩ := h6
  have w5 : Wd M H5 := b5.wd' w4 f5
  have hok := hq.ok
  have rok : HallOk (renH o0) := ren_hall o3 (by rw [o2]; exact wsub)
  have ap : Apart h (renH o0) := ⟨hok, rok, o1.symm, fun p hp z => by
    obtain ⟨b, hb, e⟩ := List.mem_map.mp (show p ∈ o0.web.ps.map renS from z)
    rw [o2] at hb
    exact ren_apart p (hq.sub p hp) b (wsub b hb) e.symm⟩
  have rl : (renH o0).web.ps.length = web.ps.length := by
    show (o0.web.ps.map renS).length = _
    rw [List.length_map, o2]
  have rr : (renH o0).web.rs.length = web.rs.length := by
    show (o0.web.rs.map _).length = _
    rw [List.length_map, o2]
  have jf := few_both hq (o := renH o0) o1.symm (by rw [rl]; exact wm)
  have jok : JoinOk h (renH o0) := join_ok ap jf.1 jf.2 (by rw [rr]; have := hq.few; omega)
  generalize renH o0 = o at hv6 rok ap rl rr jok
  have hv5 := up_hall _ _ _ ((b3.trans (b4.trans b5)).hm hm) hv2
  -- both, and the orders
  have horder : ∀ {h : Hall} {σ : L2.St} {H : Hp} {i : Nat} {v : V}, HallOk h → Wd M H → σ[0]? = some (some (.ref fa)) → σ[i]? = some (some v) → HallV K h (Hm M H) v → EvF fa (0 + 64) M (tCall (spI (fun (web : Web) H r => web.ps.length ≤ 64 ∧ ∃ v, r = [v] ∧ Dp K H v (Web.enc web)) 64 fun web H v => ∃ o : List Str, o.Perm web.ps ∧ Dp K H v (strsD o)) [] E0 (tCons (tVar 0) (tCons (tOp (rIx K) (tVar i) (tC (.int 1))) tNil))) σ H (fun H v => ∃ o, OrdOk h.web o ∧ Dp K H v (strsD o)) := fun {h σ H i v} ok wd hs0 hsi hv =>
    ef_imp (ef_call (B1 := 0) h.web hm wd hs0 (efa_imp (efa_cons (B1 := 0) (B2 := 0) (R := fun H v => Dp K H v (Web.enc h.web)) hm up_dp (ef_purew fun H2 b z => EvD.r (ed_ixT' (j := 1) (ed_var hsi (L2.Dp.up (hall_dp hv) (b.hm hm))) ed_int rfl rfl)) efa_nil) fun H vs ⟨y, r, e1, g1, g2⟩ => ⟨by have := ok.web.hi; omega, y, by rw [e1, g2], g1⟩)) fun H v ⟨o, g1, g2⟩ => ⟨o, ord_perm ok.web g1, g2⟩
  show tSeq (tPar3 7 8 9 _) _ _ _ _
  refine efa_use (M := M) (B := 128) (P := fun H xs => ∃ x y z, xs = [x, y, z] ∧ HallV K (joinH h o) H x ∧ (∃ o1, OrdOk h.web o1 ∧ Dp K H y (strsD o1)) ∧ ∃ o2, OrdOk o.web o2 ∧ Dp K H z (strsD o2)) (efa_imp (efa_cons (B1 := 0) (B2 := 128) (R := HallV K (joinH h o)) hm up_hall (ef_purew fun H2 b z => er_call (post := fun (x : Hall × Hall) H v => HallV K (joinH x.1 x.2) H v) (h, o) (b.wd w5 z) (eb_HH hok rok jok rfl rfl (up_hall _ _ _ (b.hm hm) hv5) (up_hall _ _ _ (b.hm hm) hv6))) (efa_cons (B1 := 64) (B2 := 64) (R := fun H v => ∃ o1, OrdOk h.web o1 ∧ Dp K H v (strsD o1)) hm (fun _ _ _ e ⟨o, g1, g2⟩ => ⟨o, g1, g2.up e⟩) (horder hok w5 rfl rfl hv5) (efa_cons (B1 := 64) (B2 := 0) (R := fun H v => ∃ o2, OrdOk o.web o2 ∧ Dp K H v (strsD o2)) hm (fun _ _ _ e ⟨o, g1, g2⟩ => ⟨o, g1, g2.up e⟩) (horder rok w5 rfl rfl hv6) efa_nil))) fun H vs ⟨x, _, e1, g1, y, _, e2, g2, z, _, e3, g3, e4⟩ => ⟨x, y, z, by rw [e1, e2, e3, e4], g1, g2, g3⟩) f5 (upT (by omega)) fun vs H6 b6 f6 hv => ?_
  obtain ⟨v7, v8, v9, rfl, hv7, ⟨oa, oa1, hv8⟩, ob, ob1, hv9⟩ := hv
  refine ⟨v7, v8, v9, rfl, ?_⟩
  have w6 : Wd M H6 := b6.wd' w5 f6
  have hh6 := up_hall _ _ _ (b6.hm hm) hv5
  have ho6 := up_hall _ _ _ (b6.hm hm) hv6
  -- the lengths
  have s1 := sz_RL (F := dayF h oa) (N := sized h) hok.few
  have s2 := sz_RL (F := dayF o ob) (N := sized o) rok.few
  show tSeq _ _ _ _ _
  refine (er_beside (K := K) (M := M) (C := C) w6 ⟨RL_canon, RL_canon, sz_mono s1.1 (by decide), sz_mono s2.1 (by decide), s1.2, s2.2⟩ (ea_cons (er_rings (tr := tNil) w6 hok oa1 rfl rfl hh6 hv8) (ea_cons (er_rings (tr := tNil) w6 rok ob1 rfl rfl ho6 hv9) ea_nil))).use fun v10 H7 e7 h10 => ?_
  obtain ⟨zs, zc, zt, _, h10⟩ := h10
  have w7 := w6.mono e7
  have f7 := f6.same e7
  have all7 : But fa H H7 := b1.trans ((But.of e2).trans (b3.trans (b4.trans (b5.trans (b6.trans (But.of e7))))))
  have hh7 := up_hall _ _ _ (hm_mono e7) hh6
  have ho7 := up_hall _ _ _ (hm_mono e7) ho6
  have hj7 := up_hall _ _ _ (hm_mono e7) hv7
  have ha7 := L2.Dp.up hv8 (hm_mono e7)
  have hb7 := L2.Dp.up hv9 (hm_mono e7)
  have la := oa1.len
  have lb := ob1.len
  have l8 := rok.web.hi
  generalize hn7 : n + 13002 + 301 + 1 + 12000 + 128 = n7 at f7
  show tSeq _ _ _ _ _
  refine q_for (K := K) (M := M) (src_rng (n := 2) (z := 2) (ea_cons ed_int ea_nil) rfl (by decide)) fun H8 e8 => ⟨fun i σ' H' => ∃ y11 y12 y13, σ' = [some (.ref fa), some v1, some (.int (h.k : Nat)), some (.int (mostOf h : Nat)), some v4, some (.str sort), some v6, some v7, some v8, some v9, some v10, y11, y12, y13] ∧ i ≤ 2 ∧ Feed fa (n7 + 64 * i) H' ∧ But fa H7 H' ∧ But fa H8 H' ∧ Wd M H', ?_, ?_, ?_, ?_⟩
  · exact ⟨none, none, none, rfl, Nat.zero_le _, f7.same e8, But.of e8, But.refl _ _, w7.mono e8⟩
  · rintro i σ' H' ⟨y11, y12, y13, rfl, hi, g1, g2, g3, g4⟩
    exact ⟨g3.hm hm, g4⟩
  · rintro i d x σ' H' H9 hd ⟨y11, y12, y13, rfl, hi, g1, g2, g3, g4⟩ e9 hx
    have hi2 : i < 2 := by
      obtain ⟨z, _⟩ := List.getElem?_eq_some_iff.mp hd
      rw [List.length_map, List.length_range] at z; exact z
    have w9 := g4.mono e9
    have c9 : But fa H7 H9 := g2.trans (But.of e9)
    have m9 := c9.hm (M := M) hm
    show tSeq _ _ _ _ _
    refine q_asgF (M := M) (B := 64) (R := DpP K fun d => ∃ ts : List Nat, TurnOk ts oa.length ob.length ∧ d = .tuple (ts.map nI)) (g1.same e9) (upT (by omega)) (ef_tupleD hm w9 (ef_imp (ef_call (B := 64) (B1 := 0) (pre := preMix K) (post := fun xs H v => IsMix xs H v) ((List.replicate oa.length 0 ++ List.replicate ob.length 1).map fun n : Nat => V.int (n : Int)) hm w9 rfl (efa_imp (efa_cons (B1 := 0) (B2 := 0) (R := fun H v => Dp K H v (.list ((List.replicate oa.length 0 ++ List.replicate ob.length 1).map nI))) hm up_dp (ef_purew fun H2 b z => EvD.r ?_) efa_nil) fun H vs hv => ?_)) fun H v hv => ?_)) fun v12 H10 b10 f10 h12 => ?_
    · have w' := b.wd w9 z
      rw [List.map_append]
      refine ed_catL w' (ed_rep (m := 0) w' ((ed_lenT (ds := oa.map .str) (ed_var rfl (L2.Dp.up ha7 (m9.trans (b.hm hm))))).eq (by rw [List.length_map]; rfl)) (by omega)) (ed_rep (m := 1) w' ((ed_lenT (ds := ob.map .str) (ed_var rfl (L2.Dp.up hb7 (m9.trans (b.hm hm))))).eq (by rw [List.length_map]; rfl)) (by omega)) ?_
      rw [List.length_map, List.length_map, List.length_replicate, List.length_replicate]
      omega
    · obtain ⟨y, r, rfl, hy, rfl⟩ := hv
      obtain ⟨a, xs, rfl, hs, hall⟩ := dp_lst hy
      rw [natsI] at hall
      cases dps_ints hall
      rw [List.map_map] at hs
      refine ⟨?_, _, rfl, a, rfl, .inl hs⟩
      rw [List.length_map, List.length_append, List.length_replicate, List.length_replicate]
      omega
    · obtain ⟨p, ys, rfl, hp, hperm⟩ := hv
      obtain ⟨us, rfl, hus⟩ := perm_nats hperm
      exact ⟨.list (us.map nI), ⟨_, rfl, us, turns_of hus, rfl⟩, .lst (.of hp) (dps_nats us)⟩
    obtain ⟨d12, ⟨ts, hts, rfl⟩, h12⟩ := h12
    have w10 : Wd M H10 := b10.wd' w9 f10
    have c10 : But fa H7 H10 := c9.trans b10
    have m10 := c10.hm (M := M) hm
    have ezs : zs = RL (dayF (joinH h o) (weave ts oa ob)) (sized (joinH h o)) := canon_ext zc RL_canon fun k => (zt k).trans (rings_weave ap oa1.mem ob1.mem hts k).symm
    have hdue := L2.Dp.up h10 m10
    rw [ezs] at hdue
    refine s_if (b := false) (et_test (ed_nePairs (K := K) (M := M) (ed_callR (res := fun x : Hall × List Str => pairsD (RL (dayF x.1 x.2) (sized x.1))) (pre := preHO K) (joinH h o, weave ts oa ob) w10 (EvB.imp (eb_cons (M := M) up_hall (er_var rfl up_hall (up_hall _ _ _ m10 hj7)) (EvA.b (K := K) (M := M) (ea_cons (ed_callR (res := fun x : Hall × Hall × List Str × List Str × List Nat => strsD (weave x.2.2.2.2 x.2.2.1 x.2.2.2.1)) (pre := preWov K) (h, o, oa, ob, ts) w10 (EvB.imp (eb_cons (M := M) up_hall (er_var rfl up_hall (up_hall _ _ _ m10 hh7)) (eb_cons (M := M) up_hall (er_var rfl up_hall (up_hall _ _ _ m10 ho7)) (EvA.b (K := K) (M := M) (ea_cons (ed_var rfl (L2.Dp.up ha7 m10)) (ea_cons (ed_var rfl (L2.Dp.up hb7 m10)) (ea_cons (ed_var rfl h12) ea_nil)))))) fun vs H' ⟨x, _, e1, g1, y, r, e2, g2, g3⟩ => ?_)) ea_nil))) fun vs H' ⟨x, r, e1, g1, g2⟩ => ?_)) (ed_var rfl hdue))) (fun z => Bool.noConfusion z) fun _ H11 e11 => ?_
    · exact ⟨hok, rok, jok, oa1, ob1, hts, x, y, r, by rw [e1, e2], g1, g2, g3⟩
    · obtain ⟨u2, rfl, g3⟩ := one_of g2
      exact ⟨jok.ok, ord_weave ap oa1 ob1 hts, x, u2, e1, g1, g3⟩
    · exact ⟨_, _, _, rfl, hi2, (f10.same e11).up (by omega), c10.trans (But.of e11), (g3.trans (But.of e9)).trans (b10.trans (But.of e11)), w10.mono e11⟩
  · rintro σ' H' ⟨y11, y12, y13, rfl, hi, g1, g2, g3, g4⟩
    exact s_ret (K := K) (M := M) ed_bl fun v H11 e11 hv => q v H11 (all7.trans (g2.trans (But.of e11))) ((g1.same e11).up (by omega)) (dp_bl hv)
end
end EIT
end
/-! text R12 -/
section
set_option maxHeartbeats 4000000
/-! repr of data: what guards are under way must be known, so the two defs that show data, and the law, are told of it. -/
namespace EIT
open PySem PySem.Spec PyProof.Rows L2
/-- no guard is under way -/
def Free (A : Around) : Prop := A.guards = some []
/-- a def's promise, kept wherever no guard is under way; nothing leaves it -/
structure GOk (P : Program) (w : World) (K : PySem.W.Frag) (mg : Str → Option Value) (base : Heap) (k : Nat) (f : Addr) (fd : FuncData) (ps : List Str) (sp : Sp) : Prop where
  len : ∀ vs H Q, sp vs H Q E0 → vs.length = ps.length
  goes : ∀ {A : Around} {outer : List Env} {s : Shared} {H : Hp} {args : Args} {us : List Value} {vs : List V} {Q : VK}, Free A → Room k A → Env0 P w K mg base A outer s H → BindsTo s fd args (ps.zip us) → Vals vs us → sp vs H Q E0 →
    codeAny (model P w) A (.call (.ref f) args) (CR CX0 outer P w H s Q E0) s
section
variable {P : Program} {w : World} {K : PySem.W.Frag} {mg : Str → Option Value} {base : Heap} {x qual : Str} {params : Arguments} {body : List Stmt} {scope : Scope} {f : Addr} {fd : FuncData} {N ps : List Str} {k : Nat} {sp : Sp}
theorem gok_of (D : FunD K x qual params body scope [] [] f fd) (S : FnScope N ps scope) (len : ∀ vs H Q, sp vs H Q E0 → vs.length = ps.length)
    (walk : ∀ (cdv : Value) (A : Around) (outer : List Env) (s : Shared) (H : Hp) (vs : List V) (Q : VK), Free A → Room k (A.deeper (envOfC qual scope s.heap.objs.size f cdv)) → sp vs H Q E0 →
      ∃ t, PSs (cxOf CX0 P w K mg base N qual scope f cdv A outer s H E0) body t ∧ t { nx := fun _ H' => Q .non H', rt := Q } (start N vs) H) : GOk P w K mg base (k + 1) f fd ps sp := by
  obtain ⟨oc, od, dV, kV, doc, pm, an, cdv, ct, osl, rfl, lk, hcd, _, _⟩ := D.ex
  constructor
  · exact len
  intro A outer s H args us vs Q hg hr en hb hv hs
  have there : ∀ b o, base.get? b = some o → s.heap.get? b = some o := fun b o z => (en.bs b o z).1
  have kin := en.mod.kin.keeps there
  refine codeAny_call_function hr.depth (kin _ _ lk) rfl S.co S.gen rfl (PySem.W.codeRec_of kin hcd) (hb _ _ _ _ (wpAny_newFunctionEnv_cells S.kind ?_ ?_))
  · intro q hq
    obtain ⟨n, v⟩ := q
    have hn := S.par n (List.of_mem_zip hq).1
    exact hn.imp id fun z => ⟨z, PySem.W.cellsFrom_some _ _ _ (.inl z)⟩
  · intro env ee s1 ic
    subst ee
    obtain ⟨t, ht, hq⟩ := walk cdv A outer s H vs Q hg (hr.deeper _) hs
    have I := inv_start (CX := CX0) (E := E0) (N := N) S hr.hd en (len _ _ _ hs) hv ic
    refine ⟨(en.mod.nolimit.keeps there).keeps ic.toInCall.keep, codeAny_func (wpAny_mono (ht.run [] s1 (start N vs) H _ I hq) (fun fl s' hfl => ?_) fun _ _ z => z)⟩
    match fl, hfl with
    | .ret u, ⟨v, σ', H', J, rv, q⟩ => exact ⟨v, H', J.os, J.bare, J.base, J.hok, rv, q⟩
    | .next, ⟨σ', H', J, q⟩ => exact ⟨.non, H', J.os, J.bare, J.base, J.hok, rfl, q⟩
    | .brk, ⟨_, _, _, q⟩ => exact q.elim
    | .cont, ⟨_, _, _, q⟩ => exact q.elim
/-- the module's name x stands for such a def -/
def CalG (P : Program) (w : World) (K : PySem.W.Frag) (mg : Str → Option Value) (base : Heap) (k : Nat) (x : Str) (ps : List Str) (sp : Sp) : Prop :=
  ∃ f fd, GOk P w K mg base k f fd ps sp ∧ mg x = some (.ref f) ∧ PySem.W.keepIn K (.ref f) = true ∧ Binds K fd ps []
end
section
variable {X : Cx} {x : Str} {k : Nat} {ps : List Str} {sp : Sp} {e : Expr} {es : List Expr} {t : TA} {p pos : Pos}
theorem pe_calG (c : CalG X.prog X.w X.K X.mg X.base k x ps sp) (hf : Free X.A) (hr : Room k X.A) (hg : Gl X x) (ha : PA X (e :: es) t) (hdb : (x == ("__debug__" : Str)) = false := by decide)
    (he : starEach (e :: es) X.env = (false, eval e X.env) :: starEach es X.env := by rfl) (hpl : (backTo pos (starEach es X.env)).any (·.1) = false := by rfl) : PE X (.Call (.Name x p) (e :: es) [] pos) (tCall sp [] E0 t) := by
  obtain ⟨f, fd, F, hm, kp, hb⟩ := c
  constructor
  intro pins s σ H Q I h
  refine wpAny_Call_Name_kw (ld_glob I hg hm (PySem.W.callWith_K (h₀ := X.base) I.ok.mod.kin kp (thn (ha.run pos pins s σ H _ I h) ?_) he hpl) hdb)
  intro us s1 ⟨vs, H1, I1, rv, hs⟩
  have hs : sp vs H1 Q E0 := (List.append_nil vs) ▸ (show sp (vs ++ []) H1 Q E0 from hs)
  have hl : us.length = ps.length := rv.length.symm.trans (F.len _ _ _ hs)
  have b1 := hb s1 us I1.kIn (by rw [List.append_nil]; exact hl)
  rw [List.append_nil] at b1
  refine ⟨I1.kIn, wpAny_call (codeAny_mono (F.goes hf hr I1.env0 b1 rv hs) fun r s' hq => ?_)⟩
  match r, hq with
  | .ok (.ret u), hq => exact I1.after hq
/-- repr of a list of data -/
structure Shw (d : PyData) : Prop where
  lst : ∃ ds, d = .list ds
  shw : d.showable = true
  nod : d.hasDict = false
  dep : d.depth ≤ 60
  sz : d.shown.length ≤ sizeLine
def rReprD (K : PySem.W.Frag) : List V → Hp → VK → Prop := fun xs H Q => ∃ (v : V) (d : PyData), xs = [v] ∧ Dp K H v d ∧ Shw d ∧ Q (.str d.shown) H
theorem cr_reprD (K : PySem.W.Frag) (hf : Free X.A) (hu : X.A.units + 64 < cLine) (hK : X.K = K := by rfl) : CallR X (.builtin "repr") (rReprD K) := by
  subst hK
  intro pins s σ H xs us Q I r h
  obtain ⟨v, d, rfl, hd, S, q⟩ := h
  obtain ⟨u, rfl, rv⟩ := vals1 r
  obtain ⟨as, rd⟩ := Dp.reads I d v u hd rv
  obtain ⟨ds, rfl⟩ := S.lst
  obtain ⟨a, ys, rfl, _, _⟩ := dp_lst hd
  cases (show u = Value.ref a from rv)
  have hdep := S.dep
  exact repr_of_reads' rd S.shw (fun z => by rw [S.nod] at z; cases z) hf (by omega) (fun _ _ z => z) (fun h' t tk hk => ⟨.str _, H, I.kept hk, ⟨_, rfl⟩, q⟩) S.sz
end
/-! pairs shown -/
theorem bulk_pairs : ∀ z : List (Nat × Nat), PyData.bulkAll (z.map pairD) = 3 * z.length
  | [] => by simp [PyData.bulkAll]
  | p :: z => by
    have h := bulk_pairs z
    simp only [List.map_cons, PyData.bulkAll, List.length_cons, h, pairD, nI, PyData.bulk]
    omega
theorem log_small {n : Nat} (h : n < 2 ^ 1900) : n.log2 < 1920 := by
  rcases Nat.eq_zero_or_pos n with e | e
  · rw [e, Nat.log2_zero]; decide
  · have := (Nat.log2_lt (by omega)).mpr h
    omega
theorem show_pairs : ∀ {z : List (Nat × Nat)}, Sz 1900 z → PyData.showableAll (z.map pairD) = true ∧ PyData.hasDictAll (z.map pairD) = false ∧ PyData.leavesShortAll 1921 (z.map pairD) = true ∧ PyData.depthAll (z.map pairD) ≤ 2
  | [], _ => by simp [PyData.showableAll, PyData.hasDictAll, PyData.leavesShortAll, PyData.depthAll]
  | p :: z, h => by
    obtain ⟨h1, h2, h3, h4⟩ := show_pairs fun q hq => h q (List.mem_cons_of_mem _ hq)
    obtain ⟨k1, k2⟩ := h p List.mem_cons_self
    have a1 : ((p.1 : Int)).natAbs.log2 < 1920 := by rw [Int.natAbs_natCast]; exact log_small k1
    have a2 : ((p.2 : Int)).natAbs.log2 < 1920 := by rw [Int.natAbs_natCast]; exact log_small k2
    have b1 : (PyData.shown (.int (p.1 : Int))).length ≤ 1921 := int_text_len_1921 a1
    have b2 : (PyData.shown (.int (p.2 : Int))).length ≤ 1921 := int_text_len_1921 a2
    refine ⟨?_, ?_, ?_, ?_⟩
    · simp only [List.map_cons, PyData.showableAll, pairD, nI, PyData.showable, h1, decide_eq_true a1, decide_eq_true a2, Bool.and_self]
    · simp only [List.map_cons, PyData.hasDictAll, pairD, nI, PyData.hasDict, h2, Bool.or_self]
    · simp only [List.map_cons, PyData.leavesShortAll, pairD, nI, PyData.leavesShort, h3, decide_eq_true b1, decide_eq_true b2, Bool.and_self]
    · simp only [List.map_cons, PyData.depthAll, pairD, nI, PyData.depth]
      omega
theorem shw_pairs {z : List (Nat × Nat)} (h : Sz 1900 z) (hl : z.length ≤ 300) : Shw (pairsD z) := by
  obtain ⟨h1, h2, h3, h4⟩ := show_pairs h
  have hb := bulk_pairs z
  refine ⟨⟨_, rfl⟩, ?_, ?_, ?_, ?_⟩
  · simp only [pairsD, PyData.showable, h1]
  · simp only [pairsD, PyData.hasDict, h2]
  · simp only [pairsD, PyData.depth]; omega
  · have := PyData.shown_le_bulk 1921 (by decide) (pairsD z) (by simp only [pairsD, PyData.leavesShort, h3])
    have e : (pairsD z).bulk = 3 * z.length := by simp only [pairsD, PyData.bulk, hb]
    rw [e] at this
    have e2 : sizeLine = 16777216 := by decide
    omega
theorem shw_two {a b : List (Nat × Nat)} (ha : Sz 1900 a) (hb : Sz 1900 b) (la : a.length ≤ 300) (lb : b.length ≤ 300) : Shw (.list [pairsD a, pairsD b]) := by
  obtain ⟨h1, h2, h3, h4⟩ := show_pairs ha
  obtain ⟨g1, g2, g3, g4⟩ := show_pairs hb
  have c1 := bulk_pairs a
  have c2 := bulk_pairs b
  refine ⟨⟨_, rfl⟩, ?_, ?_, ?_, ?_⟩
  · simp only [pairsD, PyData.showable, PyData.showableAll, h1, g1, Bool.and_self]
  · simp only [pairsD, PyData.hasDict, PyData.hasDictAll, h2, g2, Bool.or_self]
  · simp only [pairsD, PyData.depth, PyData.depthAll]; omega
  · have := PyData.shown_le_bulk 1921 (by decide) (.list [pairsD a, pairsD b]) (by simp only [pairsD, PyData.leavesShort, PyData.leavesShortAll, h3, g3, Bool.and_self])
    have e : (PyData.list [pairsD a, pairsD b]).bulk = 3 * a.length + 1 + (3 * b.length + 1 + 0) := by simp only [pairsD, PyData.bulk, PyData.bulkAll, c1, c2]
    rw [e] at this
    have e2 : sizeLine = 16777216 := by decide
    omega
end EIT
end
/-! text L15 -/
section
set_option maxHeartbeats 4000000
/-! the word for an error. -/
namespace EIT
open PySem PySem.Spec PyProof.Rows L2
/-- what the top says of the two error classes -/
structure BadF (K : PySem.W.Frag) (mg : Str → Option Value) (C D : Addr) : Prop where
  bg : mg "BadLengths" = some (.ref C)
  tg : mg "TurnError" = some (.ref D)
  bq : PySem.W.excIn K C He.veBase "ValueError.__new__" = true
  bk : PySem.W.keepIn K (.ref C) = true
  bs : PySem.W.subIn K (.ref C) (.type "BaseException") = some true
  bt : PySem.W.typeIn K (.ref C) = some (.type "type")
  em : PySem.W.exmOne K (.ref C) (.ref D) = some true
  exc : ExcC K C
theorem takesNo {X : Cx} : Takes X (fun _ _ _ _ => False) := fun _ _ x => by
  obtain ⟨_, _, _, _, _, _, _, _, _, _, _, _, _, _, _, _, z⟩ := x
  exact z.elim
theorem kit_self (K : PySem.W.Frag) (c : Value) : PySem.W.kitOne K c c = some true := by
  unfold PySem.W.kitOne
  rw [if_pos (by simp)]
/-- the suite: told where the error is of the class at C -/
def tIsB (K : PySem.W.Frag) (C a : Addr) : TS := tAsg (tIf (tTest (tCB (rIsE K C a) (tCons (tVar 3) (tCons (tC (.ref C)) tNil)))) (tC (.str "lengths")) (tC (.str "another"))) (gName 2)
def tSuite (K : PySem.W.Frag) (C a : Addr) (cls : Value) (d : Option Addr) : TS := fun D σ H => cls = .ref C ∧ d = none ∧ tIsB K C a D σ H
theorem pss_told {X : Cx} {body : List Stmt} {t : TS} {p : Prop} (h : p → PSs X body t) : PSs X body (fun D σ H => p ∧ t D σ H) := ⟨fun pins s σ H D I g => (h g.1).run pins s σ H D I g.2⟩
section
variable {P : Program} {w : World} {K : PySem.W.Frag} {mg : Str → Option Value} {base : Heap}
def WordPre (K : PySem.W.Frag) (x : Option (List (Nat × Nat) × List (Nat × Nat))) (H : Hp) (vs : List V) : Prop := ∃ v u, vs = [v, u] ∧ match x with
  | some x => LbOk x.1 x.2 ∧ Dp K H v (pairsD x.1) ∧ Dp K H u (pairsD x.2)
  | none => BadV K H v ∨ (GoodV K H v ∧ BadV K H u)
def wordOf2 : Option (List (Nat × Nat) × List (Nat × Nat)) → Str
  | some _ => ""
  | none => "lengths"
theorem sc_law_word : FnScope ["_law_lengths", "_law_others", "_law_found", "e"] ["_law_lengths", "_law_others"] (defScope s_law_word) := ⟨rfl, rfl, rfl, by decide +kernel, rfl, by decide +kernel, by decide +kernel⟩
theorem ok_law_word (T : Tx K mg) {C D : Addr} (B : BadF K mg C D) (bl : CalK P w K mg base 3 "beside_lengths" "lengths" "others" (spBL K C)) : Cal P w K mg base 4 "_law_word" ["_law_lengths", "_law_others"] (spR (WordPre K) (fun x H v => Dp K H v (.str (wordOf2 x)))) := by
  refine mkR T.d_law_word sc_law_word (fun i H vs h => by obtain ⟨v, u, rfl, _⟩ := h; rfl) (fun _ _ _ _ _ _ us hl => match us, hl with | [_, _], _ => rfl) fun f cdv A outer s H vs Q E hr M x wd hp q => ?_
  obtain ⟨v0, v1, rfl, hx⟩ := hp
  obtain ⟨fb, fdb, Fb, gb, kb, bb, kbn⟩ := bl
  refine ⟨_, pss_cons (ps_set (i := 2) sc_law_word.nd rfl (.inl rfl) pe_str)
    (pss_cons (ps_try_as (i := 3) (tb := fun W => tDrop (tCallSK (List.length (α := Str) ["others", "lengths"]) (spBL K C) (fun _ zs => zs.reverse) (WE W) (tCons (tVar 1) (tCons (tVar 0) tNil)))) (ts := tSuite K C) (Wout := fun _ _ _ _ => False) rfl rfl sc_law_word.nd rfl rfl ⟨rfl, by decide, .inl B.tg⟩ takesNo
        (fun W pn xe tk _ => pss_one (ps_expr (by exact (pe_callSK (ks := ["others", "lengths"]) Fb (hr.mono (by decide)) (by rfl) gb kb kbn (fun σ => passAt tk σ) (by exact (pk_cons (pv 1) (pk_cons (pv 0) pk_nil)))))))
        (fun a oe cls d pn hz hf => pss_told (t := fun D σ H => d = none ∧ tIsB K C a D σ H) fun e1 => pss_told (t := tIsB K C a) fun e2 => by
          subst e1 e2
          exact pss_one (ps_set (i := 2) sc_law_word.nd rfl (.inl rfl) (pe_ifExp (pt_val (pe_callB (call_isE B.exc hz hf) (by rfl) T.b_isinstance (by decide +kernel) (by exact (pa_cons (pv 3) (pa_cons (pe_glob (v := .ref C) (by rfl) B.bg rfl) pa_nil))))) pe_str pe_str))))
    (pss_one (ps_ret (pv 2)))), ?_⟩
  show tSeq _ _ _ _ _
  refine q_asg (K := K) (M := M) (d := .str "") ed_str fun v2 H1 e1 h2 => ?_
  cases dp_str h2
  show tSeq _ _ _ _ _
  refine ⟨v1, rfl, v0, rfl, rfl, ?_⟩
  cases x with
  | some x =>
    obtain ⟨a, b⟩ := x
    obtain ⟨ok, ha, hb⟩ := hx
    refine .inl ⟨M, a, b, wd.mono e1, ok, .cons (ha.up (hm_mono e1)) (.cons (hb.up (hm_mono e1)) .nil), fun zs p H2 ws c1 c2 c3 e2 hp hp2 hws => ?_⟩
    exact s_ret (K := K) (M := M) (d := .str "") (ed_var rfl (.str _)) fun v H3 e3 hv => q v H3 ((e1.trans e2).trans e3) hv
  | none =>
    refine .inr ⟨M, v0, v1, wd.mono e1, rfl, ?_, fun H2 e2 => ?_⟩
    · rcases hx with g | ⟨g1, g2⟩
      · exact .inl (up_badV _ _ _ (hm_mono e1) g)
      · exact .inr ⟨up_goodV _ _ _ (hm_mono e1) g1, up_badV _ _ _ (hm_mono e1) g2⟩
    · refine ⟨true, B.em, fun _ a ha => ⟨rfl, rfl, ?_⟩, fun z => Bool.noConfusion z⟩
      refine ⟨.ref a, rfl, .ref C, .ref C, true, rfl, (fun u hu => hu), kit_self K _, true, rfl, iteT ?_⟩
      exact s_ret (K := K) (M := M) (d := .str "lengths") (ed_var rfl (.str _)) fun v H3 e3 hv => q v H3 ((e1.trans e2).trans e3) hv
end
end EIT
end
/-! text R13 -/
section
set_option maxHeartbeats 4000000
/-! things that are no lists of lengths: told as data, or as values in a list. -/
namespace EIT
open PySem PySem.Spec PyProof.Rows L2
/-! ### as data -/
def BadD (d : PyData) : Prop := isLst d = false ∨ (∃ zs r rest, d = .list (zs.map pairD ++ r :: rest) ∧ PosL zs ∧ rowGood r = false) ∨ ∃ zs : List (Nat × Nat), d = .list (zs.map pairD) ∧ PosL zs ∧ zs.length ≤ 50000 ∧ ascB zs = false
theorem dps_split {K : PySem.W.Frag} {H : Hp} : ∀ {ds es : List PyData} {vs : List V}, DpAll K H vs (ds ++ es) → ∃ xs ys, vs = xs ++ ys ∧ DpAll K H xs ds ∧ DpAll K H ys es
  | [], es, vs, h => ⟨[], vs, rfl, .nil, h⟩
  | d :: ds, es, vs, h => by
    cases h with
    | cons h1 h2 =>
      obtain ⟨xs, ys, e, h3, h4⟩ := dps_split h2
      exact ⟨_ :: xs, ys, by rw [e]; rfl, .cons h1 h3, h4⟩
theorem badV_of {K : PySem.W.Frag} {H : Hp} {v : V} {d : PyData} (b : BadD d) (h : Dp K H v d) : BadV K H v := by
  rcases b with b | ⟨zs, r, rest, rfl, b1, b2⟩ | ⟨zs, rfl, b1, b2, b3⟩
  · exact .inl (.inl ⟨d, h, b⟩)
  · obtain ⟨a, vs, rfl, hs, hall⟩ := dp_lst h
    obtain ⟨xs, ys, rfl, h1, h2⟩ := dps_split hall
    cases h2 with
    | cons h3 h4 => exact .inl (.inr (.inr ⟨a, xs, _, _, zs, rfl, hs, h1, b1, .inl ⟨r, h3, b2⟩⟩))
  · exact .inr ⟨zs, h, b1, b2, b3⟩
theorem bad_row {zs : List (Nat × Nat)} (p : PosL zs) {r : PyData} {rest : List PyData} (h : rowGood r = false) : BadD (.list (zs.map pairD ++ r :: rest)) := .inr (.inl ⟨zs, r, rest, rfl, p, h⟩)
theorem bad_first {r : PyData} {rest : List PyData} (h : rowGood r = false) : BadD (.list (r :: rest)) := .inr (.inl ⟨[], r, rest, rfl, (fun _ z => nomatch z), h⟩)
theorem bad_asc {zs : List (Nat × Nat)} (p : PosL zs) (l : zs.length ≤ 50000) (h : ascB zs = false) : BadD (.list (zs.map pairD)) := .inr (.inr ⟨zs, rfl, p, l, h⟩)
theorem row_l {a b : PyData} (h : partGood a = false) : rowGood (.tuple [a, b]) = false := by
  show (partGood a && partGood b) = false
  rw [h]; rfl
theorem row_r {a b : PyData} (h : partGood b = false) : rowGood (.tuple [a, b]) = false := by
  show (partGood a && partGood b) = false
  rw [h, Bool.and_false]
theorem asc_no {l : List (Nat × Nat)} {i : Nat} {p q : Nat × Nat} (h1 : l[i]? = some p) (h2 : l[i + 1]? = some q) (h : q.1 ≤ p.1) : ascB l = false := by
  unfold ascB
  rw [List.all_eq_false]
  refine ⟨(p, q), List.mem_of_getElem? (i := i) ?_, ?_⟩
  · rw [List.getElem?_zip_eq_some]
    exact ⟨h1, by rw [List.getElem?_drop, Nat.add_comm]; exact h2⟩
  · show ¬ decide (p.1 < q.1) = true
    rw [decide_eq_true_iff]
    omega
/-! ### cuts -/
theorem cut_to {α : Type} (xs : List α) {i : Nat} (h : i ≤ xs.length) : (xs.drop (HT.sIx xs.length 0 none)).take (HT.sIx xs.length xs.length (some (i : Int)) - HT.sIx xs.length 0 none) = xs.take i := by
  rw [HT.sIx_none, HT.sIx_nat, List.drop_zero, Nat.sub_zero, Nat.min_eq_left h]
theorem cut_from {α : Type} (xs : List α) {i : Nat} (h : i ≤ xs.length) : (xs.drop (HT.sIx xs.length 0 (some (i : Int)))).take (HT.sIx xs.length xs.length none - HT.sIx xs.length 0 (some (i : Int))) = xs.drop i := by
  rw [HT.sIx_none, HT.sIx_nat, Nat.min_eq_left h, List.take_of_length_le (by rw [List.length_drop]; omega)]
/-! ### as values -/
def LsV (K : PySem.W.Frag) (xs : List V) (H : Hp) (v : V) : Prop := ∃ a, v = .ref a ∧ SqL K H a xs
theorem up_lsV {K : PySem.W.Frag} {xs : List V} : Up (LsV K xs) := fun _ _ _ e ⟨a, h1, h2⟩ => ⟨a, h1, sqL_mono e h2⟩
section
variable {K : PySem.W.Frag} {M : Mk} {σ : L2.St} {H H' : Hp} {ta tb te to : TE} {tr : TA} {d : PyData} {ds : List PyData} {tz : TS} {D : Ends} {L f : Addr} {B n m : Nat} {R : Hp → V → Prop}
theorem er_catV {xs ys : List V} (wd : Wd M H) (ha : EvR M ta σ H (LsV K xs)) (hb : EvR M tb σ H (LsV K ys)) (hz : xs.length + ys.length ≤ 100000) : EvR M (tOp (rCatL K) ta tb) σ H (LsV K (xs ++ ys)) := fun H1 e Q q =>
  ha H1 e _ fun x H2 e2 ⟨a, ex, hx⟩ => hb H2 (e.trans e2) _ fun y H3 e3 ⟨b, ey, hy⟩ => ⟨a, b, xs, ys, ex, ey, sqL_mono e3 (sqL_mono (hm_sub M H2) hx), sqL_mono (hm_sub M H3) hy, sz_ok hz, fun p hp => q _ _ ((e2.trans e3).trans (same_new hp)) ⟨p, rfl, .inl (.inl (hm_of ((wd.mono ((e.trans e2).trans e3)).new hp) upd_same))⟩⟩
theorem er_slV {xs : List V} {t1 t2 : TO} {lo hi : Option Int} (wd : Wd M H) (ha : EvR M ta σ H (LsV K xs)) (h1 : EvO t1 σ H lo) (h2 : EvO t2 σ H hi) : EvR M (L2.tSl (rSlL K) ta t1 t2) σ H (LsV K (cutV xs lo hi)) := fun H1 e1 Q q =>
  ha H1 e1 _ fun x H2 e2 ⟨a, ex, hx⟩ => h1 H2 (e1.trans e2) _ fun H3 e3 => h2 H3 ((e1.trans e2).trans e3) _ fun H4 e4 =>
    ⟨a, xs, ex, sqL_mono (e3.trans e4) (sqL_mono (hm_sub M H2) hx), fun p hp => q _ _ (((e2.trans e3).trans e4).trans (same_new hp)) ⟨p, rfl, .inl (.inl (hm_of ((wd.mono (((e1.trans e2).trans e3).trans e4)).new hp) upd_same))⟩⟩
theorem er_lst1 {v : V} {i : Nat} (wd : Wd M H) (hs : σ[i]? = some (some v)) : EvR M (tLst (tCons (tVar i) tNil)) σ H (LsV K [v]) := fun H1 e Q q =>
  ⟨v, hs, sz_ok (Nat.le_of_ble_eq_true rfl), fun p hp => q _ _ (same_new hp) ⟨p, rfl, .inl (.inl (hm_of ((wd.mono e).new hp) upd_same))⟩⟩
theorem er_dict0 (wd : Wd M H) : EvR M tDNewK σ H (fun H v => ∃ p, v = .ref p ∧ H p = some (.dK [])) := fun H1 e Q q p hp => q _ _ (same_new hp) ⟨p, rfl, hm_of ((wd.mono e).new hp) upd_same⟩
theorem er_badD (h : EvD K M te σ H d) (b : BadD d) : EvR M te σ H (BadV K) := EvR.imp (R := fun H v => Dp K H v d) h fun _ _ hv => badV_of b hv
theorem er_rowD (h : EvD K M te σ H d) (b : rowGood d = false) : EvR M te σ H (RowBad K) := EvR.imp (R := fun H v => Dp K H v d) h fun _ _ hv => .inl ⟨d, hv, b⟩
theorem er_rowN (wd : Wd M H) : EvR M tDNewK σ H (RowBad K) := EvR.imp (er_dict0 wd) fun _ _ hv => .inr hv
/-- so many values, all of which R tells -/
def AllR (M : Mk) (R : Hp → V → Prop) (n : Nat) (vs : List V) (H : Hp) : Prop := vs.length = n ∧ ∀ v ∈ vs, R (Hm M H) v
theorem ar_nil : EvB tNil σ H (AllR M R 0) := EvB.imp eb_nil fun vs _ e => by subst e; exact ⟨rfl, fun _ h => nomatch h⟩
theorem ar_cons (u : Up R) (h : EvR M te σ H R) (hr : EvB tr σ H (AllR M R n)) : EvB (tCons te tr) σ H (AllR M R (n + 1)) := EvB.imp (eb_cons u h hr) fun vs _ ⟨v, r, e, h1, h2, h3⟩ => by
  subst e
  refine ⟨by rw [List.length_cons, h2], fun x hx => ?_⟩
  rcases List.mem_cons.mp hx with z | z
  · rw [z]; exact h1
  · exact h3 x z
/-- a list of such -/
def LsR (K : PySem.W.Frag) (R : Hp → V → Prop) (n : Nat) (H : Hp) (v : V) : Prop := ∃ p vs, v = .ref p ∧ H p = some (.lst vs) ∧ vs.length = n ∧ ∀ x ∈ vs, R H x
theorem er_lstR (wd : Wd M H) (u : Up R) (h : EvB tr σ H (AllR M R n)) (hn : n ≤ 100000) : EvR M (tLst tr) σ H (LsR K R n) := fun H1 e Q q =>
  h H1 e _ fun vs H2 e2 ⟨hl, hall⟩ => ⟨sz_ok (by rw [hl]; exact hn), fun p hp => q _ _ (e2.trans (same_new hp)) ⟨p, vs, rfl, hm_of ((wd.mono (e.trans e2)).new hp) upd_same, hl, fun x hx => u _ _ _ (hm_mono (same_new hp)) (hall x hx)⟩⟩
/-- over such a list -/
theorem s_forR {tb : TS} {g : TG} (hr : EvR M te σ H (LsR K R n)) (k : ∀ (xs : List V) H2, Same H H2 → xs.length = n → (∀ x ∈ xs, R (Hm M H2) x) → ∃ Pv : Nat → L2.St → Hp → Prop, Pv 0 σ H2 ∧ (∀ i σ' H', Pv i σ' H' → Same (Hm M H2) (Hm M H')) ∧
    (∀ (i : Nat) x σ' H', xs[i]? = some x → Pv i σ' H' → g x σ' H' fun σ2 H3 => tb { D with nx := Pv (i + 1), ct := Pv (i + 1), bk := D.nx } σ2 H3) ∧ (∀ σ' H', Pv n σ' H' → D.nx σ' H')) : tFor (iList K te) g tb D σ H :=
  hr H (Same.refl _) _ fun v H2 e2 ⟨p, xs, ev, hp, hl, hall⟩ => by
    obtain ⟨Pv, h0, hk, hstep, hd⟩ := k xs H2 e2 hl hall
    subst ev hl
    have sq : ∀ H', Same (Hm M H2) (Hm M H') → SqL K H' p xs := fun H' e => .inl (.inl (hm_some (e _ _ hp)).2)
    refine ⟨p, rfl, ⟨xs, sq H2 (Same.refl _)⟩, fun i m σ H => m = xs.length - i ∧ i ≤ xs.length ∧ Pv i σ H, ⟨xs.length, by omega, Nat.zero_le _, h0⟩, ?_⟩
    rintro i m σ' H' ⟨rfl, hi, pp⟩
    have q := sq H' (hk i σ' H' pp)
    by_cases hlt : i < xs.length
    · refine .inr ⟨⟨xs, xs[i], q, List.getElem?_eq_getElem hlt⟩, Pv (i + 1), fun σ'' H'' p' => ⟨xs.length - (i + 1), by omega, rfl, hlt, p'⟩, fun x H'' y => ?_⟩
      obtain ⟨rfl, ff⟩ := y
      exact hstep i x σ' _ (ff xs q) pp
    · have e : i = xs.length := by omega
      subst e
      exact .inl ⟨⟨xs, q, Nat.le_refl _⟩, hd σ' H' pp⟩
/-! ### a feed, and a list of bad things that grows -/
structure Bads (K : PySem.W.Frag) (M : Mk) (L : Addr) (H : Hp) (n : Nat) : Prop where
  msk : M L = true
  acc : ∃ acc, H L = some (.lst acc) ∧ 0 < acc.length ∧ acc.length ≤ n ∧ ∀ v ∈ acc, BadV K (Hm M H) v
structure SitB (K : PySem.W.Frag) (M : Mk) (f L : Addr) (Hs Hb H : Hp) (m n : Nat) : Prop where
  c : Bads K M L H n
  fd : Feed f m H
  w : Wd M H
  b : But f Hs H
  s : Same (Hm M Hb) (Hm M H)
variable {Hs Hb : Hp}
theorem SitB.up (S : SitB K M f L Hs Hb H m n) (e : Same H H') : SitB K M f L Hs Hb H' m n := by
  obtain ⟨acc, h1, h2, h3, h4⟩ := S.c.acc
  exact ⟨⟨S.c.msk, acc, e _ _ h1, h2, h3, fun v hv => up_badV _ _ _ (hm_mono e) (h4 v hv)⟩, S.fd.same e, S.w.mono e, S.b.trans (But.of e), S.s.trans (hm_mono e)⟩
theorem SitB.draw {m' : Nat} (S : SitB K M f L Hs Hb H m n) (hm : M f = true) (hne : L ≠ f) (b : But f H H') (fd : Feed f m' H') : SitB K M f L Hs Hb H' m' n := by
  obtain ⟨acc, h1, h2, h3, h4⟩ := S.c.acc
  exact ⟨⟨S.c.msk, acc, b _ _ hne h1, h2, h3, fun v hv => up_badV _ _ _ (b.hm hm) (h4 v hv)⟩, fd, b.wd' S.w fd, S.b.trans b, S.s.trans (b.hm hm)⟩
theorem SitB.more {n' : Nat} (S : SitB K M f L Hs Hb H m n) (h : n ≤ n') : SitB K M f L Hs Hb H m n' := by
  obtain ⟨acc, h1, h2, h3, h4⟩ := S.c.acc
  exact ⟨⟨S.c.msk, acc, h1, h2, by omega, h4⟩, S.fd, S.w, S.b, S.s⟩
theorem SitB.fed {m' : Nat} (S : SitB K M f L Hs Hb H m n) (h : m ≤ m') : SitB K M f L Hs Hb H m' n := ⟨S.c, S.fd.up h, S.w, S.b, S.s⟩
theorem SitB.put (S : SitB K M f L Hs Hb H m n) (hne : L ≠ f) (hs : Hs L = none) {acc ys : List V} (ha : H L = some (.lst acc)) (hy : ∀ v ∈ ys, BadV K (Hm M H) v) {n' : Nat} (hn : n + ys.length ≤ n') : SitB K M f L Hs Hb (upd H L (.lst (acc ++ ys))) m n' := by
  obtain ⟨acc', h1, h2, h3, h4⟩ := S.c.acc
  rw [h1] at ha
  cases ha
  have b : But L H (upd H L (.lst (acc ++ ys))) := fun a o ha h => by rw [upd_ne ha]; exact h
  refine ⟨⟨S.c.msk, acc ++ ys, upd_same, by rw [List.length_append]; omega, by rw [List.length_append]; omega, fun v hv => ?_⟩, ?_, b.wd S.w (by rw [upd_same]; intro z; cases z), fun a o ha ho => ?_, S.s.trans (b.hm S.c.msk)⟩
  · rw [hm_upd S.c.msk]
    rcases List.mem_append.mp hv with z | z
    · exact h4 v z
    · exact hy v z
  · obtain ⟨x, y, z, g1, g2⟩ := S.fd.ex
    exact ⟨⟨x, y, z, b _ _ (fun e => hne e.symm) g1, g2⟩⟩
  · exact b a o (fun z => by rw [z, hs] at ho; cases ho) (S.b a o ha ho)
theorem q_newB {i : Nat} (hm : M f = true) (wd : Wd M H) (fd : Feed f m H) (h : EvB tr σ H (AllR M (BadV K) n)) (h0 : 0 < n) (hn : n ≤ 100000) (k : ∀ L H1 vs, Same H H1 → H1 L = none → L ≠ f → H L = none → SitB K (addM M L) f L H (upd H1 L (.lst vs)) (upd H1 L (.lst vs)) m n → tz D (σ.set i (some (.ref L))) (upd H1 L (.lst vs))) : tSeq (tAsg (tLst tr) (gName i)) tz D σ H :=
  h H (Same.refl _) _ fun vs H1 e1 ⟨hl, hall⟩ => ⟨sz_ok (by rw [hl]; exact hn), fun L hL => k L H1 vs e1 hL (fun z => (fd.same e1).there (by rw [← z]; exact hL)) (by
    cases z : H L with
    | none => rfl
    | some o => rw [e1 _ _ z] at hL; cases hL) ⟨⟨addM_same, vs, upd_same, by omega, by omega, fun v hv => up_badV _ _ _ (hm_new hL) (hall v hv)⟩, (fd.same e1).same (same_new hL), wd_new (wd.mono e1) hL, (But.of e1).trans (But.of (same_new hL)), Same.refl _⟩⟩
theorem s_extB {j : Nat} (S : SitB K M f L Hs Hb H m n) (hne : L ≠ f) (hs : Hs L = none) (ht : EvV to σ H (.ref L)) (h : EvB tr σ H (AllR M (BadV K) j)) (hl : n + j ≤ 100000) (k : ∀ H', SitB K M f L Hs Hb H' m (n + j) → D.nx σ H') : tDrop (tBM K "list" rExtend to (tCons (tLst tr) tNil)) D σ H :=
  ht H (Same.refl _) _ fun v H3 e3 hv => by
    cases hv
    have S3 := S.up e3
    refine ⟨.inl ⟨rfl, S3.c.acc.imp fun acc h => .inl (.inl h.1)⟩, h H3 e3 _ fun vs H4 e4 ⟨hvl, hall⟩ => ⟨sz_ok (by omega), fun p hp => ?_⟩⟩
    have S4 := (S3.up e4).up (same_new (o := .lst vs) hp)
    obtain ⟨acc, h1, h2, h3, h4⟩ := S4.c.acc
    refine ⟨L, p, acc, vs, rfl, rfl, h1, upd_same, sz_ok (by omega), k _ (S4.put hne hs h1 (fun v hv => up_badV _ _ _ (hm_mono (same_new hp)) (hall v hv)) (by omega))⟩
theorem s_appB (S : SitB K M f L Hs Hb H m n) (hne : L ≠ f) (hs : Hs L = none) (ht : EvV to σ H (.ref L)) (h : EvR M te σ H (BadV K)) (hl : n < 100000) (k : ∀ H', SitB K M f L Hs Hb H' m (n + 1) → D.nx σ H') : tDrop (tBM K "list" rAppend to (tCons te tNil)) D σ H :=
  ht H (Same.refl _) _ fun v H3 e3 hv => by
    cases hv
    have S3 := S.up e3
    refine ⟨.inl ⟨rfl, S3.c.acc.imp fun acc h => .inl (.inl h.1)⟩, h H3 e3 _ fun z H4 e4 hz => ?_⟩
    have S4 := S3.up e4
    obtain ⟨acc, h1, h2, h3, h4⟩ := S4.c.acc
    exact ⟨L, acc, z, rfl, rfl, h1, sz_lt (by omega), k _ (S4.put hne hs h1 (fun v hv => by rw [List.mem_singleton.mp hv]; exact hz) (Nat.le_refl _))⟩
theorem q_extB {j : Nat} (S : SitB K M f L Hs Hb H m n) (hne : L ≠ f) (hs : Hs L = none) (ht : EvV to σ H (.ref L)) (h : EvB tr σ H (AllR M (BadV K) j)) (hl : n + j ≤ 100000) (k : ∀ H', SitB K M f L Hs Hb H' m (n + j) → tz D σ H') : tSeq (tDrop (tBM K "list" rExtend to (tCons (tLst tr) tNil))) tz D σ H := s_extB (D := { D with nx := tz D }) S hne hs ht h hl k
theorem q_appB (S : SitB K M f L Hs Hb H m n) (hne : L ≠ f) (hs : Hs L = none) (ht : EvV to σ H (.ref L)) (h : EvR M te σ H (BadV K)) (hl : n < 100000) (k : ∀ H', SitB K M f L Hs Hb H' m (n + 1) → tz D σ H') : tSeq (tDrop (tBM K "list" rAppend to (tCons te tNil))) tz D σ H := s_appB (D := { D with nx := tz D }) S hne hs ht h hl k
end
end EIT
namespace EIT
open PySem PySem.Spec PyProof.Rows L2
section
variable {K : PySem.W.Frag} {M : Mk} {σ : L2.St} {H H' : Hp} {ta tb te to : TE} {D : Ends} {L f : Addr} {n m : Nat} {R : Hp → V → Prop} {Hs Hb : Hp}
theorem SitB.re (S : SitB K M f L Hs Hb H m n) : SitB K M f L Hs H H m n := ⟨S.c, S.fd, S.w, S.b, Same.refl _⟩
theorem SitB.base {Hc : Hp} (S : SitB K M f L Hs Hb H m n) (e : Same (Hm M Hc) (Hm M Hb)) : SitB K M f L Hs Hc H m n := ⟨S.c, S.fd, S.w, S.b, e.trans S.s⟩
theorem er_and {S : Hp → Prop} (us : ∀ H H', Same H H' → S H → S H') (hS : S (Hm M H)) (h : EvR M te σ H R) : EvR M te σ H (fun H v => R H v ∧ S H) := fun H1 e Q q => h H1 e Q fun v H2 e2 hv => q v H2 e2 ⟨hv, us _ _ (hm_mono (e.trans e2)) hS⟩
def BadsV (K : PySem.W.Frag) (H : Hp) (v : V) : Prop := ∃ p vs, v = .ref p ∧ H p = some (.lst vs) ∧ 0 < vs.length ∧ vs.length ≤ 50000 ∧ ∀ x ∈ vs, BadV K H x
theorem s_retB {i : Nat} (S : SitB K (addM M L) f L Hs Hb H m n) (hn : n ≤ 40000) (ht : σ[i]? = some (some (.ref L))) (k : ∀ v H', But f Hs H' → Feed f m H' → BadsV K (Hm M H') v → D.rt v H') : tRet (tOp (rCatL K) (tVar i) (tLst (tCons tDNewK tNil))) D σ H := by
  obtain ⟨acc, h1, h2, h3, h4⟩ := S.c.acc
  refine ⟨.ref L, ht, fun d hd => ⟨sz_ok (Nat.le_of_ble_eq_true rfl), fun p hp => ?_⟩⟩
  have e1 := same_new (o := .dK []) hd
  have e2 := same_new (o := .lst [.ref d]) hp
  refine ⟨L, p, acc, [.ref d], rfl, rfl, .inl (.inl (e2 _ _ (e1 _ _ h1))), .inl (.inl upd_same), sz_ok (by rw [List.length_cons, List.length_nil]; omega), fun r hr => ?_⟩
  have e3 := same_new (o := .lst (acc ++ [.ref d])) hr
  have e13 := (e1.trans e2).trans e3
  have w0 : Wd M H := fun a ha => S.w a (addM_old ha)
  have wM : ∀ {H'}, Same H H' → Wd M H' := fun e => w0.mono e
  have hmr : M r = false := (wM (e1.trans e2)).new hr
  have hmd : M d = false := (wM (Same.refl _)).new hd
  refine k _ _ (S.b.trans (But.of e13)) (S.fd.same e13) ⟨r, _, rfl, hm_of hmr upd_same, by rw [List.length_append]; omega, by rw [List.length_append, List.length_cons, List.length_nil]; omega, fun x hx => ?_⟩
  rcases List.mem_append.mp hx with z | z
  · exact up_badV _ _ _ (hm_less.trans (hm_mono e13)) (h4 x z)
  · rw [List.mem_singleton.mp z]
    exact .inl (.inr (.inl ⟨d, rfl, hm_of hmd ((e2.trans e3) _ _ upd_same)⟩))
end
end EIT
namespace EIT
open PySem PySem.Spec PyProof.Rows L2
/-- t[:1] of a pair -/
theorem ed_slA1 {K : PySem.W.Frag} {M : Mk} {σ : L2.St} {H : Hp} {ta : TE} {a b : PyData} (wd : Wd M H) (h : EvD K M ta σ H (.tuple [a, b])) : EvD K M (L2.tSl (rSlA K) ta tNoPart (tPart (tC (.int 1)))) σ H (.tuple [a]) := fun H1 e1 Q q =>
  h H1 e1 _ fun x H2 e2 hx => (eo_none (σ := σ) (H := H)) H2 (e1.trans e2) _ fun H3 e3 => (eo_some (K := K) (M := M) (σ := σ) (H := H) (te := tC (.int 1)) ed_int) H3 ((e1.trans e2).trans e3) _ fun H4 e4 => by
    obtain ⟨p, xs, rfl, hs, hall⟩ := dp_tup (PD.up hx (e3.trans e4))
    obtain ⟨x, y, rfl, hx1, hy1⟩ := two_of hall
    have e24 := (e2.trans e3).trans e4
    refine ⟨p, _, rfl, sqT_mono (hm_sub M H4) hs, fun z => ?_, fun _ r hr => q _ _ (e24.trans (same_new hr)) ?_⟩
    · have h2 := z.2
      have e : HT.sIx [x, y].length [x, y].length (some (1 : Int)) = 1 := HT.sIx_nat 2 2 1
      rw [e] at h2
      cases h2
    · have hm : M r = false := (wd.mono (e1.trans e24)).new hr
      exact .tup (.of (hm_of hm upd_same)) (.cons (hx1.up (hm_mono (same_new hr))) .nil)
end EIT
end
/-! text L16 -/
section
set_option maxHeartbeats 4000000
/-! things that are no lists of lengths. -/
namespace EIT
open PySem PySem.Spec PyProof.Rows L2
def bigN : Nat := 10 ^ 59
def bigM : Nat := 10 ^ 58
theorem bigN_pos : 1 ≤ bigN := by decide
theorem bigM_pos : 1 ≤ bigM := by decide
theorem bigM_le : bigM ≤ bigN := by decide
theorem bad_two {zs : List (Nat × Nat)} {p q : Nat × Nat} (pos : PosL zs) (l : zs.length ≤ 1000) (hp : 1 ≤ p.1 ∧ 1 ≤ p.2) (hq : 1 ≤ q.1 ∧ 1 ≤ q.2) (h : q.1 ≤ p.1) : BadD (.list (zs.map pairD ++ [pairD p, pairD q])) := by
  have e : zs.map pairD ++ [pairD p, pairD q] = (zs ++ [p, q]).map pairD := by rw [List.map_append]; rfl
  rw [e]
  refine bad_asc (fun x hx => ?_) (by rw [List.length_append, List.length_cons, List.length_cons, List.length_nil]; omega) (asc_no (i := zs.length) (p := p) (q := q) (by simp) (by simp) h)
  rcases List.mem_append.mp hx with z | z
  · exact pos x z
  · rcases List.mem_cons.mp z with z | z
    · rw [z]; exact hp
    · rw [List.mem_singleton.mp z]; exact hq
theorem bad_rev {zs : List (Nat × Nat)} (c : Canon zs) (l : zs.length ≤ 1000) (h : 1 < zs.length) : BadD (.list (zs.map pairD).reverse) := by
  rw [← List.map_reverse]
  have h1 : zs[zs.length - 1]? = some zs[zs.length - 1] := List.getElem?_eq_getElem (by omega)
  have h2 : zs[zs.length - 2]? = some zs[zs.length - 2] := List.getElem?_eq_getElem (by omega)
  refine bad_asc (fun x hx => c.pos x (List.mem_reverse.mp hx)) (by rw [List.length_reverse]; omega) (asc_no (i := 0) (p := zs[zs.length - 1]) (q := zs[zs.length - 2]) ?_ ?_ ?_)
  · rw [List.getElem?_reverse (by omega)]; exact h1
  · rw [List.getElem?_reverse (by omega), show zs.length - 1 - (0 + 1) = zs.length - 2 by omega]; exact h2
  · exact Nat.le_of_lt (List.pairwise_iff_getElem.mp c.asc (zs.length - 2) (zs.length - 1) (by omega) (by omega) (by omega))
def swapT (zs : List (Nat × Nat)) (i : Nat) (p q : Nat × Nat) : List (Nat × Nat) := zs.take i ++ [q, p] ++ zs.drop (i + 2)
theorem bad_swap {zs : List (Nat × Nat)} (c : Canon zs) (l : zs.length ≤ 1000) {i : Nat} {p q : Nat × Nat} (hp : zs[i]? = some p) (hq : zs[i + 1]? = some q) : BadD (.list ((swapT zs i p q).map pairD)) := by
  obtain ⟨i1, e1⟩ := List.getElem?_eq_some_iff.mp hp
  obtain ⟨i2, e2⟩ := List.getElem?_eq_some_iff.mp hq
  have hl : (zs.take i).length = i := by rw [List.length_take]; omega
  have hlt : p.1 < q.1 := by
    have := List.pairwise_iff_getElem.mp c.asc i (i + 1) i1 i2 (by omega)
    rw [e1, e2] at this
    exact this
  have k1 : (swapT zs i p q)[i]? = some q := by
    unfold swapT
    rw [List.append_assoc, List.getElem?_append_right (by omega), hl, Nat.sub_self]
    rfl
  have k2 : (swapT zs i p q)[i + 1]? = some p := by
    unfold swapT
    rw [List.append_assoc, List.getElem?_append_right (by omega), hl, Nat.add_sub_cancel_left]
    rfl
  refine bad_asc (fun x hx => ?_) ?_ (asc_no k1 k2 (Nat.le_of_lt hlt))
  · unfold swapT at hx
    rcases List.mem_append.mp hx with z | z
    · rcases List.mem_append.mp z with z | z
      · exact c.pos x (List.mem_of_mem_take z)
      · rcases List.mem_cons.mp z with z | z
        · rw [z]; exact c.pos q (List.mem_of_getElem? hq)
        · rw [List.mem_singleton.mp z]; exact c.pos p (List.mem_of_getElem? hp)
    · exact c.pos x (List.mem_of_mem_drop z)
  · unfold swapT
    rw [List.length_append, List.length_append, hl, List.length_drop, List.length_cons, List.length_cons, List.length_nil]
    omega
section
variable {P : Program} {w : World} {K : PySem.W.Frag} {mg : Str → Option Value} {base : Heap}
theorem ed_bigN {M : Mk} {σ : L2.St} {H : Hp} : EvD K M (tOp (rI CPow fun i j => V.int (i ^ j.toNat)) (tC (.int (10 : Nat))) (tC (.int (59 : Nat)))) σ H (nI bigN) := EvD.eq (e := nI bigN) (ed_powN (ed_nat (n := 10)) (ed_nat (n := 59)) (by decide) (by decide)) (by unfold bigN; rfl)
theorem ed_bigM {M : Mk} {σ : L2.St} {H : Hp} : EvD K M (tOp (rI CPow fun i j => V.int (i ^ j.toNat)) (tC (.int (10 : Nat))) (tC (.int (58 : Nat)))) σ H (nI bigM) := EvD.eq (e := nI bigM) (ed_powN (ed_nat (n := 10)) (ed_nat (n := 58)) (by decide) (by decide)) (by unfold bigM; rfl)
def preBadL (K : PySem.W.Frag) (zs : List (Nat × Nat)) (H : Hp) (r : List V) : Prop := Canon zs ∧ zs.length ≤ 5 ∧ ∃ v, r = [v] ∧ Dp K H v (pairsD zs)
theorem sc_law_bad_lengths : FnScope ["_law_feed_here", "_law_lengths", "_law_bad", "_law_at", "_law_row", "_law_more"] ["_law_feed_here", "_law_lengths"] (defScope s_law_bad_lengths) := ⟨rfl, rfl, rfl, by decide +kernel, rfl, by decide +kernel, by decide +kernel⟩
theorem ok_law_bad_lengths (T : Tx K mg) : Cal P w K mg base 2 "_law_bad_lengths" ["_law_feed_here", "_law_lengths"] (spI (preBadL K) 1 fun _ H v => BadsV K H v) := by
  refine mkI T.d_law_bad_lengths sc_law_bad_lengths (fun i H vs h => by obtain ⟨_, _, v, rfl, _⟩ := h; rfl) (fun _ _ _ _ _ _ us hl => match us, hl with | [_, _], _ => rfl) fun f cdv A outer s H Q E hr M fa n zs r wd hm fd hn hp q => ?_
  obtain ⟨c, hl5, v1, rfl, h1⟩ := hp
  have pos : PosL zs := c.pos
  have upT : ∀ {a}, a ≤ n + 1 → a ≤ topN := fun h => Nat.le_trans h hn
  refine ⟨_, (pss_cons (ps_set (i := 2) sc_law_bad_lengths.nd rfl (.inl rfl) (pe_lst (pa_cons pe_non (pa_cons pe_int (pa_cons pe_str (pa_cons (pe_callTy (call_tuple_ofK K) (by rfl) T.b_tuple (by decide +kernel) (pa_cons (pv 1) pa_nil)) (pa_cons (pe_tup pa_nil) (pa_cons (pe_op (op_catLK K) (pv 1) (pe_lst (pa_cons pe_non pa_nil))) (pa_cons (pe_op (op_catLK K) (pv 1) (pe_lst (pa_cons (pe_tup pa_nil) pa_nil))) (pa_cons (pe_op (op_catLK K) (pe_lst (pa_cons (pe_tup (pa_cons pe_int (pa_cons pe_int pa_nil))) pa_nil)) (pv 1)) (pa_cons (pe_op (op_catLK K) (pv 1) (pe_lst (pa_cons (pe_tup (pa_cons (pe_op op_pow pe_int pe_int) pa_nil)) pa_nil))) pa_nil)))))))))))
      (pss_cons (ps_expr (pe_bmK K PySem.F.plainAttrs_list PySem.F.slot_list_extend PySem.F.type_list_extend mt_extend (pv 2) (pa_cons (pe_lst (pa_cons (pe_op (op_catLK K) (pv 1) (pe_lst (pa_cons (pe_tup (pa_cons (pe_op op_pow pe_int pe_int) (pa_cons pe_int pa_nil))) pa_nil))) (pa_cons (pe_op (op_catLK K) (pv 1) (pe_lst (pa_cons (pe_tup (pa_cons (pe_op op_pow pe_int pe_int) (pa_cons pe_bl pa_nil))) pa_nil))) (pa_cons (pe_op (op_catLK K) (pe_lst (pa_cons (pe_tup (pa_cons pe_bl (pa_cons pe_int pa_nil))) pa_nil)) (pe_lc (own := [("_law_row", 4)])  rfl sc_law_bad_lengths.nd (pi_listK K (pv 1)) (blkOk_by (N := ["_law_feed_here", "_law_lengths", "_law_bad", "_law_at", "_law_row", "_law_more"]) (sc := defScope s_law_bad_lengths) (own := [("_law_row", 4)]) (by decide +kernel)) (fun _ _ _ _ _ => pg_name (i := 4) sc_law_bad_lengths.nd rfl (Or.inl rfl)) (fun _ _ _ _ _ => pts_one (pt_cmpR op_gt (pe_ix (ix_seqK K) (pv 4) pe_int (fun _ _ => rfl)) pe_int (nomark _))) (fun _ _ _ _ _ => (pv 4)))) (pa_cons (pe_op (op_catLK K) (pv 1) (pe_lst (pa_cons (pe_lst (pa_cons (pe_op op_pow pe_int pe_int) (pa_cons pe_int pa_nil))) pa_nil))) pa_nil))))) pa_nil)))
      (pss_cons (ps_expr (pe_bmK K PySem.F.plainAttrs_list PySem.F.slot_list_extend PySem.F.type_list_extend mt_extend (pv 2) (pa_cons (pe_lst (pa_cons (pe_op (op_catLK K) (pv 1) (pe_lst (pa_cons (pe_tup (pa_cons (pe_op op_pow pe_int pe_int) (pa_cons pe_int (pa_cons pe_int pa_nil)))) pa_nil))) (pa_cons (pe_op (op_catLK K) (pv 1) (pe_lst (pa_cons (pe_tup (pa_cons pe_str (pa_cons pe_int pa_nil))) pa_nil))) (pa_cons (pe_op (op_catLK K) (pv 1) (pe_lst (pa_cons (pe_tup (pa_cons (pe_op op_pow pe_int pe_int) (pa_cons pe_non pa_nil))) pa_nil))) (pa_cons (pe_op (op_catLK K) (pv 1) (pe_lst (pa_cons (pe_tup (pa_cons (pe_op op_pow pe_int pe_int) (pa_cons pe_int pa_nil))) (pa_cons (pe_tup (pa_cons (pe_op op_pow pe_int pe_int) (pa_cons pe_int pa_nil))) pa_nil)))) (pa_cons (pe_op (op_catLK K) (pv 1) (pe_lst (pa_cons (pe_tup (pa_cons (pe_op op_pow pe_int pe_int) (pa_cons pe_int pa_nil))) (pa_cons (pe_tup (pa_cons (pe_op op_pow pe_int pe_int) (pa_cons pe_int pa_nil))) pa_nil)))) pa_nil)))))) pa_nil)))
      (pss_cons (ps_expr (pe_bmK K PySem.F.plainAttrs_list PySem.F.slot_list_extend PySem.F.type_list_extend mt_extend (pv 2) (pa_cons (pe_lst (pa_cons (pe_op (op_catLK K) (pv 1) (pe_lst (pa_cons (pe_tup (pa_cons (pe_op op_pow pe_int pe_int) (pa_cons pe_int pa_nil))) (pa_cons (pe_tup (pa_cons (pe_op op_pow pe_int pe_int) (pa_cons pe_int pa_nil))) pa_nil)))) (pa_cons (pe_op (op_catLK K) (pe_lst (pa_cons (pe_tup (pa_cons (pe_un un_neg pe_int) (pa_cons pe_int pa_nil))) pa_nil)) (pv 1)) (pa_cons (pe_op (op_catLK K) (pv 1) (pe_lst (pa_cons (pe_tup (pa_cons (pe_op op_pow pe_int pe_int) (pa_cons (pe_un un_neg pe_int) pa_nil))) pa_nil))) (pa_cons (pe_op (op_catLK K) (pv 1) (pe_lst (pa_cons (pe_tup (pa_cons (pe_lst (pa_cons (pe_op op_pow pe_int pe_int) pa_nil)) (pa_cons pe_int pa_nil))) pa_nil))) (pa_cons (pe_op (op_catLK K) (pv 1) (pe_lst (pa_cons (pe_tup (pa_cons pe_non (pa_cons pe_int pa_nil))) pa_nil))) pa_nil)))))) pa_nil)))
      (pss_cons (ps_if (pt_cmpR op_gt (pe_callB (call_len_seqK K) (by rfl) T.b_len (by decide +kernel) (pa_cons (pv 1) pa_nil)) pe_int (nomark _)) (pss_cons (ps_expr (pe_bmK K PySem.F.plainAttrs_list PySem.F.slot_list_append PySem.F.type_list_append mt_append (pv 2) (pa_cons (pe_revLK K (pv 1)) pa_nil)))
      (pss_cons (ps_set (i := 3) sc_law_bad_lengths.nd rfl (.inl rfl) (pe_cal (ok_law_draw T) (hr.mono (by decide)) (by rfl) (pa_cons (pv 0) (pa_cons (pe_op op_sub (pe_callB (call_len_seqK K) (by rfl) T.b_len (by decide +kernel) (pa_cons (pv 1) pa_nil)) pe_int) pa_nil))))
      (pss_one (ps_expr (pe_bmK K PySem.F.plainAttrs_list PySem.F.slot_list_append PySem.F.type_list_append mt_append (pv 2) (pa_cons (pe_op (op_catLK K) (pe_op (op_catLK K) (pe_slice (sl_listK K) (pv 1) po_none (po_some (pv 3))) (pe_lst (pa_cons (pe_ix (ix_seqK K) (pv 1) (pe_op op_add (pv 3) pe_int) (fun _ _ => rfl)) (pa_cons (pe_ix (ix_seqK K) (pv 1) (pv 3) (fun _ _ => rfl)) pa_nil)))) (pe_slice (sl_listK K) (pv 1) (po_some (pe_op op_add (pv 3) pe_int)) po_none)) pa_nil)))))) pss_nil)
      (pss_cons (ps_for PassesOwn.never rfl (pi_enumK K (by rfl) T.b_enumerate (pa_cons (pv 1) pa_nil)) (pg_tupK (n := 2) K rfl (pgs_cons (pg_name (i := 3) sc_law_bad_lengths.nd rfl (.inl rfl)) (pgs_cons (pg_name (i := 4) sc_law_bad_lengths.nd rfl (.inl rfl)) pgs_nil))) (pss_one (ps_for PassesOwn.never rfl (pi_listK K (pe_lst (pa_cons (pe_tup (pa_cons (pe_ix (ix_seqK K) (pv 4) pe_int (fun _ _ => rfl)) (pa_cons pe_int pa_nil))) (pa_cons (pe_tup (pa_cons (pe_ix (ix_seqK K) (pv 4) pe_int (fun _ _ => rfl)) (pa_cons pe_bl pa_nil))) (pa_cons (pe_tup (pa_cons (pe_ix (ix_seqK K) (pv 4) pe_int (fun _ _ => rfl)) (pa_cons pe_non pa_nil))) (pa_cons (pe_tup (pa_cons (pe_ix (ix_seqK K) (pv 4) pe_int (fun _ _ => rfl)) (pa_cons (pe_un un_neg pe_int) pa_nil))) (pa_cons (pe_tup (pa_cons (pe_ix (ix_seqK K) (pv 4) pe_int (fun _ _ => rfl)) (pa_cons pe_str pa_nil))) (pa_cons (pe_tup (pa_cons (pe_ix (ix_seqK K) (pv 4) pe_int (fun _ _ => rfl)) (pa_cons (pe_lst (pa_cons pe_int pa_nil)) pa_nil))) (pa_cons (pe_tup (pa_cons pe_int (pa_cons (pe_ix (ix_seqK K) (pv 4) pe_int (fun _ _ => rfl)) pa_nil))) (pa_cons (pe_slice (sl_tupAK K) (pv 4) po_none (po_some pe_int)) (pa_cons (pe_op (op_catAK K) (pv 4) (pe_tup (pa_cons pe_int pa_nil))) (pa_cons (pe_callTy (call_list_ofK K) (by rfl) T.b_list (by decide +kernel) (pa_cons (pv 4) pa_nil)) (pa_cons pe_non (pa_cons pe_dnewK pa_nil)))))))))))))) (pg_name (i := 5) sc_law_bad_lengths.nd rfl (.inl rfl)) (pss_one (ps_expr (pe_bmK K PySem.F.plainAttrs_list PySem.F.slot_list_append PySem.F.type_list_append mt_append (pv 2) (pa_cons (pe_op (op_catLK K) (pe_op (op_catLK K) (pe_slice (sl_listK K) (pv 1) po_none (po_some (pv 3))) (pe_lst (pa_cons (pv 5) pa_nil))) (pe_slice (sl_listK K) (pv 1) (po_some (pe_op op_add (pv 3) pe_int)) po_none)) pa_nil)))))))
      (pss_one (ps_ret (pe_op (op_catLK K) (pv 2) (pe_lst (pa_cons pe_dnewK pa_nil))))))))))), ?_⟩
  have zl : (zs.map pairD).length ≤ 5 := by rw [List.length_map]; exact hl5
  have tail : ∀ {M' : Mk} {H' : Hp} {σ : L2.St} {tr : TA} {rs : List PyData}, Wd M' H' → σ[1]? = some (some v1) → Dp K (Hm M' H') v1 (pairsD zs) → EvA K M' tr σ H' rs → Nat.ble rs.length 100 = true → EvD K M' (tOp (rCatL K) (tVar 1) (tLst tr)) σ H' (.list (zs.map pairD ++ rs)) := fun wd hs hd h hb => by
    have := Nat.le_of_ble_eq_true hb
    exact ed_catL wd (ed_var hs hd) (ed_lst wd h (Nat.ble_eq_true_of_le (by omega))) (by omega)
  have lead : ∀ {M' : Mk} {H' : Hp} {σ : L2.St} {tr : TA} {rs : List PyData}, Wd M' H' → σ[1]? = some (some v1) → Dp K (Hm M' H') v1 (pairsD zs) → EvA K M' tr σ H' rs → Nat.ble rs.length 100 = true → EvD K M' (tOp (rCatL K) (tLst tr) (tVar 1)) σ H' (.list (rs ++ zs.map pairD)) := fun wd hs hd h hb => by
    have := Nat.le_of_ble_eq_true hb
    exact ed_catL wd (ed_lst wd h (Nat.ble_eq_true_of_le (by omega))) (ed_var hs hd) (by omega)
  have one : ∀ {M' : Mk} {σ : L2.St} {H' : Hp}, EvD K M' (tC (.int 1)) σ H' (nI 1) := ed_nat (n := 1)
  -- the first nine
  refine q_newB (K := K) (M := M) (n := 9) hm wd fd
    (ar_cons up_badV (er_badD ed_non (.inl rfl)) (ar_cons up_badV (er_badD ed_int (.inl rfl)) (ar_cons up_badV (er_badD ed_str (.inl rfl)) (ar_cons up_badV (er_badD (ed_tupleOfL wd (ed_var rfl h1)) (.inl rfl)) (ar_cons up_badV (er_badD (ed_tup wd ea_nil) (.inl rfl))
      (ar_cons up_badV (er_badD (tail wd rfl h1 (ea_cons ed_non ea_nil) rfl) (bad_row pos rfl)) (ar_cons up_badV (er_badD (tail wd rfl h1 (ea_cons (ed_tup wd ea_nil) ea_nil) rfl) (bad_row pos rfl))
        (ar_cons up_badV (er_badD (lead wd rfl h1 (ea_cons (ed_tup wd (ea_cons ed_int (ea_cons ed_int ea_nil))) ea_nil) rfl) (bad_first (row_l rfl))) (ar_cons up_badV (er_badD (tail wd rfl h1 (ea_cons (ed_tup wd (ea_cons ed_bigN ea_nil)) ea_nil) rfl) (bad_row pos rfl)) ar_nil))))))))) (by decide) (by decide) fun L H1 vs e1 hL hne hsL S => ?_
  have hmt : addM M L fa = true := addM_old hm
  have h2 := (h1.up (hm_mono e1)).up (hm_new (M := M) (o := .lst vs) hL)
  generalize upd H1 L (.lst vs) = H2 at S h2
  have rd : ∀ {m j : Nat} {H' : Hp}, SitB K (addM M L) fa L H H2 H' m j → Dp K (Hm (addM M L) H') v1 (pairsD zs) := fun S => h2.up S.s
  refine q_extB (j := 4) S hne hsL (ev_var rfl)
    (ar_cons up_badV (er_badD (tail S.w rfl (rd S) (ea_cons (ed_tup S.w (ea_cons ed_bigN (ea_cons ed_int ea_nil))) ea_nil) rfl) (bad_row pos (row_r rfl)))
      (ar_cons up_badV (er_badD (tail S.w rfl (rd S) (ea_cons (ed_tup S.w (ea_cons ed_bigN (ea_cons ed_bl ea_nil))) ea_nil) rfl) (bad_row pos (row_r rfl)))
        (ar_cons up_badV (er_badD (ed_catL S.w (ed_lst S.w (ea_cons (ed_tup S.w (ea_cons ed_bl (ea_cons ed_int ea_nil))) ea_nil)) (ed_filter (xs := zs) (enc := pairD) (f := fun p => decide ((1 : Int) < (p.1 : Nat))) (r := pairD) S.w (src_list (ed_var rfl (rd S))) (by omega) (fun _ => rfl) fun a ha M' H' v e e' w' hv => ⟨et_test (ed_IB (g := fun i j => decide (j < i)) (ed_ixT' (j := 0) (ed_var rfl hv) ed_int rfl rfl) ed_int), ed_var rfl hv⟩) ?_) (bad_first (row_l rfl)))
          (ar_cons up_badV (er_badD (tail S.w rfl (rd S) (ea_cons (ed_lst S.w (ea_cons ed_bigN (ea_cons ed_int ea_nil))) ea_nil) rfl) (bad_row pos rfl)) ar_nil)))) (by decide) fun H3 S3 => ?_
  · have := List.length_filter_le (fun p : Nat × Nat => decide ((1 : Int) < (p.1 : Nat))) zs
    rw [List.length_map, List.length_cons, List.length_nil]
    omega
  refine q_extB (j := 5) S3 hne hsL (ev_var rfl)
    (ar_cons up_badV (er_badD (tail S3.w rfl (rd S3) (ea_cons (ed_tup S3.w (ea_cons ed_bigN (ea_cons ed_int (ea_cons ed_int ea_nil)))) ea_nil) rfl) (bad_row pos rfl))
      (ar_cons up_badV (er_badD (tail S3.w rfl (rd S3) (ea_cons (ed_tup S3.w (ea_cons ed_str (ea_cons ed_int ea_nil))) ea_nil) rfl) (bad_row pos (row_l rfl)))
        (ar_cons up_badV (er_badD (tail S3.w rfl (rd S3) (ea_cons (ed_tup S3.w (ea_cons ed_bigN (ea_cons ed_non ea_nil))) ea_nil) rfl) (bad_row pos (row_r rfl)))
          (ar_cons up_badV (er_badD (tail S3.w rfl (rd S3) (ea_cons (ed_tup S3.w (ea_cons ed_bigN (ea_cons one ea_nil))) (ea_cons (ed_tup S3.w (ea_cons ed_bigN (ea_cons one ea_nil))) ea_nil)) rfl) (bad_two (p := (bigN, 1)) (q := (bigN, 1)) pos (by omega) ⟨bigN_pos, Nat.le_refl 1⟩ ⟨bigN_pos, Nat.le_refl 1⟩ (Nat.le_refl _)))
            (ar_cons up_badV (er_badD (tail S3.w rfl (rd S3) (ea_cons (ed_tup S3.w (ea_cons ed_bigN (ea_cons one ea_nil))) (ea_cons (ed_tup S3.w (ea_cons ed_bigN (ea_cons (ed_nat (n := 2)) ea_nil))) ea_nil)) rfl) (bad_two (p := (bigN, 1)) (q := (bigN, 2)) pos (by omega) ⟨bigN_pos, Nat.le_refl 1⟩ ⟨bigN_pos, (by decide : 1 ≤ 2)⟩ (Nat.le_refl _))) ar_nil))))) (by decide) fun H4 S4 => ?_
  refine q_extB (j := 5) S4 hne hsL (ev_var rfl)
    (ar_cons up_badV (er_badD (tail S4.w rfl (rd S4) (ea_cons (ed_tup S4.w (ea_cons ed_bigN (ea_cons one ea_nil))) (ea_cons (ed_tup S4.w (ea_cons ed_bigM (ea_cons one ea_nil))) ea_nil)) rfl) (bad_two (p := (bigN, 1)) (q := (bigM, 1)) pos (by omega) ⟨bigN_pos, Nat.le_refl 1⟩ ⟨bigM_pos, Nat.le_refl 1⟩ bigM_le))
      (ar_cons up_badV (er_badD (lead S4.w rfl (rd S4) (ea_cons (ed_tup S4.w (ea_cons (ed_neg ed_int) (ea_cons ed_int ea_nil))) ea_nil) rfl) (bad_first (row_l rfl)))
        (ar_cons up_badV (er_badD (tail S4.w rfl (rd S4) (ea_cons (ed_tup S4.w (ea_cons ed_bigN (ea_cons (ed_neg ed_int) ea_nil))) ea_nil) rfl) (bad_row pos (row_r rfl)))
          (ar_cons up_badV (er_badD (tail S4.w rfl (rd S4) (ea_cons (ed_tup S4.w (ea_cons (ed_lst S4.w (ea_cons ed_bigN ea_nil)) (ea_cons ed_int ea_nil))) ea_nil) rfl) (bad_row pos (row_l rfl)))
            (ar_cons up_badV (er_badD (tail S4.w rfl (rd S4) (ea_cons (ed_tup S4.w (ea_cons ed_non (ea_cons ed_int ea_nil))) ea_nil) rfl) (bad_row pos (row_l rfl))) ar_nil))))) (by decide) fun H5 S5 => ?_
  -- turned about, two exchanged
  refine q_ifJ (b := decide ((1 : Int) < (zs.length : Nat))) (fun σ' H' => ∃ y3, σ' = [some (.ref fa), some v1, some (.ref L), y3, none, none] ∧ SitB K (addM M L) fa L H H2 H' (n + 1) 25) (et_test (ed_IB (g := fun i j => decide (j < i)) ((ed_lenL (ed_var rfl (rd S5))).eq (by rw [List.length_map])) ed_int)) (fun σ' H' hP => ?_) (fun kk hb H6 e6 => ?_) fun kk hb H6 e6 => kk _ _ ⟨none, rfl, ((S5.up e6).fed (Nat.le_succ n)).more (by decide)⟩
  rotate_left
  · have hb := of_decide_eq_true hb
    have S6 := S5.up e6
    have h1l : 1 < zs.length := by omega
    refine q_appB S6 hne hsL (ev_var rfl) (er_badD (ed_revL S6.w (ed_var rfl (rd S6))) (bad_rev c (by omega) h1l)) (by decide) fun H7 S7 => ?_
    show tSeq _ _ _ _ _
    refine q_asgF (M := addM M L) (B := 1) (R := NatP fun i => i < zs.length - 1) S7.fd (upT (by omega)) (ef_draw (K := K) (m := zs.length - 1) hmt S7.w rfl (fun H8 b8 => (ed_I0 (g := fun i j => i - j) ((ed_lenL (ed_var rfl (L2.Dp.up (rd S7) (b8.hm hmt)))).eq (by rw [List.length_map])) ed_int).eq (by
      show PyData.int _ = PyData.int _
      congr 1
      omega)) (by omega) (by omega)) fun v3 H8 b8 f8 ⟨i, e3, hi⟩ => ?_
    subst e3
    have S8 := S7.draw hmt hne b8 f8
    have hp : zs[i]? = some zs[i] := List.getElem?_eq_getElem (by omega)
    have hq : zs[i + 1]? = some zs[i + 1] := List.getElem?_eq_getElem (by omega)
    have dv := ed_var (K := K) (M := addM M L) (σ := [some (.ref fa), some v1, some (.ref L), some (.int (i : Nat)), none, none]) (i := 1) (H := H8) rfl (rd S8)
    have dat : EvD K (addM M L) (tVar 3) [some (.ref fa), some v1, some (.ref L), some (.int (i : Nat)), none, none] H8 (nI i) := ed_var rfl (.int _)
    refine s_appB S8 hne hsL (ev_var rfl) (er_badD (d := .list ((swapT zs i zs[i] zs[i + 1]).map pairD)) (EvD.eq (ed_catL S8.w (ed_catL S8.w (EvD.eq (ed_slL S8.w dv eo_none (eo_some dat)) (by rw [cut_to _ (by rw [List.length_map]; omega)])) (ed_lst S8.w (ea_cons (ed_ixL' (j := i + 1) (d := pairD zs[i + 1]) dv (ed_addN dat (ed_nat (n := 1))) rfl (by rw [List.getElem?_map, hq]; rfl)) (ea_cons (ed_ixL' (j := i) (d := pairD zs[i]) dv dat rfl (by rw [List.getElem?_map, hp]; rfl)) ea_nil))) ?_) (EvD.eq (ed_slL S8.w dv (eo_some (ed_addN dat (ed_nat (n := 2)))) eo_none) (by rw [cut_from _ (by rw [List.length_map]; omega)])) ?_) ?_) (bad_swap c (by omega) hp hq)) (by decide) fun H9 S9 => kk _ _ ⟨_, rfl, S9⟩
    · rw [List.length_take, List.length_cons, List.length_cons, List.length_nil]; omega
    · rw [List.length_append, List.length_take, List.length_drop, List.length_cons, List.length_cons, List.length_nil]; omega
    · unfold swapT
      rw [List.map_append, List.map_append, List.map_take, List.map_drop]
      rfl
  obtain ⟨y3, rfl, S6⟩ := hP
  obtain ⟨a, xsv, ev1, hsq, hall⟩ := dp_lst h2
  -- each row made bad
  show tSeq _ _ _ _ _
  refine q_for (K := K) (M := addM M L) (src_enum (ea_cons (ed_var rfl (rd S6)) ea_nil)) fun H7 e7 => ⟨fun i σ' H' => ∃ y3 y4 y5, σ' = [some (.ref fa), some v1, some (.ref L), y3, y4, y5] ∧ SitB K (addM M L) fa L H H7 H' (n + 1) (25 + 12 * i), ?_, ?_, ?_, ?_⟩
  · exact ⟨_, _, _, rfl, (S6.up e7).re⟩
  · rintro i σ' H' ⟨y3, y4, y5, rfl, S⟩
    exact ⟨S.s, S.w⟩
  · rintro i d x σ' H' H8 hd ⟨y3, y4, y5, rfl, S⟩ e8 hx
    have hi : i < zs.length := by
      obtain ⟨z, _⟩ := List.getElem?_eq_some_iff.mp hd
      rw [enumD_len, List.length_map] at z
      exact z
    have hp : zs[i]? = some zs[i] := List.getElem?_eq_getElem hi
    rw [enumD_get (d := pairD zs[i]) (by rw [List.getElem?_map, hp]; rfl)] at hd
    cases hd
    have S8 := S.up e8
    have m78 : Same (Hm (addM M L) H2) (Hm (addM M L) H8) := (S6.s.trans (hm_mono e7)).trans S8.s
    refine g_two hx fun x3 x4 hx3 hx4 => ?_
    cases dp_int hx3
    have ix : ∀ {σ : L2.St} {j : Nat} {d : PyData}, σ[4]? = some (some x4) → [nI zs[i].1, nI zs[i].2][j]? = some d → EvD K (addM M L) (tOp (rIx K) (tVar 4) (tC (.int (j : Nat)))) σ H8 d := fun hs hj => ed_ixT' (ed_var hs hx4) ed_nat rfl hj
    have row : ∀ {σ : L2.St}, σ[4]? = some (some x4) → EvD K (addM M L) (tVar 4) σ H8 (pairD zs[i]) := fun hs => ed_var hs hx4
    refine s_forR (K := K) (M := addM M L) (n := 12) (R := RowBad K) (er_lstR S8.w up_rowBad
      (ar_cons up_rowBad (er_rowD (ed_tup S8.w (ea_cons (ix (j := 0) rfl rfl) (ea_cons ed_int ea_nil))) (row_r rfl))
      (ar_cons up_rowBad (er_rowD (ed_tup S8.w (ea_cons (ix (j := 0) rfl rfl) (ea_cons ed_bl ea_nil))) (row_r rfl))
      (ar_cons up_rowBad (er_rowD (ed_tup S8.w (ea_cons (ix (j := 0) rfl rfl) (ea_cons ed_non ea_nil))) (row_r rfl))
      (ar_cons up_rowBad (er_rowD (ed_tup S8.w (ea_cons (ix (j := 0) rfl rfl) (ea_cons (ed_neg ed_int) ea_nil))) (row_r rfl))
      (ar_cons up_rowBad (er_rowD (ed_tup S8.w (ea_cons (ix (j := 0) rfl rfl) (ea_cons ed_str ea_nil))) (row_r rfl))
      (ar_cons up_rowBad (er_rowD (ed_tup S8.w (ea_cons (ix (j := 0) rfl rfl) (ea_cons (ed_lst S8.w (ea_cons ed_int ea_nil)) ea_nil))) (row_r rfl))
      (ar_cons up_rowBad (er_rowD (ed_tup S8.w (ea_cons ed_int (ea_cons (ix (j := 1) rfl rfl) ea_nil))) (row_l rfl))
      (ar_cons up_rowBad (er_rowD (d := .tuple [nI zs[i].1]) (ed_slA1 S8.w (row rfl)) rfl)
      (ar_cons up_rowBad (er_rowD (ed_catT S8.w (row rfl) (ed_tup S8.w (ea_cons ed_int ea_nil)) (Nat.le_of_ble_eq_true rfl)) rfl)
      (ar_cons up_rowBad (er_rowD (ed_listOfT S8.w (row rfl)) rfl)
      (ar_cons up_rowBad (er_rowD ed_non rfl)
      (ar_cons up_rowBad (er_rowN S8.w) ar_nil)))))))))))) (by decide)) fun xs H9 e9 hl9 hall9 => ⟨fun j σ' H' => ∃ y5, σ' = [some (.ref fa), some v1, some (.ref L), some (.int (i : Nat)), some x4, y5] ∧ SitB K (addM M L) fa L H H9 H' (n + 1) (25 + 12 * i + j), ?_, ?_, ?_, ?_⟩
    · exact ⟨_, rfl, (S8.up e9).re⟩
    · rintro j σ' H' ⟨y5, rfl, S⟩
      exact S.s
    · rintro j x σ' H' hx ⟨y5, rfl, S⟩
      have hj : j < 12 := by
        obtain ⟨z, _⟩ := List.getElem?_eq_some_iff.mp hx
        rw [hl9] at z; exact z
      have m9 : Same (Hm (addM M L) H2) (Hm (addM M L) H') := (m78.trans (hm_mono e9)).trans S.s
      have hbad := up_rowBad _ _ _ S.s (hall9 x (List.mem_of_getElem? hx))
      have hxl : xsv.length = zs.length := by rw [dps_len hall, List.length_map]
      have dat : EvD K (addM M L) (tVar 3) [some (.ref fa), some v1, some (.ref L), some (.int (i : Nat)), some x4, some x] H' (nI i) := ed_var rfl (.int _)
      have lv : EvR (addM M L) (tVar 1) [some (.ref fa), some v1, some (.ref L), some (.int (i : Nat)), some x4, some x] H' (LsV K xsv) := er_var rfl up_lsV ⟨a, ev1, sqL_mono m9 hsq⟩
      refine s_appB S hne hsL (ev_var rfl) (EvR.imp (er_and (S := fun H => RowBad K H x ∧ DpAll K H xsv (zs.map pairD)) (fun _ _ e h => ⟨up_rowBad _ _ _ e h.1, h.2.up e⟩) ⟨hbad, hall.up m9⟩ (er_catV S.w (er_catV S.w (er_slV S.w lv eo_none (eo_some dat)) (er_lst1 S.w rfl) ?_) (er_slV S.w lv (eo_some (ed_addN dat (ed_nat (n := 1)))) eo_none) ?_)) fun H v hv => ?_) (by omega) fun H10 S10 => ⟨_, rfl, S10⟩
      · have := cutV_length xsv none (some (i : Nat))
        rw [List.length_cons, List.length_nil]
        omega
      · have := cutV_length xsv none (some (i : Nat))
        have := cutV_length xsv (some ((i + 1 : Nat) : Int)) none
        rw [List.length_append, List.length_cons, List.length_nil]
        omega
      · obtain ⟨⟨b, e1, e2⟩, g1, g2⟩ := hv
        have c1 : cutV xsv none (some ((i : Nat) : Int)) = xsv.take i := cut_to xsv (by omega)
        have c2 : cutV xsv (some ((i + 1 : Nat) : Int)) none = xsv.drop (i + 1) := cut_from xsv (by omega)
        rw [c1, c2, List.append_assoc] at e2
        refine .inl (.inr (.inr ⟨b, xsv.take i, x, xsv.drop (i + 1), zs.take i, e1, e2, ?_, fun p hp => pos p (List.mem_of_mem_take hp), g1⟩))
        rw [List.map_take]
        exact dps_take i g2
    · rintro σ' H' ⟨y5, rfl, S'⟩
      refine ⟨_, _, _, rfl, S'.base (S8.s.trans (hm_mono e9))⟩
  · rintro σ' H' ⟨y3, y4, y5, rfl, S⟩
    rw [enumD_len, List.length_map] at S
    exact s_retB S (by omega) rfl fun v H8 b8 f8 hv => q v H8 b8 f8 hv
end
end EIT
end
/-! text R14 -/
section
set_option maxHeartbeats 4000000
/-! the law's lists: what its walk needs. -/
namespace EIT
open PySem PySem.Spec PyProof.Rows L2
/-! ### lists of lengths, by their tallies -/
theorem dd_of : ∀ l : List (Nat × Nat), PosK l → ∃ d, Dd d (tal l) ∧ d.length ≤ l.length
  | [], _ => ⟨[], Dd.empty.congr fun _ => rfl, Nat.le_refl _⟩
  | p :: l, h => by
    obtain ⟨d, hd, hl⟩ := dd_of l fun q hq => h q (List.mem_cons_of_mem _ hq)
    have hp := h p List.mem_cons_self
    refine ⟨putN d p.1 (tal l p.1 + p.2), (hd.put hp.1 (by omega)).congr fun k => ?_, ?_⟩
    · rw [tal_cons]
      by_cases e : k = p.1
      · rw [if_pos e, if_pos e.symm, e]; omega
      · rw [if_neg e, if_neg fun z => e z.symm]; omega
    · have := put_len d p.1 (tal l p.1 + p.2)
      rw [List.length_cons]; omega
theorem canon_of {a b : List (Nat × Nat)} (ha : PosK a) (hb : PosK b) : ∃ z, Canon z ∧ (∀ k, tal z k = T a b k) ∧ z.length ≤ a.length * b.length := by
  obtain ⟨d, hd, hl⟩ := dd_of (prods a b) fun p hp => by
    obtain ⟨q, hq, hp⟩ := List.mem_flatMap.mp hp
    obtain ⟨r, hr, rfl⟩ := List.mem_map.mp hp
    exact ⟨Nat.lcm_pos (ha q hq).1 (hb r hr).1, Nat.mul_pos (Nat.mul_pos (ha q hq).2 (hb r hr).2) (Nat.gcd_pos_of_pos_left _ (ha q hq).1)⟩
  obtain ⟨ks, h1, h2⟩ := keys_sorted (d.map (·.1)) hd.nd
  obtain ⟨c, t⟩ := canon_dd hd h1 h2
  have e : ∀ (a b : List (Nat × Nat)), (prods a b).length = a.length * b.length := fun a b => by
    unfold prods
    induction a with
    | nil => rw [List.length_nil, Nat.zero_mul]; rfl
    | cons p a ih => rw [List.flatMap_cons, List.length_append, List.length_map, ih, List.length_cons, Nat.succ_mul, Nat.add_comm]
  exact ⟨_, c, fun k => (t k).trans (tal_prods a b k), by rw [List.length_map, h2.length_eq, List.length_map, ← e]; exact hl⟩
/-- as drawn: few, none too great -/
structure DrawnQ (z : List (Nat × Nat)) : Prop where
  c : Canon z
  l : z.length ≤ 5
  s : Sz 200 z
theorem DrawnQ.lb {a b : List (Nat × Nat)} (ha : DrawnQ a) (hb : DrawnQ b) : LbOk a b := ⟨ha.c, hb.c, sz_mono ha.s (by decide), sz_mono hb.s (by decide), Nat.le_trans ha.l (by decide), Nat.le_trans hb.l (by decide)⟩
/-- what stands beside of two drawn ones -/
structure MadeQ (a b z : List (Nat × Nat)) : Prop where
  c : Canon z
  t : ∀ k, tal z k = T a b k
  l : z.length ≤ 25
  s : Sz 620 z
theorem made_of {a b z : List (Nat × Nat)} (ha : DrawnQ a) (hb : DrawnQ b) (c : Canon z) (t : ∀ k, tal z k = T a b k) (l : z.length ≤ a.length * b.length) : MadeQ a b z :=
  ⟨c, t, Nat.le_trans l (Nat.mul_le_mul ha.l hb.l), sz_mono (sz_made (B := 200) ha.c.pos hb.c.pos c t ha.s hb.s (Nat.le_trans ha.l (by decide)) (Nat.le_trans hb.l (by decide))) (by decide)⟩
theorem one_canon : Canon [(1, 1)] := ⟨List.pairwise_singleton _ _, fun p hp => by rw [List.mem_singleton.mp hp]; exact ⟨Nat.le_refl _, Nat.le_refl _⟩⟩
theorem nil_canon : Canon [] := ⟨List.Pairwise.nil, fun _ h => nomatch h⟩
theorem one_drawn : DrawnQ [(1, 1)] := ⟨one_canon, by decide, fun p hp => by
  rw [List.mem_singleton.mp hp]
  exact ⟨Nat.one_lt_two_pow (by decide), Nat.one_lt_two_pow (by decide)⟩⟩
theorem nil_drawn : DrawnQ [] := ⟨nil_canon, by decide, fun _ h => nomatch h⟩
theorem states_small {z : List (Nat × Nat)} (h : DrawnQ z) : statesOn z < 2 ^ 500 := by
  have h1 : statesOn z ≤ z.length * (2 ^ 200 * 2 ^ 200) := by
    refine Nat.le_trans (sum_le (c := 2 ^ 200 * 2 ^ 200) _ fun x hx => ?_) (by rw [List.length_map]; exact Nat.le_refl _)
    obtain ⟨p, hp, rfl⟩ := List.mem_map.mp hx
    exact Nat.mul_le_mul (Nat.le_of_lt (h.s p hp).1) (Nat.le_of_lt (h.s p hp).2)
  have h2 := h.l
  have h3 : z.length * (2 ^ 200 * 2 ^ 200) ≤ 5 * (2 ^ 200 * 2 ^ 200) := Nat.mul_le_mul_right _ h2
  rw [← Nat.pow_add] at h1 h3
  have h4 : (5 : Nat) * 2 ^ (200 + 200) < 2 ^ 100 * 2 ^ (200 + 200) := Nat.mul_lt_mul_of_pos_right (by decide) (Nat.pow_pos (by decide))
  rw [← Nat.pow_add] at h4
  exact Nat.lt_of_le_of_lt (Nat.le_trans h1 h3) h4
/-! ### masks -/
theorem hm_skip {M : Mk} {H H' : Hp} {p : Addr} (e : Same H H') (hp : H p = none) : Same (Hm M H) (Hm (addM M p) H') := fun a o h => by
  obtain ⟨h1, h2⟩ := hm_some h
  exact hm_of (by rw [addM_ne (ne_of_none h2 hp)]; exact h1) (e a o h2)
section
variable {X : Cx} {K : PySem.W.Frag} {k : Nat} {x a b : Str} {sp : Sp} {p pos : Pos} {kws : List Keyword} {tk : TA}
theorem passAt0 (σ : L2.St) : PassesAt (L2.CX X.prog X.w) X σ E0 := fun pins H s e s' I c => passL pins σ H s e s' I c
theorem pe_besK (c : CalK X.prog X.w X.K X.mg X.base k x a b sp) (hr : Room k X.A) (hg : Gl X x) (hkw : PK X kws tk)
    (hall : (backToKw pos (keywordEach kws X.env)).all (·.1.isSome) = true := by rfl) (hks : (backToKw pos (keywordEach kws X.env)).filterMap (·.1) = [b, a] := by rfl) (hdb : (x == ("__debug__" : Str)) = false := by decide)
    (hpl : ((backTo pos (starEach [] X.env)).any (·.1) || (backToKw pos (keywordEach kws X.env)).any (·.1.isNone)) = false := by rfl) : PE X (.Call (.Name x p) [] kws pos) (tCallSK (List.length [b, a]) sp (fun _ zs => zs.reverse) (fun _ => E0) tk) := by
  obtain ⟨f, fd, F, g, kp, _, kb⟩ := c
  exact pe_callSK (ks := [b, a]) F hr hg g kp kb (fun σ => passAt0 σ) hkw (hall := hall) (hks := hks) (hdb := hdb) (hpl := hpl)
end
section
variable {K : PySem.W.Frag} {f : Addr} {B B1 B2 n : Nat} {M : Mk} {σ : L2.St} {H H' : Hp} {te ta tb : TE} {tr : TA} {R : Hp → V → Prop} {d : PyData} {tt : TT} {tu tw tz : TS} {D : Ends} {C : Addr}
/-- what is shown is known by the data -/
theorem ed_repr {M' : Mk} (h : EvD K M te σ H d) (S : Shw d) : EvD K M' (tCB (rReprD K) (tCons te tNil)) σ H (.str d.shown) := fun H1 e Q q =>
  h H1 e _ fun v H2 e2 hv => ⟨v, d, rfl, L2.Dp.up hv (hm_sub M H2), S, q _ H2 e2 (.str _)⟩
theorem ed_beside {a b z : List (Nat × Nat)} (wd : Wd M H) (ok : LbOk a b) (hc : Canon z) (ht : ∀ k, tal z k = T a b k) (h : EvA K M tr σ H [pairsD a, pairsD b]) : EvD K M (tCall (spBL K C) [] E0 tr) σ H (pairsD z) :=
  er_d (er_beside wd ok h) fun H v hv => by
    obtain ⟨z', c, t, _, hv⟩ := hv
    rw [canon_ext c hc fun k => (t k).trans (ht k).symm] at hv
    exact hv
theorem ed_besideK {a b z : List (Nat × Nat)} (wd : Wd M H) (ok : LbOk a b) (hc : Canon z) (ht : ∀ k, tal z k = T a b k) (h : EvA K M tr σ H [pairsD b, pairsD a]) : EvD K M (tCallSK 2 (spBL K C) (fun _ zs => zs.reverse) (fun _ => E0) tr) σ H (pairsD z) := fun H1 e Q q =>
  h H1 e _ fun vs H2 e2 hvs => ⟨by rw [dps_len hvs]; rfl, .inl ⟨M, a, b, wd.mono (e.trans e2), ok, dps_reverse hvs, fun zs p H3 ws c1 c2 c3 e3 hp hp3 hws => q _ H3 (e2.trans e3) (by
    rw [canon_ext c1 hc fun k => (c2 k).trans (ht k).symm] at hws
    exact .lst (.of (hm_of ((wd.mono (e.trans e2)).new hp) hp3)) hws)⟩⟩
/-- a def that draws, called with what is drawn and told by the heap -/
theorem ef_callU {ι : Type} {pre : ι → Hp → List V → Prop} {post : ι → Hp → V → Prop} {E : XK} {i : Nat} (hf : M f = true) (wd : Wd M H) (hs : σ[i]? = some (some (.ref f))) (S : ι → Hp → Prop) (u : ∀ x H H', Same H H' → S x H → S x H') (h : EvFA f B1 M tr σ H fun H vs => ∃ x, S x H ∧ pre x H vs) :
    EvF f (B1 + B) M (tCall (spI pre B post) [] E (tCons (tVar i) tr)) σ H fun H v => ∃ x, S x H ∧ post x H v := fun n H1 b fd hn Q q =>
  ⟨.ref f, hs, h n H1 b fd (by omega) _ fun r H2 b2 f2 ⟨x, hc, hr⟩ => ⟨M, f, n + B1, x, r, (b.trans b2).wd' wd f2, hf, f2, by omega, by rw [List.append_nil], hr, fun v H3 b3 f3 hv => q v H3 (b2.trans b3) (by rw [Nat.add_assoc] at f3; exact f3) ⟨x, u _ _ _ (b3.hm hf) hc, hv⟩⟩⟩
/-- a drawn way that ends alike either way -/
theorem q_ifFJ {m : Nat} {S : Bool → Prop} (P : L2.St → Hp → Prop) (fd : Feed f m H) (hn : m + B ≤ topN) (h : EvFT f B tt σ H S) (k : ∀ σ' H', P σ' H' → tz D σ' H') (h1 : (∀ σ' H', P σ' H' → tz D σ' H') → ∀ H1, But f H H1 → Feed f (m + B) H1 → tu { D with nx := tz D } σ H1) (h2 : (∀ σ' H', P σ' H' → tz D σ' H') → ∀ H1, But f H H1 → Feed f (m + B) H1 → tw { D with nx := tz D } σ H1) : tSeq (tIfS tt tu tw) tz D σ H :=
  q_ifF fd hn h (fun _ => h1 k) fun _ => h2 k
theorem eft_eq {S T : Nat → Prop} (hm : M f = true) (ha : EvF f B1 M ta σ H (NatP S)) (hb : EvF f B2 M tb σ H (NatP T)) : EvFT f (B1 + B2) (tTest (tOp rEq ta tb)) σ H fun _ => True :=
  eft_test (M := M) (S := fun _ => True) (ef_op2 hm up_natP ha hb fun x y H1 _ ⟨i, e1, _⟩ ⟨j, e2, _⟩ Q q => by
    subst e1 e2
    exact ⟨rfl, q _ H1 (Same.refl _) ⟨_, rfl, trivial⟩⟩)
/-- [s] * n -/
theorem ed_repS {s : Str} {n : Nat} (wd : Wd M H) (hb : EvD K M tb σ H (nI n)) (hn : n ≤ 1000) : EvD K M (tOp rRep (tLst (tCons (tC (.str s)) tNil)) tb) σ H (.list ((List.replicate n s).map .str)) := fun H1 e Q q => by
  show ([V.str s].length ≤ sizeLine) ∧ _
  refine ⟨sz_ok (Nat.le_of_ble_eq_true rfl), fun p hp => hb _ (e.trans (same_new hp)) _ fun v H2 e2 hv => ?_⟩
  rw [dp_int hv]
  refine ⟨p, n, [.str s], rfl, rfl, e2 _ _ upd_same, by omega, by omega, sz_ok (by rw [List.length_cons, List.length_nil, Int.toNat_natCast]; omega), fun L hL => ?_⟩
  rw [Int.toNat_natCast, flat_rep]
  have e3 := (same_new hp).trans e2
  refine q _ _ (e3.trans (same_new hL)) ?_
  have hm : M L = false := (wd.mono (e.trans e3)).new hL
  rw [← List.map_replicate (f := V.str)]
  exact .lst (.of (hm_of hm upd_same)) (dps_of_strs _)
def DrV (K : PySem.W.Frag) (H : Hp) (v : V) : Prop := ∃ z, DrawnQ z ∧ Dp K H v (pairsD z)
theorem up_drV : Up (DrV K) := fun _ _ _ e ⟨z, h1, h2⟩ => ⟨z, h1, h2.up e⟩
/-- _law_drawn(feed, most, more), whatever most and more are drawn -/
theorem ef_drawn {E : XK} {S T : Nat → Prop} (hm : M f = true) (wd : Wd M H) (hs : σ[0]? = some (some (.ref f))) (ha : EvF f B1 M ta σ H (NatP S)) (hb : EvF f B2 M tb σ H (NatP T)) (h1 : ∀ i, S i → 1 ≤ i ∧ i < 2 ^ 200) (h2 : ∀ i, T i → 1 ≤ i ∧ i < 2 ^ 200) (hB : B1 + (B2 + 0) + 11 ≤ B) :
    EvF f B M (tCall (spI preDrawn 11 (DrawnP K)) [] E (tCons (tVar 0) (tCons ta (tCons tb tNil)))) σ H (DrV K) :=
  ef_le (ef_imp (ef_callE (pre := preDrawn) (post := DrawnP K) hm wd hs (fun x => x.1 < 2 ^ 200 ∧ x.2 < 2 ^ 200) (efa_imp (efa_cons hm up_natP ha (efa_cons hm up_natP hb efa_nil)) fun H vs hv => by
    obtain ⟨y1, r1, rfl, ⟨i, rfl, hi⟩, y2, r2, rfl, ⟨j, rfl, hj⟩, rfl⟩ := hv
    have b2 : (2 : Nat) ^ 200 ≤ 2 ^ 8000 := Nat.pow_le_pow_right (by decide) (by decide)
    have k1 := h1 i hi
    have k2 := h2 j hj
    exact ⟨(i, j), ⟨k1.2, k2.2⟩, k1.1, k2.1, Nat.lt_of_lt_of_le k1.2 b2, Nat.lt_of_lt_of_le k2.2 b2, rfl⟩)) fun H v hv => by
    obtain ⟨x, ⟨k1, k2⟩, z, c, l, bn, hd⟩ := hv
    exact ⟨z, ⟨c, l, fun p hp => ⟨Nat.lt_of_le_of_lt (bn p hp).1 k1, Nat.lt_of_le_of_lt (bn p hp).2 k2⟩⟩, hd⟩) hB
end
section
variable {P : Program} {w : World} {K : PySem.W.Frag} {mg : Str → Option Value} {base : Heap} {x qual : Str} {st : Stmt} {N ps : List Str} {k : Nat} {sp : Sp}
theorem mkG (F : Df K mg x qual st) (S : FnScope N ps (defScope st)) (hl : ∀ vs H Q, sp vs H Q E0 → vs.length = ps.length)
    (hb : ∀ (kV doc pm : Value) (an : Option Addr) (cdv ct : Value) (us : List Value), us.length = ps.length → bindArgs (PySem.W.fnOf x qual (defArgs st) (defBody st) (defScope st) .none kV doc pm an cdv ct) ⟨us, []⟩ = pure (ps.zip us))
    (body : ∀ (f : Addr) (cdv : Value) (A : Around) (outer : List Env) (s : Shared) (H : Hp) (vs : List V) (Q : VK), Free A → Room k (A.deeper (envOfC qual (defScope st) s.heap.objs.size f cdv)) → sp vs H Q E0 →
      ∃ t, PSs (cxOf CX0 P w K mg base N qual (defScope st) f cdv A outer s H E0).nox (defBody st) t ∧ t { nx := fun _ H' => Q .non H', rt := Q } (start N vs) H) :
    CalG P w K mg base (k + 1) x ps sp := by
  obtain ⟨f, fd, F, g⟩ := F
  refine ⟨f, fd, gok_of F S hl (fun cdv A outer s H vs Q hf hr h => ?_), g, F.kp, F.bindsN hb⟩
  obtain ⟨t, h1, h2⟩ := body f cdv A outer s H vs Q hf hr h
  exact ⟨t, h1.nox, h2⟩
end
end EIT
end
/-! text L17 -/
section
set_option maxHeartbeats 4000000
/-! the law's lists. -/
namespace EIT
open PySem PySem.Spec PyProof.Rows L2
def t9 : Nat := 10 ^ 9
def t14 : Nat := 10 ^ 14
def t15 : Nat := 10 ^ 15
def t57 : Nat := 10 ^ 57
theorem few4 : ∀ i ∈ [6, 12, 60, t15], 1 ≤ i ∧ i < 2 ^ 200 := by decide +kernel
theorem few3 : ∀ i ∈ [2, 9, t14], 1 ≤ i ∧ i < 2 ^ 200 := by decide +kernel
theorem few3' : ∀ i ∈ [6, 12, t9], 1 ≤ i ∧ i < 2 ^ 200 := by decide +kernel
theorem few3'' : ∀ i ∈ [4, 12, 60], 1 ≤ i ∧ i < 2 ^ 200 := by decide +kernel
theorem t57_ok : 1 ≤ t57 ∧ t57 < 2 ^ 200 := by decide +kernel
theorem t15_ok : 1 ≤ t15 ∧ t15 < 2 ^ 200 := by decide +kernel
theorem n_ok {j : Nat} (h : 1 ≤ j ∧ j < 2 ^ 200) : ∀ i, i = j → 1 ≤ i ∧ i < 2 ^ 200 := fun i e => by rw [e]; exact h
theorem n60 : 1 ≤ 60 ∧ 60 < 2 ^ 200 := by decide +kernel
theorem n9 : 1 ≤ 9 ∧ 9 < 2 ^ 200 := by decide +kernel
theorem n5 : 1 ≤ 5 ∧ 5 < 2 ^ 200 := by decide +kernel
def wordsD : PyData := .list [.str "lengths", .str "lengths", .str "lengths", .str ""]
theorem words_shaped : SeqAt.shaped wordsD = true := by decide +kernel
theorem words_eq : PyData.eqv wordsD wordsD = true := by decide +kernel
section
variable {P : Program} {w : World} {K : PySem.W.Frag} {mg : Str → Option Value} {base : Heap}
section
variable {M : Mk} {σ : L2.St} {H : Hp}
theorem ed_t9 : EvD K M (tOp (rI CPow fun i j => V.int (i ^ j.toNat)) (tC (.int (10 : Nat))) (tC (.int (9 : Nat)))) σ H (nI t9) := EvD.eq (e := nI t9) (ed_powN (ed_nat (n := 10)) (ed_nat (n := 9)) (by decide) (by decide)) (by unfold t9; rfl)
theorem ed_t14 : EvD K M (tOp (rI CPow fun i j => V.int (i ^ j.toNat)) (tC (.int (10 : Nat))) (tC (.int (14 : Nat)))) σ H (nI t14) := EvD.eq (e := nI t14) (ed_powN (ed_nat (n := 10)) (ed_nat (n := 14)) (by decide) (by decide)) (by unfold t14; rfl)
theorem ed_t15 : EvD K M (tOp (rI CPow fun i j => V.int (i ^ j.toNat)) (tC (.int (10 : Nat))) (tC (.int (15 : Nat)))) σ H (nI t15) := EvD.eq (e := nI t15) (ed_powN (ed_nat (n := 10)) (ed_nat (n := 15)) (by decide) (by decide)) (by unfold t15; rfl)
theorem ed_t57 : EvD K M (tOp (rI CPow fun i j => V.int (i ^ j.toNat)) (tC (.int (10 : Nat))) (tC (.int (57 : Nat)))) σ H (nI t57) := EvD.eq (e := nI t57) (ed_powN (ed_nat (n := 10)) (ed_nat (n := 57)) (by decide) (by decide)) (by unfold t57; rfl)
end
theorem up_badsV : Up (BadsV K) := fun _ _ _ e ⟨p, vs, h1, h2, h3, h4, h5⟩ => ⟨p, vs, h1, e _ _ h2, h3, h4, fun x hx => up_badV _ _ _ e (h5 x hx)⟩
theorem sc_law_lists_right : FnScope ["_law_feed_here", "_law_one_here", "_law_two", "_law_kept", "_law_due_here", "_law_told", "_law_few", "_law_bad", "_law_worse", "_law_turn"] ["_law_feed_here"] (defScope s_law_lists_right) := ⟨rfl, rfl, rfl, by decide +kernel, rfl, by decide +kernel, by decide +kernel⟩
theorem ok_law_lists_right (T : Tx K mg) {C D : Addr} (B : BadF K mg C D) : CalG P w K mg base 5 "_law_lists_right" ["_law_feed_here"] (spI (ι := Unit) (fun _ _ r => r = []) 200 fun _ _ v => v = .bl true) := by
  have blk := okK_beside_lengths (P := P) (w := w) (base := base) T B.bg B.bq B.bk B.bs B.bt
  have bl := blk.x
  have lw := ok_law_word (P := P) (w := w) (base := base) T B blk
  refine mkG T.d_law_lists_right sc_law_lists_right (fun vs H Q h => by obtain ⟨_, _, _, _, r, _, _, _, _, rfl, rfl, _⟩ := h; rfl) (fun _ _ _ _ _ _ us hl => match us, hl with | [_], _ => rfl) fun f cdv A outer s H vs Q hgd hr h => ?_
  obtain ⟨M, fa, n, _, r, wd, hm, fd, hn, rfl, rfl, q⟩ := h
  have upT : ∀ {a}, a ≤ n + 200 → a ≤ topN := fun h => Nat.le_trans h hn
  refine ⟨_, (pss_cons (ps_par (i := 1) (j := 2) rfl sc_law_lists_right.nd rfl rfl (by decide) rfl rfl (pa_cons (pe_cal (ok_law_drawn T) (hr.mono (by decide)) (by rfl) (pa_cons (pv 0) (pa_cons (pe_cal (ok_law_one T) (hr.mono (by decide)) (by rfl) (pa_cons (pv 0) (pa_cons (pe_lst (pa_cons pe_int (pa_cons pe_int (pa_cons pe_int (pa_cons (pe_op op_pow pe_int pe_int) pa_nil))))) pa_nil))) (pa_cons (pe_cal (ok_law_one T) (hr.mono (by decide)) (by rfl) (pa_cons (pv 0) (pa_cons (pe_lst (pa_cons pe_int (pa_cons pe_int (pa_cons (pe_op op_pow pe_int pe_int) pa_nil)))) pa_nil))) pa_nil)))) (pa_cons (pe_cal (ok_law_drawn T) (hr.mono (by decide)) (by rfl) (pa_cons (pv 0) (pa_cons (pe_cal (ok_law_one T) (hr.mono (by decide)) (by rfl) (pa_cons (pv 0) (pa_cons (pe_lst (pa_cons pe_int (pa_cons pe_int (pa_cons (pe_op op_pow pe_int pe_int) pa_nil)))) pa_nil))) (pa_cons pe_int pa_nil)))) pa_nil)) (by rfl))
      (pss_cons (ps_if (pt_cmpR op_eq (pe_cal (ok_law_draw T) (hr.mono (by decide)) (by rfl) (pa_cons (pv 0) (pa_cons pe_int pa_nil))) pe_int (nomark _)) (pss_one (ps_par (i := 1) (j := 2) rfl sc_law_lists_right.nd rfl rfl (by decide) rfl rfl (pa_cons (pe_cal (ok_law_drawn T) (hr.mono (by decide)) (by rfl) (pa_cons (pv 0) (pa_cons (pe_op op_pow pe_int pe_int) (pa_cons (pe_op op_pow pe_int pe_int) pa_nil)))) (pa_cons (pe_cal (ok_law_drawn T) (hr.mono (by decide)) (by rfl) (pa_cons (pv 0) (pa_cons pe_int (pa_cons pe_int pa_nil)))) pa_nil)) (by rfl))) pss_nil)
      (pss_cons (ps_par (i := 3) (j := 4) rfl sc_law_lists_right.nd rfl rfl (by decide) rfl rfl (pa_cons (pe_callB (cr_reprD K hgd (Nat.lt_trans (Nat.lt_succ_self _) (room65 hr))) (by rfl) T.b_repr (by decide +kernel) (pa_cons (pe_lst (pa_cons (pv 1) (pa_cons (pv 2) pa_nil))) pa_nil)) (pa_cons (pe_cal (ok_law_due T) (hr.mono (by decide)) (by rfl) (pa_cons (pv 1) (pa_cons (pv 2) pa_nil))) pa_nil)) (by rfl))
      (pss_cons (ps_set (i := 5) sc_law_lists_right.nd rfl (.inl rfl) (pe_calX bl (hr.mono (by decide)) (by rfl) (pa_cons (pv 1) (pa_cons (pv 2) pa_nil))))
      (pss_cons (ps_if (PW.pt (pw_or (pt_cmpR op_ne (pe_callB (cr_reprD K hgd (Nat.lt_trans (Nat.lt_succ_self _) (room65 hr))) (by rfl) T.b_repr (by decide +kernel) (pa_cons (pv 5) pa_nil)) (pe_callB (cr_reprD K hgd (Nat.lt_trans (Nat.lt_succ_self _) (room65 hr))) (by rfl) T.b_repr (by decide +kernel) (pa_cons (pv 4) pa_nil)) (nomark _)) (pw_or (pt_cmpR op_ne (pe_callB (cr_reprD K hgd (Nat.lt_trans (Nat.lt_succ_self _) (room65 hr))) (by rfl) T.b_repr (by decide +kernel) (pa_cons (pe_calX bl (hr.mono (by decide)) (by rfl) (pa_cons (pv 2) (pa_cons (pv 1) pa_nil))) pa_nil)) (pe_callB (cr_reprD K hgd (Nat.lt_trans (Nat.lt_succ_self _) (room65 hr))) (by rfl) T.b_repr (by decide +kernel) (pa_cons (pv 4) pa_nil)) (nomark _)) (pw_or1 (pt_cmpR op_ne (pe_callB (cr_reprD K hgd (Nat.lt_trans (Nat.lt_succ_self _) (room65 hr))) (by rfl) T.b_repr (by decide +kernel) (pa_cons (pe_lst (pa_cons (pv 1) (pa_cons (pv 2) pa_nil))) pa_nil)) (pv 3) (nomark _)))))) (pss_one (ps_ret pe_bl)) pss_nil)
      (pss_cons (ps_expr (pe_bmK K PySem.F.plainAttrs_list PySem.F.slot_list_append PySem.F.type_list_append mt_append (pv 5) (pa_cons (pe_tup (pa_cons pe_int (pa_cons pe_int pa_nil))) pa_nil)))
      (pss_cons (ps_if (PW.pt (pw_or (pt_cmpR op_ne (pe_callB (cr_reprD K hgd (Nat.lt_trans (Nat.lt_succ_self _) (room65 hr))) (by rfl) T.b_repr (by decide +kernel) (pa_cons (pe_besK blk (hr.mono (by decide)) (by rfl) (by exact (pk_cons (pv 2) (pk_cons (pv 1) pk_nil)))) pa_nil)) (pe_callB (cr_reprD K hgd (Nat.lt_trans (Nat.lt_succ_self _) (room65 hr))) (by rfl) T.b_repr (by decide +kernel) (pa_cons (pv 4) pa_nil)) (nomark _)) (pw_or1 (pt_cmpR op_ne (pe_cal (ok_law_states_on T) (hr.mono (by decide)) (by rfl) (pa_cons (pv 4) pa_nil)) (pe_op op_mulX (pe_cal (ok_law_states_on T) (hr.mono (by decide)) (by rfl) (pa_cons (pv 1) pa_nil)) (pe_cal (ok_law_states_on T) (hr.mono (by decide)) (by rfl) (pa_cons (pv 2) pa_nil))) (nomark _))))) (pss_one (ps_ret pe_bl)) pss_nil)
      (pss_cons (ps_if (PW.pt (pw_or (pt_cmpR (op_neDK K (Nat.lt_trans (Nat.lt_succ_self _) (room65 hr))) (pe_calX bl (hr.mono (by decide)) (by rfl) (pa_cons (pv 1) (pa_cons (pe_lst (pa_cons (pe_tup (pa_cons pe_int (pa_cons pe_int pa_nil))) pa_nil)) pa_nil))) (pv 1) (nomark _)) (pw_or (pt_cmpR (op_neDK K (Nat.lt_trans (Nat.lt_succ_self _) (room65 hr))) (pe_calX bl (hr.mono (by decide)) (by rfl) (pa_cons (pe_lst (pa_cons (pe_tup (pa_cons pe_int (pa_cons pe_int pa_nil))) pa_nil)) (pa_cons (pv 1) pa_nil))) (pv 1) (nomark _)) (pw_or (pt_cmpR (op_neDK K (Nat.lt_trans (Nat.lt_succ_self _) (room65 hr))) (pe_calX bl (hr.mono (by decide)) (by rfl) (pa_cons (pv 1) (pa_cons (pe_lst pa_nil) pa_nil))) (pe_lst pa_nil) (nomark _)) (pw_or1 (pt_cmpR (op_neDK K (Nat.lt_trans (Nat.lt_succ_self _) (room65 hr))) (pe_calX bl (hr.mono (by decide)) (by rfl) (pa_cons (pe_lst pa_nil) (pa_cons (pv 1) pa_nil))) (pe_lst pa_nil) (nomark _))))))) (pss_one (ps_ret pe_bl)) pss_nil)
      (pss_cons (ps_setLc (i := 6) (own := [("_law_turn", 9)])  rfl sc_law_lists_right.nd rfl rfl (sw_true rfl rfl rfl (by decide +kernel)) (pi_range1 (by rfl) T.b_range (pa_cons pe_int pa_nil)) (blkOk_by (N := ["_law_feed_here", "_law_one_here", "_law_two", "_law_kept", "_law_due_here", "_law_told", "_law_few", "_law_bad", "_law_worse", "_law_turn"]) (sc := defScope s_law_lists_right) (own := [("_law_turn", 9)]) (by decide +kernel)) (fun _ _ _ _ _ => pg_name (i := 9) sc_law_lists_right.nd rfl (Or.inl rfl)) (fun _ _ _ _ _ => pts_nil) (fun _ _ _ _ _ => (pe_cal (ok_law_drawn T) (hr.mono (by decide)) (by rfl) (pa_cons (pv 0) (pa_cons (pe_cal (ok_law_one T) (hr.mono (by decide)) (by rfl) (pa_cons (pv 0) (pa_cons (pe_lst (pa_cons pe_int (pa_cons pe_int (pa_cons pe_int pa_nil)))) pa_nil))) (pa_cons pe_int pa_nil))))))
      (pss_cons (ps_if (pt_cmpR (op_neDK K (Nat.lt_trans (Nat.lt_succ_self _) (room65 hr))) (pe_calX bl (hr.mono (by decide)) (by rfl) (pa_cons (pe_calX bl (hr.mono (by decide)) (by rfl) (pa_cons (pe_ix (ix_seqK K) (pv 6) pe_int (fun _ _ => rfl)) (pa_cons (pe_ix (ix_seqK K) (pv 6) pe_int (fun _ _ => rfl)) pa_nil))) (pa_cons (pe_ix (ix_seqK K) (pv 6) pe_int (fun _ _ => rfl)) pa_nil))) (pe_calX bl (hr.mono (by decide)) (by rfl) (pa_cons (pe_ix (ix_seqK K) (pv 6) pe_int (fun _ _ => rfl)) (pa_cons (pe_calX bl (hr.mono (by decide)) (by rfl) (pa_cons (pe_ix (ix_seqK K) (pv 6) pe_int (fun _ _ => rfl)) (pa_cons (pe_ix (ix_seqK K) (pv 6) pe_int (fun _ _ => rfl)) pa_nil))) pa_nil))) (nomark _)) (pss_one (ps_ret pe_bl)) pss_nil)
      (pss_cons (ps_par (i := 7) (j := 8) rfl sc_law_lists_right.nd rfl rfl (by decide) rfl rfl (pa_cons (pe_cal (ok_law_one T) (hr.mono (by decide)) (by rfl) (pa_cons (pv 0) (pa_cons (pe_cal (ok_law_bad_lengths T) (hr.mono (by decide)) (by rfl) (pa_cons (pv 0) (pa_cons (pv 1) pa_nil))) pa_nil))) (pa_cons (pe_cal (ok_law_one T) (hr.mono (by decide)) (by rfl) (pa_cons (pv 0) (pa_cons (pe_cal (ok_law_bad_lengths T) (hr.mono (by decide)) (by rfl) (pa_cons (pv 0) (pa_cons (pv 2) pa_nil))) pa_nil))) pa_nil)) (by rfl))
      (pss_one (ps_ret (pe_cmpR (op_eqDK K (Nat.lt_trans (Nat.lt_succ_self _) (room65 hr))) (pe_lst (pa_cons (pe_cal lw (hr.mono (by decide)) (by rfl) (pa_cons (pv 7) (pa_cons (pv 2) pa_nil))) (pa_cons (pe_cal lw (hr.mono (by decide)) (by rfl) (pa_cons (pv 1) (pa_cons (pv 8) pa_nil))) (pa_cons (pe_cal lw (hr.mono (by decide)) (by rfl) (pa_cons (pv 7) (pa_cons (pv 8) pa_nil))) (pa_cons (pe_cal lw (hr.mono (by decide)) (by rfl) (pa_cons (pv 1) (pa_cons (pv 2) pa_nil))) pa_nil))))) (pe_op (op_catLK K) (pe_op op_rep (pe_lst (pa_cons pe_str pa_nil)) pe_int) (pe_lst (pa_cons pe_str pa_nil))) (nomark _))))))))))))))), ?_⟩
  -- two drawn lists
  show tSeq (tPar 1 2 _) _ _ _ _
  refine efa_use (M := M) (B := 25) (P := fun H vs => ∃ x y, vs = [x, y] ∧ DrV K H x ∧ DrV K H y) (efa_imp (efa_cons (B1 := 13) (B2 := 12) (R := DrV K) hm up_drV
    (ef_drawn (B1 := 1) (B2 := 1) (S := fun i => i ∈ [6, 12, 60, t15]) (T := fun i => i ∈ [2, 9, t14]) hm wd rfl (ef_oneI (K := K) (ns := [6, 12, 60, t15]) hm wd rfl (fun H1 b z => ed_lst (b.wd wd z) (ea_cons ed_int (ea_cons ed_int (ea_cons ed_int (ea_cons ed_t15 ea_nil))))) (by decide) (by decide)) (ef_oneI (K := K) (ns := [2, 9, t14]) hm wd rfl (fun H1 b z => ed_lst (b.wd wd z) (ea_cons ed_int (ea_cons ed_int (ea_cons ed_t14 ea_nil)))) (by decide) (by decide)) few4 few3 (by decide))
    (efa_cons (B1 := 12) (B2 := 0) (R := DrV K) hm up_drV (ef_drawn (B1 := 1) (B2 := 0) (S := fun i => i ∈ [6, 12, t9]) (T := fun i => i = 9) hm wd rfl (ef_oneI (K := K) (ns := [6, 12, t9]) hm wd rfl (fun H1 b z => ed_lst (b.wd wd z) (ea_cons ed_int (ea_cons ed_int (ea_cons ed_t9 ea_nil)))) (by decide) (by decide)) (ef_natP (K := K) (i := 9) (fun _ _ => ed_int) rfl) few3' (n_ok n9) (by decide)) efa_nil)) fun H vs ⟨x, r, e1, g1, y, r2, e2, g2, e3⟩ => ⟨x, y, by rw [e1, e2, e3], g1, g2⟩) fd (upT (by omega)) fun vs H1 b1 f1 hv => ?_
  obtain ⟨v1, v2, rfl, d1, d2⟩ := hv
  refine ⟨v1, v2, rfl, ?_⟩
  have w1 : Wd M H1 := b1.wd' wd f1
  -- or two others
  show tSeq _ _ _ _ _
  refine q_ifFJ (B := 1) (S := fun _ => True) (fun σ' H' => ∃ v1 v2, σ' = [some (.ref fa), some v1, some v2, none, none, none, none, none, none, none] ∧ DrV K (Hm M H') v1 ∧ DrV K (Hm M H') v2 ∧ Feed fa (n + 50) H' ∧ But fa H H' ∧ Wd M H') f1 (upT (by omega)) (eft_eq (B1 := 1) (B2 := 0) hm (ef_draw (K := K) (m := 3) hm w1 rfl (fun _ _ => ed_int) (by decide) (by decide)) (ef_natP (K := K) (i := 0) (S := fun _ => True) (fun _ _ => ed_int) trivial)) (fun σ' H' hP => ?_) (fun kk H2 b2 f2 => ?_) fun kk H2 b2 f2 => kk _ _ ⟨v1, v2, rfl, up_drV _ _ _ (b2.hm hm) d1, up_drV _ _ _ (b2.hm hm) d2, f2.up (by omega), b1.trans b2, b2.wd' w1 f2⟩
  rotate_left
  · have w2 : Wd M H2 := b2.wd' w1 f2
    show tPar 1 2 _ _ _ _
    refine efa_use (M := M) (B := 22) (P := fun H vs => ∃ x y, vs = [x, y] ∧ DrV K H x ∧ DrV K H y) (efa_imp (efa_cons (B1 := 11) (B2 := 11) (R := DrV K) hm up_drV
      (ef_drawn (B1 := 0) (B2 := 0) (S := fun i => i = t57) (T := fun i => i = t15) hm w2 rfl (ef_natP (K := K) (i := t57) (fun _ _ => ed_t57) rfl) (ef_natP (K := K) (i := t15) (fun _ _ => ed_t15) rfl) (n_ok t57_ok) (n_ok t15_ok) (by decide))
      (efa_cons (B1 := 11) (B2 := 0) (R := DrV K) hm up_drV (ef_drawn (B1 := 0) (B2 := 0) (S := fun i => i = 60) (T := fun i => i = 9) hm w2 rfl (ef_natP (K := K) (i := 60) (fun _ _ => ed_int) rfl) (ef_natP (K := K) (i := 9) (fun _ _ => ed_int) rfl) (n_ok n60) (n_ok n9) (by decide)) efa_nil)) fun H vs ⟨x, r, e1, g1, y, r2, e2, g2, e3⟩ => ⟨x, y, by rw [e1, e2, e3], g1, g2⟩) f2 (upT (by omega)) fun vs H3 b3 f3 hv => ?_
    obtain ⟨u1, u2, rfl, g1, g2⟩ := hv
    exact ⟨u1, u2, rfl, kk _ _ ⟨u1, u2, rfl, g1, g2, f3.up (by omega), (b1.trans b2).trans b3, b3.wd' w2 f3⟩⟩
  clear d1 d2 w1 f1 b1 v1 v2 H1
  obtain ⟨v1, v2, rfl, ⟨a, qa, d1⟩, ⟨b, qb, d2⟩, f3, b3, w3⟩ := hP
  obtain ⟨z, zc, zt, zl⟩ := canon_of qa.c.pos qb.c.pos
  have mz := made_of qa qb zc zt zl
  have la : a.length ≤ 300 := Nat.le_trans qa.l (by decide)
  have lb : b.length ≤ 300 := Nat.le_trans qb.l (by decide)
  have shz : Shw (pairsD z) := shw_pairs (sz_mono mz.s (by decide)) (Nat.le_trans mz.l (by decide))
  have sh2 : Shw (.list [pairsD a, pairsD b]) := shw_two (sz_mono qa.s (by decide)) (sz_mono qb.s (by decide)) la lb
  -- what is kept, what is due
  show tSeq (tPar 3 4 _) _ _ _ _
  refine q_par (K := K) (M := M) (a := .str (PyData.list [pairsD a, pairsD b]).shown) (b := pairsD z) (ea_cons (ed_repr (M := M) (ed_lst w3 (ea_cons (ed_var rfl d1) (ea_cons (ed_var rfl d2) ea_nil))) sh2) (ea_cons (er_d (er_call (post := fun (x : List (Nat × Nat) × List (Nat × Nat)) H v => DueP K x.1 x.2 H v) (a, b) w3 (EvB.imp (EvA.b (K := K) (M := M) (ea_cons (ed_var rfl d1) (ea_cons (ed_var rfl d2) ea_nil))) fun vs H h => ⟨qa.lb qb, h⟩)) fun H v hv => ?_) ea_nil)) fun v3 v4 H4 e4 h3 d4 => ?_
  · obtain ⟨z', c, t, _, hv⟩ := hv
    rw [canon_ext c zc fun k => (t k).trans (zt k).symm] at hv
    exact hv
  cases dp_str h3
  have w4 := w3.mono e4
  -- told
  show tSeq _ _ _ _ _
  refine ⟨v1, rfl, v2, rfl, .inl ⟨M, a, b, w4, qa.lb qb, .cons (d1.up (hm_mono e4)) (.cons (d2.up (hm_mono e4)) .nil), fun z' p H5 ws c1 c2 c3 e5 hp hp5 hws => ?_⟩⟩
  have ez : z' = z := canon_ext c1 zc fun k => (c2 k).trans (zt k).symm
  subst ez
  have f4 := f3.same e4
  have hpf : fa ≠ p := fun e => f4.there (by rw [e]; exact hp)
  have hpH : H p = none := by
    cases g : H p with
    | none => rfl
    | some o => rw [e4 _ _ (b3 _ _ (fun e => hpf e.symm) g)] at hp; cases hp
  have w5 : Wd M H5 := w4.mono e5
  have hMp : M p = false := w4.new hp
  have dt : Dp K (Hm M H5) (.ref p) (pairsD z') := .lst (.of (hm_of hMp hp5)) hws
  have sk := hm_skip (M := M) e5 hp
  have hm5 : addM M p fa = true := addM_old hm
  have w5' : Wd (addM M p) H5 := wd_add w5 (by rw [hp5]; intro g; cases g)
  have d1 := (d1.up (hm_mono e4)).up sk
  have d2 := (d2.up (hm_mono e4)).up sk
  have d4 := d4.up sk
  have ne : ∀ {te1 te2 : TE} {σ : L2.St} {H : Hp} {s : Str}, EvD K (addM M p) te1 σ H (.str s) → EvD K (addM M p) te2 σ H (.str s) → EvT (tTest (tOp rNe te1 te2)) σ H false := fun h1 h2 => EvT.eq (et_test (ed_neS h1 h2)) (by simp)
  refine q_no (et_or (a := false) (b := false) (ne (ed_repr (M := M) (ed_var rfl dt) shz) (ed_repr (M := addM M p) (ed_var rfl d4) shz)) fun _ => et_or (a := false) (b := false)
    (ne (ed_repr (ed_beside w5' (qb.lb qa) zc (fun k => (zt k).trans (T_comm a b k)) (ea_cons (ed_var rfl d2) (ea_cons (ed_var rfl d1) ea_nil))) shz) (ed_repr (M := addM M p) (ed_var rfl d4) shz))
    fun _ => ne (ed_repr (ed_lst w5' (ea_cons (ed_var rfl d1) (ea_cons (ed_var rfl d2) ea_nil))) sh2) (ed_var rfl (.str _))) fun H6 e6 => ?_
  -- it grows
  show tSeq _ _ _ _ _
  refine ⟨.ref p, rfl, .inl ⟨rfl, _, .inl (.inl (e6 _ _ hp5))⟩, sz_ok (Nat.le_of_ble_eq_true rfl), fun u hu => ?_⟩
  have e67 := same_new (o := .tup [.int 1, .int 1]) hu
  refine ⟨p, ws, .ref u, rfl, rfl, e67 _ _ (e6 _ _ hp5), sz_lt (by rw [dps_len hws, List.length_map]; have := mz.l; omega), ?_⟩
  have e57 := e6.trans e67
  generalize hH7 : upd H6 u (.tup [.int 1, .int 1]) = H7 at e67 e57
  have b78 : But p H7 (upd H7 p (.lst (ws ++ [.ref u]))) := fun x o hx h => by rw [upd_ne hx]; exact h
  have w8 : Wd (addM M p) (upd H7 p (.lst (ws ++ [.ref u]))) := b78.wd (w5'.mono e57) (by rw [upd_same]; intro g; cases g)
  have m8 : Same (Hm (addM M p) H5) (Hm (addM M p) (upd H7 p (.lst (ws ++ [.ref u])))) := (hm_mono e57).trans (b78.hm addM_same)
  have f8 : Feed fa (n + 50) (upd H7 p (.lst (ws ++ [.ref u]))) := ((f4.same e5).same e57).at (upd_ne hpf)
  have b8 : But fa H (upd H7 p (.lst (ws ++ [.ref u]))) := fun x o hx h => by
    refine b78 x o (fun g => by rw [g, hpH] at h; cases h) (e57 _ _ (e5 _ _ (e4 _ _ (b3 _ _ hx h))))
  generalize upd H7 p (.lst (ws ++ [.ref u])) = H8 at w8 m8 f8 b8
  have d1 := d1.up m8
  have d2 := d2.up m8
  have d4 := d4.up m8
  clear b78 hH7 e67 e57 dt sk
  -- by names, the states
  show tSeq _ _ _ _ _
  refine q_no (et_or (a := false) (b := false) (ne (ed_repr (ed_besideK w8 (qa.lb qb) zc zt (ea_cons (ed_var rfl d2) (ea_cons (ed_var rfl d1) ea_nil))) shz) (ed_repr (M := addM M p) (ed_var rfl d4) shz))
    fun _ => EvT.eq (et_test (ed_neI (K := K) (M := addM M p) (i := (statesOn z' : Nat)) (j := (statesOn a * statesOn b : Nat)) (ed_call (res := fun x => nI (statesOn x)) z' w8 (ea_cons (ed_var rfl d4) ea_nil) ⟨sz_mono mz.s (by decide), Nat.le_trans mz.l (by decide)⟩)
      (ed_mulN (ed_call (res := fun x => nI (statesOn x)) a w8 (ea_cons (ed_var rfl d1) ea_nil) ⟨sz_mono qa.s (by decide), Nat.le_trans la (by decide)⟩) (ed_call (res := fun x => nI (statesOn x)) b w8 (ea_cons (ed_var rfl d2) ea_nil) ⟨sz_mono qb.s (by decide), Nat.le_trans lb (by decide)⟩) (states_small qa) (states_small qb) (by decide)))) (by rw [states_mul zt]; simp)) fun H9 e9 => ?_
  have w9 := w8.mono e9
  have d1 := d1.up (hm_mono e9)
  have d2 := d2.up (hm_mono e9)
  have f9 := f8.same e9
  have b9 := b8.trans (But.of e9)
  -- with one ring of one day, with none
  have one : ∀ {σ : L2.St} {H : Hp}, Wd (addM M p) H → EvD K (addM M p) (tLst (tCons (tTup (tCons (tC (.int 1)) (tCons (tC (.int 1)) tNil))) tNil)) σ H (pairsD [(1, 1)]) := fun w => ed_lst w (ea_cons (ed_tup w (ea_cons (ed_nat (n := 1)) (ea_cons (ed_nat (n := 1)) ea_nil))) ea_nil)
  have non : ∀ {σ : L2.St} {H : Hp}, Wd (addM M p) H → EvD K (addM M p) (tLst tNil) σ H (pairsD []) := fun w => ed_lst w ea_nil
  show tSeq _ _ _ _ _
  refine q_no (et_or (a := false) (b := false) (et_test (ed_nePairs (z := a) (ed_beside w9 (qa.lb one_drawn) qa.c (fun k => (T_one a k).symm) (ea_cons (ed_var rfl d1) (ea_cons (one w9) ea_nil))) (ed_var rfl d1)))
    fun _ => et_or (a := false) (b := false) (et_test (ed_nePairs (z := a) (ed_beside w9 (one_drawn.lb qa) qa.c (fun k => (T_one a k).symm.trans (T_comm a [(1, 1)] k)) (ea_cons (one w9) (ea_cons (ed_var rfl d1) ea_nil))) (ed_var rfl d1)))
    fun _ => et_or (a := false) (b := false) (et_test (ed_nePairs (z := []) (ed_beside w9 (qa.lb nil_drawn) nil_canon (fun k => (T_none a k).symm) (ea_cons (ed_var rfl d1) (ea_cons (non w9) ea_nil))) (non w9)))
    fun _ => et_test (ed_nePairs (z := []) (ed_beside w9 (nil_drawn.lb qa) nil_canon (fun k => (T_none a k).symm.trans (T_comm a [] k)) (ea_cons (non w9) (ea_cons (ed_var rfl d1) ea_nil))) (non w9))) fun H10 e10 => ?_
  have w10 := w9.mono e10
  have d1 := d1.up (hm_mono e10)
  have d2 := d2.up (hm_mono e10)
  have f10 := f9.same e10
  have b10 := b9.trans (But.of e10)
  -- three lists
  show tSeq _ _ _ _ _
  refine q_asgF (M := addM M p) (B := 36) (R := LstP K (fun d => ∃ z, DrawnQ z ∧ d = pairsD z) 3) f10 (upT (by omega)) (ef_map (K := K) (xs := List.range 3) (enc := fun i => .int (i : Nat)) (B := 12) hm5 w10 (fun H1 b z => src_rng (n := 3) (z := 3) (ea_cons ed_int ea_nil) rfl (by decide)) (by decide) (fun _ => rfl) fun i hi M' H' x sub s' w' hx =>
    ef_imp (ef_drawn (K := K) (B1 := 1) (B2 := 0) (S := fun i => i ∈ [4, 12, 60]) (T := fun i => i = 5) (sub _ hm5) w' rfl (ef_oneI (K := K) (ns := [4, 12, 60]) (sub _ hm5) w' rfl (fun H1 b z => ed_lst (b.wd w' z) (ea_cons ed_int (ea_cons ed_int (ea_cons ed_int ea_nil)))) (by decide) (by decide)) (ef_natP (K := K) (i := 5) (fun _ _ => ed_int) rfl) few3'' (n_ok n5) (by decide)) fun H v ⟨z, hz, hd⟩ => ⟨pairsD z, ⟨z, hz, rfl⟩, hd⟩) fun v6 H11 b11 f11 h6 => ?_
  obtain ⟨d6, ⟨ds, rfl, hds, hall⟩, h6⟩ := h6
  match ds, hds, hall, h6 with
  | [x0, x1, x2], _, hall, h6 =>
  obtain ⟨g0, q0, rfl⟩ := hall x0 (by simp)
  obtain ⟨g1, q1, rfl⟩ := hall x1 (by simp)
  obtain ⟨g2, q2, rfl⟩ := hall x2 (by simp)
  have w11 : Wd (addM M p) H11 := b11.wd' w10 f11
  have d1 := L2.Dp.up d1 (b11.hm hm5)
  have d2 := L2.Dp.up d2 (b11.hm hm5)
  obtain ⟨y01, y01c, y01t, y01l⟩ := canon_of q0.c.pos q1.c.pos
  obtain ⟨y12, y12c, y12t, y12l⟩ := canon_of q1.c.pos q2.c.pos
  have m01 := made_of q0 q1 y01c y01t y01l
  have m12 := made_of q1 q2 y12c y12t y12l
  obtain ⟨y, yc, yt, yl⟩ := canon_of y01c.pos q2.c.pos
  have ok1 : LbOk y01 g2 := ⟨y01c, q2.c, sz_mono m01.s (by decide), sz_mono q2.s (by decide), Nat.le_trans m01.l (by decide), Nat.le_trans q2.l (by decide)⟩
  have ok2 : LbOk g0 y12 := ⟨q0.c, y12c, sz_mono q0.s (by decide), sz_mono m12.s (by decide), Nat.le_trans q0.l (by decide), Nat.le_trans m12.l (by decide)⟩
  have ix : ∀ {j : Nat} {d : PyData} {σ : L2.St}, σ[6]? = some (some v6) → [pairsD g0, pairsD g1, pairsD g2][j]? = some d → EvD K (addM M p) (tOp (rIx K) (tVar 6) (tC (.int (j : Nat)))) σ H11 d := fun hs hj => ed_ixL' (ed_var hs h6) ed_nat rfl hj
  show tSeq _ _ _ _ _
  refine q_no (et_test (ed_nePairs (z := y) (ed_beside w11 ok1 yc yt (ea_cons (ed_beside w11 (q0.lb q1) y01c y01t (ea_cons (ix (j := 0) rfl rfl) (ea_cons (ix (j := 1) rfl rfl) ea_nil))) (ea_cons (ix (j := 2) rfl rfl) ea_nil)))
    (ed_beside w11 ok2 yc (fun k => (yt k).trans (tal_three q0.c.pos q1.c.pos q2.c.pos y01t y12t k)) (ea_cons (ix (j := 0) rfl rfl) (ea_cons (ed_beside w11 (q1.lb q2) y12c y12t (ea_cons (ix (j := 1) rfl rfl) (ea_cons (ix (j := 2) rfl rfl) ea_nil))) ea_nil))))) fun H12 e12 => ?_
  have w12 := w11.mono e12
  have d1 := d1.up (hm_mono e12)
  have d2 := d2.up (hm_mono e12)
  have f12 := f11.same e12
  -- one bad thing for each
  have oneBad : ∀ {i : Nat} {v : V} {σ : L2.St} {zs : List (Nat × Nat)}, σ[0]? = some (some (.ref fa)) → σ[i]? = some (some v) → DrawnQ zs → Dp K (Hm (addM M p) H12) v (pairsD zs) → EvF fa 2 (addM M p) (tCall (spI (preOne K) 1 fun xs _ v => v ∈ xs) [] E0 (tCons (tVar 0) (tCons (tCall (spI (preBadL K) 1 fun _ H v => BadsV K H v) [] E0 (tCons (tVar 0) (tCons (tVar i) tNil))) tNil))) σ H12 (BadV K) := fun {i v σ zs} h0 hi qz dz =>
    ef_imp (ef_callU (B := 1) (B1 := 1) (pre := preOne K) (post := fun xs _ v => v ∈ xs) hm5 w12 h0 (fun xs H => ∀ x ∈ xs, BadV K H x) (fun _ _ _ e h x hx => up_badV _ _ _ e (h x hx)) (efa_imp (efa_cons (B1 := 1) (B2 := 0) (R := BadsV K) hm5 up_badsV (ef_call (B := 1) (B1 := 0) (pre := preBadL K) (post := fun _ H v => BadsV K H v) zs hm5 w12 h0 (efa_imp (efa_cons (B1 := 0) (B2 := 0) (R := fun H v => Dp K H v (pairsD zs)) hm5 up_dp (ef_purew fun H2 b _ => EvD.r (ed_var hi (L2.Dp.up dz (b.hm hm5)))) efa_nil) fun H vs ⟨x, r, e1, g1, e2⟩ => ⟨qz.c, qz.l, x, by rw [e1, e2], g1⟩)) efa_nil) fun H vs ⟨x, r, e1, ⟨pb, xs, e2, g1, g2, g3, g4⟩, e3⟩ => ⟨xs, g4, g2, g3, pb, by rw [e1, e2, e3], .inl (.inl g1)⟩)) fun H v ⟨xs, g1, g2⟩ => g1 v g2
  show tSeq (tPar 7 8 _) _ _ _ _
  refine efa_use (M := addM M p) (B := 4) (P := fun H vs => ∃ x y, vs = [x, y] ∧ BadV K H x ∧ BadV K H y) (efa_imp (efa_cons (B1 := 2) (B2 := 2) (R := BadV K) hm5 up_badV (oneBad rfl rfl qa d1) (efa_cons (B1 := 2) (B2 := 0) (R := BadV K) hm5 up_badV (oneBad rfl rfl qb d2) efa_nil)) fun H vs ⟨x, r, e1, g1, y, r2, e2, g2, e3⟩ => ⟨x, y, by rw [e1, e2, e3], g1, g2⟩) f12 (upT (by omega)) fun vs H13 b13 f13 hv => ?_
  obtain ⟨v7, v8, rfl, bad7, bad8⟩ := hv
  refine ⟨v7, v8, rfl, ?_⟩
  have w13 : Wd (addM M p) H13 := b13.wd' w12 f13
  have d1 := L2.Dp.up d1 (b13.hm hm5)
  have d2 := L2.Dp.up d2 (b13.hm hm5)
  -- the words
  have word : ∀ {i j : Nat} {v u : V} {σ : L2.St}, σ[i]? = some (some v) → σ[j]? = some (some u) → (BadV K (Hm (addM M p) H13) v ∨ (GoodV K (Hm (addM M p) H13) v ∧ BadV K (Hm (addM M p) H13) u)) → EvD K (addM M p) (tCall (spR (WordPre K) (fun x H v => Dp K H v (.str (wordOf2 x)))) [] E0 (tCons (tVar i) (tCons (tVar j) tNil))) σ H13 (.str "lengths") := fun {i j v u σ} hi hj hb =>
    ed_callR (res := fun x => .str (wordOf2 x)) none w13 fun H1 e Q q => ⟨v, hi, u, hj, q _ H1 (Same.refl _) ⟨v, u, rfl, hb.imp (up_badV _ _ _ (hm_mono e)) fun g => ⟨up_goodV _ _ _ (hm_mono e) g.1, up_badV _ _ _ (hm_mono e) g.2⟩⟩⟩
  have good : GoodV K (Hm (addM M p) H13) v1 := good_of qa.c la d1
  refine s_ret (EvD.eq (ed_eqD (K := K) (M := addM M p) (a := wordsD) (b := wordsD) (ed_lst w13 (ea_cons (word rfl rfl (.inl bad7)) (ea_cons (word rfl rfl (.inr ⟨good, bad8⟩)) (ea_cons (word rfl rfl (.inl bad7)) (ea_cons (ed_callR (res := fun x => .str (wordOf2 x)) (some (a, b)) w13 fun H1 e Q q => ⟨v1, rfl, v2, rfl, q _ H1 (Same.refl _) ⟨v1, v2, rfl, qa.lb qb, d1.up (hm_mono e), d2.up (hm_mono e)⟩⟩) ea_nil)))))
    (EvD.eq (ed_catL w13 (ed_repS w13 (ed_nat (n := 3)) (by decide)) (ed_lst w13 (ea_cons ed_str ea_nil)) (by decide)) rfl) words_shaped words_shaped) (by rw [words_eq])) fun v H14 e14 hv => q v H14 (((b10.trans b11).trans (But.of e12)).trans (b13.trans (But.of e14))) ((f13.same e14).up (by omega)) (dp_bl hv)
end
end EIT
end
/-! text L18 -/
section
set_option maxHeartbeats 4000000
/-! the law. -/
namespace EIT
open PySem PySem.Spec PyProof.Rows L2
section
variable {P : Program} {w : World} {K : PySem.W.Frag} {mg : Str → Option Value} {base : Heap}
/-- the law's promise: True, whatever the script -/
def spLaw (K : PySem.W.Frag) : Sp := fun vs H Q _ => ∃ (a : Addr) (ns : List Int), vs = [.ref a] ∧ SqL K H a (ns.map V.int) ∧ ns.length ≤ 63 ∧ (∀ z ∈ ns, Builtin.Int.intBits z ≤ 1048576) ∧ ∀ H', Q (.bl true) H'
theorem sc_law : FnScope ["_law_script", "_law_k", "_law_feed_here"] ["_law_script"] (defScope s_law) := ⟨rfl, rfl, rfl, by decide +kernel, rfl, by decide +kernel, by decide +kernel⟩
theorem ok_law (T : Tx K mg) {C D : Addr} (B : BadF K mg C D) : CalG P w K mg base 12 "law" ["_law_script"] (spLaw K) := by
  have blk := okK_beside_lengths (P := P) (w := w) (base := base) T B.bg B.bq B.bk B.bs B.bt
  have lr := ok_law_lists_right (P := P) (w := w) (base := base) T B
  have hl := ok_law_halls_right (P := P) (w := w) (base := base) T blk.x
  refine mkG T.d_law sc_law (fun vs H Q h => by obtain ⟨a, ns, rfl, _⟩ := h; rfl) (fun _ _ _ _ _ _ us hl => match us, hl with | [_], _ => rfl) fun f cdv A outer s H vs Q hgd hr h => ?_
  obtain ⟨a, ns, rfl, hs, hl63, hbits, q⟩ := h
  refine ⟨_, (pss_cons (ps_for PassesOwn.never rfl (pi_range1 (by rfl) T.b_range (pa_cons (pe_callB (call_max2 rfl) (by rfl) T.b_max (by decide +kernel) (pa_cons pe_int (pa_cons (pe_callB (call_min2 rfl) (by rfl) T.b_min (by decide +kernel) (pa_cons (pe_callB (call_len_seqK K) (by rfl) T.b_len (by decide +kernel) (pa_cons (pv 0) pa_nil)) (pa_cons pe_int pa_nil))) pa_nil))) pa_nil)) (pg_name (i := 1) sc_law.nd rfl (.inl rfl)) (pss_cons (ps_set (i := 2) sc_law.nd rfl (.inl rfl) (pe_cal (ok_law_feed T) (hr.mono (by decide)) (by rfl) (pa_cons (pv 0) (pa_cons (pv 1) pa_nil))))
      (pss_one (ps_if (PW.pt (pw_or (pt_not (pt_val (pe_calG lr hgd (hr.mono (by decide)) (by rfl) (pa_cons (pv 2) pa_nil)))) (pw_or1 (pt_not (pt_val (pe_cal hl (hr.mono (by decide)) (by rfl) (pa_cons (pv 2) pa_nil))))))) (pss_one (ps_ret pe_bl)) pss_nil))))
      (pss_one (ps_ret pe_bl))), ?_⟩
  have wd : Wd noM H := wd_no H
  have dv : Dp K (Hm noM H) (.ref a) (.list (ns.map .int)) := by
    rw [hm_no]
    exact .lst hs (dps_of_ints ns)
  have hlen : EvD K noM (tCB (fun xs H Q => ∃ p ys, xs = [.ref p] ∧ (SqL K H p ys ∨ SqT K H p ys) ∧ Q (.int ys.length) H) (tCons (tVar 0) tNil)) (L2.start ["_law_script", "_law_k", "_law_feed_here"] [.ref a]) H (nI ns.length) := (ed_lenL (ed_var rfl dv)).eq (by rw [List.length_map]; rfl)
  show tSeq _ _ _ _ _
  refine q_for (K := K) (M := noM) (src_rng (n := max 1 (min ns.length 3)) (z := ((max 1 (min ns.length 3) : Nat) : Int)) (ea_cons (ed_max2 (ed_nat (n := 1)) (ed_min2 hlen (ed_nat (n := 3)))) ea_nil) rfl (by omega)) fun H2 e2 => ⟨fun i σ' H' => ∃ y1 y2, σ' = [some (.ref a), y1, y2] ∧ Same H2 H', ?_, ?_, ?_, ?_⟩
  · exact ⟨none, none, rfl, Same.refl _⟩
  · rintro i σ' H' ⟨y1, y2, rfl, e⟩
    exact ⟨hm_mono e, wd_no H'⟩
  · rintro i d x σ' H' H3 hd ⟨y1, y2, rfl, e⟩ e3 hx
    have hi : i < max 1 (min ns.length 3) := by
      obtain ⟨g, _⟩ := List.getElem?_eq_some_iff.mp hd
      rw [List.length_map, List.length_range] at g
      exact g
    have hdi : d = .int (i : Nat) := by
      rw [List.getElem?_map, List.getElem?_range hi] at hd
      exact (Option.some.inj hd).symm
    subst hdi
    cases dp_int hx
    have e23 := e.trans e3
    show tSeq _ _ _ _ _
    refine ⟨.ref a, rfl, .int (i : Nat), rfl, noM, ns, i, .ref a, wd_no H3, by omega, by omega, hbits, rfl, dv.up (hm_mono (e2.trans e23)), fun L H4 e4 hL f4 => ?_⟩
    have hL2 : H2 L = none := by
      cases g : H2 L with
      | none => rfl
      | some o => rw [e23 _ _ g] at hL; cases hL
    have wL : Wd (addM noM L) H4 := wd_add (wd_no H4) f4.there
    dsimp only [gName]
    refine ⟨.ref L, rfl, addM noM L, L, 0, (), [], wL, addM_same, f4, by decide, rfl, rfl, fun v H5 b5 f5 hv => ⟨true, hv, iteF ?_⟩⟩
    refine ⟨.ref L, rfl, addM noM L, L, 0 + 200, (), [], b5.wd' wL f5, addM_same, f5, by decide, rfl, rfl, fun v H6 b6 f6 hv => ⟨true, hv, iteF ?_⟩⟩
    exact ⟨_, _, rfl, fun b o hb => (b5.trans b6) b o (fun g => by rw [g, hL2] at hb; cases hb) (e4 _ _ (e23 _ _ hb))⟩
  · rintro σ' H' ⟨y1, y2, rfl, e⟩
    exact s_ret (K := K) (M := noM) ed_bl fun v H3 e3 hv => by
      rw [dp_bl hv]
      exact q H3
end
end EIT
end
/-! text Fin -/
section
set_option maxHeartbeats 0
/-! the end: the head's facts, the call of the law, the statement. -/
namespace EIT
open PySem PySem.Spec PyProof.Rows L2
section
variable {K : PySem.W.Frag} {h : Heap} {mg : Str → Option Value}
theorem df_of (X : K.In h) (G : h.Ns mainGlobals mg) {x q : Str} {d : He.DefD} {st : Stmt} (e : ∃ fd, FunD K d.name d.qual d.params d.body d.scope (d.dvs K) (d.kws K) (He.fAd K d.at_) fd) (hd : d = ⟨(x, none), x, q, defArgs st, defBody st, defScope st, [], []⟩) (c : (He.Fa.glo x).ok K = true) : Df K mg x q st := by
  subst hd
  obtain ⟨fd, F⟩ := e
  exact ⟨_, fd, F, He.glo_ok X G c⟩
theorem both {a b : Bool} (h : (a && b) = true) : a = true ∧ b = true := Bool.and_eq_true_iff.mp h
theorem exB_ok {C : Addr} (e : exB K C = true) (hs : PySem.W.subIn K (.ref C) (.type "BaseException") = some true) : ExcC K C := by
  unfold exB at e
  obtain ⟨e1, e⟩ := both e
  obtain ⟨e2, e⟩ := both e
  obtain ⟨e3, e⟩ := both e
  obtain ⟨e4, e⟩ := both e
  obtain ⟨e5, e⟩ := both e
  obtain ⟨e6, e⟩ := both e
  obtain ⟨e7, _⟩ := both e
  exact ⟨He.eqO_ok e1, He.eqO_ok e2, hs, e3, He.eqO_ok e4, He.eqO_ok e5, of_decide_eq_true e6, of_decide_eq_true e7⟩
theorem bad_of (X : K.In h) (G : h.Ns mainGlobals mg) (c : He.SaysD fa fn K) (e : ex K = true) : BadF K mg (He.ga K "BadLengths") (He.ga K "TurnError") := by
  obtain ⟨x1, x2, x3, x4⟩ := He.exc_ok (c.fact 103 (f := .exc "BadLengths") rfl)
  exact ⟨He.glo_ok X G (c.fact 68 (f := .glo "BadLengths") rfl), He.glo_ok X G (c.fact 69 (f := .glo "TurnError") rfl), x1, x2, x3, x4, He.exm_ok (c.fact 104 (f := .exm "BadLengths" "TurnError" true) rfl), exB_ok (both e).2 x3⟩
theorem tx_of (X : K.In h) (G : h.Ns mainGlobals mg) (c : He.SaysD fa fn K) (e : ex K = true) : Tx K mg := by
  obtain ⟨e1, _⟩ := both e
  obtain ⟨e1, e2⟩ := both e1
  obtain ⟨x1, x2, x3, x4⟩ := He.exc_ok (c.fact 103 (f := .exc "BadLengths") rfl)
  have d0 := df_of X G (x := "is_integer") (q := "is_integer") (d := d0) (c.def_ 0 (d := d0) rfl) rfl (c.fact 0 (f := .glo "is_integer") rfl)
  have d1 := df_of X G (x := "is_within") (q := "is_within") (d := d1) (c.def_ 1 (d := d1) rfl) rfl (c.fact 1 (f := .glo "is_within") rfl)
  have d2 := df_of X G (x := "is_name") (q := "is_name") (d := d2) (c.def_ 2 (d := d2) rfl) rfl (c.fact 2 (f := .glo "is_name") rfl)
  have d3 := df_of X G (x := "is_row_of") (q := "is_row_of") (d := d3) (c.def_ 3 (d := d3) rfl) rfl (c.fact 3 (f := .glo "is_row_of") rfl)
  have d4 := df_of X G (x := "are_unlike") (q := "are_unlike") (d := d4) (c.def_ 4 (d := d4) rfl) rfl (c.fact 4 (f := .glo "are_unlike") rfl)
  have d5 := df_of X G (x := "are_numbers") (q := "are_numbers") (d := d5) (c.def_ 5 (d := d5) rfl) rfl (c.fact 5 (f := .glo "are_numbers") rfl)
  have d6 := df_of X G (x := "power") (q := "power") (d := d6) (c.def_ 6 (d := d6) rfl) rfl (c.fact 6 (f := .glo "power") rfl)
  have d7 := df_of X G (x := "are_places") (q := "are_places") (d := d7) (c.def_ 7 (d := d7) rfl) rfl (c.fact 7 (f := .glo "are_places") rfl)
  have d8 := df_of X G (x := "is_road") (q := "is_road") (d := d8) (c.def_ 8 (d := d8) rfl) rfl (c.fact 8 (f := .glo "is_road") rfl)
  have d9 := df_of X G (x := "is_web_form") (q := "is_web_form") (d := d9) (c.def_ 9 (d := d9) rfl) rfl (c.fact 9 (f := .glo "is_web_form") rfl)
  have d10 := df_of X G (x := "is_order") (q := "is_order") (d := d10) (c.def_ 10 (d := d10) rfl) rfl (c.fact 10 (f := .glo "is_order") rfl)
  have d11 := df_of X G (x := "need_order") (q := "need_order") (d := d11) (c.def_ 11 (d := d11) rfl) rfl (c.fact 11 (f := .glo "need_order") rfl)
  have d12 := df_of X G (x := "have_road") (q := "have_road") (d := d12) (c.def_ 12 (d := d12) rfl) rfl (c.fact 12 (f := .glo "have_road") rfl)
  have d13 := df_of X G (x := "neighbours_of") (q := "neighbours_of") (d := d13) (c.def_ 13 (d := d13) rfl) rfl (c.fact 13 (f := .glo "neighbours_of") rfl)
  have d14 := df_of X G (x := "is_table") (q := "is_table") (d := d14) (c.def_ 14 (d := d14) rfl) rfl (c.fact 14 (f := .glo "is_table") rfl)
  have d15 := df_of X G (x := "is_sum_table") (q := "is_sum_table") (d := d15) (c.def_ 15 (d := d15) rfl) rfl (c.fact 15 (f := .glo "is_sum_table") rfl)
  have d16 := df_of X G (x := "is_rule_for") (q := "is_rule_for") (d := d16) (c.def_ 16 (d := d16) rfl) rfl (c.fact 16 (f := .glo "is_rule_for") rfl)
  have d17 := df_of X G (x := "is_rule") (q := "is_rule") (d := d17) (c.def_ 17 (d := d17) rfl) rfl (c.fact 17 (f := .glo "is_rule") rfl)
  have d18 := df_of X G (x := "is_hall_form") (q := "is_hall_form") (d := d18) (c.def_ 18 (d := d18) rfl) rfl (c.fact 18 (f := .glo "is_hall_form") rfl)
  have d19 := df_of X G (x := "need_hall") (q := "need_hall") (d := d19) (c.def_ 19 (d := d19) rfl) rfl (c.fact 19 (f := .glo "need_hall") rfl)
  have d20 := df_of X G (x := "number_of_digits") (q := "number_of_digits") (d := d20) (c.def_ 20 (d := d20) rfl) rfl (c.fact 20 (f := .glo "number_of_digits") rfl)
  have d21 := df_of X G (x := "digits_of") (q := "digits_of") (d := d21) (c.def_ 21 (d := d21) rfl) rfl (c.fact 21 (f := .glo "digits_of") rfl)
  have d22 := df_of X G (x := "next_by_word") (q := "next_by_word") (d := d22) (c.def_ 22 (d := d22) rfl) rfl (c.fact 22 (f := .glo "next_by_word") rfl)
  have d23 := df_of X G (x := "neighbour_numbers") (q := "neighbour_numbers") (d := d23) (c.def_ 23 (d := d23) rfl) rfl (c.fact 23 (f := .glo "neighbour_numbers") rfl)
  have d24 := df_of X G (x := "table_in") (q := "table_in") (d := d24) (c.def_ 24 (d := d24) rfl) rfl (c.fact 24 (f := .glo "table_in") rfl)
  have d25 := df_of X G (x := "all_states") (q := "all_states") (d := d25) (c.def_ 25 (d := d25) rfl) rfl (c.fact 25 (f := .glo "all_states") rfl)
  have d26 := df_of X G (x := "index_at") (q := "index_at") (d := d26) (c.def_ 26 (d := d26) rfl) rfl (c.fact 26 (f := .glo "index_at") rfl)
  have d27 := df_of X G (x := "numbers_of") (q := "numbers_of") (d := d27) (c.def_ 27 (d := d27) rfl) rfl (c.fact 27 (f := .glo "numbers_of") rfl)
  have d28 := df_of X G (x := "steps_at") (q := "steps_at") (d := d28) (c.def_ 28 (d := d28) rfl) rfl (c.fact 28 (f := .glo "steps_at") rfl)
  have d29 := df_of X G (x := "steps_in") (q := "steps_in") (d := d29) (c.def_ 29 (d := d29) rfl) rfl (c.fact 29 (f := .glo "steps_in") rfl)
  have d30 := df_of X G (x := "day_numbers") (q := "day_numbers") (d := d30) (c.def_ 30 (d := d30) rfl) rfl (c.fact 30 (f := .glo "day_numbers") rfl)
  have d31 := df_of X G (x := "last_ones") (q := "last_ones") (d := d31) (c.def_ 31 (d := d31) rfl) rfl (c.fact 31 (f := .glo "last_ones") rfl)
  have d32 := df_of X G (x := "ring_from") (q := "ring_from") (d := d32) (c.def_ 32 (d := d32) rfl) rfl (c.fact 32 (f := .glo "ring_from") rfl)
  have d33 := df_of X G (x := "rings_in") (q := "rings_in") (d := d33) (c.def_ 33 (d := d33) rfl) rfl (c.fact 33 (f := .glo "rings_in") rfl)
  have d34 := df_of X G (x := "joined_hall") (q := "joined_hall") (d := d34) (c.def_ 34 (d := d34) rfl) rfl (c.fact 34 (f := .glo "joined_hall") rfl)
  have d35 := df_of X G (x := "can_join") (q := "can_join") (d := d35) (c.def_ 35 (d := d35) rfl) rfl (c.fact 35 (f := .glo "can_join") rfl)
  have d36 := df_of X G (x := "are_turns") (q := "are_turns") (d := d36) (c.def_ 36 (d := d36) rfl) rfl (c.fact 36 (f := .glo "are_turns") rfl)
  have d37 := df_of X G (x := "woven") (q := "woven") (d := d37) (c.def_ 37 (d := d37) rfl) rfl (c.fact 37 (f := .glo "woven") rfl)
  have d38 := df_of X G (x := "are_lengths") (q := "are_lengths") (d := d38) (c.def_ 38 (d := d38) rfl) rfl (c.fact 38 (f := .glo "are_lengths") rfl)
  have d39 := df_of X G (x := "lengths_beside") (q := "lengths_beside") (d := d39) (c.def_ 39 (d := d39) rfl) rfl (c.fact 39 (f := .glo "lengths_beside") rfl)
  have d40 := df_of X G (x := "need_both") (q := "need_both") (d := d40) (c.def_ 40 (d := d40) rfl) rfl (c.fact 40 (f := .glo "need_both") rfl)
  have d41 := df_of X G (x := "beside") (q := "beside") (d := d41) (c.def_ 41 (d := d41) rfl) rfl (c.fact 41 (f := .glo "beside") rfl)
  have d42 := df_of X G (x := "woven_order") (q := "woven_order") (d := d42) (c.def_ 42 (d := d42) rfl) rfl (c.fact 42 (f := .glo "woven_order") rfl)
  have d43 := df_of X G (x := "beside_lengths") (q := "beside_lengths") (d := d43) (c.def_ 43 (d := d43) rfl) rfl (c.fact 43 (f := .glo "beside_lengths") rfl)
  have d44 := df_of X G (x := "need_two") (q := "need_two") (d := d44) (c.def_ 44 (d := d44) rfl) rfl (c.fact 44 (f := .glo "need_two") rfl)
  have d45 := df_of X G (x := "ring_lengths") (q := "ring_lengths") (d := d45) (c.def_ 45 (d := d45) rfl) rfl (c.fact 45 (f := .glo "ring_lengths") rfl)
  have d46 := df_of X G (x := "_law_feed") (q := "_law_feed") (d := d46) (c.def_ 46 (d := d46) rfl) rfl (c.fact 46 (f := .glo "_law_feed") rfl)
  have d47 := df_of X G (x := "_law_draw") (q := "_law_draw") (d := d47) (c.def_ 47 (d := d47) rfl) rfl (c.fact 47 (f := .glo "_law_draw") rfl)
  have d48 := df_of X G (x := "_law_one") (q := "_law_one") (d := d48) (c.def_ 48 (d := d48) rfl) rfl (c.fact 48 (f := .glo "_law_one") rfl)
  have d49 := df_of X G (x := "_law_mixed") (q := "_law_mixed") (d := d49) (c.def_ 49 (d := d49) rfl) rfl (c.fact 49 (f := .glo "_law_mixed") rfl)
  have d50 := df_of X G (x := "_law_names") (q := "_law_names") (d := d50) (c.def_ 50 (d := d50) rfl) rfl (c.fact 50 (f := .glo "_law_names") rfl)
  have d51 := df_of X G (x := "_law_web") (q := "_law_web") (d := d51) (c.def_ 51 (d := d51) rfl) rfl (c.fact 51 (f := .glo "_law_web") rfl)
  have d52 := df_of X G (x := "_law_neighbours") (q := "_law_neighbours") (d := d52) (c.def_ 52 (d := d52) rfl) rfl (c.fact 52 (f := .glo "_law_neighbours") rfl)
  have d53 := df_of X G (x := "_law_rule") (q := "_law_rule") (d := d53) (c.def_ 53 (d := d53) rfl) rfl (c.fact 53 (f := .glo "_law_rule") rfl)
  have d54 := df_of X G (x := "_law_hall") (q := "_law_hall") (d := d54) (c.def_ 54 (d := d54) rfl) rfl (c.fact 54 (f := .glo "_law_hall") rfl)
  have d55 := df_of X G (x := "_law_order") (q := "_law_order") (d := d55) (c.def_ 55 (d := d55) rfl) rfl (c.fact 55 (f := .glo "_law_order") rfl)
  have d56 := df_of X G (x := "_law_renamed") (q := "_law_renamed") (d := d56) (c.def_ 56 (d := d56) rfl) rfl (c.fact 56 (f := .glo "_law_renamed") rfl)
  have d57 := df_of X G (x := "_law_common") (q := "_law_common") (d := d57) (c.def_ 57 (d := d57) rfl) rfl (c.fact 57 (f := .glo "_law_common") rfl)
  have d58 := df_of X G (x := "_law_due") (q := "_law_due") (d := d58) (c.def_ 58 (d := d58) rfl) rfl (c.fact 58 (f := .glo "_law_due") rfl)
  have d59 := df_of X G (x := "_law_drawn") (q := "_law_drawn") (d := d59) (c.def_ 59 (d := d59) rfl) rfl (c.fact 59 (f := .glo "_law_drawn") rfl)
  have d60 := df_of X G (x := "_law_states_on") (q := "_law_states_on") (d := d60) (c.def_ 60 (d := d60) rfl) rfl (c.fact 60 (f := .glo "_law_states_on") rfl)
  have d61 := df_of X G (x := "_law_bad_lengths") (q := "_law_bad_lengths") (d := d61) (c.def_ 61 (d := d61) rfl) rfl (c.fact 61 (f := .glo "_law_bad_lengths") rfl)
  have d62 := df_of X G (x := "_law_word") (q := "_law_word") (d := d62) (c.def_ 62 (d := d62) rfl) rfl (c.fact 62 (f := .glo "_law_word") rfl)
  have d63 := df_of X G (x := "_law_lists_right") (q := "_law_lists_right") (d := d63) (c.def_ 63 (d := d63) rfl) rfl (c.fact 63 (f := .glo "_law_lists_right") rfl)
  have d64 := df_of X G (x := "_law_halls_right") (q := "_law_halls_right") (d := d64) (c.def_ 64 (d := d64) rfl) rfl (c.fact 64 (f := .glo "_law_halls_right") rfl)
  have d65 := df_of X G (x := "law") (q := "law") (d := d65) (c.def_ 65 (d := d65) rfl) rfl (c.fact 65 (f := .glo "law") rfl)
  exact {
    d_is_integer := d0
    d_is_within := d1
    d_is_name := d2
    d_is_row_of := d3
    d_are_unlike := d4
    d_are_numbers := d5
    d_power := d6
    d_are_places := d7
    d_is_road := d8
    d_is_web_form := d9
    d_is_order := d10
    d_need_order := d11
    d_have_road := d12
    d_neighbours_of := d13
    d_is_table := d14
    d_is_sum_table := d15
    d_is_rule_for := d16
    d_is_rule := d17
    d_is_hall_form := d18
    d_need_hall := d19
    d_number_of_digits := d20
    d_digits_of := d21
    d_next_by_word := d22
    d_neighbour_numbers := d23
    d_table_in := d24
    d_all_states := d25
    d_index_at := d26
    d_numbers_of := d27
    d_steps_at := d28
    d_steps_in := d29
    d_day_numbers := d30
    d_last_ones := d31
    d_ring_from := d32
    d_rings_in := d33
    d_joined_hall := d34
    d_can_join := d35
    d_are_turns := d36
    d_woven := d37
    d_are_lengths := d38
    d_lengths_beside := d39
    d_need_both := d40
    d_beside := d41
    d_woven_order := d42
    d_beside_lengths := d43
    d_need_two := d44
    d_ring_lengths := d45
    d_law_feed := d46
    d_law_draw := d47
    d_law_one := d48
    d_law_mixed := d49
    d_law_names := d50
    d_law_web := d51
    d_law_neighbours := d52
    d_law_rule := d53
    d_law_hall := d54
    d_law_order := d55
    d_law_renamed := d56
    d_law_common := d57
    d_law_due := d58
    d_law_drawn := d59
    d_law_states_on := d60
    d_law_bad_lengths := d61
    d_law_word := d62
    d_law_lists_right := d63
    d_law_halls_right := d64
    d_law := d65
    b_isinstance := He.free_ok X G (c.fact 70 (f := .free "isinstance") rfl)
    b_len := He.free_ok X G (c.fact 71 (f := .free "len") rfl)
    b_all := He.free_ok X G (c.fact 72 (f := .free "all") rfl)
    b_any := He.free_ok X G (c.fact 73 (f := .free "any") rfl)
    b_set := He.free_ok X G (c.fact 74 (f := .free "set") rfl)
    b_tuple := He.free_ok X G (c.fact 75 (f := .free "tuple") rfl)
    b_sorted := He.free_ok X G (c.fact 76 (f := .free "sorted") rfl)
    b_range := He.free_ok X G (c.fact 77 (f := .free "range") rfl)
    b_zip := He.free_ok X G (c.fact 78 (f := .free "zip") rfl)
    b_min := He.free_ok X G (c.fact 79 (f := .free "min") rfl)
    b_max := He.free_ok X G (c.fact 80 (f := .free "max") rfl)
    b_sum := He.free_ok X G (c.fact 81 (f := .free "sum") rfl)
    b_int := He.free_ok X G (c.fact 82 (f := .free "int") rfl)
    b_list := He.free_ok X G (c.fact 83 (f := .free "list") rfl)
    b_enumerate := He.free_ok X G (c.fact 84 (f := .free "enumerate") rfl)
    b_dict := He.free_ok X G (c.fact 85 (f := .free "dict") rfl)
    b_repr := He.free_ok X G (c.fact 86 (f := .free "repr") rfl)
    b_bool := He.free_ok X G (c.fact 87 (f := .free "bool") rfl)
    b_str := He.free_ok X G (c.fact 88 (f := .free "str") rfl)
    i_MOST_SIGNS := He.int_ok X G (c.fact 89 (f := .int "MOST_SIGNS" 8) rfl)
    i_MOST_PLACES := He.int_ok X G (c.fact 90 (f := .int "MOST_PLACES" 8) rfl)
    i_MOST_ROADS := He.int_ok X G (c.fact 91 (f := .int "MOST_ROADS" 14) rfl)
    i_MOST_STATES := He.int_ok X G (c.fact 92 (f := .int "MOST_STATES" 256) rfl)
    i_LEAST_KIND := He.int_ok X G (c.fact 93 (f := .int "LEAST_KIND" 2) rfl)
    i_MOST_KIND := He.int_ok X G (c.fact 94 (f := .int "MOST_KIND" 3) rfl)
    i_MOST_NEEDED := He.int_ok X G (c.fact 95 (f := .int "MOST_NEEDED" 9) rfl)
    s_LETTERS := He.str_ok X G (c.fact 96 (f := .str "LETTERS" "abcdefghijklmnopqrstuvwxyz") rfl)
    s_DIGITS := He.str_ok X G (c.fact 97 (f := .str "DIGITS" "0123456789") rfl)
    g_gcd := PySem.W.mg_of X G (of_decide_eq_true e2)
    plain := ⟨He.ga K "PLAIN", He.glo_ok X G (c.fact 67 (f := .glo "PLAIN") rfl), fun H => He.tupB_ok e1 H⟩
    days := by
      obtain ⟨fd, F⟩ := c.def_ 66 (d := d66) rfl
      exact ⟨_, _, fd, He.glo_ok X G (c.fact 66 (f := .glo "Days") rfl), He.cls_ok (c.fact 98 (f := .cls "Days") rfl), He.mkr_ok (c.fact 99 (f := .mkr "Days") rfl), He.noat_ok (c.fact 100 (f := .noat "Days" "held_hall") rfl), He.noat_ok (c.fact 101 (f := .noat "Days" "states") rfl), He.noat_ok (c.fact 102 (f := .noat "Days" "table") rfl), F⟩
    bad := ⟨_, _, He.glo_ok X G (c.fact 68 (f := .glo "BadLengths") rfl), He.glo_ok X G (c.fact 69 (f := .glo "TurnError") rfl), x1, x2, x3, x4, He.exm_ok (c.fact 104 (f := .exm "BadLengths" "TurnError" true) rfl), He.exm_ok (c.fact 105 (f := .exm "BadLengths" "BadLengths" true) rfl), He.keep_ok (c.fact 107 (f := .keep "TurnError") rfl)⟩ }
end
/-- the law's call, from its promise: what is told of is at most the script, which no one changes; the rest is the base -/
theorem law_end {P : Program} {w : World} {K : PySem.W.Frag} {mg mb : Str → Option Value} {k : Nat} {fl a : Addr} {x y : Str} {sp : Sp} {s : Shared} {vs : List Value} {ns : List Int}
    (kin : K.In s.heap) (hm : s.heap.Ns mainGlobals mg) (hb : s.heap.Ns builtinsNs mb) (hbb : ∀ x : Str, x ≠ "__name__" → mb x = bootBuiltins x) (lim : s.heap.NoLimit) (hg : s.gens = #[])
    (ha : s.heap.get? a = some { cls := .type "list", data := .seq vs.toArray }) (hi : IntsAre vs ns) (hl : ns.length ≤ sizeLine) (hr : Room k callerA) (hf : mg x = some (.ref fl))
    (F : ∀ base : Heap, CalG P w K mg base k x [y] sp) (hsp : ∀ H : Hp, SqL K H a (ns.map V.int) → sp [.ref a] H (fun v _ => v = .bl true) E0) :
    codeAny (model P w) callerA (.call (.ref fl) ⟨[.ref a], []⟩) (fun r s' => r = .ok (.ret (.bool true)) ∧ OldK s.heap s'.heap ∧ s'.os = s.os ∧ AllBare s'.gens) s := by
  have vals := vals_ints hi
  have vlen := hi.length
  have main : ∀ H : Hp, (∀ b u, H b = some u → b = a ∧ K.lookup a = none ∧ ∃ o xs, u = .frz o (.lst xs)) → SqL K H a (ns.map V.int) → HOk P w H s.heap →
      codeAny (model P w) callerA (.call (.ref fl) ⟨[.ref a], []⟩) (fun r s' => r = .ok (.ret (.bool true)) ∧ OldK s.heap s'.heap ∧ s'.os = s.os ∧ AllBare s'.gens) s := by
    intro H only hS hok
    have free : ∀ b, b ≠ a → H b = none := fun b hne => by
      cases g : H b with
      | none => rfl
      | some u => exact absurd (only b u g).1 hne
    have stay : ∀ {b : Addr} {o : Obj}, s.heap.get? b = some o → b ≠ a → (hidT s.heap H).get? b = some o := fun g hne => hidT_get g (free _ hne)
    have names : ∀ {b : Addr} {m : Str → Option Value}, s.heap.Ns b m → (hidT s.heap H).Ns b m := by
      rintro b m ⟨o, es, ep, g, hd, rest⟩
      refine ⟨o, es, ep, stay g fun z => ?_, hd, rest⟩
      subst z
      rw [ha] at g
      cases g
      cases hd
    have kinB : K.In (hidT s.heap H) := fun b o g => hidT_get (kin b o g) (by
      cases z : H b with
      | none => rfl
      | some u =>
        obtain ⟨e1, e2, _⟩ := only b u z
        rw [e1, e2] at g
        cases g)
    have mod : Mod K mg (hidT s.heap H) := ⟨kinB, names hm, ⟨mb, names hb, hbb⟩, by
      obtain ⟨mc, g1, g2⟩ := lim
      exact ⟨mc, names g1, g2⟩⟩
    have env : Env0 P w K mg (hidT s.heap H) callerA [] s H := ⟨rfl, mod, fun b o g => of_hidT g, Nat.le_of_eq (hidT_size _ _), trivial, fun b g => absurd (show b ∈ ([] : List Addr) from g) List.not_mem_nil, hok, .of_eq hg⟩
    obtain ⟨f, fd, G, gf, _, bind⟩ := F (hidT s.heap H)
    rw [hf] at gf
    cases gf
    have bd := bind s [.ref a] kin rfl
    refine codeAny_mono (G.goes (A := callerA) (us := [.ref a]) (vs := [.ref a]) (Q := fun v _ => v = .bl true) rfl hr env bd (.cons rfl .nil) (hsp H hS)) fun r s' g => ?_
    match r, g with
    | .ok (.ret u), ⟨v, H', os, bare, un, hok', rel, q⟩ =>
      have q : v = .bl true := q
      subst q
      obtain rfl : u = Value.bool true := rel
      refine ⟨rfl, OldK.of_keep fun b o gb => ?_, os, bare⟩
      cases z : H b with
      | none => exact un.keep b o gb z (fun t => absurd (show b ∈ ([] : List Addr) from t) List.not_mem_nil) List.not_mem_nil
      | some u =>
        obtain ⟨_, _, ob, xs, rfl⟩ := only b u z
        obtain ⟨k1, _⟩ := hok b _ z
        obtain ⟨k2, _⟩ := hok' b _ (un.frzs b ob _ z)
        rw [gb] at k1
        cases k1
        exact k2
  cases hk : K.lookup a with
  | some o =>
    have g := kin a o hk
    rw [ha] at g
    cases g
    exact main (fun _ => none) (fun b u z => by cases z) (.inr ⟨_, vs.toArray, _, hk, rfl, rfl, rfl, by rw [List.size_toArray, vlen]; exact hl, by simpa using vals⟩) fun b u z => by
      have z : (none : Option HO) = some u := z
      cases z
  | none =>
    have at_ : ∀ b, (if b = a then some (HO.frz { cls := .type "list", data := .seq vs.toArray } (.lst (ns.map V.int))) else none) = if b = a then some (HO.frz { cls := .type "list", data := .seq vs.toArray } (.lst (ns.map V.int))) else none := fun _ => rfl
    refine main (fun b => if b = a then some (.frz { cls := .type "list", data := .seq vs.toArray } (.lst (ns.map V.int))) else none) (fun b u z => ?_) (.inl (.inr ⟨_, if_pos rfl⟩)) fun b u z => ?_
    · by_cases e : b = a
      · exact ⟨e, hk, _, _, (Option.some.inj ((if_pos e).symm.trans z)).symm⟩
      · cases (if_neg e).symm.trans z
    · by_cases e : b = a
      · have z2 := (if_pos e).symm.trans z
        cases z2
        subst e
        exact ⟨ha, by rw [List.length_map]; exact hl, vs, _, vals, ha⟩
      · cases (if_neg e).symm.trans z
end EIT
open PySem PySem.W PySem.Calls PyProof.Rows
theorem PySem.Challenge.cw_eachinturn_k82_whole_lengths_beside_one_holds : PySem.Challenge.rw_eachinturn_k82_whole_lengths_beside_one.Holds := by
  w_on; o_law
  refine HeadRun.head_imp (r := EIT.R) (q := view EIT.R.prog [0, 97]) (H := EIT.hk) (ob := EIT.ob) (M := 8000) (loose := EIT.loose) (d := HeadRun.topDef EIT.R.prog 97) (kwd := []) EIT.ob_eq EIT.run
    (by kernel_rfl) (by kernel_rfl) (by kernel_rfl) (by rfl) (by first | assumption | decide +kernel) (by decide +kernel) ⟨rfl, rfl, rfl, rfl, rfl, by decide +kernel⟩ ?hw ?hc
  case hw => w_witness2
  case hc =>
    refine Att.attach_callB (l := PySem.Challenge.rw_eachinturn_k82_whole_lengths_beside_one) (n := 63) rfl (by kernel_rfl) fun w s₀ s₁ mg mb f o pm cd doc a vs ns G Y ho hd hcd hmg hobj hints hlen hbits hg => ?_
    obtain ⟨K, kin, c, e⟩ := Y
    have hname : (HeadRun.topDef EIT.R.prog 97).name = ("law" : PySem.Str) := by kernel_rfl
    rw [hname] at hmg
    have T := EIT.tx_of kin G.T.g c e
    have B := EIT.bad_of kin G.T.g c e
    exact EIT.law_end (y := "_law_script") (k := 12) kin G.T.g G.T.b G.T.builtins G.T.nolimit hg hobj hints (Nat.le_trans hlen (by decide)) ⟨rfl, by decide, by decide⟩ hmg (fun base => EIT.ok_law T B) fun H hS => ⟨a, ns, rfl, hS, hlen, hbits, fun _ => rfl⟩
end
