import PyProof.Rows.All
import Wide.All
import OpenK.AllK
import Wide.FinOn
import KE.KStateDown
import HandS.ForMost
import HandS.Defaults
import HandS.Head0
import HandS.Head1
import HandS.Head2
import HandS.HeadEnd
import HandS.HeadHook1
import HandS.HeadHook2
import PySem.Challenge.RW_boatbridge_k60_whole_no_cart_where_it_sw
import HandS.ForExc
import HandS.Codes
import HandS.Deep
import HandS.DictTup
import HandS.SetKeys
import HandS.SortInts
import HandS.NoneIn
import HandS.IsInst
import HandS.Zip
import HandS.Style
import HandS.Strs
import HandS.MakeKw
import HandS.MakeKwOnly
import HandS.Small
import HandS.More
import HandS.Steps
import KE.KExcInit
import HandS.ExcInit
import HandS.ExcOwn
import HandS.TryOnly
import HandS.WordsExc
import KE.GoesEnumKw
import KE.KDictZip
import HandS.SortKw
import KE.DataMinMax
import HandS.SetFor
import HandS.ListItems
import HandS.WordsDict
set_option Elab.async false
set_option linter.all false
set_option maxRecDepth 100000
namespace BB
/-! ## Tx -/
section
set_option maxHeartbeats 0
open PySem PySem.Spec PyProof.Rows L2
/-! ### the text by places -/
def top (i : Nat) : Stmt := PySem.Challenge.pw_boatbridge_k60_whole_no_cart_where_it_sw.main.body.getD i (.Pass ⟨0, 0, 0, 0⟩)
abbrev s_is_whole : Stmt := top 4
abbrev s_is_from_to : Stmt := top 5
abbrev s_is_name : Stmt := top 6
abbrev s_Boat_init : Stmt := inClass (top 9) 0
abbrev s_Overload_init : Stmt := inClass (top 16) 0
abbrev s_are_boats : Stmt := top 20
abbrev s_are_spans : Stmt := top 21
abbrev s_Bridge_init : Stmt := inClass (top 22) 0
abbrev s_Bridge_len : Stmt := inClass (top 22) 1
abbrev s_Bridge_boats : Stmt := inClass (top 22) 4
abbrev s_Bridge_spans : Stmt := inClass (top 22) 5
abbrev s_halves : Stmt := top 24
abbrev s_need_borne : Stmt := top 25
abbrev s_is_borne : Stmt := top 26
abbrev s_other_bank : Stmt := top 29
abbrev s_bank_span : Stmt := top 30
abbrev s_rolled : Stmt := top 31
abbrev s_is_off : Stmt := top 32
abbrev s_load_of : Stmt := top 33
abbrev s_need_alone : Stmt := top 34
abbrev s_is_borne_on : Stmt := top 35
abbrev s_is_to_come : Stmt := top 36
abbrev s_Stretch_init : Stmt := inClass (top 45) 0
abbrev s_Stretch_len : Stmt := inClass (top 45) 1
abbrev s_joined : Stmt := top 46
abbrev s_Rule_allows : Stmt := inClass (top 48) 0
abbrev s_Rule_clocks : Stmt := inClass (top 48) 1
abbrev s_Hours_init : Stmt := inClass (top 49) 0
abbrev s_Hours_allows : Stmt := inClass (top 49) 1
abbrev s_Hours_clocks : Stmt := inClass (top 49) 2
abbrev s_Days_init : Stmt := inClass (top 50) 0
abbrev s_Days_allows : Stmt := inClass (top 50) 1
abbrev s_Unless_init : Stmt := inClass (top 51) 0
abbrev s_Unless_allows : Stmt := inClass (top 51) 1
abbrev s_Unless_clocks : Stmt := inClass (top 51) 2
abbrev s_clocks_of : Stmt := top 52
abbrev s_Both_init : Stmt := inClass (top 53) 0
abbrev s_Both_allows : Stmt := inClass (top 53) 1
abbrev s_Both_clocks : Stmt := inClass (top 53) 2
abbrev s_Either_init : Stmt := inClass (top 54) 0
abbrev s_Either_allows : Stmt := inClass (top 54) 1
abbrev s_Either_clocks : Stmt := inClass (top 54) 2
abbrev s_edges_in : Stmt := top 57
abbrev s_allowed_in : Stmt := top 58
abbrev s_Week_init : Stmt := inClass (top 59) 0
abbrev s_Week_first_from : Stmt := inClass (top 59) 1
abbrev s_need_things : Stmt := top 62
abbrev s_is_time : Stmt := top 63
abbrev s_is_bank : Stmt := top 64
abbrev s_Deck_init : Stmt := inClass (top 65) 0
abbrev s_Deck_tell : Stmt := inClass (top 65) 1
abbrev s_Deck_need_free : Stmt := inClass (top 65) 2
abbrev s_Deck_cart : Stmt := inClass (top 65) 3
abbrev s_Deck_ship : Stmt := inClass (top 65) 4
abbrev s_Deck_come : Stmt := inClass (top 65) 6
abbrev s_Deck_roll : Stmt := inClass (top 65) 7
abbrev s_Deck_swing_on : Stmt := inClass (top 65) 8
abbrev s_Deck_is_called : Stmt := inClass (top 65) 9
abbrev s_Deck_swing_out : Stmt := inClass (top 65) 10
abbrev s_Deck_turn_over : Stmt := inClass (top 65) 11
abbrev s_Deck_go_on : Stmt := inClass (top 65) 12
abbrev s_Deck_work : Stmt := inClass (top 65) 13
abbrev s_Deck_awake_from : Stmt := inClass (top 65) 14
abbrev s_Deck_called_from : Stmt := inClass (top 65) 15
abbrev s_Deck_work_from : Stmt := inClass (top 65) 16
abbrev s_Deck_go_to : Stmt := inClass (top 65) 17
abbrev s_law_feed : Stmt := top 67
abbrev s_law_draw : Stmt := top 68
abbrev s_law_of : Stmt := top 69
abbrev s_law_names : Stmt := top 70
abbrev s_law_world : Stmt := top 71
abbrev s_law_deck : Stmt := top 72
abbrev s_law_most : Stmt := top 73
abbrev s_law_things : Stmt := top 74
abbrev s_law_tell : Stmt := top 75
abbrev s_law_hours : Stmt := top 76
abbrev s_law_swings_right : Stmt := top 77
abbrev s_law_phases : Stmt := top 78
abbrev s_law_carts_right : Stmt := top 79
abbrev s_law : Stmt := top 80
/-! ### the defs -/
def d_is_whole : He.DefD := ⟨("is_whole", none), "is_whole", "is_whole", defArgs s_is_whole, defBody s_is_whole, defScope s_is_whole, [], []⟩
def d_is_from_to : He.DefD := ⟨("is_from_to", none), "is_from_to", "is_from_to", defArgs s_is_from_to, defBody s_is_from_to, defScope s_is_from_to, [], []⟩
def d_is_name : He.DefD := ⟨("is_name", none), "is_name", "is_name", defArgs s_is_name, defBody s_is_name, defScope s_is_name, [], []⟩
def d_Boat_init : He.DefD := ⟨("Boat", some "__init__"), "__init__", "Boat.__init__", defArgs s_Boat_init, defBody s_Boat_init, defScope s_Boat_init, [], []⟩
def d_Overload_init : He.DefD := ⟨("Overload", some "__init__"), "__init__", "Overload.__init__", defArgs s_Overload_init, defBody s_Overload_init, defScope s_Overload_init, [], []⟩
def d_are_boats : He.DefD := ⟨("are_boats", none), "are_boats", "are_boats", defArgs s_are_boats, defBody s_are_boats, defScope s_are_boats, [], []⟩
def d_are_spans : He.DefD := ⟨("are_spans", none), "are_spans", "are_spans", defArgs s_are_spans, defBody s_are_spans, defScope s_are_spans, [], []⟩
def d_Bridge_init : He.DefD := ⟨("Bridge", some "__init__"), "__init__", "Bridge.__init__", defArgs s_Bridge_init, defBody s_Bridge_init, defScope s_Bridge_init, [], []⟩
def d_Bridge_len : He.DefD := ⟨("Bridge", some "__len__"), "__len__", "Bridge.__len__", defArgs s_Bridge_len, defBody s_Bridge_len, defScope s_Bridge_len, [], []⟩
def d_Bridge_boats : He.DefD := ⟨("Bridge", some "boats"), "boats", "Bridge.boats", defArgs s_Bridge_boats, defBody s_Bridge_boats, defScope s_Bridge_boats, [], []⟩
def d_Bridge_spans : He.DefD := ⟨("Bridge", some "spans"), "spans", "Bridge.spans", defArgs s_Bridge_spans, defBody s_Bridge_spans, defScope s_Bridge_spans, [], []⟩
def d_halves : He.DefD := ⟨("halves", none), "halves", "halves", defArgs s_halves, defBody s_halves, defScope s_halves, [], []⟩
def d_need_borne : He.DefD := ⟨("need_borne", none), "need_borne", "need_borne", defArgs s_need_borne, defBody s_need_borne, defScope s_need_borne, [], []⟩
def d_is_borne : He.DefD := ⟨("is_borne", none), "is_borne", "is_borne", defArgs s_is_borne, defBody s_is_borne, defScope s_is_borne, [], []⟩
def d_other_bank : He.DefD := ⟨("other_bank", none), "other_bank", "other_bank", defArgs s_other_bank, defBody s_other_bank, defScope s_other_bank, [], []⟩
def d_bank_span : He.DefD := ⟨("bank_span", none), "bank_span", "bank_span", defArgs s_bank_span, defBody s_bank_span, defScope s_bank_span, [], []⟩
def d_rolled : He.DefD := ⟨("rolled", none), "rolled", "rolled", defArgs s_rolled, defBody s_rolled, defScope s_rolled, [], []⟩
def d_is_off : He.DefD := ⟨("is_off", none), "is_off", "is_off", defArgs s_is_off, defBody s_is_off, defScope s_is_off, [], []⟩
def d_load_of : He.DefD := ⟨("load_of", none), "load_of", "load_of", defArgs s_load_of, defBody s_load_of, defScope s_load_of, [], []⟩
def d_need_alone : He.DefD := ⟨("need_alone", none), "need_alone", "need_alone", defArgs s_need_alone, defBody s_need_alone, defScope s_need_alone, [], []⟩
def d_is_borne_on : He.DefD := ⟨("is_borne_on", none), "is_borne_on", "is_borne_on", defArgs s_is_borne_on, defBody s_is_borne_on, defScope s_is_borne_on, [], []⟩
def d_is_to_come : He.DefD := ⟨("is_to_come", none), "is_to_come", "is_to_come", defArgs s_is_to_come, defBody s_is_to_come, defScope s_is_to_come, [], []⟩
def d_Stretch_init : He.DefD := ⟨("Stretch", some "__init__"), "__init__", "Stretch.__init__", defArgs s_Stretch_init, defBody s_Stretch_init, defScope s_Stretch_init, [.non], []⟩
def d_Stretch_len : He.DefD := ⟨("Stretch", some "__len__"), "__len__", "Stretch.__len__", defArgs s_Stretch_len, defBody s_Stretch_len, defScope s_Stretch_len, [], []⟩
def d_joined : He.DefD := ⟨("joined", none), "joined", "joined", defArgs s_joined, defBody s_joined, defScope s_joined, [.int 0], []⟩
def d_Rule_allows : He.DefD := ⟨("Rule", some "allows"), "allows", "Rule.allows", defArgs s_Rule_allows, defBody s_Rule_allows, defScope s_Rule_allows, [], []⟩
def d_Rule_clocks : He.DefD := ⟨("Rule", some "clocks"), "clocks", "Rule.clocks", defArgs s_Rule_clocks, defBody s_Rule_clocks, defScope s_Rule_clocks, [], []⟩
def d_Hours_init : He.DefD := ⟨("Hours", some "__init__"), "__init__", "Hours.__init__", defArgs s_Hours_init, defBody s_Hours_init, defScope s_Hours_init, [], []⟩
def d_Hours_allows : He.DefD := ⟨("Hours", some "allows"), "allows", "Hours.allows", defArgs s_Hours_allows, defBody s_Hours_allows, defScope s_Hours_allows, [], []⟩
def d_Hours_clocks : He.DefD := ⟨("Hours", some "clocks"), "clocks", "Hours.clocks", defArgs s_Hours_clocks, defBody s_Hours_clocks, defScope s_Hours_clocks, [], []⟩
def d_Days_init : He.DefD := ⟨("Days", some "__init__"), "__init__", "Days.__init__", defArgs s_Days_init, defBody s_Days_init, defScope s_Days_init, [], []⟩
def d_Days_allows : He.DefD := ⟨("Days", some "allows"), "allows", "Days.allows", defArgs s_Days_allows, defBody s_Days_allows, defScope s_Days_allows, [], []⟩
def d_Unless_init : He.DefD := ⟨("Unless", some "__init__"), "__init__", "Unless.__init__", defArgs s_Unless_init, defBody s_Unless_init, defScope s_Unless_init, [], []⟩
def d_Unless_allows : He.DefD := ⟨("Unless", some "allows"), "allows", "Unless.allows", defArgs s_Unless_allows, defBody s_Unless_allows, defScope s_Unless_allows, [], []⟩
def d_Unless_clocks : He.DefD := ⟨("Unless", some "clocks"), "clocks", "Unless.clocks", defArgs s_Unless_clocks, defBody s_Unless_clocks, defScope s_Unless_clocks, [], []⟩
def d_clocks_of : He.DefD := ⟨("clocks_of", none), "clocks_of", "clocks_of", defArgs s_clocks_of, defBody s_clocks_of, defScope s_clocks_of, [], []⟩
def d_Both_init : He.DefD := ⟨("Both", some "__init__"), "__init__", "Both.__init__", defArgs s_Both_init, defBody s_Both_init, defScope s_Both_init, [], []⟩
def d_Both_allows : He.DefD := ⟨("Both", some "allows"), "allows", "Both.allows", defArgs s_Both_allows, defBody s_Both_allows, defScope s_Both_allows, [], []⟩
def d_Both_clocks : He.DefD := ⟨("Both", some "clocks"), "clocks", "Both.clocks", defArgs s_Both_clocks, defBody s_Both_clocks, defScope s_Both_clocks, [], []⟩
def d_Either_init : He.DefD := ⟨("Either", some "__init__"), "__init__", "Either.__init__", defArgs s_Either_init, defBody s_Either_init, defScope s_Either_init, [], []⟩
def d_Either_allows : He.DefD := ⟨("Either", some "allows"), "allows", "Either.allows", defArgs s_Either_allows, defBody s_Either_allows, defScope s_Either_allows, [], []⟩
def d_Either_clocks : He.DefD := ⟨("Either", some "clocks"), "clocks", "Either.clocks", defArgs s_Either_clocks, defBody s_Either_clocks, defScope s_Either_clocks, [], []⟩
def d_edges_in : He.DefD := ⟨("edges_in", none), "edges_in", "edges_in", defArgs s_edges_in, defBody s_edges_in, defScope s_edges_in, [], []⟩
def d_allowed_in : He.DefD := ⟨("allowed_in", none), "allowed_in", "allowed_in", defArgs s_allowed_in, defBody s_allowed_in, defScope s_allowed_in, [], []⟩
def d_Week_init : He.DefD := ⟨("Week", some "__init__"), "__init__", "Week.__init__", defArgs s_Week_init, defBody s_Week_init, defScope s_Week_init, [], []⟩
def d_Week_first_from : He.DefD := ⟨("Week", some "first_from"), "first_from", "Week.first_from", defArgs s_Week_first_from, defBody s_Week_first_from, defScope s_Week_first_from, [], []⟩
def d_need_things : He.DefD := ⟨("need_things", none), "need_things", "need_things", defArgs s_need_things, defBody s_need_things, defScope s_need_things, [], []⟩
def d_is_time : He.DefD := ⟨("is_time", none), "is_time", "is_time", defArgs s_is_time, defBody s_is_time, defScope s_is_time, [], []⟩
def d_is_bank : He.DefD := ⟨("is_bank", none), "is_bank", "is_bank", defArgs s_is_bank, defBody s_is_bank, defScope s_is_bank, [], []⟩
def d_Deck_init : He.DefD := ⟨("Deck", some "__init__"), "__init__", "Deck.__init__", defArgs s_Deck_init, defBody s_Deck_init, defScope s_Deck_init, [.int 5, .int 30, .int 3, .non], []⟩
def d_Deck_tell : He.DefD := ⟨("Deck", some "tell"), "tell", "Deck.tell", defArgs s_Deck_tell, defBody s_Deck_tell, defScope s_Deck_tell, [], []⟩
def d_Deck_need_free : He.DefD := ⟨("Deck", some "need_free"), "need_free", "Deck.need_free", defArgs s_Deck_need_free, defBody s_Deck_need_free, defScope s_Deck_need_free, [], []⟩
def d_Deck_cart : He.DefD := ⟨("Deck", some "cart"), "cart", "Deck.cart", defArgs s_Deck_cart, defBody s_Deck_cart, defScope s_Deck_cart, [.non], []⟩
def d_Deck_ship : He.DefD := ⟨("Deck", some "ship"), "ship", "Deck.ship", defArgs s_Deck_ship, defBody s_Deck_ship, defScope s_Deck_ship, [.int 10, .non], []⟩
def d_Deck_come : He.DefD := ⟨("Deck", some "come"), "come", "Deck.come", defArgs s_Deck_come, defBody s_Deck_come, defScope s_Deck_come, [], []⟩
def d_Deck_roll : He.DefD := ⟨("Deck", some "roll"), "roll", "Deck.roll", defArgs s_Deck_roll, defBody s_Deck_roll, defScope s_Deck_roll, [], []⟩
def d_Deck_swing_on : He.DefD := ⟨("Deck", some "swing_on"), "swing_on", "Deck.swing_on", defArgs s_Deck_swing_on, defBody s_Deck_swing_on, defScope s_Deck_swing_on, [], []⟩
def d_Deck_is_called : He.DefD := ⟨("Deck", some "is_called"), "is_called", "Deck.is_called", defArgs s_Deck_is_called, defBody s_Deck_is_called, defScope s_Deck_is_called, [], []⟩
def d_Deck_swing_out : He.DefD := ⟨("Deck", some "swing_out"), "swing_out", "Deck.swing_out", defArgs s_Deck_swing_out, defBody s_Deck_swing_out, defScope s_Deck_swing_out, [], []⟩
def d_Deck_turn_over : He.DefD := ⟨("Deck", some "turn_over"), "turn_over", "Deck.turn_over", defArgs s_Deck_turn_over, defBody s_Deck_turn_over, defScope s_Deck_turn_over, [], []⟩
def d_Deck_go_on : He.DefD := ⟨("Deck", some "go_on"), "go_on", "Deck.go_on", defArgs s_Deck_go_on, defBody s_Deck_go_on, defScope s_Deck_go_on, [], []⟩
def d_Deck_work : He.DefD := ⟨("Deck", some "work"), "work", "Deck.work", defArgs s_Deck_work, defBody s_Deck_work, defScope s_Deck_work, [], []⟩
def d_Deck_awake_from : He.DefD := ⟨("Deck", some "awake_from"), "awake_from", "Deck.awake_from", defArgs s_Deck_awake_from, defBody s_Deck_awake_from, defScope s_Deck_awake_from, [], []⟩
def d_Deck_called_from : He.DefD := ⟨("Deck", some "called_from"), "called_from", "Deck.called_from", defArgs s_Deck_called_from, defBody s_Deck_called_from, defScope s_Deck_called_from, [], []⟩
def d_Deck_work_from : He.DefD := ⟨("Deck", some "work_from"), "work_from", "Deck.work_from", defArgs s_Deck_work_from, defBody s_Deck_work_from, defScope s_Deck_work_from, [], []⟩
def d_Deck_go_to : He.DefD := ⟨("Deck", some "go_to"), "go_to", "Deck.go_to", defArgs s_Deck_go_to, defBody s_Deck_go_to, defScope s_Deck_go_to, [], []⟩
def d_law_feed : He.DefD := ⟨("_law_feed", none), "_law_feed", "_law_feed", defArgs s_law_feed, defBody s_law_feed, defScope s_law_feed, [], []⟩
def d_law_draw : He.DefD := ⟨("_law_draw", none), "_law_draw", "_law_draw", defArgs s_law_draw, defBody s_law_draw, defScope s_law_draw, [], []⟩
def d_law_of : He.DefD := ⟨("_law_of", none), "_law_of", "_law_of", defArgs s_law_of, defBody s_law_of, defScope s_law_of, [], []⟩
def d_law_names : He.DefD := ⟨("_law_names", none), "_law_names", "_law_names", defArgs s_law_names, defBody s_law_names, defScope s_law_names, [], []⟩
def d_law_world : He.DefD := ⟨("_law_world", none), "_law_world", "_law_world", defArgs s_law_world, defBody s_law_world, defScope s_law_world, [], []⟩
def d_law_deck : He.DefD := ⟨("_law_deck", none), "_law_deck", "_law_deck", defArgs s_law_deck, defBody s_law_deck, defScope s_law_deck, [], []⟩
def d_law_most : He.DefD := ⟨("_law_most", none), "_law_most", "_law_most", defArgs s_law_most, defBody s_law_most, defScope s_law_most, [], []⟩
def d_law_things : He.DefD := ⟨("_law_things", none), "_law_things", "_law_things", defArgs s_law_things, defBody s_law_things, defScope s_law_things, [], []⟩
def d_law_tell : He.DefD := ⟨("_law_tell", none), "_law_tell", "_law_tell", defArgs s_law_tell, defBody s_law_tell, defScope s_law_tell, [], []⟩
def d_law_hours : He.DefD := ⟨("_law_hours", none), "_law_hours", "_law_hours", defArgs s_law_hours, defBody s_law_hours, defScope s_law_hours, [], []⟩
def d_law_swings_right : He.DefD := ⟨("_law_swings_right", none), "_law_swings_right", "_law_swings_right", defArgs s_law_swings_right, defBody s_law_swings_right, defScope s_law_swings_right, [], []⟩
def d_law_phases : He.DefD := ⟨("_law_phases", none), "_law_phases", "_law_phases", defArgs s_law_phases, defBody s_law_phases, defScope s_law_phases, [], []⟩
def d_law_carts_right : He.DefD := ⟨("_law_carts_right", none), "_law_carts_right", "_law_carts_right", defArgs s_law_carts_right, defBody s_law_carts_right, defScope s_law_carts_right, [], []⟩
def d_law : He.DefD := ⟨("law", none), "law", "law", defArgs s_law, defBody s_law, defScope s_law, [], []⟩
def fn : List He.DefD := [d_is_whole, d_is_from_to, d_is_name, d_Boat_init, d_Overload_init, d_are_boats, d_are_spans, d_Bridge_init, d_Bridge_len, d_Bridge_boats, d_Bridge_spans, d_halves, d_need_borne, d_is_borne, d_other_bank, d_bank_span, d_rolled, d_is_off, d_load_of, d_need_alone, d_is_borne_on, d_is_to_come, d_Stretch_init, d_Stretch_len, d_joined, d_Rule_allows, d_Rule_clocks, d_Hours_init, d_Hours_allows, d_Hours_clocks, d_Days_init, d_Days_allows, d_Unless_init, d_Unless_allows, d_Unless_clocks, d_clocks_of, d_Both_init, d_Both_allows, d_Both_clocks, d_Either_init, d_Either_allows, d_Either_clocks, d_edges_in, d_allowed_in, d_Week_init, d_Week_first_from, d_need_things, d_is_time, d_is_bank, d_Deck_init, d_Deck_tell, d_Deck_need_free, d_Deck_cart, d_Deck_ship, d_Deck_come, d_Deck_roll, d_Deck_swing_on, d_Deck_is_called, d_Deck_swing_out, d_Deck_turn_over, d_Deck_go_on, d_Deck_work, d_Deck_awake_from, d_Deck_called_from, d_Deck_work_from, d_Deck_go_to, d_law_feed, d_law_draw, d_law_of, d_law_names, d_law_world, d_law_deck, d_law_most, d_law_things, d_law_tell, d_law_hours, d_law_swings_right, d_law_phases, d_law_carts_right, d_law]
/-! ### the facts -/
def fa0 : List He.Fa := [.glo "is_whole", .glo "is_from_to", .glo "is_name", .glo "are_boats", .glo "are_spans", .glo "halves", .glo "need_borne", .glo "is_borne", .glo "other_bank", .glo "bank_span", .glo "rolled", .glo "is_off", .glo "load_of", .glo "need_alone", .glo "is_borne_on", .glo "is_to_come", .glo "joined", .glo "clocks_of", .glo "edges_in", .glo "allowed_in", .glo "need_things", .glo "is_time", .glo "is_bank", .glo "_law_feed", .glo "_law_draw", .glo "_law_of", .glo "_law_names", .glo "_law_world", .glo "_law_deck", .glo "_law_most"]
def fa1 : List He.Fa := [.glo "_law_things", .glo "_law_tell", .glo "_law_hours", .glo "_law_swings_right", .glo "_law_phases", .glo "_law_carts_right", .glo "law", .glo "BANKS", .glo "Boat", .glo "Bridge", .glo "Stretch", .glo "Hours", .glo "Days", .glo "Unless", .glo "Both", .glo "Either", .glo "Week", .glo "Deck", .glo "Overload", .glo "NoBridge", .glo "NoThing", .glo "NoBoat", .glo "Taken", .glo "NoStretch", .glo "Late", .free "len", .free "range", .free "isinstance", .free "int", .free "bool"]
def fa2 : List He.Fa := [.free "str", .free "list", .free "tuple", .free "all", .free "any", .free "frozenset", .free "enumerate", .free "zip", .free "sorted", .free "sum", .free "set", .free "min", .free "max", .free "divmod", .free "dict", .int "LONGEST_NAME" 8, .int "MOST_BORNE" 1000000, .int "MOST_BOATS" 10, .int "DAY" 1440, .int "WEEK" 10080, .int "DAYS" 7, .int "WEEKS_LOOKED" 3, .int "LONGEST" 60, .str "LETTERS" "abcdefghijklmnopqrstuvwxyz", .cls "Boat", .mkr "Boat", .noat "Boat" "name", .noat "Boat" "bears", .cls "Bridge", .mkr "Bridge"]
def fa3 : List He.Fa := [.noat "Bridge" "line_up", .noat "Bridge" "beams", .meth "Bridge" "__len__", .meth "Bridge" "boats", .meth "Bridge" "spans", .cls "Stretch", .mkr "Stretch", .noat "Stretch" "first", .noat "Stretch" "behind", .meth "Stretch" "__len__", .cls "Hours", .mkr "Hours", .noat "Hours" "first", .noat "Hours" "behind", .meth "Hours" "allows", .meth "Hours" "clocks", .cls "Days", .mkr "Days", .noat "Days" "weekdays", .meth "Days" "allows", .meth "Days" "clocks", .cls "Unless", .mkr "Unless", .noat "Unless" "inner", .meth "Unless" "allows", .meth "Unless" "clocks", .cls "Both", .mkr "Both", .noat "Both" "all_of", .meth "Both" "allows"]
def fa4 : List He.Fa := [.meth "Both" "clocks", .cls "Either", .mkr "Either", .noat "Either" "some_of", .meth "Either" "allows", .meth "Either" "clocks", .cls "Week", .mkr "Week", .noat "Week" "runs", .meth "Week" "first_from", .cls "Deck", .mkr "Deck", .noat "Deck" "bridge", .noat "Deck" "part", .noat "Deck" "out", .noat "Deck" "pause", .noat "Deck" "turn_most", .noat "Deck" "rule", .noat "Deck" "week", .noat "Deck" "here", .noat "Deck" "phase", .noat "Deck" "ends", .noat "Deck" "down_at", .noat "Deck" "whose", .noat "Deck" "gone_on", .noat "Deck" "carts", .noat "Deck" "lines", .noat "Deck" "queue", .noat "Deck" "told_for", .noat "Deck" "known"]
def fa5 : List He.Fa := [.noat "Deck" "hours", .meth "Deck" "tell", .meth "Deck" "need_free", .meth "Deck" "cart", .meth "Deck" "ship", .meth "Deck" "come", .meth "Deck" "roll", .meth "Deck" "swing_on", .meth "Deck" "is_called", .meth "Deck" "swing_out", .meth "Deck" "turn_over", .meth "Deck" "go_on", .meth "Deck" "work", .meth "Deck" "awake_from", .meth "Deck" "called_from", .meth "Deck" "work_from", .meth "Deck" "go_to", .meth "Overload" "__init__", .exm "Overload" "Overload" true]
def fa : List He.Fa := fa0 ++ fa1 ++ fa2 ++ fa3 ++ fa4 ++ fa5
/-! ### the Hook: the objects that the module's names reach, by kinds -/
def kidsM (g : Addr → Option Obj) (a : Addr) : List Addr := match g a with
  | some o => (match o.data with
    | .dict es _ => es.toList.flatMap fun e => He.refV e.val
    | .func fd => He.refV fd.code ++ He.refV fd.defaults
    | .cls cd => [cd.ns]
    | _ => [])
  | none => []
def lvM (g : Addr → Option Obj) : Nat → List Addr → List Addr
  | 0, l => l
  | n + 1, l => l ++ lvM g n (l.flatMap (kidsM g))
/-- the module's dict, what its names hold, the classes' dicts and the defs' code, the methods, theirs -/
def asM (g : Addr → Option Obj) : List Addr := lvM g 4 [mainGlobals]
abbrev AlM : Type := He.AlD × Bool
def obsM (fa : List He.Fa) (fn : List He.DefD) (ex : PySem.W.Frag → Bool) (K : PySem.W.Frag) : AlM := (He.obsD fa fn K, ex K)
def hookM (fa : List He.Fa) (fn : List He.DefD) (ex : PySem.W.Frag → Bool) : PySem.W.Hook where
  α := AlM
  obs := fun s => obsM fa fn ex (He.frG s.heap.get? (asM s.heap.get?))
  val := fun _ => (He.valD fn, true)
  says := fun _ h => ∃ K : PySem.W.Frag, K.In h ∧ He.SaysD fa fn K ∧ ex K = true
  of := fun _ _ e => ⟨_, He.frG_in, congrArg (fun z : AlM => z.1) e, congrArg (fun z : AlM => z.2) e⟩
  keeps := fun _ _ _ ⟨K, hK, c⟩ k => ⟨K, PySem.W.Frag.In.keeps hK k, c⟩
/-! ### the error Overload, Boats and isinstance, the clocks of Days -/
abbrev ovM : List Value := [.type "OverflowError", .type "ArithmeticError", .type "Exception", .type "BaseException", .type "object"]
def ovB (K : PySem.W.Frag) (C : Addr) : Bool := (match K.lookup C with
  | some ⟨.type "type", _, .cls cd, sl⟩ => (match sl.toList with
    | [_, _, _, _, some (.builtin n), _] => n == "OverflowError.__new__" && cd.mro == .ref C :: ovM && cd.hasDict && !cd.hasDel
    | _ => false)
  | _ => false) && decide (PySem.W.findIn K (.ref C) "__setattr__" = some (some (.builtin "object.__setattr__"))) && decide (PySem.W.subIn K (.ref C) (.type "BaseException") = some true) &&
  decide (PySem.W.typeIn K (.ref C) = some (.type "type")) && PySem.W.keepIn K (.ref C)
def ovN (K : PySem.W.Frag) : Bool := ["part", "at", "over"].all fun f => decide (PySem.W.findIn K (.ref (He.ga K "Overload")) f = some none)
def isiB (K : PySem.W.Frag) (C : Addr) : Bool := decide (PySem.W.findIn K (.ref C) "__class__" = some (some (.builtin "object.__class__"))) && decide (PySem.W.specialIn K (.builtin "object.__class__") "__get__" = some (some (.builtin "getset_descriptor.__get__"))) &&
  decide (PySem.W.takesIn K (.builtin "object.__class__") = some true) && decide (PySem.W.mroIn K C (.type "object") = some true) && decide (PySem.W.kitOne K (.ref C) (.ref C) = some true)
def bxB (K : PySem.W.Frag) : Bool := match K.lookup (He.ga K "BANKS") with
  | some ⟨.type "tuple", none, .seq _ _, _⟩ => true
  | _ => false
def ex (K : PySem.W.Frag) : Bool := bxB K && (He.tupB K "BANKS" [.str "near", .str "far"] && ovB K (He.ga K "Overload") && ovN K && isiB K (He.ga K "Boat") && decide (He.ma K (He.ga K "Days") "clocks" = He.ma K (He.ga K "Rule") "clocks"))
abbrev R : PySem.W.OpenRow := PySem.W.OpenLaw.row PySem.Challenge.rw_boatbridge_k60_whole_no_cart_where_it_sw
abbrev hk : PySem.W.Hook := hookM fa fn ex
def ob (s : PySem.W.SharedT) : AlM := obsM fa fn ex (He.frG (HandSHeadRun.getT s) (asM (HandSHeadRun.getT s)))
theorem ob_eq (s : PySem.W.SharedT) : ob s = hk.obs s.abs := by
  have e : HandSHeadRun.getT s = s.abs.heap.get? := funext (HandSHeadRun.getT_eq s)
  unfold ob
  rw [e]
  all_goals rfl

/-! ### what the top has left, by names -/
structure Top (K : PySem.W.Frag) (mg : Str → Option Value) : Prop where
  says : He.SaysD fa fn K
  more : ex K = true
  glo : ∀ x, (He.Fa.glo x).ok K = true → mg x = some (.ref (He.ga K x))
  free : ∀ x, (He.Fa.free x).ok K = true → mg x = none
  int : ∀ x i, (He.Fa.int x i).ok K = true → ∃ t, mg x = some (.int i t)
  str : ∀ x z, (He.Fa.str x z).ok K = true → ∃ t, mg x = some (.str z t)
section
variable {K : PySem.W.Frag} {mg : Str → Option Value}
theorem g_is_whole (T : Top K mg) : mg "is_whole" = some (.ref (He.ga K "is_whole")) := T.glo _ (T.says.fact 0)
theorem g_is_from_to (T : Top K mg) : mg "is_from_to" = some (.ref (He.ga K "is_from_to")) := T.glo _ (T.says.fact 1)
theorem g_is_name (T : Top K mg) : mg "is_name" = some (.ref (He.ga K "is_name")) := T.glo _ (T.says.fact 2)
theorem g_are_boats (T : Top K mg) : mg "are_boats" = some (.ref (He.ga K "are_boats")) := T.glo _ (T.says.fact 3)
theorem g_are_spans (T : Top K mg) : mg "are_spans" = some (.ref (He.ga K "are_spans")) := T.glo _ (T.says.fact 4)
theorem g_halves (T : Top K mg) : mg "halves" = some (.ref (He.ga K "halves")) := T.glo _ (T.says.fact 5)
theorem g_need_borne (T : Top K mg) : mg "need_borne" = some (.ref (He.ga K "need_borne")) := T.glo _ (T.says.fact 6)
theorem g_is_borne (T : Top K mg) : mg "is_borne" = some (.ref (He.ga K "is_borne")) := T.glo _ (T.says.fact 7)
theorem g_other_bank (T : Top K mg) : mg "other_bank" = some (.ref (He.ga K "other_bank")) := T.glo _ (T.says.fact 8)
theorem g_bank_span (T : Top K mg) : mg "bank_span" = some (.ref (He.ga K "bank_span")) := T.glo _ (T.says.fact 9)
theorem g_rolled (T : Top K mg) : mg "rolled" = some (.ref (He.ga K "rolled")) := T.glo _ (T.says.fact 10)
theorem g_is_off (T : Top K mg) : mg "is_off" = some (.ref (He.ga K "is_off")) := T.glo _ (T.says.fact 11)
theorem g_load_of (T : Top K mg) : mg "load_of" = some (.ref (He.ga K "load_of")) := T.glo _ (T.says.fact 12)
theorem g_need_alone (T : Top K mg) : mg "need_alone" = some (.ref (He.ga K "need_alone")) := T.glo _ (T.says.fact 13)
theorem g_is_borne_on (T : Top K mg) : mg "is_borne_on" = some (.ref (He.ga K "is_borne_on")) := T.glo _ (T.says.fact 14)
theorem g_is_to_come (T : Top K mg) : mg "is_to_come" = some (.ref (He.ga K "is_to_come")) := T.glo _ (T.says.fact 15)
theorem g_joined (T : Top K mg) : mg "joined" = some (.ref (He.ga K "joined")) := T.glo _ (T.says.fact 16)
theorem g_clocks_of (T : Top K mg) : mg "clocks_of" = some (.ref (He.ga K "clocks_of")) := T.glo _ (T.says.fact 17)
theorem g_edges_in (T : Top K mg) : mg "edges_in" = some (.ref (He.ga K "edges_in")) := T.glo _ (T.says.fact 18)
theorem g_allowed_in (T : Top K mg) : mg "allowed_in" = some (.ref (He.ga K "allowed_in")) := T.glo _ (T.says.fact 19)
theorem g_need_things (T : Top K mg) : mg "need_things" = some (.ref (He.ga K "need_things")) := T.glo _ (T.says.fact 20)
theorem g_is_time (T : Top K mg) : mg "is_time" = some (.ref (He.ga K "is_time")) := T.glo _ (T.says.fact 21)
theorem g_is_bank (T : Top K mg) : mg "is_bank" = some (.ref (He.ga K "is_bank")) := T.glo _ (T.says.fact 22)
theorem g_law_feed (T : Top K mg) : mg "_law_feed" = some (.ref (He.ga K "_law_feed")) := T.glo _ (T.says.fact 23)
theorem g_law_draw (T : Top K mg) : mg "_law_draw" = some (.ref (He.ga K "_law_draw")) := T.glo _ (T.says.fact 24)
theorem g_law_of (T : Top K mg) : mg "_law_of" = some (.ref (He.ga K "_law_of")) := T.glo _ (T.says.fact 25)
theorem g_law_names (T : Top K mg) : mg "_law_names" = some (.ref (He.ga K "_law_names")) := T.glo _ (T.says.fact 26)
theorem g_law_world (T : Top K mg) : mg "_law_world" = some (.ref (He.ga K "_law_world")) := T.glo _ (T.says.fact 27)
theorem g_law_deck (T : Top K mg) : mg "_law_deck" = some (.ref (He.ga K "_law_deck")) := T.glo _ (T.says.fact 28)
theorem g_law_most (T : Top K mg) : mg "_law_most" = some (.ref (He.ga K "_law_most")) := T.glo _ (T.says.fact 29)
theorem g_law_things (T : Top K mg) : mg "_law_things" = some (.ref (He.ga K "_law_things")) := T.glo _ (T.says.fact 30)
theorem g_law_tell (T : Top K mg) : mg "_law_tell" = some (.ref (He.ga K "_law_tell")) := T.glo _ (T.says.fact 31)
theorem g_law_hours (T : Top K mg) : mg "_law_hours" = some (.ref (He.ga K "_law_hours")) := T.glo _ (T.says.fact 32)
theorem g_law_swings_right (T : Top K mg) : mg "_law_swings_right" = some (.ref (He.ga K "_law_swings_right")) := T.glo _ (T.says.fact 33)
theorem g_law_phases (T : Top K mg) : mg "_law_phases" = some (.ref (He.ga K "_law_phases")) := T.glo _ (T.says.fact 34)
theorem g_law_carts_right (T : Top K mg) : mg "_law_carts_right" = some (.ref (He.ga K "_law_carts_right")) := T.glo _ (T.says.fact 35)
theorem g_law (T : Top K mg) : mg "law" = some (.ref (He.ga K "law")) := T.glo _ (T.says.fact 36)
theorem g_BANKS (T : Top K mg) : mg "BANKS" = some (.ref (He.ga K "BANKS")) := T.glo _ (T.says.fact 37)
theorem g_Boat (T : Top K mg) : mg "Boat" = some (.ref (He.ga K "Boat")) := T.glo _ (T.says.fact 38)
theorem g_Bridge (T : Top K mg) : mg "Bridge" = some (.ref (He.ga K "Bridge")) := T.glo _ (T.says.fact 39)
theorem g_Stretch (T : Top K mg) : mg "Stretch" = some (.ref (He.ga K "Stretch")) := T.glo _ (T.says.fact 40)
theorem g_Hours (T : Top K mg) : mg "Hours" = some (.ref (He.ga K "Hours")) := T.glo _ (T.says.fact 41)
theorem g_Days (T : Top K mg) : mg "Days" = some (.ref (He.ga K "Days")) := T.glo _ (T.says.fact 42)
theorem g_Unless (T : Top K mg) : mg "Unless" = some (.ref (He.ga K "Unless")) := T.glo _ (T.says.fact 43)
theorem g_Both (T : Top K mg) : mg "Both" = some (.ref (He.ga K "Both")) := T.glo _ (T.says.fact 44)
theorem g_Either (T : Top K mg) : mg "Either" = some (.ref (He.ga K "Either")) := T.glo _ (T.says.fact 45)
theorem g_Week (T : Top K mg) : mg "Week" = some (.ref (He.ga K "Week")) := T.glo _ (T.says.fact 46)
theorem g_Deck (T : Top K mg) : mg "Deck" = some (.ref (He.ga K "Deck")) := T.glo _ (T.says.fact 47)
theorem g_Overload (T : Top K mg) : mg "Overload" = some (.ref (He.ga K "Overload")) := T.glo _ (T.says.fact 48)
theorem g_NoBridge (T : Top K mg) : mg "NoBridge" = some (.ref (He.ga K "NoBridge")) := T.glo _ (T.says.fact 49)
theorem g_NoThing (T : Top K mg) : mg "NoThing" = some (.ref (He.ga K "NoThing")) := T.glo _ (T.says.fact 50)
theorem g_NoBoat (T : Top K mg) : mg "NoBoat" = some (.ref (He.ga K "NoBoat")) := T.glo _ (T.says.fact 51)
theorem g_Taken (T : Top K mg) : mg "Taken" = some (.ref (He.ga K "Taken")) := T.glo _ (T.says.fact 52)
theorem g_NoStretch (T : Top K mg) : mg "NoStretch" = some (.ref (He.ga K "NoStretch")) := T.glo _ (T.says.fact 53)
theorem g_Late (T : Top K mg) : mg "Late" = some (.ref (He.ga K "Late")) := T.glo _ (T.says.fact 54)
theorem fr_len (T : Top K mg) : mg "len" = none := T.free _ (T.says.fact 55)
theorem fr_range (T : Top K mg) : mg "range" = none := T.free _ (T.says.fact 56)
theorem fr_isinstance (T : Top K mg) : mg "isinstance" = none := T.free _ (T.says.fact 57)
theorem fr_int (T : Top K mg) : mg "int" = none := T.free _ (T.says.fact 58)
theorem fr_bool (T : Top K mg) : mg "bool" = none := T.free _ (T.says.fact 59)
theorem fr_str (T : Top K mg) : mg "str" = none := T.free _ (T.says.fact 60)
theorem fr_list (T : Top K mg) : mg "list" = none := T.free _ (T.says.fact 61)
theorem fr_tuple (T : Top K mg) : mg "tuple" = none := T.free _ (T.says.fact 62)
theorem fr_all (T : Top K mg) : mg "all" = none := T.free _ (T.says.fact 63)
theorem fr_any (T : Top K mg) : mg "any" = none := T.free _ (T.says.fact 64)
theorem fr_frozenset (T : Top K mg) : mg "frozenset" = none := T.free _ (T.says.fact 65)
theorem fr_enumerate (T : Top K mg) : mg "enumerate" = none := T.free _ (T.says.fact 66)
theorem fr_zip (T : Top K mg) : mg "zip" = none := T.free _ (T.says.fact 67)
theorem fr_sorted (T : Top K mg) : mg "sorted" = none := T.free _ (T.says.fact 68)
theorem fr_sum (T : Top K mg) : mg "sum" = none := T.free _ (T.says.fact 69)
theorem fr_set (T : Top K mg) : mg "set" = none := T.free _ (T.says.fact 70)
theorem fr_min (T : Top K mg) : mg "min" = none := T.free _ (T.says.fact 71)
theorem fr_max (T : Top K mg) : mg "max" = none := T.free _ (T.says.fact 72)
theorem fr_divmod (T : Top K mg) : mg "divmod" = none := T.free _ (T.says.fact 73)
theorem fr_dict (T : Top K mg) : mg "dict" = none := T.free _ (T.says.fact 74)
theorem i_LONGEST_NAME (T : Top K mg) : ∃ u, mg "LONGEST_NAME" = some u ∧ RelV (.int 8) u := let ⟨t, e⟩ := T.int _ _ (T.says.fact 75); ⟨_, e, t, rfl⟩
theorem i_MOST_BORNE (T : Top K mg) : ∃ u, mg "MOST_BORNE" = some u ∧ RelV (.int 1000000) u := let ⟨t, e⟩ := T.int _ _ (T.says.fact 76); ⟨_, e, t, rfl⟩
theorem i_MOST_BOATS (T : Top K mg) : ∃ u, mg "MOST_BOATS" = some u ∧ RelV (.int 10) u := let ⟨t, e⟩ := T.int _ _ (T.says.fact 77); ⟨_, e, t, rfl⟩
theorem i_DAY (T : Top K mg) : ∃ u, mg "DAY" = some u ∧ RelV (.int 1440) u := let ⟨t, e⟩ := T.int _ _ (T.says.fact 78); ⟨_, e, t, rfl⟩
theorem i_WEEK (T : Top K mg) : ∃ u, mg "WEEK" = some u ∧ RelV (.int 10080) u := let ⟨t, e⟩ := T.int _ _ (T.says.fact 79); ⟨_, e, t, rfl⟩
theorem i_DAYS (T : Top K mg) : ∃ u, mg "DAYS" = some u ∧ RelV (.int 7) u := let ⟨t, e⟩ := T.int _ _ (T.says.fact 80); ⟨_, e, t, rfl⟩
theorem i_WEEKS_LOOKED (T : Top K mg) : ∃ u, mg "WEEKS_LOOKED" = some u ∧ RelV (.int 3) u := let ⟨t, e⟩ := T.int _ _ (T.says.fact 81); ⟨_, e, t, rfl⟩
theorem i_LONGEST (T : Top K mg) : ∃ u, mg "LONGEST" = some u ∧ RelV (.int 60) u := let ⟨t, e⟩ := T.int _ _ (T.says.fact 82); ⟨_, e, t, rfl⟩
theorem i_LETTERS (T : Top K mg) : ∃ u, mg "LETTERS" = some u ∧ RelV (.str "abcdefghijklmnopqrstuvwxyz") u := let ⟨t, e⟩ := T.str _ _ (T.says.fact 83); ⟨_, e, t, rfl⟩
theorem c_Boat (T : Top K mg) : Cls K (He.ga K "Boat") := He.cls_ok (T.says.fact 84)
theorem mk_Boat (T : Top K mg) : Mk K (He.ga K "Boat") (He.ma K (He.ga K "Boat") "__init__") := He.mkr_ok (T.says.fact 85)
theorem n_Boat_name (T : Top K mg) : NoAttr K (He.ga K "Boat") "name" := He.noat_ok (T.says.fact 86)
theorem n_Boat_bears (T : Top K mg) : NoAttr K (He.ga K "Boat") "bears" := He.noat_ok (T.says.fact 87)
theorem c_Bridge (T : Top K mg) : Cls K (He.ga K "Bridge") := He.cls_ok (T.says.fact 88)
theorem mk_Bridge (T : Top K mg) : Mk K (He.ga K "Bridge") (He.ma K (He.ga K "Bridge") "__init__") := He.mkr_ok (T.says.fact 89)
theorem n_Bridge_line_up (T : Top K mg) : NoAttr K (He.ga K "Bridge") "line_up" := He.noat_ok (T.says.fact 90)
theorem n_Bridge_beams (T : Top K mg) : NoAttr K (He.ga K "Bridge") "beams" := He.noat_ok (T.says.fact 91)
theorem m_Bridge_len (T : Top K mg) : Meth K (He.ga K "Bridge") "__len__" (He.ma K (He.ga K "Bridge") "__len__") := He.meth_ok (T.says.fact 92)
theorem m_Bridge_boats (T : Top K mg) : Meth K (He.ga K "Bridge") "boats" (He.ma K (He.ga K "Bridge") "boats") := He.meth_ok (T.says.fact 93)
theorem m_Bridge_spans (T : Top K mg) : Meth K (He.ga K "Bridge") "spans" (He.ma K (He.ga K "Bridge") "spans") := He.meth_ok (T.says.fact 94)
theorem c_Stretch (T : Top K mg) : Cls K (He.ga K "Stretch") := He.cls_ok (T.says.fact 95)
theorem mk_Stretch (T : Top K mg) : Mk K (He.ga K "Stretch") (He.ma K (He.ga K "Stretch") "__init__") := He.mkr_ok (T.says.fact 96)
theorem n_Stretch_first (T : Top K mg) : NoAttr K (He.ga K "Stretch") "first" := He.noat_ok (T.says.fact 97)
theorem n_Stretch_behind (T : Top K mg) : NoAttr K (He.ga K "Stretch") "behind" := He.noat_ok (T.says.fact 98)
theorem m_Stretch_len (T : Top K mg) : Meth K (He.ga K "Stretch") "__len__" (He.ma K (He.ga K "Stretch") "__len__") := He.meth_ok (T.says.fact 99)
theorem c_Hours (T : Top K mg) : Cls K (He.ga K "Hours") := He.cls_ok (T.says.fact 100)
theorem mk_Hours (T : Top K mg) : Mk K (He.ga K "Hours") (He.ma K (He.ga K "Hours") "__init__") := He.mkr_ok (T.says.fact 101)
theorem n_Hours_first (T : Top K mg) : NoAttr K (He.ga K "Hours") "first" := He.noat_ok (T.says.fact 102)
theorem n_Hours_behind (T : Top K mg) : NoAttr K (He.ga K "Hours") "behind" := He.noat_ok (T.says.fact 103)
theorem m_Hours_allows (T : Top K mg) : Meth K (He.ga K "Hours") "allows" (He.ma K (He.ga K "Hours") "allows") := He.meth_ok (T.says.fact 104)
theorem m_Hours_clocks (T : Top K mg) : Meth K (He.ga K "Hours") "clocks" (He.ma K (He.ga K "Hours") "clocks") := He.meth_ok (T.says.fact 105)
theorem c_Days (T : Top K mg) : Cls K (He.ga K "Days") := He.cls_ok (T.says.fact 106)
theorem mk_Days (T : Top K mg) : Mk K (He.ga K "Days") (He.ma K (He.ga K "Days") "__init__") := He.mkr_ok (T.says.fact 107)
theorem n_Days_weekdays (T : Top K mg) : NoAttr K (He.ga K "Days") "weekdays" := He.noat_ok (T.says.fact 108)
theorem m_Days_allows (T : Top K mg) : Meth K (He.ga K "Days") "allows" (He.ma K (He.ga K "Days") "allows") := He.meth_ok (T.says.fact 109)
theorem m_Days_clocks (T : Top K mg) : Meth K (He.ga K "Days") "clocks" (He.ma K (He.ga K "Days") "clocks") := He.meth_ok (T.says.fact 110)
theorem c_Unless (T : Top K mg) : Cls K (He.ga K "Unless") := He.cls_ok (T.says.fact 111)
theorem mk_Unless (T : Top K mg) : Mk K (He.ga K "Unless") (He.ma K (He.ga K "Unless") "__init__") := He.mkr_ok (T.says.fact 112)
theorem n_Unless_inner (T : Top K mg) : NoAttr K (He.ga K "Unless") "inner" := He.noat_ok (T.says.fact 113)
theorem m_Unless_allows (T : Top K mg) : Meth K (He.ga K "Unless") "allows" (He.ma K (He.ga K "Unless") "allows") := He.meth_ok (T.says.fact 114)
theorem m_Unless_clocks (T : Top K mg) : Meth K (He.ga K "Unless") "clocks" (He.ma K (He.ga K "Unless") "clocks") := He.meth_ok (T.says.fact 115)
theorem c_Both (T : Top K mg) : Cls K (He.ga K "Both") := He.cls_ok (T.says.fact 116)
theorem mk_Both (T : Top K mg) : Mk K (He.ga K "Both") (He.ma K (He.ga K "Both") "__init__") := He.mkr_ok (T.says.fact 117)
theorem n_Both_all_of (T : Top K mg) : NoAttr K (He.ga K "Both") "all_of" := He.noat_ok (T.says.fact 118)
theorem m_Both_allows (T : Top K mg) : Meth K (He.ga K "Both") "allows" (He.ma K (He.ga K "Both") "allows") := He.meth_ok (T.says.fact 119)
theorem m_Both_clocks (T : Top K mg) : Meth K (He.ga K "Both") "clocks" (He.ma K (He.ga K "Both") "clocks") := He.meth_ok (T.says.fact 120)
theorem c_Either (T : Top K mg) : Cls K (He.ga K "Either") := He.cls_ok (T.says.fact 121)
theorem mk_Either (T : Top K mg) : Mk K (He.ga K "Either") (He.ma K (He.ga K "Either") "__init__") := He.mkr_ok (T.says.fact 122)
theorem n_Either_some_of (T : Top K mg) : NoAttr K (He.ga K "Either") "some_of" := He.noat_ok (T.says.fact 123)
theorem m_Either_allows (T : Top K mg) : Meth K (He.ga K "Either") "allows" (He.ma K (He.ga K "Either") "allows") := He.meth_ok (T.says.fact 124)
theorem m_Either_clocks (T : Top K mg) : Meth K (He.ga K "Either") "clocks" (He.ma K (He.ga K "Either") "clocks") := He.meth_ok (T.says.fact 125)
theorem c_Week (T : Top K mg) : Cls K (He.ga K "Week") := He.cls_ok (T.says.fact 126)
theorem mk_Week (T : Top K mg) : Mk K (He.ga K "Week") (He.ma K (He.ga K "Week") "__init__") := He.mkr_ok (T.says.fact 127)
theorem n_Week_runs (T : Top K mg) : NoAttr K (He.ga K "Week") "runs" := He.noat_ok (T.says.fact 128)
theorem m_Week_first_from (T : Top K mg) : Meth K (He.ga K "Week") "first_from" (He.ma K (He.ga K "Week") "first_from") := He.meth_ok (T.says.fact 129)
theorem c_Deck (T : Top K mg) : Cls K (He.ga K "Deck") := He.cls_ok (T.says.fact 130)
theorem mk_Deck (T : Top K mg) : Mk K (He.ga K "Deck") (He.ma K (He.ga K "Deck") "__init__") := He.mkr_ok (T.says.fact 131)
theorem n_Deck_bridge (T : Top K mg) : NoAttr K (He.ga K "Deck") "bridge" := He.noat_ok (T.says.fact 132)
theorem n_Deck_part (T : Top K mg) : NoAttr K (He.ga K "Deck") "part" := He.noat_ok (T.says.fact 133)
theorem n_Deck_out (T : Top K mg) : NoAttr K (He.ga K "Deck") "out" := He.noat_ok (T.says.fact 134)
theorem n_Deck_pause (T : Top K mg) : NoAttr K (He.ga K "Deck") "pause" := He.noat_ok (T.says.fact 135)
theorem n_Deck_turn_most (T : Top K mg) : NoAttr K (He.ga K "Deck") "turn_most" := He.noat_ok (T.says.fact 136)
theorem n_Deck_rule (T : Top K mg) : NoAttr K (He.ga K "Deck") "rule" := He.noat_ok (T.says.fact 137)
theorem n_Deck_week (T : Top K mg) : NoAttr K (He.ga K "Deck") "week" := He.noat_ok (T.says.fact 138)
theorem n_Deck_here (T : Top K mg) : NoAttr K (He.ga K "Deck") "here" := He.noat_ok (T.says.fact 139)
theorem n_Deck_phase (T : Top K mg) : NoAttr K (He.ga K "Deck") "phase" := He.noat_ok (T.says.fact 140)
theorem n_Deck_ends (T : Top K mg) : NoAttr K (He.ga K "Deck") "ends" := He.noat_ok (T.says.fact 141)
theorem n_Deck_down_at (T : Top K mg) : NoAttr K (He.ga K "Deck") "down_at" := He.noat_ok (T.says.fact 142)
theorem n_Deck_whose (T : Top K mg) : NoAttr K (He.ga K "Deck") "whose" := He.noat_ok (T.says.fact 143)
theorem n_Deck_gone_on (T : Top K mg) : NoAttr K (He.ga K "Deck") "gone_on" := He.noat_ok (T.says.fact 144)
theorem n_Deck_carts (T : Top K mg) : NoAttr K (He.ga K "Deck") "carts" := He.noat_ok (T.says.fact 145)
theorem n_Deck_lines (T : Top K mg) : NoAttr K (He.ga K "Deck") "lines" := He.noat_ok (T.says.fact 146)
theorem n_Deck_queue (T : Top K mg) : NoAttr K (He.ga K "Deck") "queue" := He.noat_ok (T.says.fact 147)
theorem n_Deck_told_for (T : Top K mg) : NoAttr K (He.ga K "Deck") "told_for" := He.noat_ok (T.says.fact 148)
theorem n_Deck_known (T : Top K mg) : NoAttr K (He.ga K "Deck") "known" := He.noat_ok (T.says.fact 149)
theorem n_Deck_hours (T : Top K mg) : NoAttr K (He.ga K "Deck") "hours" := He.noat_ok (T.says.fact 150)
theorem m_Deck_tell (T : Top K mg) : Meth K (He.ga K "Deck") "tell" (He.ma K (He.ga K "Deck") "tell") := He.meth_ok (T.says.fact 151)
theorem m_Deck_need_free (T : Top K mg) : Meth K (He.ga K "Deck") "need_free" (He.ma K (He.ga K "Deck") "need_free") := He.meth_ok (T.says.fact 152)
theorem m_Deck_cart (T : Top K mg) : Meth K (He.ga K "Deck") "cart" (He.ma K (He.ga K "Deck") "cart") := He.meth_ok (T.says.fact 153)
theorem m_Deck_ship (T : Top K mg) : Meth K (He.ga K "Deck") "ship" (He.ma K (He.ga K "Deck") "ship") := He.meth_ok (T.says.fact 154)
theorem m_Deck_come (T : Top K mg) : Meth K (He.ga K "Deck") "come" (He.ma K (He.ga K "Deck") "come") := He.meth_ok (T.says.fact 155)
theorem m_Deck_roll (T : Top K mg) : Meth K (He.ga K "Deck") "roll" (He.ma K (He.ga K "Deck") "roll") := He.meth_ok (T.says.fact 156)
theorem m_Deck_swing_on (T : Top K mg) : Meth K (He.ga K "Deck") "swing_on" (He.ma K (He.ga K "Deck") "swing_on") := He.meth_ok (T.says.fact 157)
theorem m_Deck_is_called (T : Top K mg) : Meth K (He.ga K "Deck") "is_called" (He.ma K (He.ga K "Deck") "is_called") := He.meth_ok (T.says.fact 158)
theorem m_Deck_swing_out (T : Top K mg) : Meth K (He.ga K "Deck") "swing_out" (He.ma K (He.ga K "Deck") "swing_out") := He.meth_ok (T.says.fact 159)
theorem m_Deck_turn_over (T : Top K mg) : Meth K (He.ga K "Deck") "turn_over" (He.ma K (He.ga K "Deck") "turn_over") := He.meth_ok (T.says.fact 160)
theorem m_Deck_go_on (T : Top K mg) : Meth K (He.ga K "Deck") "go_on" (He.ma K (He.ga K "Deck") "go_on") := He.meth_ok (T.says.fact 161)
theorem m_Deck_work (T : Top K mg) : Meth K (He.ga K "Deck") "work" (He.ma K (He.ga K "Deck") "work") := He.meth_ok (T.says.fact 162)
theorem m_Deck_awake_from (T : Top K mg) : Meth K (He.ga K "Deck") "awake_from" (He.ma K (He.ga K "Deck") "awake_from") := He.meth_ok (T.says.fact 163)
theorem m_Deck_called_from (T : Top K mg) : Meth K (He.ga K "Deck") "called_from" (He.ma K (He.ga K "Deck") "called_from") := He.meth_ok (T.says.fact 164)
theorem m_Deck_work_from (T : Top K mg) : Meth K (He.ga K "Deck") "work_from" (He.ma K (He.ga K "Deck") "work_from") := He.meth_ok (T.says.fact 165)
theorem m_Deck_go_to (T : Top K mg) : Meth K (He.ga K "Deck") "go_to" (He.ma K (He.ga K "Deck") "go_to") := He.meth_ok (T.says.fact 166)
theorem m_Overload_init (T : Top K mg) : Meth K (He.ga K "Overload") "__init__" (He.ma K (He.ga K "Overload") "__init__") := He.meth_ok (T.says.fact 167)
theorem exm_Overload (T : Top K mg) : PySem.W.exmOne K (.ref (He.ga K "Overload")) (.ref (He.ga K "Overload")) = some true := of_decide_eq_true (show decide _ = true from T.says.fact 168 (f := .exm "Overload" "Overload" true))
theorem bx (T : Top K mg) : ∃ o, K.lookup (He.ga K "BANKS") = some o ∧ o.cls = .type "tuple" ∧ o.dict = none := by
  have h : bxB K = true := (He.ba (show (bxB K && _) = true from T.more)).1
  unfold bxB at h
  split at h
  · rename_i a b c e
    exact ⟨_, e, rfl, rfl⟩
  · cases h
theorem exs (T : Top K mg) : (((He.tupB K "BANKS" [.str "near", .str "far"] = true ∧ ovB K (He.ga K "Overload") = true) ∧ ovN K = true) ∧ isiB K (He.ga K "Boat") = true) ∧ He.ma K (He.ga K "Days") "clocks" = He.ma K (He.ga K "Rule") "clocks" := by
  have h := (He.ba (show (bxB K && _) = true from T.more)).2
  simpa only [Bool.and_eq_true, decide_eq_true_eq] using h
theorem t_BANKS (T : Top K mg) (H : Hp) : SqT K H (He.ga K "BANKS") [.str "near", .str "far"] := He.tupB_ok (vs := [.str "near", .str "far"]) (exs T).1.1.1.1 H
/-! ### the defs as they stand -/
theorem F_is_whole (T : Top K mg) : ∃ fd, FunD K "is_whole" "is_whole" (defArgs s_is_whole) (defBody s_is_whole) (defScope s_is_whole) [] [] (He.ga K "is_whole") fd := T.says.def_ 0 (d := d_is_whole)
theorem F_is_from_to (T : Top K mg) : ∃ fd, FunD K "is_from_to" "is_from_to" (defArgs s_is_from_to) (defBody s_is_from_to) (defScope s_is_from_to) [] [] (He.ga K "is_from_to") fd := T.says.def_ 1 (d := d_is_from_to)
theorem F_is_name (T : Top K mg) : ∃ fd, FunD K "is_name" "is_name" (defArgs s_is_name) (defBody s_is_name) (defScope s_is_name) [] [] (He.ga K "is_name") fd := T.says.def_ 2 (d := d_is_name)
theorem F_Boat_init (T : Top K mg) : ∃ fd, FunD K "__init__" "Boat.__init__" (defArgs s_Boat_init) (defBody s_Boat_init) (defScope s_Boat_init) [] [] (He.ma K (He.ga K "Boat") "__init__") fd := T.says.def_ 3 (d := d_Boat_init)
theorem F_Overload_init (T : Top K mg) : ∃ fd, FunD K "__init__" "Overload.__init__" (defArgs s_Overload_init) (defBody s_Overload_init) (defScope s_Overload_init) [] [] (He.ma K (He.ga K "Overload") "__init__") fd := T.says.def_ 4 (d := d_Overload_init)
theorem F_are_boats (T : Top K mg) : ∃ fd, FunD K "are_boats" "are_boats" (defArgs s_are_boats) (defBody s_are_boats) (defScope s_are_boats) [] [] (He.ga K "are_boats") fd := T.says.def_ 5 (d := d_are_boats)
theorem F_are_spans (T : Top K mg) : ∃ fd, FunD K "are_spans" "are_spans" (defArgs s_are_spans) (defBody s_are_spans) (defScope s_are_spans) [] [] (He.ga K "are_spans") fd := T.says.def_ 6 (d := d_are_spans)
theorem F_Bridge_init (T : Top K mg) : ∃ fd, FunD K "__init__" "Bridge.__init__" (defArgs s_Bridge_init) (defBody s_Bridge_init) (defScope s_Bridge_init) [] [] (He.ma K (He.ga K "Bridge") "__init__") fd := T.says.def_ 7 (d := d_Bridge_init)
theorem F_Bridge_len (T : Top K mg) : ∃ fd, FunD K "__len__" "Bridge.__len__" (defArgs s_Bridge_len) (defBody s_Bridge_len) (defScope s_Bridge_len) [] [] (He.ma K (He.ga K "Bridge") "__len__") fd := T.says.def_ 8 (d := d_Bridge_len)
theorem F_Bridge_boats (T : Top K mg) : ∃ fd, FunD K "boats" "Bridge.boats" (defArgs s_Bridge_boats) (defBody s_Bridge_boats) (defScope s_Bridge_boats) [] [] (He.ma K (He.ga K "Bridge") "boats") fd := T.says.def_ 9 (d := d_Bridge_boats)
theorem F_Bridge_spans (T : Top K mg) : ∃ fd, FunD K "spans" "Bridge.spans" (defArgs s_Bridge_spans) (defBody s_Bridge_spans) (defScope s_Bridge_spans) [] [] (He.ma K (He.ga K "Bridge") "spans") fd := T.says.def_ 10 (d := d_Bridge_spans)
theorem F_halves (T : Top K mg) : ∃ fd, FunD K "halves" "halves" (defArgs s_halves) (defBody s_halves) (defScope s_halves) [] [] (He.ga K "halves") fd := T.says.def_ 11 (d := d_halves)
theorem F_need_borne (T : Top K mg) : ∃ fd, FunD K "need_borne" "need_borne" (defArgs s_need_borne) (defBody s_need_borne) (defScope s_need_borne) [] [] (He.ga K "need_borne") fd := T.says.def_ 12 (d := d_need_borne)
theorem F_is_borne (T : Top K mg) : ∃ fd, FunD K "is_borne" "is_borne" (defArgs s_is_borne) (defBody s_is_borne) (defScope s_is_borne) [] [] (He.ga K "is_borne") fd := T.says.def_ 13 (d := d_is_borne)
theorem F_other_bank (T : Top K mg) : ∃ fd, FunD K "other_bank" "other_bank" (defArgs s_other_bank) (defBody s_other_bank) (defScope s_other_bank) [] [] (He.ga K "other_bank") fd := T.says.def_ 14 (d := d_other_bank)
theorem F_bank_span (T : Top K mg) : ∃ fd, FunD K "bank_span" "bank_span" (defArgs s_bank_span) (defBody s_bank_span) (defScope s_bank_span) [] [] (He.ga K "bank_span") fd := T.says.def_ 15 (d := d_bank_span)
theorem F_rolled (T : Top K mg) : ∃ fd, FunD K "rolled" "rolled" (defArgs s_rolled) (defBody s_rolled) (defScope s_rolled) [] [] (He.ga K "rolled") fd := T.says.def_ 16 (d := d_rolled)
theorem F_is_off (T : Top K mg) : ∃ fd, FunD K "is_off" "is_off" (defArgs s_is_off) (defBody s_is_off) (defScope s_is_off) [] [] (He.ga K "is_off") fd := T.says.def_ 17 (d := d_is_off)
theorem F_load_of (T : Top K mg) : ∃ fd, FunD K "load_of" "load_of" (defArgs s_load_of) (defBody s_load_of) (defScope s_load_of) [] [] (He.ga K "load_of") fd := T.says.def_ 18 (d := d_load_of)
theorem F_need_alone (T : Top K mg) : ∃ fd, FunD K "need_alone" "need_alone" (defArgs s_need_alone) (defBody s_need_alone) (defScope s_need_alone) [] [] (He.ga K "need_alone") fd := T.says.def_ 19 (d := d_need_alone)
theorem F_is_borne_on (T : Top K mg) : ∃ fd, FunD K "is_borne_on" "is_borne_on" (defArgs s_is_borne_on) (defBody s_is_borne_on) (defScope s_is_borne_on) [] [] (He.ga K "is_borne_on") fd := T.says.def_ 20 (d := d_is_borne_on)
theorem F_is_to_come (T : Top K mg) : ∃ fd, FunD K "is_to_come" "is_to_come" (defArgs s_is_to_come) (defBody s_is_to_come) (defScope s_is_to_come) [] [] (He.ga K "is_to_come") fd := T.says.def_ 21 (d := d_is_to_come)
theorem F_Stretch_init (T : Top K mg) : ∃ fd, FunD K "__init__" "Stretch.__init__" (defArgs s_Stretch_init) (defBody s_Stretch_init) (defScope s_Stretch_init) [.non] [] (He.ma K (He.ga K "Stretch") "__init__") fd := T.says.def_ 22 (d := d_Stretch_init)
theorem F_Stretch_len (T : Top K mg) : ∃ fd, FunD K "__len__" "Stretch.__len__" (defArgs s_Stretch_len) (defBody s_Stretch_len) (defScope s_Stretch_len) [] [] (He.ma K (He.ga K "Stretch") "__len__") fd := T.says.def_ 23 (d := d_Stretch_len)
theorem F_joined (T : Top K mg) : ∃ fd, FunD K "joined" "joined" (defArgs s_joined) (defBody s_joined) (defScope s_joined) [.int 0] [] (He.ga K "joined") fd := T.says.def_ 24 (d := d_joined)
theorem F_Rule_allows (T : Top K mg) : ∃ fd, FunD K "allows" "Rule.allows" (defArgs s_Rule_allows) (defBody s_Rule_allows) (defScope s_Rule_allows) [] [] (He.ma K (He.ga K "Rule") "allows") fd := T.says.def_ 25 (d := d_Rule_allows)
theorem F_Rule_clocks (T : Top K mg) : ∃ fd, FunD K "clocks" "Rule.clocks" (defArgs s_Rule_clocks) (defBody s_Rule_clocks) (defScope s_Rule_clocks) [] [] (He.ma K (He.ga K "Rule") "clocks") fd := T.says.def_ 26 (d := d_Rule_clocks)
theorem F_Hours_init (T : Top K mg) : ∃ fd, FunD K "__init__" "Hours.__init__" (defArgs s_Hours_init) (defBody s_Hours_init) (defScope s_Hours_init) [] [] (He.ma K (He.ga K "Hours") "__init__") fd := T.says.def_ 27 (d := d_Hours_init)
theorem F_Hours_allows (T : Top K mg) : ∃ fd, FunD K "allows" "Hours.allows" (defArgs s_Hours_allows) (defBody s_Hours_allows) (defScope s_Hours_allows) [] [] (He.ma K (He.ga K "Hours") "allows") fd := T.says.def_ 28 (d := d_Hours_allows)
theorem F_Hours_clocks (T : Top K mg) : ∃ fd, FunD K "clocks" "Hours.clocks" (defArgs s_Hours_clocks) (defBody s_Hours_clocks) (defScope s_Hours_clocks) [] [] (He.ma K (He.ga K "Hours") "clocks") fd := T.says.def_ 29 (d := d_Hours_clocks)
theorem F_Days_init (T : Top K mg) : ∃ fd, FunD K "__init__" "Days.__init__" (defArgs s_Days_init) (defBody s_Days_init) (defScope s_Days_init) [] [] (He.ma K (He.ga K "Days") "__init__") fd := T.says.def_ 30 (d := d_Days_init)
theorem F_Days_allows (T : Top K mg) : ∃ fd, FunD K "allows" "Days.allows" (defArgs s_Days_allows) (defBody s_Days_allows) (defScope s_Days_allows) [] [] (He.ma K (He.ga K "Days") "allows") fd := T.says.def_ 31 (d := d_Days_allows)
theorem F_Unless_init (T : Top K mg) : ∃ fd, FunD K "__init__" "Unless.__init__" (defArgs s_Unless_init) (defBody s_Unless_init) (defScope s_Unless_init) [] [] (He.ma K (He.ga K "Unless") "__init__") fd := T.says.def_ 32 (d := d_Unless_init)
theorem F_Unless_allows (T : Top K mg) : ∃ fd, FunD K "allows" "Unless.allows" (defArgs s_Unless_allows) (defBody s_Unless_allows) (defScope s_Unless_allows) [] [] (He.ma K (He.ga K "Unless") "allows") fd := T.says.def_ 33 (d := d_Unless_allows)
theorem F_Unless_clocks (T : Top K mg) : ∃ fd, FunD K "clocks" "Unless.clocks" (defArgs s_Unless_clocks) (defBody s_Unless_clocks) (defScope s_Unless_clocks) [] [] (He.ma K (He.ga K "Unless") "clocks") fd := T.says.def_ 34 (d := d_Unless_clocks)
theorem F_clocks_of (T : Top K mg) : ∃ fd, FunD K "clocks_of" "clocks_of" (defArgs s_clocks_of) (defBody s_clocks_of) (defScope s_clocks_of) [] [] (He.ga K "clocks_of") fd := T.says.def_ 35 (d := d_clocks_of)
theorem F_Both_init (T : Top K mg) : ∃ fd, FunD K "__init__" "Both.__init__" (defArgs s_Both_init) (defBody s_Both_init) (defScope s_Both_init) [] [] (He.ma K (He.ga K "Both") "__init__") fd := T.says.def_ 36 (d := d_Both_init)
theorem F_Both_allows (T : Top K mg) : ∃ fd, FunD K "allows" "Both.allows" (defArgs s_Both_allows) (defBody s_Both_allows) (defScope s_Both_allows) [] [] (He.ma K (He.ga K "Both") "allows") fd := T.says.def_ 37 (d := d_Both_allows)
theorem F_Both_clocks (T : Top K mg) : ∃ fd, FunD K "clocks" "Both.clocks" (defArgs s_Both_clocks) (defBody s_Both_clocks) (defScope s_Both_clocks) [] [] (He.ma K (He.ga K "Both") "clocks") fd := T.says.def_ 38 (d := d_Both_clocks)
theorem F_Either_init (T : Top K mg) : ∃ fd, FunD K "__init__" "Either.__init__" (defArgs s_Either_init) (defBody s_Either_init) (defScope s_Either_init) [] [] (He.ma K (He.ga K "Either") "__init__") fd := T.says.def_ 39 (d := d_Either_init)
theorem F_Either_allows (T : Top K mg) : ∃ fd, FunD K "allows" "Either.allows" (defArgs s_Either_allows) (defBody s_Either_allows) (defScope s_Either_allows) [] [] (He.ma K (He.ga K "Either") "allows") fd := T.says.def_ 40 (d := d_Either_allows)
theorem F_Either_clocks (T : Top K mg) : ∃ fd, FunD K "clocks" "Either.clocks" (defArgs s_Either_clocks) (defBody s_Either_clocks) (defScope s_Either_clocks) [] [] (He.ma K (He.ga K "Either") "clocks") fd := T.says.def_ 41 (d := d_Either_clocks)
theorem F_edges_in (T : Top K mg) : ∃ fd, FunD K "edges_in" "edges_in" (defArgs s_edges_in) (defBody s_edges_in) (defScope s_edges_in) [] [] (He.ga K "edges_in") fd := T.says.def_ 42 (d := d_edges_in)
theorem F_allowed_in (T : Top K mg) : ∃ fd, FunD K "allowed_in" "allowed_in" (defArgs s_allowed_in) (defBody s_allowed_in) (defScope s_allowed_in) [] [] (He.ga K "allowed_in") fd := T.says.def_ 43 (d := d_allowed_in)
theorem F_Week_init (T : Top K mg) : ∃ fd, FunD K "__init__" "Week.__init__" (defArgs s_Week_init) (defBody s_Week_init) (defScope s_Week_init) [] [] (He.ma K (He.ga K "Week") "__init__") fd := T.says.def_ 44 (d := d_Week_init)
theorem F_Week_first_from (T : Top K mg) : ∃ fd, FunD K "first_from" "Week.first_from" (defArgs s_Week_first_from) (defBody s_Week_first_from) (defScope s_Week_first_from) [] [] (He.ma K (He.ga K "Week") "first_from") fd := T.says.def_ 45 (d := d_Week_first_from)
theorem F_need_things (T : Top K mg) : ∃ fd, FunD K "need_things" "need_things" (defArgs s_need_things) (defBody s_need_things) (defScope s_need_things) [] [] (He.ga K "need_things") fd := T.says.def_ 46 (d := d_need_things)
theorem F_is_time (T : Top K mg) : ∃ fd, FunD K "is_time" "is_time" (defArgs s_is_time) (defBody s_is_time) (defScope s_is_time) [] [] (He.ga K "is_time") fd := T.says.def_ 47 (d := d_is_time)
theorem F_is_bank (T : Top K mg) : ∃ fd, FunD K "is_bank" "is_bank" (defArgs s_is_bank) (defBody s_is_bank) (defScope s_is_bank) [] [] (He.ga K "is_bank") fd := T.says.def_ 48 (d := d_is_bank)
theorem F_Deck_init (T : Top K mg) : ∃ fd, FunD K "__init__" "Deck.__init__" (defArgs s_Deck_init) (defBody s_Deck_init) (defScope s_Deck_init) [.int 5, .int 30, .int 3, .non] [] (He.ma K (He.ga K "Deck") "__init__") fd := T.says.def_ 49 (d := d_Deck_init)
theorem F_Deck_tell (T : Top K mg) : ∃ fd, FunD K "tell" "Deck.tell" (defArgs s_Deck_tell) (defBody s_Deck_tell) (defScope s_Deck_tell) [] [] (He.ma K (He.ga K "Deck") "tell") fd := T.says.def_ 50 (d := d_Deck_tell)
theorem F_Deck_need_free (T : Top K mg) : ∃ fd, FunD K "need_free" "Deck.need_free" (defArgs s_Deck_need_free) (defBody s_Deck_need_free) (defScope s_Deck_need_free) [] [] (He.ma K (He.ga K "Deck") "need_free") fd := T.says.def_ 51 (d := d_Deck_need_free)
theorem F_Deck_cart (T : Top K mg) : ∃ fd, FunD K "cart" "Deck.cart" (defArgs s_Deck_cart) (defBody s_Deck_cart) (defScope s_Deck_cart) [.non] [] (He.ma K (He.ga K "Deck") "cart") fd := T.says.def_ 52 (d := d_Deck_cart)
theorem F_Deck_ship (T : Top K mg) : ∃ fd, FunD K "ship" "Deck.ship" (defArgs s_Deck_ship) (defBody s_Deck_ship) (defScope s_Deck_ship) [.int 10, .non] [] (He.ma K (He.ga K "Deck") "ship") fd := T.says.def_ 53 (d := d_Deck_ship)
theorem F_Deck_come (T : Top K mg) : ∃ fd, FunD K "come" "Deck.come" (defArgs s_Deck_come) (defBody s_Deck_come) (defScope s_Deck_come) [] [] (He.ma K (He.ga K "Deck") "come") fd := T.says.def_ 54 (d := d_Deck_come)
theorem F_Deck_roll (T : Top K mg) : ∃ fd, FunD K "roll" "Deck.roll" (defArgs s_Deck_roll) (defBody s_Deck_roll) (defScope s_Deck_roll) [] [] (He.ma K (He.ga K "Deck") "roll") fd := T.says.def_ 55 (d := d_Deck_roll)
theorem F_Deck_swing_on (T : Top K mg) : ∃ fd, FunD K "swing_on" "Deck.swing_on" (defArgs s_Deck_swing_on) (defBody s_Deck_swing_on) (defScope s_Deck_swing_on) [] [] (He.ma K (He.ga K "Deck") "swing_on") fd := T.says.def_ 56 (d := d_Deck_swing_on)
theorem F_Deck_is_called (T : Top K mg) : ∃ fd, FunD K "is_called" "Deck.is_called" (defArgs s_Deck_is_called) (defBody s_Deck_is_called) (defScope s_Deck_is_called) [] [] (He.ma K (He.ga K "Deck") "is_called") fd := T.says.def_ 57 (d := d_Deck_is_called)
theorem F_Deck_swing_out (T : Top K mg) : ∃ fd, FunD K "swing_out" "Deck.swing_out" (defArgs s_Deck_swing_out) (defBody s_Deck_swing_out) (defScope s_Deck_swing_out) [] [] (He.ma K (He.ga K "Deck") "swing_out") fd := T.says.def_ 58 (d := d_Deck_swing_out)
theorem F_Deck_turn_over (T : Top K mg) : ∃ fd, FunD K "turn_over" "Deck.turn_over" (defArgs s_Deck_turn_over) (defBody s_Deck_turn_over) (defScope s_Deck_turn_over) [] [] (He.ma K (He.ga K "Deck") "turn_over") fd := T.says.def_ 59 (d := d_Deck_turn_over)
theorem F_Deck_go_on (T : Top K mg) : ∃ fd, FunD K "go_on" "Deck.go_on" (defArgs s_Deck_go_on) (defBody s_Deck_go_on) (defScope s_Deck_go_on) [] [] (He.ma K (He.ga K "Deck") "go_on") fd := T.says.def_ 60 (d := d_Deck_go_on)
theorem F_Deck_work (T : Top K mg) : ∃ fd, FunD K "work" "Deck.work" (defArgs s_Deck_work) (defBody s_Deck_work) (defScope s_Deck_work) [] [] (He.ma K (He.ga K "Deck") "work") fd := T.says.def_ 61 (d := d_Deck_work)
theorem F_Deck_awake_from (T : Top K mg) : ∃ fd, FunD K "awake_from" "Deck.awake_from" (defArgs s_Deck_awake_from) (defBody s_Deck_awake_from) (defScope s_Deck_awake_from) [] [] (He.ma K (He.ga K "Deck") "awake_from") fd := T.says.def_ 62 (d := d_Deck_awake_from)
theorem F_Deck_called_from (T : Top K mg) : ∃ fd, FunD K "called_from" "Deck.called_from" (defArgs s_Deck_called_from) (defBody s_Deck_called_from) (defScope s_Deck_called_from) [] [] (He.ma K (He.ga K "Deck") "called_from") fd := T.says.def_ 63 (d := d_Deck_called_from)
theorem F_Deck_work_from (T : Top K mg) : ∃ fd, FunD K "work_from" "Deck.work_from" (defArgs s_Deck_work_from) (defBody s_Deck_work_from) (defScope s_Deck_work_from) [] [] (He.ma K (He.ga K "Deck") "work_from") fd := T.says.def_ 64 (d := d_Deck_work_from)
theorem F_Deck_go_to (T : Top K mg) : ∃ fd, FunD K "go_to" "Deck.go_to" (defArgs s_Deck_go_to) (defBody s_Deck_go_to) (defScope s_Deck_go_to) [] [] (He.ma K (He.ga K "Deck") "go_to") fd := T.says.def_ 65 (d := d_Deck_go_to)
theorem F_law_feed (T : Top K mg) : ∃ fd, FunD K "_law_feed" "_law_feed" (defArgs s_law_feed) (defBody s_law_feed) (defScope s_law_feed) [] [] (He.ga K "_law_feed") fd := T.says.def_ 66 (d := d_law_feed)
theorem F_law_draw (T : Top K mg) : ∃ fd, FunD K "_law_draw" "_law_draw" (defArgs s_law_draw) (defBody s_law_draw) (defScope s_law_draw) [] [] (He.ga K "_law_draw") fd := T.says.def_ 67 (d := d_law_draw)
theorem F_law_of (T : Top K mg) : ∃ fd, FunD K "_law_of" "_law_of" (defArgs s_law_of) (defBody s_law_of) (defScope s_law_of) [] [] (He.ga K "_law_of") fd := T.says.def_ 68 (d := d_law_of)
theorem F_law_names (T : Top K mg) : ∃ fd, FunD K "_law_names" "_law_names" (defArgs s_law_names) (defBody s_law_names) (defScope s_law_names) [] [] (He.ga K "_law_names") fd := T.says.def_ 69 (d := d_law_names)
theorem F_law_world (T : Top K mg) : ∃ fd, FunD K "_law_world" "_law_world" (defArgs s_law_world) (defBody s_law_world) (defScope s_law_world) [] [] (He.ga K "_law_world") fd := T.says.def_ 70 (d := d_law_world)
theorem F_law_deck (T : Top K mg) : ∃ fd, FunD K "_law_deck" "_law_deck" (defArgs s_law_deck) (defBody s_law_deck) (defScope s_law_deck) [] [] (He.ga K "_law_deck") fd := T.says.def_ 71 (d := d_law_deck)
theorem F_law_most (T : Top K mg) : ∃ fd, FunD K "_law_most" "_law_most" (defArgs s_law_most) (defBody s_law_most) (defScope s_law_most) [] [] (He.ga K "_law_most") fd := T.says.def_ 72 (d := d_law_most)
theorem F_law_things (T : Top K mg) : ∃ fd, FunD K "_law_things" "_law_things" (defArgs s_law_things) (defBody s_law_things) (defScope s_law_things) [] [] (He.ga K "_law_things") fd := T.says.def_ 73 (d := d_law_things)
theorem F_law_tell (T : Top K mg) : ∃ fd, FunD K "_law_tell" "_law_tell" (defArgs s_law_tell) (defBody s_law_tell) (defScope s_law_tell) [] [] (He.ga K "_law_tell") fd := T.says.def_ 74 (d := d_law_tell)
theorem F_law_hours (T : Top K mg) : ∃ fd, FunD K "_law_hours" "_law_hours" (defArgs s_law_hours) (defBody s_law_hours) (defScope s_law_hours) [] [] (He.ga K "_law_hours") fd := T.says.def_ 75 (d := d_law_hours)
theorem F_law_swings_right (T : Top K mg) : ∃ fd, FunD K "_law_swings_right" "_law_swings_right" (defArgs s_law_swings_right) (defBody s_law_swings_right) (defScope s_law_swings_right) [] [] (He.ga K "_law_swings_right") fd := T.says.def_ 76 (d := d_law_swings_right)
theorem F_law_phases (T : Top K mg) : ∃ fd, FunD K "_law_phases" "_law_phases" (defArgs s_law_phases) (defBody s_law_phases) (defScope s_law_phases) [] [] (He.ga K "_law_phases") fd := T.says.def_ 77 (d := d_law_phases)
theorem F_law_carts_right (T : Top K mg) : ∃ fd, FunD K "_law_carts_right" "_law_carts_right" (defArgs s_law_carts_right) (defBody s_law_carts_right) (defScope s_law_carts_right) [] [] (He.ga K "_law_carts_right") fd := T.says.def_ 78 (d := d_law_carts_right)
theorem F_law (T : Top K mg) : ∃ fd, FunD K "law" "law" (defArgs s_law) (defBody s_law) (defScope s_law) [] [] (He.ga K "law") fd := T.says.def_ 79 (d := d_law)
end
/-! ### the names of each def: its parameters, its locals, those of its comprehensions -/
theorem sc_is_whole : FnScope ["thing"] ["thing"] (defScope s_is_whole) := ⟨rfl, rfl, rfl, by decide +kernel, rfl, by decide +kernel, by decide +kernel⟩
theorem sc_is_from_to : FnScope ["thing", "least", "most"] ["thing", "least", "most"] (defScope s_is_from_to) := ⟨rfl, rfl, rfl, by decide +kernel, rfl, by decide +kernel, by decide +kernel⟩
theorem sc_is_name : FnScope ["thing", "sign"] ["thing"] (defScope s_is_name) := ⟨rfl, rfl, rfl, by decide +kernel, rfl, by decide +kernel, by decide +kernel⟩
theorem sc_Boat_init : FnScope ["self", "name", "bears"] ["self", "name", "bears"] (defScope s_Boat_init) := ⟨rfl, rfl, rfl, by decide +kernel, rfl, by decide +kernel, by decide +kernel⟩
theorem sc_Overload_init : FnScope ["self", "part", "at", "over"] ["self", "part", "at", "over"] (defScope s_Overload_init) := ⟨rfl, rfl, rfl, by decide +kernel, rfl, by decide +kernel, by decide +kernel⟩
theorem sc_are_boats : FnScope ["thing", "one", "boat"] ["thing"] (defScope s_are_boats) := ⟨rfl, rfl, rfl, by decide +kernel, rfl, by decide +kernel, by decide +kernel⟩
theorem sc_are_spans : FnScope ["thing", "many", "one"] ["thing", "many"] (defScope s_are_spans) := ⟨rfl, rfl, rfl, by decide +kernel, rfl, by decide +kernel, by decide +kernel⟩
theorem sc_Bridge_init : FnScope ["self", "boats", "spans"] ["self", "boats", "spans"] (defScope s_Bridge_init) := ⟨rfl, rfl, rfl, by decide +kernel, rfl, by decide +kernel, by decide +kernel⟩
theorem sc_Bridge_len : FnScope ["self"] ["self"] (defScope s_Bridge_len) := ⟨rfl, rfl, rfl, by decide +kernel, rfl, by decide +kernel, by decide +kernel⟩
theorem sc_Bridge_boats : FnScope ["self"] ["self"] (defScope s_Bridge_boats) := ⟨rfl, rfl, rfl, by decide +kernel, rfl, by decide +kernel, by decide +kernel⟩
theorem sc_Bridge_spans : FnScope ["self"] ["self"] (defScope s_Bridge_spans) := ⟨rfl, rfl, rfl, by decide +kernel, rfl, by decide +kernel, by decide +kernel⟩
theorem sc_halves : FnScope ["bridge", "load", "k"] ["bridge", "load"] (defScope s_halves) := ⟨rfl, rfl, rfl, by decide +kernel, rfl, by decide +kernel, by decide +kernel⟩
theorem sc_need_borne : FnScope ["bridge", "load", "at", "weight", "most", "both", "boat"] ["bridge", "load"] (defScope s_need_borne) := ⟨rfl, rfl, rfl, by decide +kernel, rfl, by decide +kernel, by decide +kernel⟩
theorem sc_is_borne : FnScope ["bridge", "load"] ["bridge", "load"] (defScope s_is_borne) := ⟨rfl, rfl, rfl, by decide +kernel, rfl, by decide +kernel, by decide +kernel⟩
theorem sc_other_bank : FnScope ["bank"] ["bank"] (defScope s_other_bank) := ⟨rfl, rfl, rfl, by decide +kernel, rfl, by decide +kernel, by decide +kernel⟩
theorem sc_bank_span : FnScope ["bridge", "bank"] ["bridge", "bank"] (defScope s_bank_span) := ⟨rfl, rfl, rfl, by decide +kernel, rfl, by decide +kernel, by decide +kernel⟩
theorem sc_rolled : FnScope ["cart", "name", "bank", "weight", "place"] ["cart"] (defScope s_rolled) := ⟨rfl, rfl, rfl, by decide +kernel, rfl, by decide +kernel, by decide +kernel⟩
theorem sc_is_off : FnScope ["bridge", "cart"] ["bridge", "cart"] (defScope s_is_off) := ⟨rfl, rfl, rfl, by decide +kernel, rfl, by decide +kernel, by decide +kernel⟩
theorem sc_load_of : FnScope ["bridge", "carts", "found", "name", "bank", "weight", "place"] ["bridge", "carts"] (defScope s_load_of) := ⟨rfl, rfl, rfl, by decide +kernel, rfl, by decide +kernel, by decide +kernel⟩
theorem sc_need_alone : FnScope ["bridge", "weight", "place"] ["bridge", "weight"] (defScope s_need_alone) := ⟨rfl, rfl, rfl, by decide +kernel, rfl, by decide +kernel, by decide +kernel⟩
theorem sc_is_borne_on : FnScope ["bridge", "carts", "cart", "here", "one"] ["bridge", "carts", "cart"] (defScope s_is_borne_on) := ⟨rfl, rfl, rfl, by decide +kernel, rfl, by decide +kernel, by decide +kernel⟩
theorem sc_is_to_come : FnScope ["cart", "part"] ["cart", "part"] (defScope s_is_to_come) := ⟨rfl, rfl, rfl, by decide +kernel, rfl, by decide +kernel, by decide +kernel⟩
theorem sc_Stretch_init : FnScope ["self", "first", "behind"] ["self", "first", "behind"] (defScope s_Stretch_init) := ⟨rfl, rfl, rfl, by decide +kernel, rfl, by decide +kernel, by decide +kernel⟩
theorem sc_Stretch_len : FnScope ["self"] ["self"] (defScope s_Stretch_len) := ⟨rfl, rfl, rfl, by decide +kernel, rfl, by decide +kernel, by decide +kernel⟩
theorem sc_joined : FnScope ["some", "apart", "found", "first", "behind", "one"] ["some", "apart"] (defScope s_joined) := ⟨rfl, rfl, rfl, by decide +kernel, rfl, by decide +kernel, by decide +kernel⟩
theorem sc_Rule_allows : FnScope ["self", "minute"] ["self", "minute"] (defScope s_Rule_allows) := ⟨rfl, rfl, rfl, by decide +kernel, rfl, by decide +kernel, by decide +kernel⟩
theorem sc_Rule_clocks : FnScope ["self"] ["self"] (defScope s_Rule_clocks) := ⟨rfl, rfl, rfl, by decide +kernel, rfl, by decide +kernel, by decide +kernel⟩
theorem sc_Hours_init : FnScope ["self", "first", "behind"] ["self", "first", "behind"] (defScope s_Hours_init) := ⟨rfl, rfl, rfl, by decide +kernel, rfl, by decide +kernel, by decide +kernel⟩
theorem sc_Hours_allows : FnScope ["self", "minute", "clock"] ["self", "minute"] (defScope s_Hours_allows) := ⟨rfl, rfl, rfl, by decide +kernel, rfl, by decide +kernel, by decide +kernel⟩
theorem sc_Hours_clocks : FnScope ["self"] ["self"] (defScope s_Hours_clocks) := ⟨rfl, rfl, rfl, by decide +kernel, rfl, by decide +kernel, by decide +kernel⟩
theorem sc_Days_init : FnScope ["self", "days"] ["self", "days"] (defScope s_Days_init) := ⟨rfl, rfl, rfl, by decide +kernel, rfl, by decide +kernel, by decide +kernel⟩
theorem sc_Days_allows : FnScope ["self", "minute", "day"] ["self", "minute"] (defScope s_Days_allows) := ⟨rfl, rfl, rfl, by decide +kernel, rfl, by decide +kernel, by decide +kernel⟩
theorem sc_Unless_init : FnScope ["self", "rule"] ["self", "rule"] (defScope s_Unless_init) := ⟨rfl, rfl, rfl, by decide +kernel, rfl, by decide +kernel, by decide +kernel⟩
theorem sc_Unless_allows : FnScope ["self", "minute"] ["self", "minute"] (defScope s_Unless_allows) := ⟨rfl, rfl, rfl, by decide +kernel, rfl, by decide +kernel, by decide +kernel⟩
theorem sc_Unless_clocks : FnScope ["self"] ["self"] (defScope s_Unless_clocks) := ⟨rfl, rfl, rfl, by decide +kernel, rfl, by decide +kernel, by decide +kernel⟩
theorem sc_clocks_of : FnScope ["rules", "rule"] ["rules"] (defScope s_clocks_of) := ⟨rfl, rfl, rfl, by decide +kernel, rfl, by decide +kernel, by decide +kernel⟩
theorem sc_Both_init : FnScope ["self", "rules"] ["self", "rules"] (defScope s_Both_init) := ⟨rfl, rfl, rfl, by decide +kernel, rfl, by decide +kernel, by decide +kernel⟩
theorem sc_Both_allows : FnScope ["self", "minute", "rule"] ["self", "minute"] (defScope s_Both_allows) := ⟨rfl, rfl, rfl, by decide +kernel, rfl, by decide +kernel, by decide +kernel⟩
theorem sc_Both_clocks : FnScope ["self"] ["self"] (defScope s_Both_clocks) := ⟨rfl, rfl, rfl, by decide +kernel, rfl, by decide +kernel, by decide +kernel⟩
theorem sc_Either_init : FnScope ["self", "rules"] ["self", "rules"] (defScope s_Either_init) := ⟨rfl, rfl, rfl, by decide +kernel, rfl, by decide +kernel, by decide +kernel⟩
theorem sc_Either_allows : FnScope ["self", "minute", "rule"] ["self", "minute"] (defScope s_Either_allows) := ⟨rfl, rfl, rfl, by decide +kernel, rfl, by decide +kernel, by decide +kernel⟩
theorem sc_Either_clocks : FnScope ["self"] ["self"] (defScope s_Either_clocks) := ⟨rfl, rfl, rfl, by decide +kernel, rfl, by decide +kernel, by decide +kernel⟩
theorem sc_edges_in : FnScope ["rule", "within", "clocks", "found", "day", "clock"] ["rule", "within"] (defScope s_edges_in) := ⟨rfl, rfl, rfl, by decide +kernel, rfl, by decide +kernel, by decide +kernel⟩
theorem sc_allowed_in : FnScope ["rule", "within", "edges", "found", "first", "behind"] ["rule", "within"] (defScope s_allowed_in) := ⟨rfl, rfl, rfl, by decide +kernel, rfl, by decide +kernel, by decide +kernel⟩
theorem sc_Week_init : FnScope ["self", "rule", "whole"] ["self", "rule"] (defScope s_Week_init) := ⟨rfl, rfl, rfl, by decide +kernel, rfl, by decide +kernel, by decide +kernel⟩
theorem sc_Week_first_from : FnScope ["self", "minute", "long", "weeks", "here", "run", "first"] ["self", "minute", "long"] (defScope s_Week_first_from) := ⟨rfl, rfl, rfl, by decide +kernel, rfl, by decide +kernel, by decide +kernel⟩
theorem sc_need_things : FnScope ["pairs", "thing", "good"] ["pairs"] (defScope s_need_things) := ⟨rfl, rfl, rfl, by decide +kernel, rfl, by decide +kernel, by decide +kernel⟩
theorem sc_is_time : FnScope ["thing"] ["thing"] (defScope s_is_time) := ⟨rfl, rfl, rfl, by decide +kernel, rfl, by decide +kernel, by decide +kernel⟩
theorem sc_is_bank : FnScope ["thing"] ["thing"] (defScope s_is_bank) := ⟨rfl, rfl, rfl, by decide +kernel, rfl, by decide +kernel, by decide +kernel⟩
theorem sc_Deck_init : FnScope ["self", "bridge", "part", "out", "rest", "turn", "rule"] ["self", "bridge", "part", "out", "rest", "turn", "rule"] (defScope s_Deck_init) := ⟨rfl, rfl, rfl, by decide +kernel, rfl, by decide +kernel, by decide +kernel⟩
theorem sc_Deck_tell : FnScope ["self", "name", "at", "thing", "minute"] ["self", "name", "at", "thing"] (defScope s_Deck_tell) := ⟨rfl, rfl, rfl, by decide +kernel, rfl, by decide +kernel, by decide +kernel⟩
theorem sc_Deck_need_free : FnScope ["self", "name"] ["self", "name"] (defScope s_Deck_need_free) := ⟨rfl, rfl, rfl, by decide +kernel, rfl, by decide +kernel, by decide +kernel⟩
theorem sc_Deck_cart : FnScope ["self", "name", "bank", "weight", "at"] ["self", "name", "bank", "weight", "at"] (defScope s_Deck_cart) := ⟨rfl, rfl, rfl, by decide +kernel, rfl, by decide +kernel, by decide +kernel⟩
theorem sc_Deck_ship : FnScope ["self", "name", "long", "at"] ["self", "name", "long", "at"] (defScope s_Deck_ship) := ⟨rfl, rfl, rfl, by decide +kernel, rfl, by decide +kernel, by decide +kernel⟩
theorem sc_Deck_come : FnScope ["self", "minute", "thing"] ["self", "minute"] (defScope s_Deck_come) := ⟨rfl, rfl, rfl, by decide +kernel, rfl, by decide +kernel, by decide +kernel⟩
theorem sc_Deck_roll : FnScope ["self", "minute", "events", "gone", "cart"] ["self", "minute", "events"] (defScope s_Deck_roll) := ⟨rfl, rfl, rfl, by decide +kernel, rfl, by decide +kernel, by decide +kernel⟩
theorem sc_Deck_swing_on : FnScope ["self", "minute", "events", "name", "long"] ["self", "minute", "events"] (defScope s_Deck_swing_on) := ⟨rfl, rfl, rfl, by decide +kernel, rfl, by decide +kernel, by decide +kernel⟩
theorem sc_Deck_is_called : FnScope ["self", "minute"] ["self", "minute"] (defScope s_Deck_is_called) := ⟨rfl, rfl, rfl, by decide +kernel, rfl, by decide +kernel, by decide +kernel⟩
theorem sc_Deck_swing_out : FnScope ["self", "minute", "events", "cart"] ["self", "minute", "events"] (defScope s_Deck_swing_out) := ⟨rfl, rfl, rfl, by decide +kernel, rfl, by decide +kernel, by decide +kernel⟩
theorem sc_Deck_turn_over : FnScope ["self", "minute", "events", "other"] ["self", "minute", "events"] (defScope s_Deck_turn_over) := ⟨rfl, rfl, rfl, by decide +kernel, rfl, by decide +kernel, by decide +kernel⟩
theorem sc_Deck_go_on : FnScope ["self", "minute", "events", "row", "place", "cart", "one"] ["self", "minute", "events"] (defScope s_Deck_go_on) := ⟨rfl, rfl, rfl, by decide +kernel, rfl, by decide +kernel, by decide +kernel⟩
theorem sc_Deck_work : FnScope ["self", "minute", "events", "called"] ["self", "minute", "events"] (defScope s_Deck_work) := ⟨rfl, rfl, rfl, by decide +kernel, rfl, by decide +kernel, by decide +kernel⟩
theorem sc_Deck_awake_from : FnScope ["self", "minute", "stretch"] ["self", "minute"] (defScope s_Deck_awake_from) := ⟨rfl, rfl, rfl, by decide +kernel, rfl, by decide +kernel, by decide +kernel⟩
theorem sc_Deck_called_from : FnScope ["self", "minute"] ["self", "minute"] (defScope s_Deck_called_from) := ⟨rfl, rfl, rfl, by decide +kernel, rfl, by decide +kernel, by decide +kernel⟩
theorem sc_Deck_work_from : FnScope ["self", "found", "minute"] ["self"] (defScope s_Deck_work_from) := ⟨rfl, rfl, rfl, by decide +kernel, rfl, by decide +kernel, by decide +kernel⟩
theorem sc_Deck_go_to : FnScope ["self", "minute", "events", "moment"] ["self", "minute"] (defScope s_Deck_go_to) := ⟨rfl, rfl, rfl, by decide +kernel, rfl, by decide +kernel, by decide +kernel⟩
theorem sc_law_feed : FnScope ["_law_script"] ["_law_script"] (defScope s_law_feed) := ⟨rfl, rfl, rfl, by decide +kernel, rfl, by decide +kernel, by decide +kernel⟩
theorem sc_law_draw : FnScope ["_law_feed_here", "_law_many", "_law_found", "_law_spot", "_law_cell", "_law_mixed"] ["_law_feed_here", "_law_many"] (defScope s_law_draw) := ⟨rfl, rfl, rfl, by decide +kernel, rfl, by decide +kernel, by decide +kernel⟩
theorem sc_law_of : FnScope ["_law_feed_here", "_law_some"] ["_law_feed_here", "_law_some"] (defScope s_law_of) := ⟨rfl, rfl, rfl, by decide +kernel, rfl, by decide +kernel, by decide +kernel⟩
theorem sc_law_names : FnScope ["_law_feed_here", "_law_many", "_law_letters", "_law_some", "_law_place", "_law_short", "_law_found", "_law_k", "_law_turned", "_law_shown", "_law_one"] ["_law_feed_here", "_law_many"] (defScope s_law_names) := ⟨rfl, rfl, rfl, by decide +kernel, rfl, by decide +kernel, by decide +kernel⟩
theorem sc_law_world : FnScope ["_law_feed_here", "_law_many", "_law_base", "_law_more", "_law_world_here", "_law_begin", "_law_way", "_law_k"] ["_law_feed_here"] (defScope s_law_world) := ⟨rfl, rfl, rfl, by decide +kernel, rfl, by decide +kernel, by decide +kernel⟩
theorem sc_law_deck : FnScope ["_law_world_here", "_law_hours_here", "_law_boats", "_law_crossed", "_law_place", "_law_some", "_law_k"] ["_law_world_here", "_law_hours_here"] (defScope s_law_deck) := ⟨rfl, rfl, rfl, by decide +kernel, rfl, by decide +kernel, by decide +kernel⟩
theorem sc_law_most : FnScope ["_law_world_here", "_law_one"] ["_law_world_here"] (defScope s_law_most) := ⟨rfl, rfl, rfl, by decide +kernel, rfl, by decide +kernel, by decide +kernel⟩
theorem sc_law_things : FnScope ["_law_feed_here", "_law_world_here", "_law_carts", "_law_ships", "_law_wide", "_law_names_here", "_law_found", "_law_k", "_law_minute", "_law_lasts"] ["_law_feed_here", "_law_world_here", "_law_carts", "_law_ships", "_law_wide"] (defScope s_law_things) := ⟨rfl, rfl, rfl, by decide +kernel, rfl, by decide +kernel, by decide +kernel⟩
theorem sc_law_tell : FnScope ["_law_deck_here", "_law_thing", "_law_minute", "_law_who", "_law_side", "_law_heavy"] ["_law_deck_here", "_law_thing"] (defScope s_law_tell) := ⟨rfl, rfl, rfl, by decide +kernel, rfl, by decide +kernel, by decide +kernel⟩
theorem sc_law_hours : FnScope ["_law_feed_here", "_law_begin", "_law_some", "_law_few", "_law_more"] ["_law_feed_here"] (defScope s_law_hours) := ⟨rfl, rfl, rfl, by decide +kernel, rfl, by decide +kernel, by decide +kernel⟩
theorem sc_law_swings_right : FnScope ["_law_world_here", "_law_events", "_law_ships", "_law_last", "_law_lasts", "_law_event", "_law_word", "_law_minute", "_law_ahead", "_law_when", "_law_after"] ["_law_world_here", "_law_events", "_law_ships"] (defScope s_law_swings_right) := ⟨rfl, rfl, rfl, by decide +kernel, rfl, by decide +kernel, by decide +kernel⟩
theorem sc_law_phases : FnScope ["_law_events", "_law_until", "_law_found", "_law_word", "_law_minute", "_law_event"] ["_law_events", "_law_until"] (defScope s_law_phases) := ⟨rfl, rfl, rfl, by decide +kernel, rfl, by decide +kernel, by decide +kernel⟩
theorem sc_law_carts_right : FnScope ["_law_world_here", "_law_events", "_law_phases_here", "_law_until", "_law_many", "_law_taken", "_law_event", "_law_begin", "_law_who", "_law_side", "_law_other", "_law_minute", "_law_place"] ["_law_world_here", "_law_events", "_law_phases_here", "_law_until"] (defScope s_law_carts_right) := ⟨rfl, rfl, rfl, by decide +kernel, rfl, by decide +kernel, by decide +kernel⟩
theorem sc_law : FnScope ["_law_script", "_law_feed_here", "_law_world_here", "_law_hours_here", "_law_things_here", "_law_deck_here", "_law_thing", "_law_until", "_law_events", "_law_ships", "_law_minute", "_law_who", "_law_side", "_law_heavy", "_law_event"] ["_law_script"] (defScope s_law) := ⟨rfl, rfl, rfl, by decide +kernel, rfl, by decide +kernel, by decide +kernel⟩
end

/-! ## Hr -/
section
set_option maxHeartbeats 0
open PySem PySem.Spec PyProof.Rows L2
def nm0 : List PySem.Str := ["_wall", "__name__", "LETTERS", "LONGEST_NAME", "is_whole", "is_from_to", "is_name", "MOST_BORNE", "Boat", "NoBridge", "NoThing", "NoBoat", "Taken", "NoStretch", "Overload", "Late", "MOST_BOATS", "are_boats", "are_spans", "Bridge", "halves", "need_borne", "is_borne", "BANKS", "other_bank"]
def nm1 : List PySem.Str := ["bank_span", "rolled", "is_off", "load_of", "need_alone", "is_borne_on", "is_to_come", "HOUR", "DAY", "WEEK", "DAYS", "show_clock", "show_time", "Stretch", "joined", "Rule", "Hours", "Days", "Unless", "clocks_of", "Both", "Either", "WEEKS_LOOKED", "edges_in", "allowed_in"]
def nm2 : List PySem.Str := ["Week", "LONGEST", "need_things", "is_time", "is_bank", "Deck", "_law_feed", "_law_draw", "_law_of", "_law_names", "_law_world", "_law_deck", "_law_most", "_law_things", "_law_tell", "_law_hours", "_law_swings_right", "_law_phases", "_law_carts_right"]
def nms : List PySem.Str := nm0 ++ nm1 ++ nm2
theorem run (w : World) : HandSHeadRun.RunEq R (PySem.W.view R.prog [80]) hk ob 9000 nms w := by
  intro os
  kernel_rfl
end

/-! ## Eh -/
section
set_option maxHeartbeats 0
open PySem PySem.W PySem.Calls PyProof.Rows
theorem law_dfl : (HandSHeadRun.topDef R.prog 80).params.defaults = [] := by kernel_rfl
theorem law_name : (HandSHeadRun.topDef R.prog 80).name = ("law" : PySem.Str) := by kernel_rfl
/-- the head: what is left is the law's own call -/
theorem head_law (call : WalkO (view R.prog [80]) nms (XL (view R.prog [80]) []) hk.says R.toRowW (HandSHeadRun.topDef R.prog 80) [] fun f vs => PySem.call f vs) : PySem.Challenge.rw_boatbridge_k60_whole_no_cart_where_it_sw.Holds := by
  w_on; o_law
  refine HandSHeadRun.head_any (r := BB.R) (q := view BB.R.prog [80]) (H := BB.hk) (ob := BB.ob) (M := 9000) (loose := BB.nms) (d := HandSHeadRun.topDef BB.R.prog 80) (kwd := []) BB.ob_eq
    (by kernel_rfl) (fun s => by kernel_rfl) BB.run (by kernel_rfl) (by kernel_rfl) (by kernel_rfl) (by rfl) (by first | assumption | decide +kernel) (by decide +kernel) ⟨rfl, rfl, rfl, rfl, rfl, by decide +kernel⟩ ?hw call
  case hw => w_witness2
end

/-! ## Lb -/
section
set_option maxHeartbeats 4000000
open PySem PySem.Spec PyProof.Rows L2
/-! ### promises with their arguments told one by one -/
def sp0 (f : Hp → VK → XK → Prop) : Sp := fun vs H Q E => vs = [] ∧ f H Q E
def sp1 (f : V → Hp → VK → XK → Prop) : Sp := fun vs H Q E => ∃ a, vs = [a] ∧ f a H Q E
def sp2 (f : V → V → Hp → VK → XK → Prop) : Sp := fun vs H Q E => ∃ a b, vs = [a, b] ∧ f a b H Q E
def sp3 (f : V → V → V → Hp → VK → XK → Prop) : Sp := fun vs H Q E => ∃ a b c, vs = [a, b, c] ∧ f a b c H Q E
def sp4 (f : V → V → V → V → Hp → VK → XK → Prop) : Sp := fun vs H Q E => ∃ a b c d, vs = [a, b, c, d] ∧ f a b c d H Q E
def sp5 (f : V → V → V → V → V → Hp → VK → XK → Prop) : Sp := fun vs H Q E => ∃ a b c d e, vs = [a, b, c, d, e] ∧ f a b c d e H Q E
def sp7 (f : V → V → V → V → V → V → V → Hp → VK → XK → Prop) : Sp := fun vs H Q E => ∃ a b c d e g i, vs = [a, b, c, d, e, g, i] ∧ f a b c d e g i H Q E
/-- so many arguments -/
def Len (n : Nat) (sp : Sp) : Prop := ∀ vs H Q E, sp vs H Q E → vs.length = n
theorem len1 {f} : Len 1 (sp1 f) := fun _ _ _ _ ⟨_, e, _⟩ => by rw [e] <;> rfl
theorem len2 {f} : Len 2 (sp2 f) := fun _ _ _ _ ⟨_, _, e, _⟩ => by rw [e] <;> rfl
theorem len3 {f} : Len 3 (sp3 f) := fun _ _ _ _ ⟨_, _, _, e, _⟩ => by rw [e] <;> rfl
theorem len4 {f} : Len 4 (sp4 f) := fun _ _ _ _ ⟨_, _, _, _, e, _⟩ => by rw [e] <;> rfl
theorem len5 {f} : Len 5 (sp5 f) := fun _ _ _ _ ⟨_, _, _, _, _, e, _⟩ => by rw [e] <;> rfl
theorem len7 {f} : Len 7 (sp7 f) := fun _ _ _ _ ⟨_, _, _, _, _, _, _, e, _⟩ => by rw [e] <;> rfl
/-! ### a def, a method, a class's making, by their promises -/
section
variable (P : Program) (w : World) (K : PySem.W.Frag) (mg : Str → Option Value) (base : Heap)
structure Cal (k : Nat) (x : Str) (sp : Sp) (dvs : List V) : Prop where
  ex : ∃ f fd ps ds, FnOk P w K mg base CX0 k f fd ps sp ∧ mg x = some (.ref f) ∧ PySem.W.keepIn K (.ref f) = true ∧ Binds K fd ps ds ∧ Vals dvs ds
structure Met (k : Nat) (C : Addr) (m : Str) (sp : Sp) (dvs : List V) : Prop where
  ex : ∃ f fd ps ds, FnOk P w K mg base CX0 k f fd ps sp ∧ Cls K C ∧ Meth K C m f ∧ Binds K fd ps ds ∧ Vals dvs ds
structure Mak (k : Nat) (x : Str) (sp : Sp) (dvs : List V) : Prop where
  ex : ∃ f fd ps ds, FnOk P w K mg base CX0 k f fd ps sp ∧ mg x = some (.ref (He.ga K x)) ∧ Mk K (He.ga K x) f ∧ Binds K fd ps ds ∧ Vals dvs ds
end
section
variable {X : Cx} {k j : Nat} {C : Addr} {x m : Str} {sp : Sp} {dvs : List V} {p pos apos : Pos} {e o : Expr} {es : List Expr} {ta : TE} {t : TA}
theorem pe_f (c : Cal X.prog X.w X.K X.mg X.base k x sp dvs) (hr : Room j X.A) (hk : k ≤ j) (hg : Gl X x) (ha : PA X (e :: es) t) (hdb : (x == ("__debug__" : Str)) = false := by decide)
    (he : starEach (e :: es) X.env = (false, eval e X.env) :: starEach es X.env := by rfl) (hpl : (backTo pos (starEach es X.env)).any (·.1) = false := by rfl) : PE X (.Call (.Name x p) (e :: es) [] pos) (tCall sp dvs E0 t) := by
  obtain ⟨f, fd, ps, ds, F, h1, h2, h3, h4⟩ := c.ex
  exact pe_call F (hr.mono hk) hg h1 h2 h3 h4 pass0 ha hdb he hpl
theorem pe_k (c : Mak X.prog X.w X.K X.mg X.base k x sp dvs) (hr : Room j X.A) (hk : k + 1 ≤ j) (hg : Gl X x) (ha : PA X (e :: es) t) (hdb : (x == ("__debug__" : Str)) = false := by decide)
    (he : starEach (e :: es) X.env = (false, eval e X.env) :: starEach es X.env := by rfl) (hpl : (backTo pos (starEach es X.env)).any (·.1) = false := by rfl) : PE X (.Call (.Name x p) (e :: es) [] pos) (tMake (He.ga X.K x) sp dvs E0 t) := by
  obtain ⟨f, fd, ps, ds, F, h1, h2, h3, h4⟩ := c.ex
  exact pe_make h2 F (hr.mono hk) hg h1 h3 h4 pass0 ha hdb he hpl
theorem pe_m {pl : Sem Bool} (c : Met X.prog X.w X.K X.mg X.base k C m sp dvs) (hr : Room j X.A) (hk : k ≤ j) (he : PE X o ta) (ha : PA X (e :: es) t) (hst : starEach (e :: es) X.env = (false, eval e X.env) :: starEach es X.env := by rfl)
    (hpl : (backTo pos (starEach es X.env)).any (·.1) = false := by rfl)
    (ht : eval (.Call (.Attribute o m apos) (e :: es) [] pos) X.env = (do let ov ← eval o X.env; standAt apos.atName; let (f, first) ← holding [ov] (getMethod ov m pl); callWith pos f first (backTo pos (starEach (e :: es) X.env)) (backToKw pos (keywordEach [] X.env))) := by rfl) :
    PE X (.Call (.Attribute o m apos) (e :: es) [] pos) (tMeth C m sp dvs E0 ta t) := by
  obtain ⟨f, fd, ps, ds, F, h1, h2, h3, h4⟩ := c.ex
  exact pe_meth (pl := pl) he h1 h2 F (hr.mono hk) h3 h4 pass0 ha hst hpl ht
theorem pe_m0 {pl : Sem Bool} (c : Met X.prog X.w X.K X.mg X.base k C m sp dvs) (hr : Room j X.A) (hk : k ≤ j) (he : PE X o ta)
    (ht : eval (.Call (.Attribute o m apos) [] [] pos) X.env = (do let ov ← eval o X.env; standAt apos.atName; let (f, first) ← holding [ov] (getMethod ov m pl); callWith pos f first (backTo pos (starEach [] X.env)) (backToKw pos (keywordEach [] X.env))) := by rfl) :
    PE X (.Call (.Attribute o m apos) [] [] pos) (tMeth C m sp dvs E0 ta tNil) := by
  obtain ⟨f, fd, ps, ds, F, h1, h2, h3, h4⟩ := c.ex
  exact pe_meth0 (pl := pl) he h1 h2 F (hr.mono hk) h3 h4 pass0 ht
end
section
variable {P : Program} {w : World} {K : PySem.W.Frag} {mg : Str → Option Value} {base : Heap} {x qual : Str} {params : Arguments} {body : List Stmt} {scope : Scope} {dvs : List V} {f : Addr} {fd : FuncData} {N ps : List Str} {k : Nat} {sp : Sp}
/-- THE BODY of a def that lets nothing out -/
def Body (P : Program) (w : World) (K : PySem.W.Frag) (mg : Str → Option Value) (base : Heap) (k : Nat) (N : List Str) (qual : Str) (scope : Scope) (body : List Stmt) (f : Addr) (sp : Sp) : Prop :=
  ∀ (cdv : Value) (A : Around) (outer : List Env) (s : Shared) (H : Hp) (vs : List V) (Q : VK) (E : XK), Room k (A.deeper (envOfC qual scope s.heap.objs.size f cdv)) → sp vs H Q E →
    ∃ t, PSs (cxOf CX0 P w K mg base N qual scope f cdv A outer s H E).nox body t ∧ t { nx := fun _ H' => Q .non H', rt := Q } (start N vs) H
theorem fn_body (F : FunD K x qual params body scope dvs [] f fd) (S : FnScope N ps scope) (len : Len ps.length sp) (h : Body P w K mg base k N qual scope body f sp) : FnOk P w K mg base CX0 (k + 1) f fd ps sp :=
  F.ok S len fun cdv A outer s H vs Q E hr hs => let ⟨t, a, b⟩ := h cdv A outer s H vs Q E hr hs; ⟨t, a.nox, b⟩
theorem kp_of (F : FunD K x qual params body scope dvs [] f fd) : PySem.W.keepIn K (.ref f) = true := F.kp
/-- all parameters are given (the last of dvs drop) -/
def BindAll (x qual : Str) (params : Arguments) (body : List Stmt) (scope : Scope) (ps : List Str) : Prop :=
  ∀ (kV doc pm : Value) (an : Option Addr) (cdv ct : Value) (us : List Value), us.length = ps.length → bindArgs (PySem.W.fnOf x qual params body scope .none kV doc pm an cdv ct) ⟨us, []⟩ = pure (ps.zip us)
theorem cal_of (F : FunD K x qual params body scope [] [] f fd) (hm : mg x = some (.ref f)) (b : BindAll x qual params body scope ps) (S : FnScope N ps scope) (len : Len ps.length sp) (h : Body P w K mg base k N qual scope body f sp) :
    Cal P w K mg base (k + 1) x sp [] := ⟨f, fd, ps, [], fn_body F S len h, hm, F.kp, F.bindsN b, .nil⟩
theorem met_of {C : Addr} (F : FunD K x qual params body scope [] [] f fd) (c : Cls K C) (hm : Meth K C x f) (b : BindAll x qual params body scope ps) (S : FnScope N ps scope) (len : Len ps.length sp) (h : Body P w K mg base k N qual scope body f sp) :
    Met P w K mg base (k + 1) C x sp [] := ⟨f, fd, ps, [], fn_body F S len h, c, hm, F.bindsN b, .nil⟩
theorem mak_of {y : Str} (F : FunD K x qual params body scope [] [] f fd) (g : mg y = some (.ref (He.ga K y))) (m : Mk K (He.ga K y) f) (b : BindAll x qual params body scope ps) (S : FnScope N ps scope) (len : Len ps.length sp) (h : Body P w K mg base k N qual scope body f sp) :
    Mak P w K mg base (k + 1) y sp [] := ⟨f, fd, ps, [], fn_body F S len h, g, m, F.bindsN b, .nil⟩
end
/-! ### what stands, what is ours: H0 all that never changes, l what may change (its objects by their places) -/
structure SH (H0 : Hp) (l : List (Addr × HO)) (H : Hp) : Prop where
  same : Same H0 H
  at_ : ∀ p ∈ l, H p.1 = some p.2
  nd : (l.map (·.1)).Nodup
  out : ∀ p ∈ l, H0 p.1 = none
theorem Same.new {H : Hp} {p : Addr} {o : HO} (h : H p = none) : Same H (upd H p o) := fun b u e => by rw [upd_ne (ne_of_none e h)]; exact e
section
variable {H0 H H1 : Hp} {l : List (Addr × HO)} {a b : Addr} {o u : HO} {x0 x1 x2 x3 x4 x5 x6 x7 x8 x9 : Addr × HO}
theorem SH.get {i : Nat} (h : SH H0 l H) (e : l[i]? = some (a, o)) : H a = some o := h.at_ (a, o) (List.mem_of_getElem? e)
theorem SH.of (h : Same H0 H) : SH H0 [] H := ⟨h, nofun, .nil, nofun⟩
theorem SH.rfl' : SH H [] H := .of (Same.refl H)
theorem SH.rd (h : SH H0 l H) (e : H0 a = some o) : H a = some o := h.same _ _ e
theorem SH.call (h : SH H0 l H) (s : Same H H1) : SH H0 l H1 := ⟨h.same.trans s, fun p m => s _ _ (h.at_ p m), h.nd, h.out⟩
theorem SH.fresh (h : SH H0 l H) (n : H a = none) : a ∉ l.map (·.1) := fun m => by
  obtain ⟨p, hp, rfl⟩ := List.mem_map.mp m
  rw [h.at_ p hp] at n
  cases n
theorem SH.new (h : SH H0 l H) (n : H a = none) : SH H0 ((a, o) :: l) (upd H a o) where
  same := h.same.trans (Same.new n)
  at_ := fun p m => by
    rcases List.mem_cons.mp m with e | m
    · rw [e]; exact upd_same
    · rw [upd_ne (ne_of_none (h.at_ p m) n)]; exact h.at_ p m
  nd := List.nodup_cons.mpr ⟨h.fresh n, h.nd⟩
  out := fun p m => by
    rcases List.mem_cons.mp m with e | m
    · rw [e]; exact h.same.free n
    · exact h.out p m
/-- an object that never changes -/
theorem SH.lay (h : SH H0 l H) (n : H a = none) : SH (upd H0 a o) l (upd H a o) where
  same := fun b u e => by
    by_cases q : b = a
    · rw [q, upd_same] at e ⊢; exact e
    · rw [upd_ne q] at e ⊢; exact h.same _ _ e
  at_ := fun p m => by rw [upd_ne (ne_of_none (h.at_ p m) n)]; exact h.at_ p m
  nd := h.nd
  out := fun p m => by rw [upd_ne (ne_of_none (h.at_ p m) n)]; exact h.out p m
theorem nd_get {i j : Nat} (n : (l.map (·.1)).Nodup) (e : l[i]? = some (a, o)) (e' : l[j]? = some (a, u)) : i = j :=
  nd_ix n (by rw [List.getElem?_map, e] <;> rfl) (by rw [List.getElem?_map, e'] <;> rfl)
theorem SH.set {i : Nat} (h : SH H0 l H) (e : l[i]? = some (a, o)) (u : HO) : SH H0 (l.set i (a, u)) (upd H a u) where
  same := fun b v q => by
    have z := h.out (a, o) (List.mem_of_getElem? e)
    rw [upd_ne (ne_of_none q z)]
    exact h.same _ _ q
  at_ := fun p m => by
    obtain ⟨j, hj⟩ := List.mem_iff_getElem?.mp m
    by_cases q : i = j
    · subst q
      rw [List.getElem?_set_self (List.getElem?_eq_some_iff.mp e).1] at hj
      cases hj
      exact upd_same
    · rw [List.getElem?_set_ne q] at hj
      have ne : p.1 ≠ a := fun z => by
        obtain ⟨p1, p2⟩ := p
        subst z
        exact q (nd_get h.nd e hj)
      rw [upd_ne ne]
      exact h.at_ p (List.mem_of_getElem? hj)
  nd := by
    have e1 : (l.set i (a, u)).map (·.1) = l.map (·.1) := by
      rw [List.map_set]
      refine List.ext_getElem? fun j => ?_
      by_cases q : i = j
      · subst q
        rw [List.getElem?_set_self (by rw [List.length_map]; exact (List.getElem?_eq_some_iff.mp e).1), List.getElem?_map, e]
        rfl
      · rw [List.getElem?_set_ne q]
    rw [e1]
    exact h.nd
  out := fun p m => by
    rcases List.mem_or_eq_of_mem_set m with m | m
    · exact h.out p m
    · rw [m]; exact h.out (a, o) (List.mem_of_getElem? e)
/-- what is ours may be forgotten -/
theorem SH.tail {x : Addr × HO} (h : SH H0 (x :: l) H) : SH H0 l H := ⟨h.same, fun p m => h.at_ p (List.mem_cons_of_mem _ m), (List.nodup_cons.mp h.nd).2, fun p m => h.out p (List.mem_cons_of_mem _ m)⟩
/-- the first of ours changes no more -/
theorem SH.keep (h : SH H0 ((a, o) :: l) H) : SH (upd H0 a o) l H where
  same := fun b u e => by
    by_cases q : b = a
    · rw [q, upd_same] at e; rw [q, ← e]; exact h.at_ _ (List.mem_cons_self ..)
    · rw [upd_ne q] at e; exact h.same _ _ e
  at_ := fun p m => h.at_ p (List.mem_cons_of_mem _ m)
  nd := (List.nodup_cons.mp h.nd).2
  out := fun p m => by
    have z : p.1 ≠ a := fun q => (List.nodup_cons.mp h.nd).1 (List.mem_map.mpr ⟨p, m, q⟩)
    rw [upd_ne z]
    exact h.out p (List.mem_cons_of_mem _ m)
theorem SH.out0 (h : SH H0 ((a, o) :: l) H) : H0 a = none := h.out _ (List.mem_cons_self ..)
theorem SH.g0 (h : SH H0 ((a, o) :: l) H) : H a = some o := h.get (i := 0) rfl
theorem SH.g1 (h : SH H0 (x0 :: (a, o) :: l) H) : H a = some o := h.get (i := 1) rfl
theorem SH.g2 (h : SH H0 (x0 :: x1 :: (a, o) :: l) H) : H a = some o := h.get (i := 2) rfl
theorem SH.g3 (h : SH H0 (x0 :: x1 :: x2 :: (a, o) :: l) H) : H a = some o := h.get (i := 3) rfl
theorem SH.g4 (h : SH H0 (x0 :: x1 :: x2 :: x3 :: (a, o) :: l) H) : H a = some o := h.get (i := 4) rfl
theorem SH.g5 (h : SH H0 (x0 :: x1 :: x2 :: x3 :: x4 :: (a, o) :: l) H) : H a = some o := h.get (i := 5) rfl
theorem SH.g6 (h : SH H0 (x0 :: x1 :: x2 :: x3 :: x4 :: x5 :: (a, o) :: l) H) : H a = some o := h.get (i := 6) rfl
theorem SH.g7 (h : SH H0 (x0 :: x1 :: x2 :: x3 :: x4 :: x5 :: x6 :: (a, o) :: l) H) : H a = some o := h.get (i := 7) rfl
theorem SH.g8 (h : SH H0 (x0 :: x1 :: x2 :: x3 :: x4 :: x5 :: x6 :: x7 :: (a, o) :: l) H) : H a = some o := h.get (i := 8) rfl
theorem SH.g9 (h : SH H0 (x0 :: x1 :: x2 :: x3 :: x4 :: x5 :: x6 :: x7 :: x8 :: (a, o) :: l) H) : H a = some o := h.get (i := 9) rfl
end
theorem Same.tup {K : PySem.W.Frag} {H H' : Hp} {a : Addr} {xs : List V} (e : Same H H') (h : SqT K H a xs) : SqT K H' a xs := by
  rcases h with (h | ⟨o, h⟩) | h
  · exact .inl (.inl (e _ _ h))
  · exact .inl (.inr ⟨o, e _ _ h⟩)
  · exact .inr h
/-! ### fields by their places -/
theorem lk_at : ∀ {fs : List (Str × V)} {i : Nat} {f : Str} {v : V}, (fs.map (·.1)).Nodup → fs[i]? = some (f, v) → fs.lookup f = some v
  | [], i, f, v, _, h => by simp at h
  | (g, y) :: r, 0, f, v, _, h => by cases h; simp [List.lookup]
  | (g, y) :: r, i + 1, f, v, n, h => by
    obtain ⟨n1, n2⟩ := List.nodup_cons.mp (show (g :: r.map (·.1)).Nodup from n)
    have h' : r[i]? = some (f, v) := h
    have ne : ¬ f = g := fun e => n1 (by rw [← e]; exact List.mem_map.mpr ⟨_, List.mem_of_getElem? h', rfl⟩)
    have q : (f == g) = false := beq_eq_false_iff_ne.mpr ne
    simp only [List.lookup, q]
    exact lk_at n2 h'
theorem put_at : ∀ {fs : List (Str × V)} {i : Nat} {f : Str} {v y : V}, (fs.map (·.1)).Nodup → fs[i]? = some (f, y) → putF f v fs = fs.set i (f, v)
  | [], i, f, v, y, _, h => by simp at h
  | (g, z) :: r, 0, f, v, y, _, h => by
    cases h
    show (if g = g then _ else _) = _
    rw [if_pos rfl]
    all_goals rfl
  | (g, z) :: r, i + 1, f, v, y, n, h => by
    obtain ⟨n1, n2⟩ := List.nodup_cons.mp (show (g :: r.map (·.1)).Nodup from n)
    have h' : r[i]? = some (f, y) := h
    have ne : ¬ g = f := fun e => n1 (by rw [e]; exact List.mem_map.mpr ⟨_, List.mem_of_getElem? h', rfl⟩)
    show (if g = f then _ else (g, z) :: putF f v r) = _
    rw [if_neg ne, put_at n2 h']
    all_goals rfl
theorem put_new : ∀ {fs : List (Str × V)} {f : Str} {v : V}, f ∉ fs.map (·.1) → putF f v fs = fs ++ [(f, v)]
  | [], f, v, _ => rfl
  | (g, z) :: r, f, v, n => by
    have ne : ¬ g = f := fun e => n (by rw [e]; exact List.mem_cons_self ..)
    show (if g = f then _ else (g, z) :: putF f v r) = _
    rw [if_neg ne, put_new fun m => n (List.mem_cons_of_mem _ m)]
    all_goals rfl
theorem lk_no : ∀ {fs : List (Str × V)} {f : Str}, f ∉ fs.map (·.1) → fs.lookup f = none
  | [], f, _ => rfl
  | (g, z) :: r, f, n => by
    have ne : ¬ f = g := fun e => n (by rw [e]; exact List.mem_cons_self ..)
    have q : (f == g) = false := beq_eq_false_iff_ne.mpr ne
    simp only [List.lookup, q]
    exact lk_no fun m => n (List.mem_cons_of_mem _ m)
end

/-! ## Go -/
section
set_option maxHeartbeats 4000000
open PySem PySem.Spec PyProof.Rows L2
/-! ### the parts of a reading that want a fact -/
def Fp (K : PySem.W.Frag) (f : Str) (x : V) (H : Hp) (Q : VK) : Prop := ∃ a C dx fs v, x = .ref a ∧ H a = some (.ins C dx fs) ∧ Cls K C ∧ NoAttr K C f ∧ fs.lookup f = some v ∧ Q v H
def Wp (K : PySem.W.Frag) (f : Str) (y : V) (x : V) (H : Hp) (z : Hp → Prop) : Prop :=
  ∃ a C dx fs, x = .ref a ∧ H a = some (.ins C dx fs) ∧ Cls K C ∧ NoAttr K C f ∧ fs.length < 1000 ∧ z (upd H a (.ins C dx (putF f y fs)))
def Upd (H : Hp) (a : Addr) (o : HO) (z : Hp → Prop) : Prop := z (upd H a o)
/-- a truth is wanted -/
def BlP (x : V) (B : Bool → Hp → Prop) (H : Hp) : Prop := ∃ k, x = .bl k ∧ B k H
/-- a new object -/
def New (o : HO) (H : Hp) (Q : VK) : Prop := ∀ p, H p = none → Q (.ref p) (upd H p o)
def Mp (C : Addr) (m : Str) (sp : Sp) (dvs : List V) (E : XK) (t : TA) (σ : L2.St) (x : V) (H : Hp) (Q : VK) : Prop :=
  ∃ a dx fs, x = .ref a ∧ H a = some (.ins C dx fs) ∧ fs.lookup m = none ∧ t σ H fun vs H2 => sp (x :: (vs ++ dvs)) H2 Q E
/-- what a promise hands back: a value; a new list, a new tuple; nothing that stood is changed -/
def Ret (v : V) (H : Hp) (Q : VK) : Prop := ∀ H1, Same H H1 → Q v H1
def RetN (o : HO) (H : Hp) (Q : VK) : Prop := ∀ p H1, Same H H1 → H p = none → H1 p = some o → Q (.ref p) H1
section
variable {K : PySem.W.Frag} {mg : Str → Option Value} {σ r : L2.St} {H H0 H1 : Hp} {Q : VK} {v x y u : V} {ta tb te tv tc : TE} {t t1 t2 : TS} {tt tu : TT} {i : Nat} {a C dx p : Addr} {f m : Str} {nx bk ct : L2.St → Hp → Prop} {rt : VK} {D : Ends} {z : Hp → Prop} {l : List (Addr × HO)} {o o' : HO}
  {tA tR : TA} {vs : List V} {b : Bool} {B : Bool → Hp → Prop} {sp : Sp} {dvs : List V} {E : XK} {x0 x1 x2 x3 x4 x5 x6 x7 x8 x9 : Addr × HO}
  {y0 y1 y2 y3 y4 y5 y6 y7 y8 y9 y10 y11 y12 y13 y14 : Option V}
theorem g_seq (q : t1 ⟨t2 ⟨nx, rt, bk, ct⟩, rt, bk, ct⟩ σ H) : tSeq t1 t2 ⟨nx, rt, bk, ct⟩ σ H := q
theorem g_next (q : nx σ H) : tNext ⟨nx, rt, bk, ct⟩ σ H := q
theorem g_cont (q : ct σ H) : tCont ⟨nx, rt, bk, ct⟩ σ H := q
theorem g_brk (q : bk σ H) : tBreak ⟨nx, rt, bk, ct⟩ σ H := q
theorem g_drop (q : te σ H fun _ H1 => nx σ H1) : tDrop te ⟨nx, rt, bk, ct⟩ σ H := q
theorem g_ret (q : te σ H rt) : tRet te ⟨nx, rt, bk, ct⟩ σ H := q
theorem g_retN (q : rt .non H) : tRetN ⟨nx, rt, bk, ct⟩ σ H := q
theorem g_if (q : tt σ H fun b H1 => if b = true then t1 ⟨nx, rt, bk, ct⟩ σ H1 else t2 ⟨nx, rt, bk, ct⟩ σ H1) : tIfS tt t1 t2 ⟨nx, rt, bk, ct⟩ σ H := q
theorem g_asg {g : TG} (q : te σ H fun x H1 => g x σ H1 nx) : tAsg te g ⟨nx, rt, bk, ct⟩ σ H := q
theorem g_n0 {n : L2.St → Hp → Prop} (q : n (some v :: r) H) : gName 0 v (y0 :: r) H n := q
theorem g_n1 {n : L2.St → Hp → Prop} (q : n (y0 :: some v :: r) H) : gName 1 v (y0 :: y1 :: r) H n := q
theorem g_n2 {n : L2.St → Hp → Prop} (q : n (y0 :: y1 :: some v :: r) H) : gName 2 v (y0 :: y1 :: y2 :: r) H n := q
theorem g_n3 {n : L2.St → Hp → Prop} (q : n (y0 :: y1 :: y2 :: some v :: r) H) : gName 3 v (y0 :: y1 :: y2 :: y3 :: r) H n := q
theorem g_n4 {n : L2.St → Hp → Prop} (q : n (y0 :: y1 :: y2 :: y3 :: some v :: r) H) : gName 4 v (y0 :: y1 :: y2 :: y3 :: y4 :: r) H n := q
theorem g_n5 {n : L2.St → Hp → Prop} (q : n (y0 :: y1 :: y2 :: y3 :: y4 :: some v :: r) H) : gName 5 v (y0 :: y1 :: y2 :: y3 :: y4 :: y5 :: r) H n := q
theorem g_n6 {n : L2.St → Hp → Prop} (q : n (y0 :: y1 :: y2 :: y3 :: y4 :: y5 :: some v :: r) H) : gName 6 v (y0 :: y1 :: y2 :: y3 :: y4 :: y5 :: y6 :: r) H n := q
theorem g_n7 {n : L2.St → Hp → Prop} (q : n (y0 :: y1 :: y2 :: y3 :: y4 :: y5 :: y6 :: some v :: r) H) : gName 7 v (y0 :: y1 :: y2 :: y3 :: y4 :: y5 :: y6 :: y7 :: r) H n := q
theorem g_n8 {n : L2.St → Hp → Prop} (q : n (y0 :: y1 :: y2 :: y3 :: y4 :: y5 :: y6 :: y7 :: some v :: r) H) : gName 8 v (y0 :: y1 :: y2 :: y3 :: y4 :: y5 :: y6 :: y7 :: y8 :: r) H n := q
theorem g_n9 {n : L2.St → Hp → Prop} (q : n (y0 :: y1 :: y2 :: y3 :: y4 :: y5 :: y6 :: y7 :: y8 :: some v :: r) H) : gName 9 v (y0 :: y1 :: y2 :: y3 :: y4 :: y5 :: y6 :: y7 :: y8 :: y9 :: r) H n := q
theorem g_n10 {n : L2.St → Hp → Prop} (q : n (y0 :: y1 :: y2 :: y3 :: y4 :: y5 :: y6 :: y7 :: y8 :: y9 :: some v :: r) H) : gName 10 v (y0 :: y1 :: y2 :: y3 :: y4 :: y5 :: y6 :: y7 :: y8 :: y9 :: y10 :: r) H n := q
theorem g_n11 {n : L2.St → Hp → Prop} (q : n (y0 :: y1 :: y2 :: y3 :: y4 :: y5 :: y6 :: y7 :: y8 :: y9 :: y10 :: some v :: r) H) : gName 11 v (y0 :: y1 :: y2 :: y3 :: y4 :: y5 :: y6 :: y7 :: y8 :: y9 :: y10 :: y11 :: r) H n := q
theorem g_n12 {n : L2.St → Hp → Prop} (q : n (y0 :: y1 :: y2 :: y3 :: y4 :: y5 :: y6 :: y7 :: y8 :: y9 :: y10 :: y11 :: some v :: r) H) : gName 12 v (y0 :: y1 :: y2 :: y3 :: y4 :: y5 :: y6 :: y7 :: y8 :: y9 :: y10 :: y11 :: y12 :: r) H n := q
theorem g_var (h : σ[i]? = some (some v)) (q : Q v H) : tVar i σ H Q := ⟨v, h, q⟩
theorem g_c (q : Q v H) : tC v σ H Q := q
theorem g_op {R : R2} (q : ta σ H fun x H1 => tb σ H1 fun y H2 => R x y H2 Q) : tOp R ta tb σ H Q := q
theorem g_un {R : V → Hp → VK → Prop} (q : ta σ H fun x H1 => R x H1 Q) : tUn R ta σ H Q := q
theorem g_I0 {g : Int → Int → V} {i j : Int} (q : Q (g i j) H) : rI0 g (.int i) (.int j) H Q := ⟨i, j, rfl, rfl, q⟩
theorem g_I {c : Int → Int → Prop} {g : Int → Int → V} {i j : Int} (k : c i j) (q : Q (g i j) H) : rI c g (.int i) (.int j) H Q := ⟨i, j, rfl, rfl, k, q⟩
theorem g_U {g : Int → V} {i : Int} (q : Q (g i) H) : rU g (.int i) H Q := ⟨i, rfl, q⟩
theorem g_eq (h : scal x y = true) (q : Q (.bl (decide (x = y))) H) : rEq x y H Q := ⟨h, q⟩
theorem g_ne (h : scal x y = true) (q : Q (.bl (!decide (x = y))) H) : rNe x y H Q := ⟨h, q⟩
theorem g_test (q : te σ H fun x H' => BlP x B H') : tTest te σ H B := q
theorem g_tb (q : te σ H fun x H' => BlP x B H') : tB te σ H B := q
theorem g_bl (q : B b H) : BlP (.bl b) B H := ⟨b, rfl, q⟩
theorem g_and (q : tt σ H fun c H1 => if c = true then tu σ H1 B else B false H1) : tAnd tt tu σ H B := q
theorem g_or (q : tt σ H fun c H1 => if c = true then B true H1 else tu σ H1 B) : tOr tt tu σ H B := q
theorem g_not (q : tt σ H fun c H1 => B (!c) H1) : tNot tt σ H B := q
theorem g_andV (q : ta σ H fun x H1 => BlP x (fun c H1 => if c = true then tb σ H1 Q else Q (.bl false) H1) H1) : tAndV ta tb σ H Q := q
theorem g_orV (q : ta σ H fun x H1 => BlP x (fun c H1 => if c = true then Q (.bl true) H1 else tb σ H1 Q) H1) : tOrV ta tb σ H Q := q
theorem g_notV (q : ta σ H fun x H1 => BlP x (fun c H1 => Q (.bl (!c)) H1) H1) : tNotV ta σ H Q := q
theorem g_ifE (q : tt σ H fun c H1 => if c = true then ta σ H1 Q else tb σ H1 Q) : tIf tt ta tb σ H Q := q
theorem g_chain {R R' : R2} (q : ta σ H fun x H1 => tb σ H1 fun y H2 => R x y H2 fun z H3 => BlP z (fun k H3 => if k = true then tc σ H3 fun w' H4 => R' y w' H4 Q else Q (.bl false) H3) H3) : tChain R R' ta tb tc σ H Q := q
theorem g_nil {A : List V → Hp → Prop} (q : A [] H) : tNil σ H A := q
theorem g_cons {A : List V → Hp → Prop} (q : te σ H fun x H1 => tA σ H1 fun xs H2 => A (x :: xs) H2) : tCons te tA σ H A := q
theorem g_call (q : tA σ H fun vs H1 => sp (vs ++ dvs) H1 Q E) : tCall sp dvs E tA σ H Q := q
theorem g_cb {R : List V → Hp → VK → Prop} (q : tA σ H fun vs H1 => R vs H1 Q) : tCB R tA σ H Q := q
theorem g_meth (q : ta σ H fun x H1 => Mp C m sp dvs E tA σ x H1 Q) : tMeth C m sp dvs E ta tA σ H Q := q
theorem g_mp {fs : List (Str × V)} (h : H a = some (.ins C dx fs)) (n : fs.lookup m = none) (q : tA σ H fun vs H2 => sp (.ref a :: (vs ++ dvs)) H2 Q E) : Mp C m sp dvs E tA σ (.ref a) H Q := ⟨a, dx, fs, rfl, h, n, q⟩
theorem g_fld (q : ta σ H fun x H1 => Fp K f x H1 Q) : tFld K ta f σ H Q := q
theorem g_set (q : tv σ H fun y H1 => ta σ H1 fun x H2 => Wp K f y x H2 fun H3 => nx σ H3) : sFld K ta tv f ⟨nx, rt, bk, ct⟩ σ H := q
theorem g_tup (q : tA σ H fun xs H1 => xs.length ≤ sizeLine ∧ New (.tup xs) H1 Q) : tTup tA σ H Q := q
theorem g_lst (q : tA σ H fun xs H1 => xs.length ≤ sizeLine ∧ New (.lst xs) H1 Q) : tLst tA σ H Q := q
theorem g_sz {n : Nat} (h : n ≤ 1000) (q : z H) : n ≤ sizeLine ∧ z H := ⟨Nat.le_trans h (by decide), q⟩
theorem g_szN {n : Nat} (h : n ≤ 1000) (q : New o H Q) : n ≤ sizeLine ∧ New o H Q := ⟨Nat.le_trans h (by decide), q⟩
theorem g_new (S : SH H0 l H) (k : ∀ p H1, SH H0 ((p, o) :: l) H1 → Q (.ref p) H1) : New o H Q := fun p hp => k p _ (S.new hp)
theorem g_retV (S : SH H0 l H) (k : ∀ H1, SH H0 l H1 → Q v H1) : Ret v H Q := fun H1 s => k H1 (S.call s)
theorem SH.add (S : SH H0 l H) (s : Same H H1) (n : H p = none) (e : H1 p = some o) : SH H0 ((p, o) :: l) H1 where
  same := S.same.trans s
  at_ := fun q m => by
    rcases List.mem_cons.mp m with e' | m
    · rw [e']; exact e
    · exact s _ _ (S.at_ q m)
  nd := List.nodup_cons.mpr ⟨S.fresh n, S.nd⟩
  out := fun q m => by
    rcases List.mem_cons.mp m with e' | m
    · rw [e']; exact S.same.free n
    · exact S.out q m
theorem g_retN_ (S : SH H0 l H) (k : ∀ p H1, SH H0 ((p, o) :: l) H1 → Q (.ref p) H1) : RetN o H Q := fun p H1 s n e => k p H1 (S.add s n e)
theorem Ret.go (k : Ret v H Q) (S : SH H l H1) : Q v H1 := k _ S.same
theorem RetN.go (k : RetN o H Q) (S : SH H l H1) (e : H1 p = some o) (n : H p = none) : Q (.ref p) H1 := k _ _ S.same n e
theorem RetN.go0 (k : RetN o H Q) (S : SH H ((p, o) :: l) H1) : Q (.ref p) H1 := k _ _ S.same S.out0 S.g0
theorem SH.u0 (S : SH H0 ((a, o') :: l) H) (k : ∀ H1, SH H0 ((a, o) :: l) H1 → z H1) : Upd H a o z := k _ (S.set (i := 0) rfl o)
theorem SH.u1 (S : SH H0 (x0 :: (a, o') :: l) H) (k : ∀ H1, SH H0 (x0 :: (a, o) :: l) H1 → z H1) : Upd H a o z := k _ (S.set (i := 1) rfl o)
theorem SH.u2 (S : SH H0 (x0 :: x1 :: (a, o') :: l) H) (k : ∀ H1, SH H0 (x0 :: x1 :: (a, o) :: l) H1 → z H1) : Upd H a o z := k _ (S.set (i := 2) rfl o)
theorem SH.u3 (S : SH H0 (x0 :: x1 :: x2 :: (a, o') :: l) H) (k : ∀ H1, SH H0 (x0 :: x1 :: x2 :: (a, o) :: l) H1 → z H1) : Upd H a o z := k _ (S.set (i := 3) rfl o)
theorem SH.u4 (S : SH H0 (x0 :: x1 :: x2 :: x3 :: (a, o') :: l) H) (k : ∀ H1, SH H0 (x0 :: x1 :: x2 :: x3 :: (a, o) :: l) H1 → z H1) : Upd H a o z := k _ (S.set (i := 4) rfl o)
theorem SH.u5 (S : SH H0 (x0 :: x1 :: x2 :: x3 :: x4 :: (a, o') :: l) H) (k : ∀ H1, SH H0 (x0 :: x1 :: x2 :: x3 :: x4 :: (a, o) :: l) H1 → z H1) : Upd H a o z := k _ (S.set (i := 5) rfl o)
theorem SH.u6 (S : SH H0 (x0 :: x1 :: x2 :: x3 :: x4 :: x5 :: (a, o') :: l) H) (k : ∀ H1, SH H0 (x0 :: x1 :: x2 :: x3 :: x4 :: x5 :: (a, o) :: l) H1 → z H1) : Upd H a o z := k _ (S.set (i := 6) rfl o)
theorem SH.u7 (S : SH H0 (x0 :: x1 :: x2 :: x3 :: x4 :: x5 :: x6 :: (a, o') :: l) H) (k : ∀ H1, SH H0 (x0 :: x1 :: x2 :: x3 :: x4 :: x5 :: x6 :: (a, o) :: l) H1 → z H1) : Upd H a o z := k _ (S.set (i := 7) rfl o)
theorem SH.u8 (S : SH H0 (x0 :: x1 :: x2 :: x3 :: x4 :: x5 :: x6 :: x7 :: (a, o') :: l) H) (k : ∀ H1, SH H0 (x0 :: x1 :: x2 :: x3 :: x4 :: x5 :: x6 :: x7 :: (a, o) :: l) H1 → z H1) : Upd H a o z := k _ (S.set (i := 8) rfl o)
theorem SH.u9 (S : SH H0 (x0 :: x1 :: x2 :: x3 :: x4 :: x5 :: x6 :: x7 :: x8 :: (a, o') :: l) H) (k : ∀ H1, SH H0 (x0 :: x1 :: x2 :: x3 :: x4 :: x5 :: x6 :: x7 :: x8 :: (a, o) :: l) H1 → z H1) : Upd H a o z := k _ (S.set (i := 9) rfl o)
theorem g_aug {ti : TIp} (h : σ[i]? = some (some x)) (q : te σ H fun y H1 => ti x y H1 fun z H2 => gName i z σ H2 nx) : tAug i te ti ⟨nx, rt, bk, ct⟩ σ H := ⟨x, h, q⟩
theorem g_ip {g : Int → Int → Int} {i j : Int} (q : Q (.int (g i j)) H) : ipI g (.int i) (.int j) H Q := ⟨i, j, rfl, rfl, q⟩
/-! items -/
theorem g_ixL {q : Addr} {xs : List V} {i : Int} (h : SqL K H q xs) (e : atI xs i = some v) (k : Q v H) : rIxL K (.ref q) (.int i) H Q := ⟨q, xs, i, v, rfl, rfl, h, e, k⟩
theorem g_ixT {q : Addr} {xs : List V} {i : Int} (h : SqT K H q xs) (e : atI xs i = some v) (k : Q v H) : rIxT K (.ref q) (.int i) H Q := ⟨q, xs, i, v, rfl, rfl, h, e, k⟩
theorem at0 {x0 : V} {r : List V} : atI (x0 :: r) 0 = some x0 := atI_nat (j := 0) rfl
theorem at1 {x0 x1 : V} {r : List V} : atI (x0 :: x1 :: r) 1 = some x1 := atI_nat (j := 1) rfl
theorem at2 {x0 x1 x2 : V} {r : List V} : atI (x0 :: x1 :: x2 :: r) 2 = some x2 := atI_nat (j := 2) rfl
theorem at3 {x0 x1 x2 x3 : V} {r : List V} : atI (x0 :: x1 :: x2 :: x3 :: r) 3 = some x3 := atI_nat (j := 3) rfl
/-! unpacking -/
def Ut (K : PySem.W.Frag) (n : Nat) (t : TGs) (v : V) (σ : L2.St) (H : Hp) (q : L2.St → Hp → Prop) : Prop := ∃ a xs, v = .ref a ∧ SqT K H a xs ∧ xs.length = n ∧ t xs σ H q
theorem g_gtup {n : Nat} {t : TGs} {q : L2.St → Hp → Prop} (k : Ut K n t v σ H q) : gTup K n t v σ H q := k
theorem g_ut {n : Nat} {t : TGs} {xs : List V} {q : L2.St → Hp → Prop} (h : SqT K H a xs) (e : xs.length = n) (k : t xs σ H q) : Ut K n t (.ref a) σ H q := ⟨a, xs, rfl, h, e, k⟩
theorem g_gnil {q : L2.St → Hp → Prop} (k : q σ H) : gNil [] σ H q := ⟨rfl, k⟩
theorem g_gcons {t : TG} {u : TGs} {xs : List V} {q : L2.St → Hp → Prop} (k : t v σ H fun σ' H' => u xs σ' H' q) : gCons t u (v :: xs) σ H q := ⟨v, xs, rfl, k⟩
end
/-! ways -/
theorem iteNT {A B : Prop} (k : B) : if (!true) = true then A else B := iteF k
theorem iteNF {A B : Prop} (k : A) : if (!false) = true then A else B := iteT k
theorem w_d {p A B : Prop} [Decidable p] (h1 : p → A) (h2 : ¬ p → B) : if decide p = true then A else B := by
  by_cases h : p
  · rw [decide_eq_true h, if_pos rfl]; exact h1 h
  · rw [decide_eq_false h, if_neg Bool.false_ne_true]; exact h2 h
theorem w_dT {p A B : Prop} [Decidable p] (h : p) (k : A) : if decide p = true then A else B := by rw [decide_eq_true h, if_pos rfl]; exact k
theorem w_dF {p A B : Prop} [Decidable p] (h : ¬ p) (k : B) : if decide p = true then A else B := by rw [decide_eq_false h, if_neg Bool.false_ne_true]; exact k
theorem w_nd {p A B : Prop} [Decidable p] (h1 : ¬ p → A) (h2 : p → B) : if (!decide p) = true then A else B := by
  by_cases h : p
  · rw [decide_eq_true h]; exact iteF (h2 h)
  · rw [decide_eq_false h]; exact iteT (h1 h)
theorem w_ndT {p A B : Prop} [Decidable p] (h : ¬ p) (k : A) : if (!decide p) = true then A else B := by rw [decide_eq_false h]; exact iteT k
theorem w_ndF {p A B : Prop} [Decidable p] (h : p) (k : B) : if (!decide p) = true then A else B := by rw [decide_eq_true h]; exact iteF k
theorem w_b {b : Bool} {A B : Prop} (h1 : b = true → A) (h2 : b = false → B) : if b = true then A else B := by
  cases b with
  | true => exact iteT (h1 rfl)
  | false => exact iteF (h2 rfl)
theorem w_bT {b : Bool} {A B : Prop} (h : b = true) (k : A) : if b = true then A else B := by rw [h]; exact iteT k
theorem w_bF {b : Bool} {A B : Prop} (h : b = false) (k : B) : if b = true then A else B := by rw [h]; exact iteF k
section
variable {K : PySem.W.Frag} {mg : Str → Option Value} {H : Hp} {Q : VK} {a dx : Addr} {z : Hp → Prop}
theorem up_as {C : Addr} {fs gs : List (Str × V)} (e : fs = gs) (q : Upd H a (.ins C dx gs) z) : z (upd H a (.ins C dx fs)) := by rw [e]; exact q

/-! Boat -/
def fl_Boat (v0 v1 : V) : List (Str × V) := [("name", v0), ("bears", v1)]
def ks_Boat : List Str := ["name", "bears"]
theorem nd_Boat : ks_Boat.Nodup := by decide +kernel
theorem rd_Boat_name {v0 v1 : V} (T : Top K mg) (h : H a = some (.ins (He.ga K "Boat") dx (fl_Boat v0 v1))) (q : Q v0 H) : Fp K "name" (.ref a) H Q := ⟨a, _, dx, _, _, rfl, h, c_Boat T, n_Boat_name T, lk_at (i := 0) nd_Boat rfl, q⟩
theorem rd_Boat_bears {v0 v1 : V} (T : Top K mg) (h : H a = some (.ins (He.ga K "Boat") dx (fl_Boat v0 v1))) (q : Q v1 H) : Fp K "bears" (.ref a) H Q := ⟨a, _, dx, _, _, rfl, h, c_Boat T, n_Boat_bears T, lk_at (i := 1) nd_Boat rfl, q⟩
theorem in_Boat_name {y : V} (T : Top K mg) (h : H a = some (.ins (He.ga K "Boat") dx [])) (q : Upd H a (.ins (He.ga K "Boat") dx [("name", y)]) z) : Wp K "name" y (.ref a) H z := ⟨a, _, dx, _, rfl, h, c_Boat T, n_Boat_name T, (by show 0 < 1000; decide), up_as (put_new (fs := []) (show ("name" : Str) ∉ ks_Boat.take 0 by decide +kernel)) q⟩
theorem in_Boat_bears {v0 : V} {y : V} (T : Top K mg) (h : H a = some (.ins (He.ga K "Boat") dx [("name", v0)])) (q : Upd H a (.ins (He.ga K "Boat") dx [("name", v0), ("bears", y)]) z) : Wp K "bears" y (.ref a) H z := ⟨a, _, dx, _, rfl, h, c_Boat T, n_Boat_bears T, (by show 1 < 1000; decide), up_as (put_new (fs := [("name", v0)]) (show ("bears" : Str) ∉ ks_Boat.take 1 by decide +kernel)) q⟩
/-! Bridge -/
def fl_Bridge (v0 v1 : V) : List (Str × V) := [("line_up", v0), ("beams", v1)]
def ks_Bridge : List Str := ["line_up", "beams"]
theorem nd_Bridge : ks_Bridge.Nodup := by decide +kernel
theorem rd_Bridge_line_up {v0 v1 : V} (T : Top K mg) (h : H a = some (.ins (He.ga K "Bridge") dx (fl_Bridge v0 v1))) (q : Q v0 H) : Fp K "line_up" (.ref a) H Q := ⟨a, _, dx, _, _, rfl, h, c_Bridge T, n_Bridge_line_up T, lk_at (i := 0) nd_Bridge rfl, q⟩
theorem rd_Bridge_beams {v0 v1 : V} (T : Top K mg) (h : H a = some (.ins (He.ga K "Bridge") dx (fl_Bridge v0 v1))) (q : Q v1 H) : Fp K "beams" (.ref a) H Q := ⟨a, _, dx, _, _, rfl, h, c_Bridge T, n_Bridge_beams T, lk_at (i := 1) nd_Bridge rfl, q⟩
theorem in_Bridge_line_up {y : V} (T : Top K mg) (h : H a = some (.ins (He.ga K "Bridge") dx [])) (q : Upd H a (.ins (He.ga K "Bridge") dx [("line_up", y)]) z) : Wp K "line_up" y (.ref a) H z := ⟨a, _, dx, _, rfl, h, c_Bridge T, n_Bridge_line_up T, (by show 0 < 1000; decide), up_as (put_new (fs := []) (show ("line_up" : Str) ∉ ks_Bridge.take 0 by decide +kernel)) q⟩
theorem in_Bridge_beams {v0 : V} {y : V} (T : Top K mg) (h : H a = some (.ins (He.ga K "Bridge") dx [("line_up", v0)])) (q : Upd H a (.ins (He.ga K "Bridge") dx [("line_up", v0), ("beams", y)]) z) : Wp K "beams" y (.ref a) H z := ⟨a, _, dx, _, rfl, h, c_Bridge T, n_Bridge_beams T, (by show 1 < 1000; decide), up_as (put_new (fs := [("line_up", v0)]) (show ("beams" : Str) ∉ ks_Bridge.take 1 by decide +kernel)) q⟩
/-! Stretch -/
def fl_Stretch (v0 v1 : V) : List (Str × V) := [("first", v0), ("behind", v1)]
def ks_Stretch : List Str := ["first", "behind"]
theorem nd_Stretch : ks_Stretch.Nodup := by decide +kernel
theorem rd_Stretch_first {v0 v1 : V} (T : Top K mg) (h : H a = some (.ins (He.ga K "Stretch") dx (fl_Stretch v0 v1))) (q : Q v0 H) : Fp K "first" (.ref a) H Q := ⟨a, _, dx, _, _, rfl, h, c_Stretch T, n_Stretch_first T, lk_at (i := 0) nd_Stretch rfl, q⟩
theorem rd_Stretch_behind {v0 v1 : V} (T : Top K mg) (h : H a = some (.ins (He.ga K "Stretch") dx (fl_Stretch v0 v1))) (q : Q v1 H) : Fp K "behind" (.ref a) H Q := ⟨a, _, dx, _, _, rfl, h, c_Stretch T, n_Stretch_behind T, lk_at (i := 1) nd_Stretch rfl, q⟩
theorem in_Stretch_first {y : V} (T : Top K mg) (h : H a = some (.ins (He.ga K "Stretch") dx [])) (q : Upd H a (.ins (He.ga K "Stretch") dx [("first", y)]) z) : Wp K "first" y (.ref a) H z := ⟨a, _, dx, _, rfl, h, c_Stretch T, n_Stretch_first T, (by show 0 < 1000; decide), up_as (put_new (fs := []) (show ("first" : Str) ∉ ks_Stretch.take 0 by decide +kernel)) q⟩
theorem in_Stretch_behind {v0 : V} {y : V} (T : Top K mg) (h : H a = some (.ins (He.ga K "Stretch") dx [("first", v0)])) (q : Upd H a (.ins (He.ga K "Stretch") dx [("first", v0), ("behind", y)]) z) : Wp K "behind" y (.ref a) H z := ⟨a, _, dx, _, rfl, h, c_Stretch T, n_Stretch_behind T, (by show 1 < 1000; decide), up_as (put_new (fs := [("first", v0)]) (show ("behind" : Str) ∉ ks_Stretch.take 1 by decide +kernel)) q⟩
/-! Hours -/
def fl_Hours (v0 v1 : V) : List (Str × V) := [("first", v0), ("behind", v1)]
def ks_Hours : List Str := ["first", "behind"]
theorem nd_Hours : ks_Hours.Nodup := by decide +kernel
theorem rd_Hours_first {v0 v1 : V} (T : Top K mg) (h : H a = some (.ins (He.ga K "Hours") dx (fl_Hours v0 v1))) (q : Q v0 H) : Fp K "first" (.ref a) H Q := ⟨a, _, dx, _, _, rfl, h, c_Hours T, n_Hours_first T, lk_at (i := 0) nd_Hours rfl, q⟩
theorem rd_Hours_behind {v0 v1 : V} (T : Top K mg) (h : H a = some (.ins (He.ga K "Hours") dx (fl_Hours v0 v1))) (q : Q v1 H) : Fp K "behind" (.ref a) H Q := ⟨a, _, dx, _, _, rfl, h, c_Hours T, n_Hours_behind T, lk_at (i := 1) nd_Hours rfl, q⟩
theorem in_Hours_first {y : V} (T : Top K mg) (h : H a = some (.ins (He.ga K "Hours") dx [])) (q : Upd H a (.ins (He.ga K "Hours") dx [("first", y)]) z) : Wp K "first" y (.ref a) H z := ⟨a, _, dx, _, rfl, h, c_Hours T, n_Hours_first T, (by show 0 < 1000; decide), up_as (put_new (fs := []) (show ("first" : Str) ∉ ks_Hours.take 0 by decide +kernel)) q⟩
theorem in_Hours_behind {v0 : V} {y : V} (T : Top K mg) (h : H a = some (.ins (He.ga K "Hours") dx [("first", v0)])) (q : Upd H a (.ins (He.ga K "Hours") dx [("first", v0), ("behind", y)]) z) : Wp K "behind" y (.ref a) H z := ⟨a, _, dx, _, rfl, h, c_Hours T, n_Hours_behind T, (by show 1 < 1000; decide), up_as (put_new (fs := [("first", v0)]) (show ("behind" : Str) ∉ ks_Hours.take 1 by decide +kernel)) q⟩
/-! Days -/
def fl_Days (v0 : V) : List (Str × V) := [("weekdays", v0)]
def ks_Days : List Str := ["weekdays"]
theorem nd_Days : ks_Days.Nodup := by decide +kernel
theorem rd_Days_weekdays {v0 : V} (T : Top K mg) (h : H a = some (.ins (He.ga K "Days") dx (fl_Days v0))) (q : Q v0 H) : Fp K "weekdays" (.ref a) H Q := ⟨a, _, dx, _, _, rfl, h, c_Days T, n_Days_weekdays T, lk_at (i := 0) nd_Days rfl, q⟩
theorem in_Days_weekdays {y : V} (T : Top K mg) (h : H a = some (.ins (He.ga K "Days") dx [])) (q : Upd H a (.ins (He.ga K "Days") dx [("weekdays", y)]) z) : Wp K "weekdays" y (.ref a) H z := ⟨a, _, dx, _, rfl, h, c_Days T, n_Days_weekdays T, (by show 0 < 1000; decide), up_as (put_new (fs := []) (show ("weekdays" : Str) ∉ ks_Days.take 0 by decide +kernel)) q⟩
/-! Unless -/
def fl_Unless (v0 : V) : List (Str × V) := [("inner", v0)]
def ks_Unless : List Str := ["inner"]
theorem nd_Unless : ks_Unless.Nodup := by decide +kernel
theorem rd_Unless_inner {v0 : V} (T : Top K mg) (h : H a = some (.ins (He.ga K "Unless") dx (fl_Unless v0))) (q : Q v0 H) : Fp K "inner" (.ref a) H Q := ⟨a, _, dx, _, _, rfl, h, c_Unless T, n_Unless_inner T, lk_at (i := 0) nd_Unless rfl, q⟩
theorem in_Unless_inner {y : V} (T : Top K mg) (h : H a = some (.ins (He.ga K "Unless") dx [])) (q : Upd H a (.ins (He.ga K "Unless") dx [("inner", y)]) z) : Wp K "inner" y (.ref a) H z := ⟨a, _, dx, _, rfl, h, c_Unless T, n_Unless_inner T, (by show 0 < 1000; decide), up_as (put_new (fs := []) (show ("inner" : Str) ∉ ks_Unless.take 0 by decide +kernel)) q⟩
/-! Both -/
def fl_Both (v0 : V) : List (Str × V) := [("all_of", v0)]
def ks_Both : List Str := ["all_of"]
theorem nd_Both : ks_Both.Nodup := by decide +kernel
theorem rd_Both_all_of {v0 : V} (T : Top K mg) (h : H a = some (.ins (He.ga K "Both") dx (fl_Both v0))) (q : Q v0 H) : Fp K "all_of" (.ref a) H Q := ⟨a, _, dx, _, _, rfl, h, c_Both T, n_Both_all_of T, lk_at (i := 0) nd_Both rfl, q⟩
theorem in_Both_all_of {y : V} (T : Top K mg) (h : H a = some (.ins (He.ga K "Both") dx [])) (q : Upd H a (.ins (He.ga K "Both") dx [("all_of", y)]) z) : Wp K "all_of" y (.ref a) H z := ⟨a, _, dx, _, rfl, h, c_Both T, n_Both_all_of T, (by show 0 < 1000; decide), up_as (put_new (fs := []) (show ("all_of" : Str) ∉ ks_Both.take 0 by decide +kernel)) q⟩
/-! Either -/
def fl_Either (v0 : V) : List (Str × V) := [("some_of", v0)]
def ks_Either : List Str := ["some_of"]
theorem nd_Either : ks_Either.Nodup := by decide +kernel
theorem rd_Either_some_of {v0 : V} (T : Top K mg) (h : H a = some (.ins (He.ga K "Either") dx (fl_Either v0))) (q : Q v0 H) : Fp K "some_of" (.ref a) H Q := ⟨a, _, dx, _, _, rfl, h, c_Either T, n_Either_some_of T, lk_at (i := 0) nd_Either rfl, q⟩
theorem in_Either_some_of {y : V} (T : Top K mg) (h : H a = some (.ins (He.ga K "Either") dx [])) (q : Upd H a (.ins (He.ga K "Either") dx [("some_of", y)]) z) : Wp K "some_of" y (.ref a) H z := ⟨a, _, dx, _, rfl, h, c_Either T, n_Either_some_of T, (by show 0 < 1000; decide), up_as (put_new (fs := []) (show ("some_of" : Str) ∉ ks_Either.take 0 by decide +kernel)) q⟩
/-! Week -/
def fl_Week (v0 : V) : List (Str × V) := [("runs", v0)]
def ks_Week : List Str := ["runs"]
theorem nd_Week : ks_Week.Nodup := by decide +kernel
theorem rd_Week_runs {v0 : V} (T : Top K mg) (h : H a = some (.ins (He.ga K "Week") dx (fl_Week v0))) (q : Q v0 H) : Fp K "runs" (.ref a) H Q := ⟨a, _, dx, _, _, rfl, h, c_Week T, n_Week_runs T, lk_at (i := 0) nd_Week rfl, q⟩
theorem in_Week_runs {y : V} (T : Top K mg) (h : H a = some (.ins (He.ga K "Week") dx [])) (q : Upd H a (.ins (He.ga K "Week") dx [("runs", y)]) z) : Wp K "runs" y (.ref a) H z := ⟨a, _, dx, _, rfl, h, c_Week T, n_Week_runs T, (by show 0 < 1000; decide), up_as (put_new (fs := []) (show ("runs" : Str) ∉ ks_Week.take 0 by decide +kernel)) q⟩
/-! Deck -/
structure DF where
  (bridge : V)
  (part : V)
  (out : V)
  (pause : V)
  (turn_most : V)
  (rul : V)
  (week : V)
  (here : V)
  (phase : V)
  (ends : V)
  (down_at : V)
  (whose : V)
  (gone_on : V)
  (carts : V)
  (lines : V)
  (queue : V)
  (told_for : V)
  (known : V)
  (hours : V)
def fl_Deck (s : DF) : List (Str × V) := [("bridge", s.bridge), ("part", s.part), ("out", s.out), ("pause", s.pause), ("turn_most", s.turn_most), ("rule", s.rul), ("week", s.week), ("here", s.here), ("phase", s.phase), ("ends", s.ends), ("down_at", s.down_at), ("whose", s.whose), ("gone_on", s.gone_on), ("carts", s.carts), ("lines", s.lines), ("queue", s.queue), ("told_for", s.told_for), ("known", s.known), ("hours", s.hours)]
def ks_Deck : List Str := ["bridge", "part", "out", "pause", "turn_most", "rule", "week", "here", "phase", "ends", "down_at", "whose", "gone_on", "carts", "lines", "queue", "told_for", "known", "hours"]
theorem nd_Deck : ks_Deck.Nodup := by decide +kernel
theorem rd_Deck_bridge {s : DF} (T : Top K mg) (h : H a = some (.ins (He.ga K "Deck") dx (fl_Deck s))) (q : Q s.bridge H) : Fp K "bridge" (.ref a) H Q := ⟨a, _, dx, _, _, rfl, h, c_Deck T, n_Deck_bridge T, lk_at (i := 0) nd_Deck rfl, q⟩
theorem rd_Deck_part {s : DF} (T : Top K mg) (h : H a = some (.ins (He.ga K "Deck") dx (fl_Deck s))) (q : Q s.part H) : Fp K "part" (.ref a) H Q := ⟨a, _, dx, _, _, rfl, h, c_Deck T, n_Deck_part T, lk_at (i := 1) nd_Deck rfl, q⟩
theorem rd_Deck_out {s : DF} (T : Top K mg) (h : H a = some (.ins (He.ga K "Deck") dx (fl_Deck s))) (q : Q s.out H) : Fp K "out" (.ref a) H Q := ⟨a, _, dx, _, _, rfl, h, c_Deck T, n_Deck_out T, lk_at (i := 2) nd_Deck rfl, q⟩
theorem rd_Deck_pause {s : DF} (T : Top K mg) (h : H a = some (.ins (He.ga K "Deck") dx (fl_Deck s))) (q : Q s.pause H) : Fp K "pause" (.ref a) H Q := ⟨a, _, dx, _, _, rfl, h, c_Deck T, n_Deck_pause T, lk_at (i := 3) nd_Deck rfl, q⟩
theorem rd_Deck_turn_most {s : DF} (T : Top K mg) (h : H a = some (.ins (He.ga K "Deck") dx (fl_Deck s))) (q : Q s.turn_most H) : Fp K "turn_most" (.ref a) H Q := ⟨a, _, dx, _, _, rfl, h, c_Deck T, n_Deck_turn_most T, lk_at (i := 4) nd_Deck rfl, q⟩
theorem rd_Deck_rule {s : DF} (T : Top K mg) (h : H a = some (.ins (He.ga K "Deck") dx (fl_Deck s))) (q : Q s.rul H) : Fp K "rule" (.ref a) H Q := ⟨a, _, dx, _, _, rfl, h, c_Deck T, n_Deck_rule T, lk_at (i := 5) nd_Deck rfl, q⟩
theorem rd_Deck_week {s : DF} (T : Top K mg) (h : H a = some (.ins (He.ga K "Deck") dx (fl_Deck s))) (q : Q s.week H) : Fp K "week" (.ref a) H Q := ⟨a, _, dx, _, _, rfl, h, c_Deck T, n_Deck_week T, lk_at (i := 6) nd_Deck rfl, q⟩
theorem rd_Deck_here {s : DF} (T : Top K mg) (h : H a = some (.ins (He.ga K "Deck") dx (fl_Deck s))) (q : Q s.here H) : Fp K "here" (.ref a) H Q := ⟨a, _, dx, _, _, rfl, h, c_Deck T, n_Deck_here T, lk_at (i := 7) nd_Deck rfl, q⟩
theorem rd_Deck_phase {s : DF} (T : Top K mg) (h : H a = some (.ins (He.ga K "Deck") dx (fl_Deck s))) (q : Q s.phase H) : Fp K "phase" (.ref a) H Q := ⟨a, _, dx, _, _, rfl, h, c_Deck T, n_Deck_phase T, lk_at (i := 8) nd_Deck rfl, q⟩
theorem rd_Deck_ends {s : DF} (T : Top K mg) (h : H a = some (.ins (He.ga K "Deck") dx (fl_Deck s))) (q : Q s.ends H) : Fp K "ends" (.ref a) H Q := ⟨a, _, dx, _, _, rfl, h, c_Deck T, n_Deck_ends T, lk_at (i := 9) nd_Deck rfl, q⟩
theorem rd_Deck_down_at {s : DF} (T : Top K mg) (h : H a = some (.ins (He.ga K "Deck") dx (fl_Deck s))) (q : Q s.down_at H) : Fp K "down_at" (.ref a) H Q := ⟨a, _, dx, _, _, rfl, h, c_Deck T, n_Deck_down_at T, lk_at (i := 10) nd_Deck rfl, q⟩
theorem rd_Deck_whose {s : DF} (T : Top K mg) (h : H a = some (.ins (He.ga K "Deck") dx (fl_Deck s))) (q : Q s.whose H) : Fp K "whose" (.ref a) H Q := ⟨a, _, dx, _, _, rfl, h, c_Deck T, n_Deck_whose T, lk_at (i := 11) nd_Deck rfl, q⟩
theorem rd_Deck_gone_on {s : DF} (T : Top K mg) (h : H a = some (.ins (He.ga K "Deck") dx (fl_Deck s))) (q : Q s.gone_on H) : Fp K "gone_on" (.ref a) H Q := ⟨a, _, dx, _, _, rfl, h, c_Deck T, n_Deck_gone_on T, lk_at (i := 12) nd_Deck rfl, q⟩
theorem rd_Deck_carts {s : DF} (T : Top K mg) (h : H a = some (.ins (He.ga K "Deck") dx (fl_Deck s))) (q : Q s.carts H) : Fp K "carts" (.ref a) H Q := ⟨a, _, dx, _, _, rfl, h, c_Deck T, n_Deck_carts T, lk_at (i := 13) nd_Deck rfl, q⟩
theorem rd_Deck_lines {s : DF} (T : Top K mg) (h : H a = some (.ins (He.ga K "Deck") dx (fl_Deck s))) (q : Q s.lines H) : Fp K "lines" (.ref a) H Q := ⟨a, _, dx, _, _, rfl, h, c_Deck T, n_Deck_lines T, lk_at (i := 14) nd_Deck rfl, q⟩
theorem rd_Deck_queue {s : DF} (T : Top K mg) (h : H a = some (.ins (He.ga K "Deck") dx (fl_Deck s))) (q : Q s.queue H) : Fp K "queue" (.ref a) H Q := ⟨a, _, dx, _, _, rfl, h, c_Deck T, n_Deck_queue T, lk_at (i := 15) nd_Deck rfl, q⟩
theorem rd_Deck_told_for {s : DF} (T : Top K mg) (h : H a = some (.ins (He.ga K "Deck") dx (fl_Deck s))) (q : Q s.told_for H) : Fp K "told_for" (.ref a) H Q := ⟨a, _, dx, _, _, rfl, h, c_Deck T, n_Deck_told_for T, lk_at (i := 16) nd_Deck rfl, q⟩
theorem rd_Deck_known {s : DF} (T : Top K mg) (h : H a = some (.ins (He.ga K "Deck") dx (fl_Deck s))) (q : Q s.known H) : Fp K "known" (.ref a) H Q := ⟨a, _, dx, _, _, rfl, h, c_Deck T, n_Deck_known T, lk_at (i := 17) nd_Deck rfl, q⟩
theorem rd_Deck_hours {s : DF} (T : Top K mg) (h : H a = some (.ins (He.ga K "Deck") dx (fl_Deck s))) (q : Q s.hours H) : Fp K "hours" (.ref a) H Q := ⟨a, _, dx, _, _, rfl, h, c_Deck T, n_Deck_hours T, lk_at (i := 18) nd_Deck rfl, q⟩
theorem st_Deck_bridge {s : DF} {y : V} (T : Top K mg) (h : H a = some (.ins (He.ga K "Deck") dx (fl_Deck s))) (q : Upd H a (.ins (He.ga K "Deck") dx (fl_Deck { s with bridge := y })) z) : Wp K "bridge" y (.ref a) H z := ⟨a, _, dx, _, rfl, h, c_Deck T, n_Deck_bridge T, (by show 19 < 1000; decide), up_as (put_at (fs := fl_Deck s) (i := 0) nd_Deck rfl) q⟩
theorem st_Deck_part {s : DF} {y : V} (T : Top K mg) (h : H a = some (.ins (He.ga K "Deck") dx (fl_Deck s))) (q : Upd H a (.ins (He.ga K "Deck") dx (fl_Deck { s with part := y })) z) : Wp K "part" y (.ref a) H z := ⟨a, _, dx, _, rfl, h, c_Deck T, n_Deck_part T, (by show 19 < 1000; decide), up_as (put_at (fs := fl_Deck s) (i := 1) nd_Deck rfl) q⟩
theorem st_Deck_out {s : DF} {y : V} (T : Top K mg) (h : H a = some (.ins (He.ga K "Deck") dx (fl_Deck s))) (q : Upd H a (.ins (He.ga K "Deck") dx (fl_Deck { s with out := y })) z) : Wp K "out" y (.ref a) H z := ⟨a, _, dx, _, rfl, h, c_Deck T, n_Deck_out T, (by show 19 < 1000; decide), up_as (put_at (fs := fl_Deck s) (i := 2) nd_Deck rfl) q⟩
theorem st_Deck_pause {s : DF} {y : V} (T : Top K mg) (h : H a = some (.ins (He.ga K "Deck") dx (fl_Deck s))) (q : Upd H a (.ins (He.ga K "Deck") dx (fl_Deck { s with pause := y })) z) : Wp K "pause" y (.ref a) H z := ⟨a, _, dx, _, rfl, h, c_Deck T, n_Deck_pause T, (by show 19 < 1000; decide), up_as (put_at (fs := fl_Deck s) (i := 3) nd_Deck rfl) q⟩
theorem st_Deck_turn_most {s : DF} {y : V} (T : Top K mg) (h : H a = some (.ins (He.ga K "Deck") dx (fl_Deck s))) (q : Upd H a (.ins (He.ga K "Deck") dx (fl_Deck { s with turn_most := y })) z) : Wp K "turn_most" y (.ref a) H z := ⟨a, _, dx, _, rfl, h, c_Deck T, n_Deck_turn_most T, (by show 19 < 1000; decide), up_as (put_at (fs := fl_Deck s) (i := 4) nd_Deck rfl) q⟩
theorem st_Deck_rule {s : DF} {y : V} (T : Top K mg) (h : H a = some (.ins (He.ga K "Deck") dx (fl_Deck s))) (q : Upd H a (.ins (He.ga K "Deck") dx (fl_Deck { s with rul := y })) z) : Wp K "rule" y (.ref a) H z := ⟨a, _, dx, _, rfl, h, c_Deck T, n_Deck_rule T, (by show 19 < 1000; decide), up_as (put_at (fs := fl_Deck s) (i := 5) nd_Deck rfl) q⟩
theorem st_Deck_week {s : DF} {y : V} (T : Top K mg) (h : H a = some (.ins (He.ga K "Deck") dx (fl_Deck s))) (q : Upd H a (.ins (He.ga K "Deck") dx (fl_Deck { s with week := y })) z) : Wp K "week" y (.ref a) H z := ⟨a, _, dx, _, rfl, h, c_Deck T, n_Deck_week T, (by show 19 < 1000; decide), up_as (put_at (fs := fl_Deck s) (i := 6) nd_Deck rfl) q⟩
theorem st_Deck_here {s : DF} {y : V} (T : Top K mg) (h : H a = some (.ins (He.ga K "Deck") dx (fl_Deck s))) (q : Upd H a (.ins (He.ga K "Deck") dx (fl_Deck { s with here := y })) z) : Wp K "here" y (.ref a) H z := ⟨a, _, dx, _, rfl, h, c_Deck T, n_Deck_here T, (by show 19 < 1000; decide), up_as (put_at (fs := fl_Deck s) (i := 7) nd_Deck rfl) q⟩
theorem st_Deck_phase {s : DF} {y : V} (T : Top K mg) (h : H a = some (.ins (He.ga K "Deck") dx (fl_Deck s))) (q : Upd H a (.ins (He.ga K "Deck") dx (fl_Deck { s with phase := y })) z) : Wp K "phase" y (.ref a) H z := ⟨a, _, dx, _, rfl, h, c_Deck T, n_Deck_phase T, (by show 19 < 1000; decide), up_as (put_at (fs := fl_Deck s) (i := 8) nd_Deck rfl) q⟩
theorem st_Deck_ends {s : DF} {y : V} (T : Top K mg) (h : H a = some (.ins (He.ga K "Deck") dx (fl_Deck s))) (q : Upd H a (.ins (He.ga K "Deck") dx (fl_Deck { s with ends := y })) z) : Wp K "ends" y (.ref a) H z := ⟨a, _, dx, _, rfl, h, c_Deck T, n_Deck_ends T, (by show 19 < 1000; decide), up_as (put_at (fs := fl_Deck s) (i := 9) nd_Deck rfl) q⟩
theorem st_Deck_down_at {s : DF} {y : V} (T : Top K mg) (h : H a = some (.ins (He.ga K "Deck") dx (fl_Deck s))) (q : Upd H a (.ins (He.ga K "Deck") dx (fl_Deck { s with down_at := y })) z) : Wp K "down_at" y (.ref a) H z := ⟨a, _, dx, _, rfl, h, c_Deck T, n_Deck_down_at T, (by show 19 < 1000; decide), up_as (put_at (fs := fl_Deck s) (i := 10) nd_Deck rfl) q⟩
theorem st_Deck_whose {s : DF} {y : V} (T : Top K mg) (h : H a = some (.ins (He.ga K "Deck") dx (fl_Deck s))) (q : Upd H a (.ins (He.ga K "Deck") dx (fl_Deck { s with whose := y })) z) : Wp K "whose" y (.ref a) H z := ⟨a, _, dx, _, rfl, h, c_Deck T, n_Deck_whose T, (by show 19 < 1000; decide), up_as (put_at (fs := fl_Deck s) (i := 11) nd_Deck rfl) q⟩
theorem st_Deck_gone_on {s : DF} {y : V} (T : Top K mg) (h : H a = some (.ins (He.ga K "Deck") dx (fl_Deck s))) (q : Upd H a (.ins (He.ga K "Deck") dx (fl_Deck { s with gone_on := y })) z) : Wp K "gone_on" y (.ref a) H z := ⟨a, _, dx, _, rfl, h, c_Deck T, n_Deck_gone_on T, (by show 19 < 1000; decide), up_as (put_at (fs := fl_Deck s) (i := 12) nd_Deck rfl) q⟩
theorem st_Deck_carts {s : DF} {y : V} (T : Top K mg) (h : H a = some (.ins (He.ga K "Deck") dx (fl_Deck s))) (q : Upd H a (.ins (He.ga K "Deck") dx (fl_Deck { s with carts := y })) z) : Wp K "carts" y (.ref a) H z := ⟨a, _, dx, _, rfl, h, c_Deck T, n_Deck_carts T, (by show 19 < 1000; decide), up_as (put_at (fs := fl_Deck s) (i := 13) nd_Deck rfl) q⟩
theorem st_Deck_lines {s : DF} {y : V} (T : Top K mg) (h : H a = some (.ins (He.ga K "Deck") dx (fl_Deck s))) (q : Upd H a (.ins (He.ga K "Deck") dx (fl_Deck { s with lines := y })) z) : Wp K "lines" y (.ref a) H z := ⟨a, _, dx, _, rfl, h, c_Deck T, n_Deck_lines T, (by show 19 < 1000; decide), up_as (put_at (fs := fl_Deck s) (i := 14) nd_Deck rfl) q⟩
theorem st_Deck_queue {s : DF} {y : V} (T : Top K mg) (h : H a = some (.ins (He.ga K "Deck") dx (fl_Deck s))) (q : Upd H a (.ins (He.ga K "Deck") dx (fl_Deck { s with queue := y })) z) : Wp K "queue" y (.ref a) H z := ⟨a, _, dx, _, rfl, h, c_Deck T, n_Deck_queue T, (by show 19 < 1000; decide), up_as (put_at (fs := fl_Deck s) (i := 15) nd_Deck rfl) q⟩
theorem st_Deck_told_for {s : DF} {y : V} (T : Top K mg) (h : H a = some (.ins (He.ga K "Deck") dx (fl_Deck s))) (q : Upd H a (.ins (He.ga K "Deck") dx (fl_Deck { s with told_for := y })) z) : Wp K "told_for" y (.ref a) H z := ⟨a, _, dx, _, rfl, h, c_Deck T, n_Deck_told_for T, (by show 19 < 1000; decide), up_as (put_at (fs := fl_Deck s) (i := 16) nd_Deck rfl) q⟩
theorem st_Deck_known {s : DF} {y : V} (T : Top K mg) (h : H a = some (.ins (He.ga K "Deck") dx (fl_Deck s))) (q : Upd H a (.ins (He.ga K "Deck") dx (fl_Deck { s with known := y })) z) : Wp K "known" y (.ref a) H z := ⟨a, _, dx, _, rfl, h, c_Deck T, n_Deck_known T, (by show 19 < 1000; decide), up_as (put_at (fs := fl_Deck s) (i := 17) nd_Deck rfl) q⟩
theorem st_Deck_hours {s : DF} {y : V} (T : Top K mg) (h : H a = some (.ins (He.ga K "Deck") dx (fl_Deck s))) (q : Upd H a (.ins (He.ga K "Deck") dx (fl_Deck { s with hours := y })) z) : Wp K "hours" y (.ref a) H z := ⟨a, _, dx, _, rfl, h, c_Deck T, n_Deck_hours T, (by show 19 < 1000; decide), up_as (put_at (fs := fl_Deck s) (i := 18) nd_Deck rfl) q⟩
theorem in_Deck_bridge {y : V} (T : Top K mg) (h : H a = some (.ins (He.ga K "Deck") dx [])) (q : Upd H a (.ins (He.ga K "Deck") dx [("bridge", y)]) z) : Wp K "bridge" y (.ref a) H z := ⟨a, _, dx, _, rfl, h, c_Deck T, n_Deck_bridge T, (by show 0 < 1000; decide), up_as (put_new (fs := []) (show ("bridge" : Str) ∉ ks_Deck.take 0 by decide +kernel)) q⟩
theorem in_Deck_part {v0 : V} {y : V} (T : Top K mg) (h : H a = some (.ins (He.ga K "Deck") dx [("bridge", v0)])) (q : Upd H a (.ins (He.ga K "Deck") dx [("bridge", v0), ("part", y)]) z) : Wp K "part" y (.ref a) H z := ⟨a, _, dx, _, rfl, h, c_Deck T, n_Deck_part T, (by show 1 < 1000; decide), up_as (put_new (fs := [("bridge", v0)]) (show ("part" : Str) ∉ ks_Deck.take 1 by decide +kernel)) q⟩
theorem in_Deck_out {v0 v1 : V} {y : V} (T : Top K mg) (h : H a = some (.ins (He.ga K "Deck") dx [("bridge", v0), ("part", v1)])) (q : Upd H a (.ins (He.ga K "Deck") dx [("bridge", v0), ("part", v1), ("out", y)]) z) : Wp K "out" y (.ref a) H z := ⟨a, _, dx, _, rfl, h, c_Deck T, n_Deck_out T, (by show 2 < 1000; decide), up_as (put_new (fs := [("bridge", v0), ("part", v1)]) (show ("out" : Str) ∉ ks_Deck.take 2 by decide +kernel)) q⟩
theorem in_Deck_pause {v0 v1 v2 : V} {y : V} (T : Top K mg) (h : H a = some (.ins (He.ga K "Deck") dx [("bridge", v0), ("part", v1), ("out", v2)])) (q : Upd H a (.ins (He.ga K "Deck") dx [("bridge", v0), ("part", v1), ("out", v2), ("pause", y)]) z) : Wp K "pause" y (.ref a) H z := ⟨a, _, dx, _, rfl, h, c_Deck T, n_Deck_pause T, (by show 3 < 1000; decide), up_as (put_new (fs := [("bridge", v0), ("part", v1), ("out", v2)]) (show ("pause" : Str) ∉ ks_Deck.take 3 by decide +kernel)) q⟩
theorem in_Deck_turn_most {v0 v1 v2 v3 : V} {y : V} (T : Top K mg) (h : H a = some (.ins (He.ga K "Deck") dx [("bridge", v0), ("part", v1), ("out", v2), ("pause", v3)])) (q : Upd H a (.ins (He.ga K "Deck") dx [("bridge", v0), ("part", v1), ("out", v2), ("pause", v3), ("turn_most", y)]) z) : Wp K "turn_most" y (.ref a) H z := ⟨a, _, dx, _, rfl, h, c_Deck T, n_Deck_turn_most T, (by show 4 < 1000; decide), up_as (put_new (fs := [("bridge", v0), ("part", v1), ("out", v2), ("pause", v3)]) (show ("turn_most" : Str) ∉ ks_Deck.take 4 by decide +kernel)) q⟩
theorem in_Deck_rule {v0 v1 v2 v3 v4 : V} {y : V} (T : Top K mg) (h : H a = some (.ins (He.ga K "Deck") dx [("bridge", v0), ("part", v1), ("out", v2), ("pause", v3), ("turn_most", v4)])) (q : Upd H a (.ins (He.ga K "Deck") dx [("bridge", v0), ("part", v1), ("out", v2), ("pause", v3), ("turn_most", v4), ("rule", y)]) z) : Wp K "rule" y (.ref a) H z := ⟨a, _, dx, _, rfl, h, c_Deck T, n_Deck_rule T, (by show 5 < 1000; decide), up_as (put_new (fs := [("bridge", v0), ("part", v1), ("out", v2), ("pause", v3), ("turn_most", v4)]) (show ("rule" : Str) ∉ ks_Deck.take 5 by decide +kernel)) q⟩
theorem in_Deck_week {v0 v1 v2 v3 v4 v5 : V} {y : V} (T : Top K mg) (h : H a = some (.ins (He.ga K "Deck") dx [("bridge", v0), ("part", v1), ("out", v2), ("pause", v3), ("turn_most", v4), ("rule", v5)])) (q : Upd H a (.ins (He.ga K "Deck") dx [("bridge", v0), ("part", v1), ("out", v2), ("pause", v3), ("turn_most", v4), ("rule", v5), ("week", y)]) z) : Wp K "week" y (.ref a) H z := ⟨a, _, dx, _, rfl, h, c_Deck T, n_Deck_week T, (by show 6 < 1000; decide), up_as (put_new (fs := [("bridge", v0), ("part", v1), ("out", v2), ("pause", v3), ("turn_most", v4), ("rule", v5)]) (show ("week" : Str) ∉ ks_Deck.take 6 by decide +kernel)) q⟩
theorem in_Deck_here {v0 v1 v2 v3 v4 v5 v6 : V} {y : V} (T : Top K mg) (h : H a = some (.ins (He.ga K "Deck") dx [("bridge", v0), ("part", v1), ("out", v2), ("pause", v3), ("turn_most", v4), ("rule", v5), ("week", v6)])) (q : Upd H a (.ins (He.ga K "Deck") dx [("bridge", v0), ("part", v1), ("out", v2), ("pause", v3), ("turn_most", v4), ("rule", v5), ("week", v6), ("here", y)]) z) : Wp K "here" y (.ref a) H z := ⟨a, _, dx, _, rfl, h, c_Deck T, n_Deck_here T, (by show 7 < 1000; decide), up_as (put_new (fs := [("bridge", v0), ("part", v1), ("out", v2), ("pause", v3), ("turn_most", v4), ("rule", v5), ("week", v6)]) (show ("here" : Str) ∉ ks_Deck.take 7 by decide +kernel)) q⟩
theorem in_Deck_phase {v0 v1 v2 v3 v4 v5 v6 v7 : V} {y : V} (T : Top K mg) (h : H a = some (.ins (He.ga K "Deck") dx [("bridge", v0), ("part", v1), ("out", v2), ("pause", v3), ("turn_most", v4), ("rule", v5), ("week", v6), ("here", v7)])) (q : Upd H a (.ins (He.ga K "Deck") dx [("bridge", v0), ("part", v1), ("out", v2), ("pause", v3), ("turn_most", v4), ("rule", v5), ("week", v6), ("here", v7), ("phase", y)]) z) : Wp K "phase" y (.ref a) H z := ⟨a, _, dx, _, rfl, h, c_Deck T, n_Deck_phase T, (by show 8 < 1000; decide), up_as (put_new (fs := [("bridge", v0), ("part", v1), ("out", v2), ("pause", v3), ("turn_most", v4), ("rule", v5), ("week", v6), ("here", v7)]) (show ("phase" : Str) ∉ ks_Deck.take 8 by decide +kernel)) q⟩
theorem in_Deck_ends {v0 v1 v2 v3 v4 v5 v6 v7 v8 : V} {y : V} (T : Top K mg) (h : H a = some (.ins (He.ga K "Deck") dx [("bridge", v0), ("part", v1), ("out", v2), ("pause", v3), ("turn_most", v4), ("rule", v5), ("week", v6), ("here", v7), ("phase", v8)])) (q : Upd H a (.ins (He.ga K "Deck") dx [("bridge", v0), ("part", v1), ("out", v2), ("pause", v3), ("turn_most", v4), ("rule", v5), ("week", v6), ("here", v7), ("phase", v8), ("ends", y)]) z) : Wp K "ends" y (.ref a) H z := ⟨a, _, dx, _, rfl, h, c_Deck T, n_Deck_ends T, (by show 9 < 1000; decide), up_as (put_new (fs := [("bridge", v0), ("part", v1), ("out", v2), ("pause", v3), ("turn_most", v4), ("rule", v5), ("week", v6), ("here", v7), ("phase", v8)]) (show ("ends" : Str) ∉ ks_Deck.take 9 by decide +kernel)) q⟩
theorem in_Deck_down_at {v0 v1 v2 v3 v4 v5 v6 v7 v8 v9 : V} {y : V} (T : Top K mg) (h : H a = some (.ins (He.ga K "Deck") dx [("bridge", v0), ("part", v1), ("out", v2), ("pause", v3), ("turn_most", v4), ("rule", v5), ("week", v6), ("here", v7), ("phase", v8), ("ends", v9)])) (q : Upd H a (.ins (He.ga K "Deck") dx [("bridge", v0), ("part", v1), ("out", v2), ("pause", v3), ("turn_most", v4), ("rule", v5), ("week", v6), ("here", v7), ("phase", v8), ("ends", v9), ("down_at", y)]) z) : Wp K "down_at" y (.ref a) H z := ⟨a, _, dx, _, rfl, h, c_Deck T, n_Deck_down_at T, (by show 10 < 1000; decide), up_as (put_new (fs := [("bridge", v0), ("part", v1), ("out", v2), ("pause", v3), ("turn_most", v4), ("rule", v5), ("week", v6), ("here", v7), ("phase", v8), ("ends", v9)]) (show ("down_at" : Str) ∉ ks_Deck.take 10 by decide +kernel)) q⟩
theorem in_Deck_whose {v0 v1 v2 v3 v4 v5 v6 v7 v8 v9 v10 : V} {y : V} (T : Top K mg) (h : H a = some (.ins (He.ga K "Deck") dx [("bridge", v0), ("part", v1), ("out", v2), ("pause", v3), ("turn_most", v4), ("rule", v5), ("week", v6), ("here", v7), ("phase", v8), ("ends", v9), ("down_at", v10)])) (q : Upd H a (.ins (He.ga K "Deck") dx [("bridge", v0), ("part", v1), ("out", v2), ("pause", v3), ("turn_most", v4), ("rule", v5), ("week", v6), ("here", v7), ("phase", v8), ("ends", v9), ("down_at", v10), ("whose", y)]) z) : Wp K "whose" y (.ref a) H z := ⟨a, _, dx, _, rfl, h, c_Deck T, n_Deck_whose T, (by show 11 < 1000; decide), up_as (put_new (fs := [("bridge", v0), ("part", v1), ("out", v2), ("pause", v3), ("turn_most", v4), ("rule", v5), ("week", v6), ("here", v7), ("phase", v8), ("ends", v9), ("down_at", v10)]) (show ("whose" : Str) ∉ ks_Deck.take 11 by decide +kernel)) q⟩
theorem in_Deck_gone_on {v0 v1 v2 v3 v4 v5 v6 v7 v8 v9 v10 v11 : V} {y : V} (T : Top K mg) (h : H a = some (.ins (He.ga K "Deck") dx [("bridge", v0), ("part", v1), ("out", v2), ("pause", v3), ("turn_most", v4), ("rule", v5), ("week", v6), ("here", v7), ("phase", v8), ("ends", v9), ("down_at", v10), ("whose", v11)])) (q : Upd H a (.ins (He.ga K "Deck") dx [("bridge", v0), ("part", v1), ("out", v2), ("pause", v3), ("turn_most", v4), ("rule", v5), ("week", v6), ("here", v7), ("phase", v8), ("ends", v9), ("down_at", v10), ("whose", v11), ("gone_on", y)]) z) : Wp K "gone_on" y (.ref a) H z := ⟨a, _, dx, _, rfl, h, c_Deck T, n_Deck_gone_on T, (by show 12 < 1000; decide), up_as (put_new (fs := [("bridge", v0), ("part", v1), ("out", v2), ("pause", v3), ("turn_most", v4), ("rule", v5), ("week", v6), ("here", v7), ("phase", v8), ("ends", v9), ("down_at", v10), ("whose", v11)]) (show ("gone_on" : Str) ∉ ks_Deck.take 12 by decide +kernel)) q⟩
theorem in_Deck_carts {v0 v1 v2 v3 v4 v5 v6 v7 v8 v9 v10 v11 v12 : V} {y : V} (T : Top K mg) (h : H a = some (.ins (He.ga K "Deck") dx [("bridge", v0), ("part", v1), ("out", v2), ("pause", v3), ("turn_most", v4), ("rule", v5), ("week", v6), ("here", v7), ("phase", v8), ("ends", v9), ("down_at", v10), ("whose", v11), ("gone_on", v12)])) (q : Upd H a (.ins (He.ga K "Deck") dx [("bridge", v0), ("part", v1), ("out", v2), ("pause", v3), ("turn_most", v4), ("rule", v5), ("week", v6), ("here", v7), ("phase", v8), ("ends", v9), ("down_at", v10), ("whose", v11), ("gone_on", v12), ("carts", y)]) z) : Wp K "carts" y (.ref a) H z := ⟨a, _, dx, _, rfl, h, c_Deck T, n_Deck_carts T, (by show 13 < 1000; decide), up_as (put_new (fs := [("bridge", v0), ("part", v1), ("out", v2), ("pause", v3), ("turn_most", v4), ("rule", v5), ("week", v6), ("here", v7), ("phase", v8), ("ends", v9), ("down_at", v10), ("whose", v11), ("gone_on", v12)]) (show ("carts" : Str) ∉ ks_Deck.take 13 by decide +kernel)) q⟩
theorem in_Deck_lines {v0 v1 v2 v3 v4 v5 v6 v7 v8 v9 v10 v11 v12 v13 : V} {y : V} (T : Top K mg) (h : H a = some (.ins (He.ga K "Deck") dx [("bridge", v0), ("part", v1), ("out", v2), ("pause", v3), ("turn_most", v4), ("rule", v5), ("week", v6), ("here", v7), ("phase", v8), ("ends", v9), ("down_at", v10), ("whose", v11), ("gone_on", v12), ("carts", v13)])) (q : Upd H a (.ins (He.ga K "Deck") dx [("bridge", v0), ("part", v1), ("out", v2), ("pause", v3), ("turn_most", v4), ("rule", v5), ("week", v6), ("here", v7), ("phase", v8), ("ends", v9), ("down_at", v10), ("whose", v11), ("gone_on", v12), ("carts", v13), ("lines", y)]) z) : Wp K "lines" y (.ref a) H z := ⟨a, _, dx, _, rfl, h, c_Deck T, n_Deck_lines T, (by show 14 < 1000; decide), up_as (put_new (fs := [("bridge", v0), ("part", v1), ("out", v2), ("pause", v3), ("turn_most", v4), ("rule", v5), ("week", v6), ("here", v7), ("phase", v8), ("ends", v9), ("down_at", v10), ("whose", v11), ("gone_on", v12), ("carts", v13)]) (show ("lines" : Str) ∉ ks_Deck.take 14 by decide +kernel)) q⟩
theorem in_Deck_queue {v0 v1 v2 v3 v4 v5 v6 v7 v8 v9 v10 v11 v12 v13 v14 : V} {y : V} (T : Top K mg) (h : H a = some (.ins (He.ga K "Deck") dx [("bridge", v0), ("part", v1), ("out", v2), ("pause", v3), ("turn_most", v4), ("rule", v5), ("week", v6), ("here", v7), ("phase", v8), ("ends", v9), ("down_at", v10), ("whose", v11), ("gone_on", v12), ("carts", v13), ("lines", v14)])) (q : Upd H a (.ins (He.ga K "Deck") dx [("bridge", v0), ("part", v1), ("out", v2), ("pause", v3), ("turn_most", v4), ("rule", v5), ("week", v6), ("here", v7), ("phase", v8), ("ends", v9), ("down_at", v10), ("whose", v11), ("gone_on", v12), ("carts", v13), ("lines", v14), ("queue", y)]) z) : Wp K "queue" y (.ref a) H z := ⟨a, _, dx, _, rfl, h, c_Deck T, n_Deck_queue T, (by show 15 < 1000; decide), up_as (put_new (fs := [("bridge", v0), ("part", v1), ("out", v2), ("pause", v3), ("turn_most", v4), ("rule", v5), ("week", v6), ("here", v7), ("phase", v8), ("ends", v9), ("down_at", v10), ("whose", v11), ("gone_on", v12), ("carts", v13), ("lines", v14)]) (show ("queue" : Str) ∉ ks_Deck.take 15 by decide +kernel)) q⟩
theorem in_Deck_told_for {v0 v1 v2 v3 v4 v5 v6 v7 v8 v9 v10 v11 v12 v13 v14 v15 : V} {y : V} (T : Top K mg) (h : H a = some (.ins (He.ga K "Deck") dx [("bridge", v0), ("part", v1), ("out", v2), ("pause", v3), ("turn_most", v4), ("rule", v5), ("week", v6), ("here", v7), ("phase", v8), ("ends", v9), ("down_at", v10), ("whose", v11), ("gone_on", v12), ("carts", v13), ("lines", v14), ("queue", v15)])) (q : Upd H a (.ins (He.ga K "Deck") dx [("bridge", v0), ("part", v1), ("out", v2), ("pause", v3), ("turn_most", v4), ("rule", v5), ("week", v6), ("here", v7), ("phase", v8), ("ends", v9), ("down_at", v10), ("whose", v11), ("gone_on", v12), ("carts", v13), ("lines", v14), ("queue", v15), ("told_for", y)]) z) : Wp K "told_for" y (.ref a) H z := ⟨a, _, dx, _, rfl, h, c_Deck T, n_Deck_told_for T, (by show 16 < 1000; decide), up_as (put_new (fs := [("bridge", v0), ("part", v1), ("out", v2), ("pause", v3), ("turn_most", v4), ("rule", v5), ("week", v6), ("here", v7), ("phase", v8), ("ends", v9), ("down_at", v10), ("whose", v11), ("gone_on", v12), ("carts", v13), ("lines", v14), ("queue", v15)]) (show ("told_for" : Str) ∉ ks_Deck.take 16 by decide +kernel)) q⟩
theorem in_Deck_known {v0 v1 v2 v3 v4 v5 v6 v7 v8 v9 v10 v11 v12 v13 v14 v15 v16 : V} {y : V} (T : Top K mg) (h : H a = some (.ins (He.ga K "Deck") dx [("bridge", v0), ("part", v1), ("out", v2), ("pause", v3), ("turn_most", v4), ("rule", v5), ("week", v6), ("here", v7), ("phase", v8), ("ends", v9), ("down_at", v10), ("whose", v11), ("gone_on", v12), ("carts", v13), ("lines", v14), ("queue", v15), ("told_for", v16)])) (q : Upd H a (.ins (He.ga K "Deck") dx [("bridge", v0), ("part", v1), ("out", v2), ("pause", v3), ("turn_most", v4), ("rule", v5), ("week", v6), ("here", v7), ("phase", v8), ("ends", v9), ("down_at", v10), ("whose", v11), ("gone_on", v12), ("carts", v13), ("lines", v14), ("queue", v15), ("told_for", v16), ("known", y)]) z) : Wp K "known" y (.ref a) H z := ⟨a, _, dx, _, rfl, h, c_Deck T, n_Deck_known T, (by show 17 < 1000; decide), up_as (put_new (fs := [("bridge", v0), ("part", v1), ("out", v2), ("pause", v3), ("turn_most", v4), ("rule", v5), ("week", v6), ("here", v7), ("phase", v8), ("ends", v9), ("down_at", v10), ("whose", v11), ("gone_on", v12), ("carts", v13), ("lines", v14), ("queue", v15), ("told_for", v16)]) (show ("known" : Str) ∉ ks_Deck.take 17 by decide +kernel)) q⟩
theorem in_Deck_hours {v0 v1 v2 v3 v4 v5 v6 v7 v8 v9 v10 v11 v12 v13 v14 v15 v16 v17 : V} {y : V} (T : Top K mg) (h : H a = some (.ins (He.ga K "Deck") dx [("bridge", v0), ("part", v1), ("out", v2), ("pause", v3), ("turn_most", v4), ("rule", v5), ("week", v6), ("here", v7), ("phase", v8), ("ends", v9), ("down_at", v10), ("whose", v11), ("gone_on", v12), ("carts", v13), ("lines", v14), ("queue", v15), ("told_for", v16), ("known", v17)])) (q : Upd H a (.ins (He.ga K "Deck") dx [("bridge", v0), ("part", v1), ("out", v2), ("pause", v3), ("turn_most", v4), ("rule", v5), ("week", v6), ("here", v7), ("phase", v8), ("ends", v9), ("down_at", v10), ("whose", v11), ("gone_on", v12), ("carts", v13), ("lines", v14), ("queue", v15), ("told_for", v16), ("known", v17), ("hours", y)]) z) : Wp K "hours" y (.ref a) H z := ⟨a, _, dx, _, rfl, h, c_Deck T, n_Deck_hours T, (by show 18 < 1000; decide), up_as (put_new (fs := [("bridge", v0), ("part", v1), ("out", v2), ("pause", v3), ("turn_most", v4), ("rule", v5), ("week", v6), ("here", v7), ("phase", v8), ("ends", v9), ("down_at", v10), ("whose", v11), ("gone_on", v12), ("carts", v13), ("lines", v14), ("queue", v15), ("told_for", v16), ("known", v17)]) (show ("hours" : Str) ∉ ks_Deck.take 18 by decide +kernel)) q⟩
end
end

/-! ## Ru -/
section
set_option maxHeartbeats 4000000
open PySem PySem.Spec PyProof.Rows L2
/-! ### the layer's rules under names of their own, and how each is gone through -/
section
variable {X : Cx} {K : PySem.W.Frag} {σ : L2.St} {H H0 : Hp} {Q : VK} {a p : Addr} {xs ys : List V} {l : List (Addr × HO)} {te ty tx to : TE} {x y v : V}
def rLn (K : PySem.W.Frag) : List V → Hp → VK → Prop := fun vs H Q => ∃ p ys, vs = [.ref p] ∧ (SqL K H p ys ∨ SqT K H p ys) ∧ Q (.int ys.length) H
theorem cr_len : CallR X (.builtin "len") (rLn X.K) := call_len_seq
theorem g_lenL (h : SqL K H p ys) (q : Q (.int (ys.length : Int)) H) : rLn K [.ref p] H Q := ⟨p, ys, rfl, .inl h, q⟩
theorem g_lenT (h : SqT K H p ys) (q : Q (.int (ys.length : Int)) H) : rLn K [.ref p] H Q := ⟨p, ys, rfl, .inr h, q⟩
def rLnS : List V → Hp → VK → Prop := fun vs H Q => ∃ z, vs = [.str z] ∧ z.length ≤ sizeLine ∧ Q (.int z.length) H
theorem cr_lenS : CallR X (.builtin "len") rLnS := call_len_str
theorem g_lenS {z : Str} (h : z.length ≤ sizeLine) (q : Q (.int (z.length : Int)) H) : rLnS [.str z] H Q := ⟨z, rfl, h, q⟩
def rLst (K : PySem.W.Frag) : List V → Hp → VK → Prop := fun vs H Q => ∃ p ys, vs = [.ref p] ∧ (SqL K H p ys ∨ SqT K H p ys) ∧ New (.lst ys) H Q
theorem cr_list : CallR X (.type "list") (rLst X.K) := call_list_of
theorem g_listL (h : SqL K H p ys) (q : New (.lst ys) H Q) : rLst K [.ref p] H Q := ⟨p, ys, rfl, .inl h, q⟩
theorem g_listT (h : SqT K H p ys) (q : New (.lst ys) H Q) : rLst K [.ref p] H Q := ⟨p, ys, rfl, .inr h, q⟩
def rTup (K : PySem.W.Frag) : List V → Hp → VK → Prop := fun vs H Q => ∃ p ys, vs = [.ref p] ∧ ((SqL K H p ys ∧ New (.tup ys) H Q) ∨ (SqT K H p ys ∧ Q (.ref p) H))
theorem cr_tuple : CallR X (.type "tuple") (rTup X.K) := call_tuple_of
theorem g_tupleL (h : SqL K H p ys) (q : New (.tup ys) H Q) : rTup K [.ref p] H Q := ⟨p, ys, rfl, .inl ⟨h, q⟩⟩
theorem g_tupleT (h : SqT K H p ys) (q : Q (.ref p) H) : rTup K [.ref p] H Q := ⟨p, ys, rfl, .inr ⟨h, q⟩⟩
def rMx : List V → Hp → VK → Prop := fun vs H Q => ∃ i j, vs = [.int i, .int j] ∧ Q (.int (if j > i then j else i)) H
def rMn : List V → Hp → VK → Prop := fun vs H Q => ∃ i j, vs = [.int i, .int j] ∧ Q (.int (if j < i then j else i)) H
theorem cr_mx (hc : X.calm = true) : CallR X (.builtin "max") rMx := call_max2 hc
theorem cr_mn (hc : X.calm = true) : CallR X (.builtin "min") rMn := call_min2 hc
theorem g_mx {i j : Int} (q : Q (.int (if j > i then j else i)) H) : rMx [.int i, .int j] H Q := ⟨i, j, rfl, q⟩
theorem g_mn {i j : Int} (q : Q (.int (if j < i then j else i)) H) : rMn [.int i, .int j] H Q := ⟨i, j, rfl, q⟩
def rInt : List V → Hp → VK → Prop := fun vs H Q => (∃ i, vs = [.int i] ∧ Q (.int i) H) ∨ ∃ k, vs = [.bl k] ∧ Q (.int (if k then 1 else 0)) H
theorem cr_int : CallR X (.type "int") rInt := call_int1
theorem g_intB {k : Bool} (q : Q (.int (if k then 1 else 0)) H) : rInt [.bl k] H Q := .inr ⟨k, rfl, q⟩
def rDm : List V → Hp → VK → Prop := fun vs H Q => ∃ i j, vs = [.int i, .int j] ∧ CDiv i j ∧ New (.tup [.int (i / j), .int (i % j)]) H Q
theorem cr_dm : CallR X (.builtin "divmod") rDm := call_divmod
theorem g_dm {i j : Int} (h : CDiv i j) (q : New (.tup [.int (i / j), .int (i % j)]) H Q) : rDm [.int i, .int j] H Q := ⟨i, j, rfl, h, q⟩
theorem g_isN (q : Q (.bl (decide (x = .non))) H) : rIsN x .non H Q := ⟨rfl, q⟩
theorem g_notN (q : Q (.bl (!decide (x = .non))) H) : rNotN x .non H Q := ⟨rfl, q⟩
theorem g_inS {c : Nat} {z : Str} (q : Q (.bl (decide (c ∈ z.cps.toList))) H) : rInS (.str ⟨#[c]⟩) (.str z) H Q := ⟨c, z, rfl, rfl, q⟩
theorem g_inT (h : SqT K H p ys) (hx : flatV x = true) (hy : ys.all flatV = true) (q : Q (.bl (inV x ys)) H) : rIn K false x (.ref p) H Q := ⟨p, ys, rfl, .inr h, hx, hy, q⟩
theorem g_niT (h : SqT K H p ys) (hx : flatV x = true) (hy : ys.all flatV = true) (q : Q (.bl (!inV x ys)) H) : rIn K true x (.ref p) H Q := ⟨p, ys, rfl, .inr h, hx, hy, q⟩
theorem g_inL (h : SqL K H p ys) (hx : flatV x = true) (hy : ys.all flatV = true) (q : Q (.bl (inV x ys)) H) : rIn K false x (.ref p) H Q := ⟨p, ys, rfl, .inl h, hx, hy, q⟩
theorem g_niL (h : SqL K H p ys) (hx : flatV x = true) (hy : ys.all flatV = true) (q : Q (.bl (!inV x ys)) H) : rIn K true x (.ref p) H Q := ⟨p, ys, rfl, .inl h, hx, hy, q⟩
theorem g_cat {b : Addr} (h : H a = some (.lst xs)) (h' : H b = some (.lst ys)) (z : xs.length + ys.length ≤ sizeLine) (q : New (.lst (xs ++ ys)) H Q) : rCat (.ref a) (.ref b) H Q := ⟨a, b, xs, ys, rfl, rfl, h, h', z, q⟩
theorem g_rep {k : Int} (h : H a = some (.lst xs)) (k1 : 0 ≤ k ∧ k ≤ 1000) (z : xs.length ≤ 10) (q : New (.lst (List.flatten (List.replicate k.toNat xs))) H Q) : rRep (.ref a) (.int k) H Q := by
  have e1 : xs.length * k.toNat ≤ sizeLine := Nat.le_trans (Nat.mul_le_mul z (show k.toNat ≤ 1000 by omega)) (by decide)
  exact ⟨a, k, xs, rfl, rfl, h, by omega, by omega, e1, q⟩
/-- isinstance -/
theorem g_isi {c : V} {t u : Value} {b : Bool} (k : ClsV c u) (ty : TyX K H x t) (e : PySem.W.kitOne K t u = some b) (q : Q (.bl b) H) : rIsi K [x, c] H Q := ⟨x, c, t, u, b, rfl, k, ty, e, q⟩
theorem g_isiII {i : Int} (q : Q (.bl true) H) : rIsi K [.int i, .ty "int"] H Q := g_isi (.ty _) (.base (.int i)) (kit_ty (by decide +kernel)) q
theorem g_isiIB {i : Int} (q : Q (.bl false) H) : rIsi K [.int i, .ty "bool"] H Q := g_isi (.ty _) (.base (.int i)) (kit_ty (by decide +kernel)) q
theorem g_isiSS {z : Str} (q : Q (.bl true) H) : rIsi K [.str z, .ty "str"] H Q := g_isi (.ty _) (.base (.str z)) (kit_ty (by decide +kernel)) q
theorem g_isiLL (h : H a = some (.lst xs)) (q : Q (.bl true) H) : rIsi K [.ref a, .ty "list"] H Q := g_isi (.ty _) (.base (.lst h)) (kit_ty (by decide +kernel)) q
/-- lists' methods -/
def ApP (K : PySem.W.Frag) (x v : V) (H : Hp) (Q : VK) : Prop := tyV K "list" x H ∧ rAppend x [v] H Q
def rApp : V → List V → Hp → VK → Prop := rAppend
theorem g_bm {T : String} {R : V → List V → Hp → VK → Prop} {t : TA} (q : to σ H fun x H1 => tyV K T x H1 ∧ t σ H1 fun xs H2 => R x xs H2 Q) : tBM K T R to t σ H Q := q
theorem g_tyL {B : Prop} (h : SqL K H a xs) (q : B) : tyV K "list" (.ref a) H ∧ B := ⟨.inl ⟨rfl, xs, h⟩, q⟩
theorem g_append (h : H a = some (.lst xs)) (z : xs.length ≤ 100000) (q : Upd H a (.lst (xs ++ [v])) fun H1 => Q .non H1) : rAppend (.ref a) [v] H Q := ⟨a, xs, v, rfl, rfl, h, Nat.lt_of_le_of_lt z (by decide), q⟩
/-- xs.pop(0) -/
theorem g_pop0 (h : H a = some (.lst (v :: xs))) (q : Upd H a (.lst xs) fun H1 => Q v H1) : rPopAt (.ref a) [.int 0] H Q := by
  refine ⟨a, v :: xs, 0, 0, v, rfl, rfl, h, by decide, by decide, ?_, rfl, q⟩
  show seqIndex? 0 (xs.length + 1) = some 0
  unfold seqIndex?
  simp
  try omega
/-- slices of a tuple -/
theorem g_sl {R : V → Option Int → Option Int → Hp → VK → Prop} {tl th : TO} (q : te σ H fun x H1 => tl σ H1 fun i H2 => th σ H2 fun j H3 => R x i j H3 Q) : tSl R te tl th σ H Q := q
theorem g_nop {z : Option Int → Hp → Prop} (q : z none H) : tNoPart σ H z := q
def PtP (x : V) (H : Hp) (z : Option Int → Hp → Prop) : Prop := ∃ i, x = .int i ∧ z (some i) H
theorem g_part {z : Option Int → Hp → Prop} (q : te σ H fun x H1 => PtP x H1 z) : tPart te σ H z := q
theorem g_ptp {i : Int} {z : Option Int → Hp → Prop} (q : z (some i) H) : PtP (.int i) H z := ⟨i, rfl, q⟩
/-- dicts -/
def DgP (x y : V) (H : Hp) (Q : VK) : Prop := ∃ a v, x = .ref a ∧ DGet H a y (some v) ∧ Q v H
theorem g_dget (q : to σ H fun x H1 => ty σ H1 fun y H2 => DgP x y H2 Q) : tDGet to ty σ H Q := q
theorem g_dgS {kvs : List (Key × V)} {z : Str} (h : H a = some (.dK kvs)) (e : valV kvs (Sum.inr z) = some v) (q : Q v H) : DgP (.ref a) (.str z) H Q := ⟨a, v, rfl, .inl ⟨kvs, _, .inl h, rfl, e.symm⟩, q⟩
theorem g_dgI {kvs : List (Key × V)} {i : Int} (h : H a = some (.dK kvs)) (e : valV kvs (Sum.inl i) = some v) (q : Q v H) : DgP (.ref a) (.int i) H Q := ⟨a, v, rfl, .inl ⟨kvs, _, .inl h, rfl, e.symm⟩, q⟩
def DiP (y x : V) (H : Hp) (Q : VK) : Prop := ∃ a o, x = .ref a ∧ DGet H a y o ∧ Q (.bl o.isSome) H
theorem g_din (q : ty σ H fun y H1 => to σ H1 fun x H2 => DiP y x H2 Q) : tDIn ty to σ H Q := q
theorem g_dinS {kvs : List (Key × V)} {z : Str} (h : H a = some (.dK kvs)) (q : Q (.bl (valV kvs (Sum.inr z)).isSome) H) : DiP (.str z) (.ref a) H Q := ⟨a, _, rfl, .inl ⟨kvs, _, .inl h, rfl, rfl⟩, q⟩
theorem g_dnew (q : New (.dK []) H Q) : tDNewK σ H Q := q
theorem g_dnewT (q : New (.dT []) H Q) : tDNewT σ H Q := q
end
/-- a name op= e by the operators' rules -/
theorem ip_mod_ {X : Cx} : PIp X .Mod (rI (fun _ j => 0 < j) fun i j => .int (i % j)) := iop_mod
theorem ip_fdiv_ {X : Cx} : PIp X .FloorDiv (rI CDiv fun i j => .int (i / j)) := iop_fdiv
end

/-! ## Lo -/
section
set_option maxHeartbeats 4000000
open PySem PySem.Spec PyProof.Rows L2
/-! ### loops and comprehensions: a word I of the turn, the slots, what stands, what is ours -/
abbrev Wd : Type := Nat → L2.St → Hp → List (Addr × HO) → Prop
def At (I : Wd) (i : Nat) : L2.St → Hp → Prop := fun σ H => ∃ H0 l, SH H0 l H ∧ I i σ H0 l
/-- the turns of an iterator: n of them, the i-th yields what y says -/
structure Its_ (J : It) (n : Nat) (y : Nat → V → Hp → Hp → Prop) (st : Hp → Prop) : Prop where
  go : ∀ i H, i < n → st H → J.go i H
  yld : ∀ i H x H', i < n → st H → J.yld i H x H' → y i x H H'
  stop : ∀ H, st H → J.stop n H
def ForP (wi : (It → Hp → Prop) → Prop) (g : TG) (tb : TS) (D : Ends) (σ : L2.St) : Prop := wi fun J H1 => ∃ W : Nat → Nat → L2.St → Hp → Prop, (∃ m, W 0 m σ H1) ∧ ∀ i m σ H, W i m σ H →
  (J.stop i H ∧ D.nx σ H) ∨ (J.go i H ∧ ∃ N : L2.St → Hp → Prop, (∀ σ' H', N σ' H' → ∃ m', m' < m ∧ W (i + 1) m' σ' H') ∧ ∀ x H', J.yld i H x H' → g x σ H' fun σ2 H2 => tb { D with nx := N, ct := N, bk := D.nx } σ2 H2)
section
variable {K : PySem.W.Frag} {σ : L2.St} {H H0 : Hp} {Q rt : VK} {a : Addr} {xs : List V} {l : List (Addr × HO)} {tl te : TE} {g : TG} {tb : TS} {tt : TT} {nx bk ct : L2.St → Hp → Prop} {vs : List Nat} {x : V} {tA : TA}
theorem for_core {J : It} {n : Nat} {y : Nat → V → Hp → Hp → Prop} (I : Wd) (S : SH H0 l H) (i0 : I 0 σ H0 l)
    (hJ : ∀ i σ' H0' l' H', i ≤ n → I i σ' H0' l' → SH H0' l' H' → (i < n → J.go i H' ∧ ∀ x H2, J.yld i H' x H2 → y i x H' H2) ∧ (i = n → J.stop i H'))
    (turn : ∀ i x σ' H0' l' H' H2, i < n → I i σ' H0' l' → SH H0' l' H' → y i x H' H2 → g x σ' H2 fun σ2 H2 => tb ⟨At I (i + 1), rt, nx, At I (i + 1)⟩ σ2 H2)
    (done : ∀ σ' H0' l' H', I n σ' H0' l' → SH H0' l' H' → nx σ' H') :
    ∃ W : Nat → Nat → L2.St → Hp → Prop, (∃ m, W 0 m σ H) ∧ ∀ i m σ H, W i m σ H →
      (J.stop i H ∧ nx σ H) ∨ (J.go i H ∧ ∃ N : L2.St → Hp → Prop, (∀ σ' H', N σ' H' → ∃ m', m' < m ∧ W (i + 1) m' σ' H') ∧ ∀ x H', J.yld i H x H' → g x σ H' fun σ2 H2 => tb ⟨N, rt, nx, N⟩ σ2 H2) := by
  refine ⟨fun i m σ H => m = n - i ∧ i ≤ n ∧ At I i σ H, ⟨n, by simp, Nat.zero_le _, H0, l, S, i0⟩, ?_⟩
  rintro i m σ' H' ⟨rfl, hi, H0', l', S', p⟩
  obtain ⟨h1, h2⟩ := hJ i σ' H0' l' H' hi p S'
  by_cases hlt : i < n
  · obtain ⟨h3, h4⟩ := h1 hlt
    exact .inr ⟨h3, At I (i + 1), fun σ2 H2 p' => ⟨n - (i + 1), by omega, rfl, hlt, p'⟩, fun x H2 yl => turn i x σ' H0' l' H' H2 hlt p S' (h4 x H2 yl)⟩
  · have e : i = n := by omega
    subst e
    exact .inl ⟨h2 rfl, done σ' H0' l' H' p S'⟩
/-- for x in a list -/
def ForL (K : PySem.W.Frag) (x : V) (g : TG) (tb : TS) (D : Ends) (σ : L2.St) (H : Hp) : Prop := ∃ a, x = .ref a ∧ (∃ xs, SqL K H a xs) ∧ ForP (fun R => R (Itl K a) H) g tb D σ
theorem g_forL {D : Ends} (q : tl σ H fun x H1 => ForL K x g tb D σ H1) : tFor (iList K tl) g tb D σ H := q
theorem for_L (I : Wd) (S : SH H0 l H) (i0 : I 0 σ H0 l) (hx : ∀ i σ' H0' l' H', I i σ' H0' l' → SH H0' l' H' → SqL K H' a xs)
    (turn : ∀ i x σ' H0' l' H', xs[i]? = some x → I i σ' H0' l' → SH H0' l' H' → g x σ' H' fun σ2 H2 => tb ⟨At I (i + 1), rt, nx, At I (i + 1)⟩ σ2 H2)
    (done : ∀ σ' H0' l' H', I xs.length σ' H0' l' → SH H0' l' H' → nx σ' H') : ForL K (.ref a) g tb ⟨nx, rt, bk, ct⟩ σ H :=
  ⟨a, rfl, ⟨xs, hx _ _ _ _ _ i0 S⟩, for_core (y := fun i x H H2 => H2 = H ∧ xs[i]? = some x) I S i0
    (fun i σ' H0' l' H' hi p S' => ⟨fun hl => ⟨⟨xs, xs[i], hx _ _ _ _ _ p S', by simp [hl]⟩, fun x H2 yl => ⟨yl.1, yl.2 xs (hx _ _ _ _ _ p S')⟩⟩, fun e => ⟨xs, hx _ _ _ _ _ p S', Nat.le_of_eq e.symm⟩⟩)
    (fun i x σ' H0' l' H' H2 hi p S' yl => by obtain ⟨rfl, e⟩ := yl; exact turn i x σ' H0' l' _ e p S') done⟩
/-- .. a tuple -/
def ForT (K : PySem.W.Frag) (x : V) (g : TG) (tb : TS) (D : Ends) (σ : L2.St) (H : Hp) : Prop := ∃ a, x = .ref a ∧ (∃ xs, SqT K H a xs) ∧ ForP (fun R => R (Itt K a) H) g tb D σ
theorem g_forT {D : Ends} (q : tl σ H fun x H1 => ForT K x g tb D σ H1) : tFor (iTup K tl) g tb D σ H := q
theorem for_T (I : Wd) (S : SH H0 l H) (i0 : I 0 σ H0 l) (hx : ∀ i σ' H0' l' H', I i σ' H0' l' → SH H0' l' H' → SqT K H' a xs)
    (turn : ∀ i x σ' H0' l' H', xs[i]? = some x → I i σ' H0' l' → SH H0' l' H' → g x σ' H' fun σ2 H2 => tb ⟨At I (i + 1), rt, nx, At I (i + 1)⟩ σ2 H2)
    (done : ∀ σ' H0' l' H', I xs.length σ' H0' l' → SH H0' l' H' → nx σ' H') : ForT K (.ref a) g tb ⟨nx, rt, bk, ct⟩ σ H :=
  ⟨a, rfl, ⟨xs, hx _ _ _ _ _ i0 S⟩, for_core (y := fun i x H H2 => H2 = H ∧ xs[i]? = some x) I S i0
    (fun i σ' H0' l' H' hi p S' => ⟨fun hl => ⟨⟨xs, xs[i], hx _ _ _ _ _ p S', by simp [hl]⟩, fun x H2 yl => ⟨yl.1, yl.2 xs (hx _ _ _ _ _ p S')⟩⟩, fun e => ⟨xs, hx _ _ _ _ _ p S', Nat.le_of_eq e.symm⟩⟩)
    (fun i x σ' H0' l' H' H2 hi p S' yl => by obtain ⟨rfl, e⟩ := yl; exact turn i x σ' H0' l' _ e p S') done⟩
/-- .. range(n), range(a, b) -/
def ForR (v : List V) (g : TG) (tb : TS) (D : Ends) (σ : L2.St) (H : Hp) : Prop := ∃ j : Int, v = [.int j] ∧ -(2 ^ 62) ≤ j ∧ j < 2 ^ 62 ∧ ForP (fun R => R (Itr 0 j.toNat) H) g tb D σ
theorem g_forR {D : Ends} (q : tA σ H fun v H1 => ForR v g tb D σ H1) : tFor (iRng1 tA) g tb D σ H := q
theorem for_R {n : Int} (I : Wd) (S : SH H0 l H) (hn : -1000000 ≤ n ∧ n ≤ 1000000) (i0 : I 0 σ H0 l)
    (turn : ∀ (i : Nat) σ' H0' l' H', (i : Int) < n → I i σ' H0' l' → SH H0' l' H' → g (.int (i : Int)) σ' H' fun σ2 H2 => tb ⟨At I (i + 1), rt, nx, At I (i + 1)⟩ σ2 H2)
    (done : ∀ σ' H0' l' H', I n.toNat σ' H0' l' → SH H0' l' H' → nx σ' H') : ForR [.int n] g tb ⟨nx, rt, bk, ct⟩ σ H :=
  ⟨n, rfl, by omega, by omega, for_core (y := fun i x H H2 => H2 = H ∧ x = .int (0 + (i : Int))) I S i0 (fun i σ' H0' l' H' hi p S' => ⟨fun hl => ⟨hl, fun x H2 yl => yl⟩, fun e => Nat.le_of_eq e.symm⟩)
    (fun i x σ' H0' l' H' H2 hi p S' yl => by
      obtain ⟨rfl, rfl⟩ := yl
      rw [Int.zero_add]
      exact turn i σ' H0' l' _ (by omega) p S') done⟩
def ForR2 (v : List V) (g : TG) (tb : TS) (D : Ends) (σ : L2.St) (H : Hp) : Prop := ∃ i j : Int, v = [.int i, .int j] ∧ (-(2 ^ 62) ≤ i ∧ i < 2 ^ 62 ∧ -(2 ^ 62) ≤ j ∧ j < 2 ^ 62) ∧ ForP (fun R => R (Itr i (j - i).toNat) H) g tb D σ
theorem g_forR2 {D : Ends} (q : tA σ H fun v H1 => ForR2 v g tb D σ H1) : tFor (iRng2 tA) g tb D σ H := q
theorem for_R2 {lo hi : Int} (I : Wd) (S : SH H0 l H) (hn : -1000000 ≤ lo ∧ lo ≤ 1000000 ∧ -1000000 ≤ hi ∧ hi ≤ 1000000) (i0 : I 0 σ H0 l)
    (turn : ∀ (i : Nat) σ' H0' l' H', lo + (i : Int) < hi → I i σ' H0' l' → SH H0' l' H' → g (.int (lo + (i : Int))) σ' H' fun σ2 H2 => tb ⟨At I (i + 1), rt, nx, At I (i + 1)⟩ σ2 H2)
    (done : ∀ σ' H0' l' H', I (hi - lo).toNat σ' H0' l' → SH H0' l' H' → nx σ' H') : ForR2 [.int lo, .int hi] g tb ⟨nx, rt, bk, ct⟩ σ H :=
  ⟨lo, hi, rfl, by omega, for_core (y := fun i x H H2 => H2 = H ∧ x = .int (lo + (i : Int))) I S i0 (fun i σ' H0' l' H' hi p S' => ⟨fun hl => ⟨hl, fun x H2 yl => yl⟩, fun e => Nat.le_of_eq e.symm⟩)
    (fun i x σ' H0' l' H' H2 hi p S' yl => by
      obtain ⟨rfl, rfl⟩ := yl
      exact turn i σ' H0' l' _ (by omega) p S') done⟩
/-! comprehensions -/
abbrev Cd : Type := Nat → List V → Hp → List (Addr × HO) → Prop
def LcP (J : It) (g : TG) (tt : TT) (te : TE) (vs : List Nat) (σ : L2.St) (H : Hp) (Q : VK) : Prop := ∀ D, H D = none → ∃ W : Nat → Nat → Hp → Prop, (∃ m, W 0 m (upd H D (.lst []))) ∧ ∀ i m H, W i m H →
  (J.stop i H ∧ Q (.ref D) H) ∨ (J.go i H ∧ ∃ Nx : Hp → Prop, (∀ H', Nx H' → ∃ m', m' < m ∧ W (i + 1) m' H') ∧ ∀ x H', J.yld i H x H' → g x (wipe σ vs) H' fun σ2 H2 => wipe σ2 vs = wipe σ vs ∧ tt σ2 H2 fun b H3 =>
    if b = true then te σ2 H3 fun y H4 => ∃ acc, H4 D = some (.lst acc) ∧ acc.length < sizeLine ∧ Nx (upd H4 D (.lst (acc ++ [y]))) else Nx H3)
/-- between two turns: the new list at D holds what was given so far -/
def NxC (I : Cd) (D : Addr) (i : Nat) (H : Hp) : Prop := ∃ acc H0 l, SH H0 ((D, .lst acc) :: l) H ∧ acc.length ≤ i ∧ I i acc H0 l
/-- a turn that gives y -/
def Yes (I : Cd) (D : Addr) (i : Nat) : VK := fun y H => ∃ acc, H D = some (.lst acc) ∧ acc.length < sizeLine ∧ NxC I D (i + 1) (upd H D (.lst (acc ++ [y])))
theorem yes {I : Cd} {D : Addr} {i : Nat} {acc : List V} (S : SH H0 ((D, .lst acc) :: l) H) (z : acc.length ≤ i) (hi : i ≤ 1000000) (p : I (i + 1) (acc ++ [x]) H0 l) : Yes I D i x H :=
  ⟨acc, S.g0, Nat.lt_of_le_of_lt (Nat.le_trans z hi) (by decide), acc ++ [x], H0, l, S.set (i := 0) rfl _, by rw [List.length_append]; exact Nat.succ_le_succ z, p⟩
theorem no {I : Cd} {D : Addr} {i : Nat} {acc : List V} (S : SH H0 ((D, .lst acc) :: l) H) (z : acc.length ≤ i) (p : I (i + 1) acc H0 l) : NxC I D (i + 1) H := ⟨acc, H0, l, S, Nat.le_succ_of_le z, p⟩
theorem lc_core {J : It} {n : Nat} {y : Nat → V → Hp → Hp → Prop} (I : Cd) (S : SH H0 l H) (i0 : I 0 [] H0 l)
    (hJ : ∀ i acc D H0' l' H', i ≤ n → I i acc H0' l' → SH H0' ((D, .lst acc) :: l') H' → (i < n → J.go i H' ∧ ∀ x H2, J.yld i H' x H2 → y i x H' H2) ∧ (i = n → J.stop i H'))
    (turn : ∀ i x acc D H0' l' H' H2, i < n → I i acc H0' l' → SH H0' ((D, .lst acc) :: l') H' → acc.length ≤ i → y i x H' H2 →
      g x (wipe σ vs) H2 fun σ2 H2 => wipe σ2 vs = wipe σ vs ∧ tt σ2 H2 fun b H3 => if b = true then te σ2 H3 (Yes I D i) else NxC I D (i + 1) H3)
    (done : ∀ D acc H0' l' H', I n acc H0' l' → acc.length ≤ n → SH H0' ((D, .lst acc) :: l') H' → Q (.ref D) H') : LcP J g tt te vs σ H Q := by
  intro D hD
  refine ⟨fun i m H => m = n - i ∧ i ≤ n ∧ NxC I D i H, ⟨n, by simp, Nat.zero_le _, [], H0, l, S.new hD, Nat.le_refl _, i0⟩, ?_⟩
  rintro i m H' ⟨rfl, hi, acc, H0', l', S', z, p⟩
  obtain ⟨h1, h2⟩ := hJ i acc D H0' l' H' hi p S'
  by_cases hlt : i < n
  · obtain ⟨h3, h4⟩ := h1 hlt
    exact .inr ⟨h3, NxC I D (i + 1), fun H2 p' => ⟨n - (i + 1), by omega, rfl, hlt, p'⟩, fun x H2 yl => turn i x acc D H0' l' H' H2 hlt p S' z (h4 x H2 yl)⟩
  · have e : i = n := by omega
    subst e
    exact .inl ⟨h2 rfl, done D acc H0' l' H' p z S'⟩
def LcT (I : Cd) (g : TG) (tt : TT) (te : TE) (vs : List Nat) (σ : L2.St) (D : Addr) (i : Nat) (x : V) (H : Hp) : Prop :=
  g x (wipe σ vs) H fun σ2 H2 => wipe σ2 vs = wipe σ vs ∧ tt σ2 H2 fun b H3 => if b = true then te σ2 H3 (Yes I D i) else NxC I D (i + 1) H3
def LcL (K : PySem.W.Frag) (x : V) (g : TG) (tt : TT) (te : TE) (vs : List Nat) (σ : L2.St) (H : Hp) (Q : VK) : Prop := ∃ a, x = .ref a ∧ (∃ xs, SqL K H a xs) ∧ LcP (Itl K a) g tt te vs σ H Q
theorem g_lcL (q : tl σ H fun x H1 => LcL K x g tt te vs σ H1 Q) : tLc (iList K tl) g tt te vs σ H Q := q
theorem lc_L (I : Cd) (S : SH H0 l H) (i0 : I 0 [] H0 l) (hx : ∀ i acc D H0' l' H', I i acc H0' l' → SH H0' ((D, .lst acc) :: l') H' → SqL K H' a xs) (hx0 : SqL K H a xs)
    (turn : ∀ i x acc D H0' l' H', xs[i]? = some x → I i acc H0' l' → SH H0' ((D, .lst acc) :: l') H' → acc.length ≤ i → LcT I g tt te vs σ D i x H')
    (done : ∀ D acc H0' l' H', I xs.length acc H0' l' → acc.length ≤ xs.length → SH H0' ((D, .lst acc) :: l') H' → Q (.ref D) H') : LcL K (.ref a) g tt te vs σ H Q :=
  ⟨a, rfl, ⟨xs, hx0⟩, lc_core (y := fun i x H H2 => H2 = H ∧ xs[i]? = some x) I S i0
    (fun i acc D H0' l' H' hi p S' => ⟨fun hl => ⟨⟨xs, xs[i], hx _ _ _ _ _ _ p S', by simp [hl]⟩, fun x H2 yl => ⟨yl.1, yl.2 xs (hx _ _ _ _ _ _ p S')⟩⟩, fun e => ⟨xs, hx _ _ _ _ _ _ p S', Nat.le_of_eq e.symm⟩⟩)
    (fun i x acc D H0' l' H' H2 hi p S' z yl => by obtain ⟨rfl, e⟩ := yl; exact turn i x acc D H0' l' _ e p S' z) done⟩
def LcU (K : PySem.W.Frag) (x : V) (g : TG) (tt : TT) (te : TE) (vs : List Nat) (σ : L2.St) (H : Hp) (Q : VK) : Prop := ∃ a, x = .ref a ∧ (∃ xs, SqT K H a xs) ∧ LcP (Itt K a) g tt te vs σ H Q
theorem g_lcU (q : tl σ H fun x H1 => LcU K x g tt te vs σ H1 Q) : tLc (iTup K tl) g tt te vs σ H Q := q
theorem lc_U (I : Cd) (S : SH H0 l H) (i0 : I 0 [] H0 l) (hx : ∀ i acc D H0' l' H', I i acc H0' l' → SH H0' ((D, .lst acc) :: l') H' → SqT K H' a xs) (hx0 : SqT K H a xs)
    (turn : ∀ i x acc D H0' l' H', xs[i]? = some x → I i acc H0' l' → SH H0' ((D, .lst acc) :: l') H' → acc.length ≤ i → LcT I g tt te vs σ D i x H')
    (done : ∀ D acc H0' l' H', I xs.length acc H0' l' → acc.length ≤ xs.length → SH H0' ((D, .lst acc) :: l') H' → Q (.ref D) H') : LcU K (.ref a) g tt te vs σ H Q :=
  ⟨a, rfl, ⟨xs, hx0⟩, lc_core (y := fun i x H H2 => H2 = H ∧ xs[i]? = some x) I S i0
    (fun i acc D H0' l' H' hi p S' => ⟨fun hl => ⟨⟨xs, xs[i], hx _ _ _ _ _ _ p S', by simp [hl]⟩, fun x H2 yl => ⟨yl.1, yl.2 xs (hx _ _ _ _ _ _ p S')⟩⟩, fun e => ⟨xs, hx _ _ _ _ _ _ p S', Nat.le_of_eq e.symm⟩⟩)
    (fun i x acc D H0' l' H' H2 hi p S' z yl => by obtain ⟨rfl, e⟩ := yl; exact turn i x acc D H0' l' _ e p S' z) done⟩
def LcS (x : V) (g : TG) (tt : TT) (te : TE) (vs : List Nat) (σ : L2.St) (H : Hp) (Q : VK) : Prop := ∃ z, x = .str z ∧ LcP (Its z) g tt te vs σ H Q
theorem g_lcS (q : tl σ H fun x H1 => LcS x g tt te vs σ H1 Q) : tLc (iStr tl) g tt te vs σ H Q := q
theorem lc_S {z : Str} (I : Cd) (S : SH H0 l H) (i0 : I 0 [] H0 l)
    (turn : ∀ i c acc D H0' l' H', z.cps[i]? = some c → I i acc H0' l' → SH H0' ((D, .lst acc) :: l') H' → acc.length ≤ i → LcT I g tt te vs σ D i (.str ⟨#[c]⟩) H')
    (done : ∀ D acc H0' l' H', I z.cps.size acc H0' l' → acc.length ≤ z.cps.size → SH H0' ((D, .lst acc) :: l') H' → Q (.ref D) H') : LcS (.str z) g tt te vs σ H Q :=
  ⟨z, rfl, lc_core (y := fun i x H H2 => H2 = H ∧ ∃ c, z.cps[i]? = some c ∧ x = .str ⟨#[c]⟩) I S i0
    (fun i acc D H0' l' H' hi p S' => ⟨fun hl => ⟨hl, fun x H2 yl => yl⟩, fun e => Nat.le_of_eq e.symm⟩)
    (fun i x acc D H0' l' H' H2 hi p S' q yl => by obtain ⟨rfl, c, e, rfl⟩ := yl; exact turn i c acc D H0' l' _ e p S' q) done⟩
def LcR (v : List V) (g : TG) (tt : TT) (te : TE) (vs : List Nat) (σ : L2.St) (H : Hp) (Q : VK) : Prop := ∃ j : Int, v = [.int j] ∧ -(2 ^ 62) ≤ j ∧ j < 2 ^ 62 ∧ LcP (Itr 0 j.toNat) g tt te vs σ H Q
theorem g_lcR (q : tA σ H fun v H1 => LcR v g tt te vs σ H1 Q) : tLc (iRng1 tA) g tt te vs σ H Q := q
theorem lc_R {n : Int} (I : Cd) (S : SH H0 l H) (hn : -1000000 ≤ n ∧ n ≤ 1000000) (i0 : I 0 [] H0 l)
    (turn : ∀ (i : Nat) acc D H0' l' H', (i : Int) < n → I i acc H0' l' → SH H0' ((D, .lst acc) :: l') H' → acc.length ≤ i → LcT I g tt te vs σ D i (.int (i : Int)) H')
    (done : ∀ D acc H0' l' H', I n.toNat acc H0' l' → acc.length ≤ n.toNat → SH H0' ((D, .lst acc) :: l') H' → Q (.ref D) H') : LcR [.int n] g tt te vs σ H Q :=
  ⟨n, rfl, by omega, by omega, lc_core (y := fun i x H H2 => H2 = H ∧ x = .int (0 + (i : Int))) I S i0
    (fun i acc D H0' l' H' hi p S' => ⟨fun hl => ⟨hl, fun x H2 yl => yl⟩, fun e => Nat.le_of_eq e.symm⟩)
    (fun i x acc D H0' l' H' H2 hi p S' q yl => by
      obtain ⟨rfl, rfl⟩ := yl
      rw [Int.zero_add]
      exact turn i acc D H0' l' _ (by omega) p S' q) done⟩
/-- a turn: the target, the slots, the test, the item -/
theorem lc_t {I : Cd} {D : Addr} {i : Nat} (q : g x (wipe σ vs) H fun σ2 H2 => wipe σ2 vs = wipe σ vs ∧ tt σ2 H2 fun b H3 => if b = true then te σ2 H3 (Yes I D i) else NxC I D (i + 1) H3) : LcT I g tt te vs σ D i x H := q
theorem g_wp {s1 s2 : L2.St} {B : Prop} (h : s1 = s2) (q : B) : s1 = s2 ∧ B := ⟨h, q⟩
theorem g_yes {B : Bool → Hp → Prop} (q : B true H) : tYes σ H B := q
end
end

/-! ## Ov -/
section
set_option maxHeartbeats 4000000
open PySem PySem.Spec PyProof.Rows L2
/-! ### the error Overload (OverflowError) with its own __init__ -/
abbrev tyv (C N : Addr) (nm q : Str) (bs : List Value) (sn : List Str) (sb : List Value) (ab : Bool) (cl : Option Bool) (dd : Option Addr) (k0 k1 k2 k3 k5 : Option Value) : Obj :=
  excClassObj nm q C N bs ovM true sn sb ab cl dd k0 k1 k2 k3 k5 "OverflowError.__new__"
/-- what the top has left of Overload -/
structure OvC (K : PySem.W.Frag) (C : Addr) : Prop where
  cls : ∃ N nm q bs sn sb ab cl dd k0 k1 k2 k3 k5, K.lookup C = some (tyv C N nm q bs sn sb ab cl dd k0 k1 k2 k3 k5)
  sa : PySem.W.findIn K (.ref C) "__setattr__" = some (some (.builtin "object.__setattr__"))
  bas : PySem.W.subIn K (.ref C) (.type "BaseException") = some true
  typ : PySem.W.typeIn K (.ref C) = some (.type "type")
  kp : PySem.W.keepIn K (.ref C) = true
theorem ov_ok {K : PySem.W.Frag} {C : Addr} (h : ovB K C = true) : OvC K C := by
  unfold ovB at h
  simp only [Bool.and_eq_true, decide_eq_true_eq] at h
  obtain ⟨⟨⟨⟨h1, h2⟩, h3⟩, h4⟩, h5⟩ := h
  refine ⟨?_, h2, h3, h4, h5⟩
  split at h1
  · rename_i dd cd sl ho
    split at h1
    · rename_i a0 a1 a2 a3 n a5 hs
      simp only [Bool.and_eq_true, beq_iff_eq, Bool.not_eq_true'] at h1
      obtain ⟨⟨⟨rfl, e1⟩, e2⟩, e3⟩ := h1
      obtain ⟨nm, bs, mro, ns, qn, hd, sn, sb, ab, cl, dl⟩ := cd
      dsimp only at e1 e2 e3
      subst e1 e2 e3
      have e4 : sl = #[a0, a1, a2, a3, some (.builtin "OverflowError.__new__"), a5] := by
        obtain ⟨l⟩ := sl
        simp only at hs
        rw [hs]
      subst e4
      exact ⟨_, _, _, _, _, _, _, _, _, _, _, _, _, _, ho⟩
    · cases h1
  · cases h1
section
open Builtin Builtin.ObjectAttr
variable {p : Program} {w : World} {A : Around} {E : Value → Shared → Prop} {R : Result → Shared → Prop} {hp : Heap} {g : Array GenState} {d : Drawn} {t : Nat} {os : OsState}
/-- e.f = v with no dict as yet -/
theorem ov_sa0 {K : PySem.W.Frag} {f : Str} {tk : Tok} {v : Value} {x C : Addr} {fv : Array Value} (X : K.In hp) (T : OvC K C) (hx : hp.get? x = some { cls := .ref C, data := .fields fv }) (ha : PySem.W.findIn K (.ref C) f = some none)
    (hq : ∀ h' tk' dx, (∀ b o, b ≠ x → hp.get? b = some o → h'.get? b = some o) → hp.objs.size ≤ dx → dx ≠ x → h'.get? x = some { cls := .ref C, dict := some dx, data := .fields fv } →
      h'.Ns1 dx (fun y => if y = f then some v else none) → R (.ok (.ret .none)) ⟨h', g, d, tk', os⟩) :
    codeAny (model p w) A (.call (.builtin "object.__setattr__") ⟨[.ref x, .str f tk, v], []⟩) R ⟨hp, g, d, t, os⟩ := by
  obtain ⟨N, nm, q, bs, sn, sb, ab, cl, dd, k0, k1, k2, k3, k5, hC⟩ := T.cls
  have hcd : PySem.W.clsIn K C = some { name := nm, bases := bs, mro := .ref C :: ovM, ns := N, qualname := q, hasDict := true, slotNames := sn, subclasses := sb, abstract := ab, collection := cl, hasDel := false } := by unfold PySem.W.clsIn; rw [hC] <;> rfl
  have I : PySem.W.InstAt hp x { cls := .ref C, data := .fields fv } C none := ⟨hx, rfl, rfl, trivial⟩
  have SF := PySem.F.store_object
  have hxs : x ≠ hp.objs.size := Nat.ne_of_lt (Heap.lt_size hx)
  have sub : PySem.W.Looks (model p w) hp (isInstance (.ref x) (.type "object")) true := I.type.andThen (PySem.W.looks_mroIn X (by unfold PySem.W.mroIn; rw [hcd] <;> rfl))
  refine codeAny_call_builtin SF.slot.plain SF.entry (@PySem.W.check_slot (model p w) _ _ ⟨hp, g, d, t, os⟩ "object.__setattr__" "object" "__setattr__" (.ref x) [.str f tk, v] [] _ SF.kind SF.split sub (SF.args (.ref x) (.str f tk) v) ?_)
  have hmr : PySem.W.Looks (model p w) hp (mroOf (.ref C)) (.ref C :: ovM) := (PySem.W.looks_clsIn X hcd).andThen .now
  have L3 : PySem.W.Looks (model p w) hp (storeTaker? none) none := .now
  have hcls := PySem.W.looks_clsIn (M := model p w) X hcd
  rw [PySem.W.osa_eq, refuse_eq]
  refine wpAny_bind (wpAny_bind (I.type.at (wpAny_bind (hmr.at ?_))))
  rw [refuseLoop_ref, PySem.F.store_OverflowError.passes]
  refine wpAny_pure (wpAny_bind (I.type.at (wpAny_bind ((PySem.W.looks_findIn X ha).at (wpAny_bind (L3.at ?_))))))
  show wpAny _ _ (storeInOwnDict (.ref x) (.ref C) (.str f tk) f v false) _ _ _
  unfold storeInOwnDict ownDictForStores
  repeat (first | with_reducible refine HandSPX.store_in_new ?_ ?_ | with_reducible refine wpAny_loadPart_at hx ?_ | with_reducible refine hcls.at ?_ | wp_step)
  · exact ⟨_, #[], _, (Heap.get?_update_ne _ _ _ _ hxs.symm).trans (Heap.get?_push_at rfl rfl), rfl, fun e he => absurd he (by simp), fun _ => rfl⟩
  · intro h' tk' hn' hs
    have hx1 : (hp.push { cls := .type "dict", data := .dict #[] }).get? x = some { cls := .ref C, data := .fields fv } := Heap.get?_push_of_some _ hx
    exact hq h' tk' hp.objs.size (fun b o hb ho => (hs.2 b (Nat.ne_of_lt (Heap.lt_size ho))).trans ((Heap.get?_update_ne _ _ _ _ hb).trans (Heap.get?_push_of_some _ ho))) (Nat.le_refl _) hxs.symm ((hs.2 x hxs).trans (Heap.get?_update_self _ hx1 rfl)) hn'
/-- e.f = v, a further one -/
theorem ov_sa1 {K : PySem.W.Frag} {f : Str} {tk : Tok} {v : Value} {x C dx : Addr} {fv : Array Value} {m0 : Str → Option Value} {nl : List Str} (X : K.In hp) (T : OvC K C) (hx : hp.get? x = some { cls := .ref C, dict := some dx, data := .fields fv })
    (hns : hp.Ns1 dx m0) (hw : Within m0 nl) (hz : nl.length ≤ 1000) (ha : PySem.W.findIn K (.ref C) f = some none)
    (hq : ∀ h' tk', (∀ b o, b ≠ dx → hp.get? b = some o → h'.get? b = some o) → h'.Ns1 dx (fun y => if y = f then some v else m0 y) → R (.ok (.ret .none)) ⟨h', g, d, tk', os⟩) :
    codeAny (model p w) A (.call (.builtin "object.__setattr__") ⟨[.ref x, .str f tk, v], []⟩) R ⟨hp, g, d, t, os⟩ := by
  obtain ⟨N, nm, q, bs, sn, sb, ab, cl, dd, k0, k1, k2, k3, k5, hC⟩ := T.cls
  have hcd : PySem.W.clsIn K C = some { name := nm, bases := bs, mro := .ref C :: ovM, ns := N, qualname := q, hasDict := true, slotNames := sn, subclasses := sb, abstract := ab, collection := cl, hasDel := false } := by unfold PySem.W.clsIn; rw [hC] <;> rfl
  obtain ⟨oD, esD, epD, hoD, hdD, _⟩ := hns.count hw
  have I : PySem.W.InstAt hp x { cls := .ref C, dict := some dx, data := .fields fv } C (some oD) := ⟨hx, rfl, rfl, hoD⟩
  have SF := PySem.F.store_object
  have sub : PySem.W.Looks (model p w) hp (isInstance (.ref x) (.type "object")) true := I.type.andThen (PySem.W.looks_mroIn X (by unfold PySem.W.mroIn; rw [hcd] <;> rfl))
  refine codeAny_call_builtin SF.slot.plain SF.entry (@PySem.W.check_slot (model p w) _ _ ⟨hp, g, d, t, os⟩ "object.__setattr__" "object" "__setattr__" (.ref x) [.str f tk, v] [] _ SF.kind SF.split sub (SF.args (.ref x) (.str f tk) v) ?_)
  have hmr : PySem.W.Looks (model p w) hp (mroOf (.ref C)) (.ref C :: ovM) := (PySem.W.looks_clsIn X hcd).andThen .now
  have L3 : PySem.W.Looks (model p w) hp (storeTaker? none) none := .now
  have hcls := PySem.W.looks_clsIn (M := model p w) X hcd
  rw [PySem.W.osa_eq, refuse_eq]
  refine wpAny_bind (wpAny_bind (I.type.at (wpAny_bind (hmr.at ?_))))
  rw [refuseLoop_ref, PySem.F.store_OverflowError.passes]
  refine wpAny_pure (wpAny_bind (I.type.at (wpAny_bind ((PySem.W.looks_findIn X ha).at (wpAny_bind (L3.at ?_))))))
  show wpAny _ _ (storeInOwnDict (.ref x) (.ref C) (.str f tk) f v false) _ _ _
  unfold storeInOwnDict ownDictForStores
  repeat (first | with_reducible refine PySem.OEX.store_in_old hns hw hz ?_ | with_reducible refine wpAny_loadPart_at hx ?_ | with_reducible refine hcls.at ?_ | wp_step)
  intro h' tk' hn' hs
  exact hq h' tk' (fun b o hb ho => (hs.2 b hb).trans ho) hn'
end
section
variable {X : Cx} {pins : List (Addr × Obj)} {σ : L2.St} {H : Hp} {s : Shared} {a C dx : Addr} {f : Str} {y : V} {u : Value} {fs : List (Str × V)} {Q : Unit → Shared → Prop} {E : Value → Shared → Prop} {A : Around}
/-- self.f = y, the first one -/
theorem ov_st0 (T : OvC X.K C) (I : Inv X pins σ H s) (e : H a = some (exo a C none)) (hno : PySem.W.findIn X.K (.ref C) f = some none) (ry : RelV y u)
    (h : ∀ dx s', H dx = none → dx ≠ a → Inv X pins σ (upd (upd H dx (exd dx [(f, y)])) a (exo a C (some dx))) s' → Q () s') : wpAny (model X.prog X.w) A (setAttr (.ref a) f u) Q E s := by
  obtain ⟨t1, ho⟩ := exo_at I.hok e
  obtain ⟨hp, g, d, t, os⟩ := s
  refine PySem.W.set_plain I.kIn (ox := { cls := .ref C, dict := none, data := .fields #[.ref t1, .none, .none, .none, .bool false, .none] }) (od := none) ⟨ho, rfl, rfl, trivial⟩ T.sa ?_
  refine ov_sa0 I.kIn T ho hno (fun h' tk' dx k dn dne hx hn => ?_)
  have hnd : H dx = none := I.hok.fresh dn
  have nd : ∀ {b : Addr} {o : Obj}, hp.get? b = some o → b ≠ dx := fun {b o} q => Nat.ne_of_lt (Nat.lt_of_lt_of_le (Heap.lt_size q) dn)
  have na : ∀ {b : Addr}, H b = none → b ≠ a := fun {b} n z => by rw [z, e] at n; cases n
  have U : Un X.fs [] H (upd (upd H dx (exd dx [(f, y)])) a (exo a C (some dx))) hp h' := {
    keep := fun b o q n _ _ => k b o (na n) q
    slot := fun b o q n _ _ => ⟨o.slots, k b o (na n) q⟩
    free := fun b o q n _ => by rw [upd_ne (na n), upd_ne (nd q)]; exact n
    there := fun b o q _ => by
      by_cases hb : b = a
      · exact ⟨_, by rw [hb]; exact hx⟩
      · exact ⟨o, k b o hb q⟩
    tups := fun b xs q => by rw [upd_ne (at_ne e q exo_tup), upd_ne (ne_of_none q hnd)]; exact q
    frzs := fun b o v q => by rw [upd_ne (at_ne e q exo_frz), upd_ne (ne_of_none q hnd)]; exact q
    tbls := fun b ps q => ⟨#[], by rw [upd_ne (at_ne e q exo_tbl), upd_ne (ne_of_none q hnd), q]; simp⟩ }
  refine h dx _ hnd dne (I.un (t' := tk') U fun b o q => ?_)
  by_cases hb : b = a
  · subst hb
    rw [upd_same] at q
    cases q
    exact exo_ok hx
  · rw [upd_ne hb] at q
    by_cases hd : b = dx
    · subst hd
      rw [upd_same] at q
      cases q
      exact exd_ok hn (relO_put (fs := []) ry fun g => True.intro)
    · rw [upd_ne hd] at q
      exact (I.hok b o q).stay (fun c v hc z => k c v (by rcases hc with hc | hc <;> first | (rw [hc]; exact hb) | exact at_ne e hc exo_own) z)
        (fun c hc => by rw [upd_ne (at_ne e hc exo_own), upd_ne (ne_of_none hc hnd)]; exact hc) (fun c xs hc => by rw [upd_ne (at_ne e hc exo_tup), upd_ne (ne_of_none hc hnd)]; exact hc)
/-- self.f = y, a further one -/
theorem ov_st1 (T : OvC X.K C) (I : Inv X pins σ H s) (e : H a = some (exo a C (some dx))) (ed : H dx = some (exd dx fs)) (hl : fs.length ≤ 900) (hno : PySem.W.findIn X.K (.ref C) f = some none) (ry : RelV y u)
    (h : ∀ s', Inv X pins σ (upd H dx (exd dx ((f, y) :: fs))) s' → Q () s') : wpAny (model X.prog X.w) A (setAttr (.ref a) f u) Q E s := by
  obtain ⟨t1, ho⟩ := exo_at I.hok e
  obtain ⟨mA, hns, rel⟩ := exd_at I.hok ed
  have hw := within_of rel
  obtain ⟨hp, g, d, t, os⟩ := s
  obtain ⟨oD, _, _, hoD, _, _⟩ := hns.count hw
  refine PySem.W.set_plain I.kIn (ox := { cls := .ref C, dict := some dx, data := .fields #[.ref t1, .none, .none, .none, .bool false, .none] }) (od := some oD) ⟨ho, rfl, rfl, hoD⟩ T.sa ?_
  refine ov_sa1 I.kIn T ho hns hw (by rw [List.length_map]; omega) hno (fun h' tk' k hn => ?_)
  have hd : ∃ o, h'.get? dx = some o := let ⟨o, _, _, e', _⟩ := hn; ⟨o, e'⟩
  exact h _ (I.write (t' := tk') (x := dx) (e := dx) (o := exd dx ((f, y) :: fs)) (by rw [ed]; exact True.intro) (.inl rfl) k hd (exd_ok hn (relO_put ry rel)))
end
/-- self.f = e in Overload's __init__ -/
def tOv (K : PySem.W.Frag) (f : Str) (to te : TE) : TS := fun D σ H => te σ H fun y H1 => to σ H1 fun x H2 => ∃ a C : Addr, x = .ref a ∧ OvC K C ∧ PySem.W.findIn K (.ref C) f = some none ∧
  ((H2 a = some (exo a C none) ∧ ∀ dx, H2 dx = none → dx ≠ a → D.nx σ (upd (upd H2 dx (exd dx [(f, y)])) a (exo a C (some dx)))) ∨
    ∃ (dx : Addr) (fs : List (Str × V)), H2 a = some (exo a C (some dx)) ∧ H2 dx = some (exd dx fs) ∧ fs.length ≤ 900 ∧ D.nx σ (upd H2 dx (exd dx ((f, y) :: fs))))
section
variable {X : Cx} {o e : Expr} {es : List Expr} {to te : TE} {ta : TA} {f x : Str} {p p' pos : Pos} {C fI : Addr} {k : Nat} {fd : FuncData} {ps : List Str} {sp : Sp}
theorem ps_ov (ho : PE X o to) (he : PE X e te) (hs : swapsWith e (some (.Attribute o f p')) pos.line X.env = pure false := by rfl) : PS X (.Assign [.Attribute o f p'] e pos) (tOv X.K f to te) := by
  refine ⟨fun pins s σ H D I h => plainObj_wpAny_Assign_Attribute (thn (he.run pins s σ H _ I h) fun v s1 ⟨y, H1, I1, r1, q1⟩ => thn (ho.run pins s1 σ H1 _ I1 q1) fun u s2 ⟨x, H2, I2, r2, a, C, ex, T, hno, q⟩ => ?_) hs⟩
  subst ex
  obtain rfl : u = Value.ref a := r2
  rcases q with ⟨ea, q⟩ | ⟨dx, fs, ea, ed, hl, q⟩
  · exact ov_st0 T I2 ea hno r1 fun dx s' n ne J => ⟨σ, _, J, q dx n ne⟩
  · exact ov_st1 T I2 ea ed hl hno r1 fun s' J => ⟨σ, _, J, q⟩
theorem pmk_ov {CX : CXT} {R : List V → Hp → XK → Prop} (hR : ∀ vs H1 (Q : XK), R vs H1 Q → vs.length ≤ 1000 ∧ ∀ a, H1 a = none → sp (.ref a :: vs) (upd H1 a (exo a C none))
      (fun v H2 => v = .non ∧ ∃ (d : Addr) (fs : List (Str × V)), H2 a = some (exo a C (some d)) ∧ H2 d = some (exd d fs) ∧ H1 d = none ∧ Q (.ref C) (some d) (upd (del H2 a) d (.xd fs))) (fun _ _ _ => False))
    (T : OvC X.K C) (iC : PySem.W.findIn X.K (.ref C) "__init__" = some (some (.ref fI))) (tI : PySem.W.typeIn X.K (.ref fI) = some (.type "function"))
    (F1 : FnOk X.prog X.w X.K X.mg X.base CX k fI fd ps sp) (hr : Room (k + 1) X.A) (hb : Binds X.K fd ps []) (hx : Passes CX X (fun _ _ _ => False)) (hg : Gl X x) (hm : X.mg x = some (.ref C)) (ha : PA X (e :: es) ta)
    (hdb : (x == ("__debug__" : Str)) = false := by decide) (he : starEach (e :: es) X.env = (false, eval e X.env) :: starEach es X.env := by rfl) (hpl : (backTo pos (starEach es X.env)).any (·.1) = false := by rfl) :
    PMk X (.Call (.Name x p) (e :: es) [] pos) (fun σ H Q => ta σ H fun vs H1 => R vs H1 Q) := by
  intro pins s σ H Q I h
  obtain ⟨N, nm, q, bs, sn, sb, ab, cl, dd, k0, k1, k2, k3, k5, hC⟩ := T.cls
  refine wpAny_Call_Name_kw (ld_glob I hg hm ?_ hdb)
  refine PySem.W.callWith_K (h₀ := X.base) I.ok.mod.kin T.kp (thn (ha.run pos pins s σ H _ I h) fun us s1 ⟨vs, H1, I1, r1, qR⟩ => ⟨I1.kIn, ?_⟩) he hpl
  show wpAny _ _ (call (.ref C) us) _ _ _
  obtain ⟨hz, q1⟩ := hR vs H1 Q qR
  obtain ⟨hp, g, dr, tk, os⟩ := s1
  have hsz : hp.objs.size ≤ hp.objs.size + 1 := Nat.le_succ _
  have hq := q1 (hp.objs.size + 1) (I1.hok.fresh hsz)
  have kk : ∀ b o, hp.get? b = some o → ((hp.push (PySem.W.kdv_tup us)).push (HandSPX.excO C hp.objs.size)).get? b = some o := fun b o e => Heap.get?_push_of_some _ (Heap.get?_push_of_some _ e)
  have hget : ((hp.push (PySem.W.kdv_tup us)).push (HandSPX.excO C hp.objs.size)).get? (hp.objs.size + 1) = some (HandSPX.excO C hp.objs.size) := by heap_get
  have I2 : Inv X pins σ (upd H1 (hp.objs.size + 1) (exo (hp.objs.size + 1) C none)) ⟨(hp.push (PySem.W.kdv_tup us)).push (HandSPX.excO C hp.objs.size), g, dr, tk, os⟩ :=
    I1.laid (t' := tk) (a := hp.objs.size + 1) (o := exo (hp.objs.size + 1) C none) (h' := (hp.push (PySem.W.kdv_tup us)).push (HandSPX.excO C hp.objs.size)) kk hsz (exo_ok hget)
  have r2 : Vals (V.ref (hp.objs.size + 1) :: vs) (Value.ref (hp.objs.size + 1) :: us) := .cons rfl r1
  have hl : (Value.ref (hp.objs.size + 1) :: us).length = ps.length := by
    have e := r2.length
    rw [F1.len _ _ _ _ hq] at e
    exact e.symm
  have hus : us.length ≤ sizeLine := by
    rw [← Paired.length r1, sizeLine_eq]
    omega
  have b1 := hb ⟨(hp.push (PySem.W.kdv_tup us)).push (HandSPX.excO C hp.objs.size), g, dr, tk, os⟩ (Value.ref (hp.objs.size + 1) :: us) I2.kIn (by rw [List.append_nil]; exact hl)
  rw [List.append_nil] at b1
  refine wpAny_call (HandSPX.call_own PySem.F.excBase_OverflowError (fun Y => rfl) (I1.kIn _ _ hC) (PySem.W.looks_findIn I1.kIn iC) (fun self => PySem.W.bind_fn I1.kIn self tI) hus
    (codeAny_mono (F1.run _ X.stack _ _ ⟨Value.ref (hp.objs.size + 1) :: us, []⟩ (Value.ref (hp.objs.size + 1) :: us) _ _ (fun _ _ _ => False) (hr.make C us []) (I2.env0.make C us []) b1 r2 hq) fun r s' hq' => ?_))
  cases r with
  | error er => exact hx pins σ _ _ er s' I2 hq'
  | ok fl =>
    cases fl with
    | ret u =>
      obtain ⟨v, H2, os2, bare2, un2, hok2, rv, ev, d, fs, ea, ed, hd1, q2⟩ := hq'
      subst ev
      obtain ⟨h2, g2, d2, t2, os'⟩ := s'
      exact ⟨rv, mk_end (raises_own T.bas T.typ) I1 hsz kk un2 hok2 os2 bare2 ea ed hd1 q2⟩
    | next => exact False.elim hq'
    | brk => exact False.elim hq'
    | cont => exact False.elim hq'
end
end

/-! ## C1 -/
section
set_option maxHeartbeats 4000000
open PySem PySem.Spec PyProof.Rows L2
section
variable {X : Cx} {k j : Nat} {C : Addr} {sp : Sp}
/-! ### len of an own instance -/
def rLnO (C : Addr) (sp : Sp) : List V → Hp → VK → Prop := fun vs H Q => ∃ a dx fs, vs = [V.ref a] ∧ H a = some (.ins C dx fs) ∧ sp [.ref a] H (fun z H' => ∃ n : Nat, z = .int n ∧ n ≤ 1000000000 ∧ Q z H') E0
theorem cr_lnO (c : Met X.prog X.w X.K X.mg X.base k C "__len__" sp []) (hr : Room j X.A) (hk : k + 1 ≤ j) : CallR X (.builtin "len") (rLnO C sp) := by
  intro pins s σ H xs us Q I r h
  obtain ⟨a, dx, fs, rfl, e, q⟩ := h
  obtain ⟨u, rfl, ru⟩ := r.one
  cases (show u = Value.ref a from ru)
  obtain ⟨f, fd, ps, ds, F, cl, mt, hb, hd⟩ := c.ex
  cases hd
  obtain ⟨mA, O, _⟩ := ins_get I.hok e
  obtain ⟨od, J, _⟩ := O.look
  obtain ⟨m, fr⟩ := I.fr
  have hr1 : Room k X.A.in1 := Room.in1 (hr.mono hk)
  have hl : [Value.ref a].length = ps.length := F.len _ _ _ _ q
  have b := hb s [.ref a] I.kIn (by rw [List.append_nil]; exact hl)
  rw [List.append_nil] at b
  refine PySem.W.len_K fr I.ok.mod.kin J mt.at_ mt.fn (wpAny_call (codeAny_mono (F.run X.A.in1 X.stack s H ⟨[.ref a], []⟩ [.ref a] [.ref a] _ _ hr1 I.env0.in1 b (.cons rfl .nil) q) fun r s' hq => ?_))
  cases r with
  | error e => exact pass0 pins σ H s e s' I hq
  | ok fl =>
    cases fl with
    | ret u =>
      obtain ⟨z, H', I', rz, n, e1, hn, qz⟩ := I.after hq
      subst e1
      obtain ⟨t, e2⟩ := (show ∃ t, u = Value.int n t from rz)
      subst e2
      exact ⟨⟨by omega, by omega⟩, .int n, H', I'.tok _, ⟨_, rfl⟩, qz⟩
    | next => exact False.elim hq
    | brk => exact False.elim hq
    | cont => exact False.elim hq
end
end

/-! ## Ez -/
section
set_option maxHeartbeats 4000000
open PySem PySem.Spec PyProof.Rows L2
/-! ### enumerate(zip(a, b, strict=True)) -/
abbrev IsZipS (h : Heap) (z TI TO : Addr) (f0 f1 : Value) : Prop := h.get? z = some { cls := .type "zip", dict := none, data := .fields #[f0, f1, .bool true, .ref TI, .ref TO], slots := #[] }
abbrev OutV (f0 : Value) : Prop := f0 = .none ∨ ∃ T : Nat, f0 = rawInt T
theorem tc_zipS (a b : Value) : checkTypeCall "zip" ⟨[a, b], [(Str.ofString "strict", .bool true)]⟩ = pure () := by kernel_rfl
theorem nc_zipS (a b : Value) : checkBuiltinCall "zip.__new__" ⟨[.type "zip", a, b], [(Str.ofString "strict", .bool true)]⟩ = pure () := by kernel_rfl
theorem ai_zipS (o a b : Value) : argsOk "object.__init__" ⟨[o, a, b], [(Str.ofString "strict", .bool true)]⟩ := by unfold argsOk; kernel_rfl
abbrev zipS5 (h : Heap) (l1 l2 : Addr) : Heap := (zipH4 h l1 l2).push { cls := .type "zip", data := .fields #[.none, .bool false, .bool true, .ref (zipH2 h l1 l2).objs.size, .ref (zipH3 h l1 l2).objs.size] }
theorem meets_zipS (l1 l2 : Addr) (xs ys : Array Value) :
    Meets (Builtin.«zip.__new__» ⟨[.type "zip", .ref l1, .ref l2], [(Str.ofString "strict", .bool true)]⟩) (fun _ R s => s.heap.IsList l1 xs ∧ s.heap.IsList l2 ys ∧
      R (.ok (.ret (.ref (zipH4 s.heap l1 l2).objs.size))) { s with heap := zipS5 s.heap l1 l2 }) :=
  .of_wp fun prog w A R s h => by
    obtain ⟨hp, g, d, tk, os⟩ := s; obtain ⟨hl1, hl2, h⟩ := h
    have hsub := sub_zip
    have e1 : (Str.ofString "strict" != ("strict" : Str)) = false := by decide +kernel
    have hL1 : Heap.IsList (Shared.heap ⟨hp, g, d, tk, os⟩) l1 xs := hl1
    have hL2 : Heap.IsList (Shared.heap ⟨hp.push { cls := .type "list_iterator", data := .fields #[.ref l1, .int 0 0] }, g, d, tk, os⟩) l2 ys := Heap.IsList.push hl2 _
    wp_walk using wpAny_pyIter_list hL1, wpAny_pyIter_list hL2
    exact ⟨_, rfl, h⟩
section
variable {prog : Program} {w : World} {A : Around} {E : Value → Shared → Prop} {s : Shared}
theorem alive_any {a : Addr} {Q : Option Obj → Shared → Prop} (h : Q (s.heap.get? a) s) : wpAny (model prog w) A (loadIfAlive a) Q E s := fun _ _ _ => h
theorem free_zipS {z TI TO : Addr} {f0 f1 : Value} {Q : Bool → Shared → Prop} (hz : IsZipS s.heap z TI TO f0 f1) (hf : OutV f0) (h1 : Q true s)
    (h2 : ∀ h' f, IsZipS h' z TI TO f0 f → Heap.SameBut z s.heap h' → Q false { s with heap := h' }) : wpAny (model prog w) A (Builtin.SmallTypes.ownedTupleIsFree (.ref z)) Q E s := by
  unfold Builtin.SmallTypes.ownedTupleIsFree
  rcases hf with rfl | ⟨T, rfl⟩
  · exact wpAny_bind (wpAny_field hz rfl (x := .none) rfl (wpAny_pure h1))
  · refine wpAny_bind (wpAny_field hz rfl (x := rawInt T) rfl ?_)
    show wpAny _ _ (loadIfAlive ((T : Int).toNat) >>= _) _ _ _
    refine wpAny_bind (alive_any ?_)
    cases hT : s.heap.get? (T : Int).toNat with
    | none =>
      simp only [Option.isNone_none, if_true]
      exact wpAny_pure h1
    | some o =>
      simp only [Option.isNone_some, Bool.false_eq_true, if_false]
      refine wpAny_bind (wpAny_field hz rfl (x := f1) rfl ?_)
      split
      · exact wpAny_bind (wpAny_setField_rec hz (by simp) fun h' hz' hs' => wpAny_pure (h2 h' _ hz' hs'))
      · exact wpAny_pure (h2 s.heap f1 hz (Heap.SameBut.refl _ _))
theorem noe_item {it l : Addr} {i : Nat} {items} {x : Value} {Q : Option Value → Shared → Prop} (hit : s.heap.IsListIter it l i) (hl : s.heap.IsList l items) (hx : items[i]? = some x)
    (hQ : ∀ h', h'.IsListIter it l (i + 1) → Heap.SameBut it s.heap h' → Q (some x) { s with heap := h' }) : wpAny (model prog w) A (Builtin.SmallTypes.nextOrEnd (.ref it)) Q E s := by
  unfold Builtin.SmallTypes.nextOrEnd
  exact wpAny_bind (wpAny_attempt (wpAny_nextOf_list_item hit hl hx fun h' a b => wpAny_pure (hQ h' a b)))
theorem noe_end {it l : Addr} {i : Nat} {items} {Q : Option Value → Shared → Prop} (hh : A.handled = none) (hit : s.heap.IsListIter it l i) (hl : s.heap.IsList l items) (hx : items[i]? = none)
    (hQ : ∀ h', Heap.ExtBut it s.heap h' → Q none { s with heap := h' }) : wpAny (model prog w) A (Builtin.SmallTypes.nextOrEnd (.ref it)) Q E s := by
  unfold Builtin.SmallTypes.nextOrEnd
  refine wpAny_bind (wpAny_attempt (wpAny_nextOf_list_end hh hit hl hx fun h' e a ⟨o, ho, hc⟩ => ?_))
  exact wpAny_bind (wpAny_isInstance (T := "StopIteration") (b := true) ⟨o, ho, hc⟩ isSubtype_stop (wpAny_pure (hQ h' a)))
theorem call_zipS {l1 l2 : Addr} {xs ys : Array Value} {Q : Value → Shared → Prop} (hl1 : s.heap.IsList l1 xs) (hl2 : s.heap.IsList l2 ys)
    (h : ∀ h', IsZipS h' (s.heap.objs.size + 4) (s.heap.objs.size + 2) (s.heap.objs.size + 3) .none (.bool false) → IsPair h' (s.heap.objs.size + 2) (.ref s.heap.objs.size) (.ref (s.heap.objs.size + 1)) →
      IsPair h' (s.heap.objs.size + 3) .none .none → h'.IsListIter s.heap.objs.size l1 0 → h'.IsListIter (s.heap.objs.size + 1) l2 0 → h'.objs.size = s.heap.objs.size + 5 →
      (∀ c o, s.heap.get? c = some o → h'.get? c = some o) → Q (.ref (s.heap.objs.size + 4)) { s with heap := h' }) :
    wpAny (model prog w) A (call (.type "zip") [.ref l1, .ref l2] [(Str.ofString "strict", .bool true)]) Q E s := by
  refine callType_newKw F.called_zip (by decide) (tc_zipS _ _) (nc_zipS _ _) (fun obj => ai_zipS obj _ _) F.entry_zip_new (meets_zipS l1 l2 xs ys) ⟨hl1, hl2, ?_⟩
  have z1 : (zipH1 s.heap l1).objs.size = s.heap.objs.size + 1 := Heap.size_push ..
  have z2 : (zipH2 s.heap l1 l2).objs.size = s.heap.objs.size + 2 := by rw [Heap.size_push, z1]
  have z3 : (zipH3 s.heap l1 l2).objs.size = s.heap.objs.size + 3 := by rw [Heap.size_push, z2]
  have z4 : (zipH4 s.heap l1 l2).objs.size = s.heap.objs.size + 4 := by rw [Heap.size_push, z3]
  have z5 : (zipS5 s.heap l1 l2).objs.size = s.heap.objs.size + 5 := by rw [Heap.size_push, z4]
  have g5 : (zipS5 s.heap l1 l2).get? (zipH4 s.heap l1 l2).objs.size = some _ := Heap.get?_push_size _ rfl
  have g4 : (zipS5 s.heap l1 l2).get? (zipH3 s.heap l1 l2).objs.size = some _ := Heap.get?_push_of_some _ (Heap.get?_push_size _ rfl)
  have g3 : (zipS5 s.heap l1 l2).get? (zipH2 s.heap l1 l2).objs.size = some _ := Heap.get?_push_of_some _ (Heap.get?_push_of_some _ (Heap.get?_push_size _ rfl))
  have g2 : (zipS5 s.heap l1 l2).get? (zipH1 s.heap l1).objs.size = some _ := Heap.get?_push_of_some _ (Heap.get?_push_of_some _ (Heap.get?_push_of_some _ (Heap.get?_push_size _ rfl)))
  have g1 : (zipS5 s.heap l1 l2).get? s.heap.objs.size = some _ := Heap.get?_push_of_some _ (Heap.get?_push_of_some _ (Heap.get?_push_of_some _ (Heap.get?_push_of_some _ (Heap.get?_push_size _ rfl))))
  show _ ∧ _
  rw [z2, z3, z4] at g5
  rw [z1, z2] at g3
  rw [z3] at g4
  rw [z1] at g2
  rw [z4]
  exact ⟨⟨_, g5, rfl⟩, h _ g5 g3 g4 ⟨_, g1, rfl, rfl⟩ ⟨_, g2, rfl, rfl⟩ z5 fun c o x =>
    Heap.get?_push_of_some _ (Heap.get?_push_of_some _ (Heap.get?_push_of_some _ (Heap.get?_push_of_some _ (Heap.get?_push_of_some _ x))))⟩
/-- what a turn leaves of the zip -/
structure ZLeft (h h' : Heap) (z TI TO i1 i2 l1 l2 : Addr) (k : Nat) (x y : Value) : Prop where
  zp : ∃ f0 f1, IsZipS h' z TI TO f0 f1 ∧ OutV f0
  own : ∃ a b, IsPair h' TO a b
  it1 : h'.IsListIter i1 l1 (k + 1)
  it2 : h'.IsListIter i2 l2 (k + 1)
  new : IsPair h' h.objs.size x y
  sz : h'.objs.size = h.objs.size + 1
  keep : ∀ c o, c ≠ z → c ≠ TO → c ≠ i1 → c ≠ i2 → h.get? c = some o → h'.get? c = some o
theorem zipS_item {z TI TO i1 i2 l1 l2 : Addr} {k : Nat} {xs ys : Array Value} {x y a b f0 f1 : Value} {Q : Value → Shared → Prop} (D : ZipApart z TI TO i1 i2 l1 l2)
    (hz : IsZipS s.heap z TI TO f0 f1) (hf : OutV f0) (hTI : IsPair s.heap TI (.ref i1) (.ref i2)) (hTO : IsPair s.heap TO a b)
    (h1 : s.heap.IsListIter i1 l1 k) (h2 : s.heap.IsListIter i2 l2 k) (hl1 : s.heap.IsList l1 xs) (hl2 : s.heap.IsList l2 ys) (hx : xs[k]? = some x) (hy : ys[k]? = some y)
    (hQ : ∀ h', ZLeft s.heap h' z TI TO i1 i2 l1 l2 k x y → Q (.ref s.heap.objs.size) { s with heap := h' }) :
    wpAny (model prog w) A (Builtin.«zip.__next__» ⟨[.ref z], []⟩) (fun fin s' => ∃ v, fin = .done (.ret v) ∧ Q v s') E s := by
  have hzl : z < s.heap.objs.size := Heap.lt_size hz
  show wpAny _ _ (field (.ref z) 2 >>= _) _ _ _
  refine wpAny_bind (wpAny_field hz rfl (x := .bool true) rfl ?_)
  show wpAny _ _ (field (.ref z) 3 >>= _) _ _ _
  refine wpAny_bind (wpAny_field hz rfl (x := .ref TI) rfl ?_)
  refine wpAny_bind (wpAny_seqItems hTI rfl ?_)
  show wpAny _ _ (Builtin.SmallTypes.ownedTupleIsFree (.ref z) >>= _) _ _ _
  refine wpAny_bind (free_zipS hz hf ?_ fun h₁ f hz₁ hs₁ => ?_)
  · simp only [if_true]
    refine wpAny_bind (wpAny_rule ?_)
    refine wpAny_bind (wpAny_field hz rfl (x := .ref TO) rfl ?_)
    refine wpAny_bind (wpAny_setField_rec hz (by simp) fun h₁ hz₁ hs₁ => ?_)
    replace hz₁ : IsZipS h₁ z TI TO .ellipsis f1 := hz₁
    refine wpAny_bind ?_
    simp only [List.zipIdx_cons, List.zipIdx_nil, List.forIn_cons, List.forIn_nil]
    refine wpAny_bind (wpAny_bind (wpAny_onRaise ?_))
    show wpAny _ _ (Builtin.SmallTypes.nextOrEnd (.ref i1)) _ _ _
    refine noe_item (h1.extBut hs₁.extBut D.i1z) (hl1.extBut hs₁.extBut D.l1z) hx fun h₂ h1₂ hs₂ => ?_
    have hTO₂ : IsPair h₂ TO a b := hs₂.extBut _ _ D.TOi1 (hs₁.extBut _ _ D.TOz hTO)
    refine wpAny_bind (wpAny_seqItems hTO₂ rfl ?_)
    refine wpAny_bind (wpAny_updateSeq_pair hTO₂ fun h₃ hTO₃ hs₃ => ?_)
    replace hTO₃ : IsPair h₃ TO x b := hTO₃
    refine wpAny_bind (wpAny_letGo (wpAny_pure ?_))
    refine wpAny_bind (wpAny_bind (wpAny_onRaise ?_))
    show wpAny _ _ (Builtin.SmallTypes.nextOrEnd (.ref i2)) _ _ _
    refine noe_item (((h2.extBut hs₁.extBut D.i2z).extBut hs₂.extBut D.i12.symm).extBut hs₃.extBut D.TOi2.symm) (((hl2.extBut hs₁.extBut D.l2z).extBut hs₂.extBut D.l2i1).extBut hs₃.extBut D.l2TO) hy fun h₄ h2₄ hs₄ => ?_
    have hTO₄ : IsPair h₄ TO x b := hs₄.extBut _ _ D.TOi2 hTO₃
    refine wpAny_bind (wpAny_seqItems hTO₄ rfl ?_)
    refine wpAny_bind (wpAny_updateSeq_pair hTO₄ fun h₅ hTO₅ hs₅ => ?_)
    replace hTO₅ : IsPair h₅ TO x y := hTO₅
    refine wpAny_bind (wpAny_letGo (wpAny_pure (wpAny_pure ?_)))
    refine wpAny_bind (wpAny_seqItems hTO₅ rfl ?_)
    refine wpAny_bind (wpAny_newTuple ?_)
    have hsz : h₅.objs.size = s.heap.objs.size := by rw [hs₅.1, hs₄.1, hs₃.1, hs₂.1, hs₁.1]
    have hz₅ : IsZipS h₅ z TI TO .ellipsis f1 := hs₅.extBut _ _ D.TOz.symm (hs₄.extBut _ _ D.i2z.symm (hs₃.extBut _ _ D.TOz.symm (hs₂.extBut _ _ D.i1z.symm hz₁)))
    have hk₅ : ∀ c o, c ≠ z → c ≠ TO → c ≠ i1 → c ≠ i2 → s.heap.get? c = some o → h₅.get? c = some o := fun c o c1 c2 c3 c4 e =>
      hs₅.extBut _ _ c2 (hs₄.extBut _ _ c4 (hs₃.extBut _ _ c2 (hs₂.extBut _ _ c3 (hs₁.extBut _ _ c1 e))))
    have h1₅ : h₅.IsListIter i1 l1 (k + 1) := ((h1₂.extBut hs₃.extBut D.TOi1.symm).extBut hs₄.extBut D.i12).extBut hs₅.extBut D.TOi1.symm
    have h2₅ : h₅.IsListIter i2 l2 (k + 1) := h2₄.extBut hs₅.extBut D.TOi2.symm
    show wpAny _ _ (Builtin.SmallTypes.ownedTupleHandOut (.ref z) (.ref h₅.objs.size) >>= _) _ _ _
    refine wpAny_bind ?_
    unfold Builtin.SmallTypes.ownedTupleHandOut
    have hz₆ : IsZipS (h₅.push { cls := .type "tuple", data := .seq #[x, y] }) z TI TO .ellipsis f1 := Heap.get?_push_of_some _ hz₅
    refine wpAny_bind (wpAny_setField_rec hz₆ (by simp) fun h₇ hz₇ hs₇ => ?_)
    replace hz₇ : IsZipS h₇ z TI TO (rawInt h₅.objs.size) f1 := hz₇
    refine wpAny_setField_rec hz₇ (by simp) fun h₈ hz₈ hs₈ => ?_
    replace hz₈ : IsZipS h₈ z TI TO (rawInt h₅.objs.size) (.bool false) := hz₈
    have up : ∀ c o, c ≠ z → h₅.get? c = some o → h₈.get? c = some o := fun c o c1 e => hs₈.extBut _ _ c1 (hs₇.extBut _ _ c1 (Heap.get?_push_of_some _ e))
    have hzlt : z < h₅.objs.size := by rw [hsz]; exact hzl
    have hT₈ : IsPair h₈ h₅.objs.size x y := hs₈.extBut _ _ (Nat.ne_of_gt hzlt) (hs₇.extBut _ _ (Nat.ne_of_gt hzlt) (Heap.get?_push_size _ rfl))
    have hz8 : h₈.objs.size = h₅.objs.size + 1 := by rw [hs₈.1, hs₇.1, Heap.size_push]
    rw [hsz] at hz₈ hT₈ hz8
    refine wpAny_pure ⟨_, rfl, ?_⟩
    show Q (.ref h₅.objs.size) _
    rw [hsz]
    exact hQ h₈ ⟨⟨_, _, hz₈, .inr ⟨_, rfl⟩⟩, ⟨_, _, up _ _ D.TOz hTO₅⟩, h1₅.at fun o e => up _ o D.i1z e, h2₅.at fun o e => up _ o D.i2z e, hT₈, hz8, fun c o c1 c2 c3 c4 e => up c o c1 (hk₅ c o c1 c2 c3 c4 e)⟩
  · simp only [Bool.false_eq_true, if_false]
    refine wpAny_bind ?_
    rw [← Array.forIn_toList]
    simp only [List.forIn_cons, List.forIn_nil]
    refine wpAny_bind (wpAny_bind (wpAny_holding ?_))
    show wpAny _ _ (Builtin.SmallTypes.nextOrEnd (.ref i1)) _ _ _
    refine noe_item (s := { s with heap := h₁ }) (h1.extBut hs₁.extBut D.i1z) (hl1.extBut hs₁.extBut D.l1z) hx fun h₂ h1₂ hs₂ => ?_
    refine wpAny_pure ?_
    refine wpAny_bind (wpAny_bind (wpAny_holding ?_))
    show wpAny _ _ (Builtin.SmallTypes.nextOrEnd (.ref i2)) _ _ _
    refine noe_item (s := { s with heap := h₂ }) ((h2.extBut hs₁.extBut D.i2z).extBut hs₂.extBut D.i12.symm) ((hl2.extBut hs₁.extBut D.l2z).extBut hs₂.extBut D.l2i1) hy fun h₃ h2₃ hs₃ => ?_
    refine wpAny_pure (wpAny_pure ?_)
    show wpAny _ _ (newTuple [x, y] >>= _) _ _ _
    refine wpAny_bind (wpAny_newTuple ?_)
    have hsz : h₃.objs.size = s.heap.objs.size := by rw [hs₃.1, hs₂.1, hs₁.1]
    have hz₃ : IsZipS h₃ z TI TO f0 f := hs₃.extBut _ _ D.i2z.symm (hs₂.extBut _ _ D.i1z.symm hz₁)
    have hk : ∀ c o, c ≠ z → c ≠ i1 → c ≠ i2 → s.heap.get? c = some o → h₃.get? c = some o := fun c o c1 c2 c3 e => hs₃.extBut _ _ c3 (hs₂.extBut _ _ c2 (hs₁.extBut _ _ c1 e))
    have h1₃ : h₃.IsListIter i1 l1 (k + 1) := h1₂.extBut hs₃.extBut D.i12
    refine wpAny_pure ⟨_, rfl, ?_⟩
    show Q (.ref h₃.objs.size) _
    have hp : IsPair (h₃.push { cls := .type "tuple", data := .seq #[x, y] }) h₃.objs.size x y := Heap.get?_push_size _ rfl
    have hz4 : (h₃.push { cls := .type "tuple", data := .seq #[x, y] }).objs.size = h₃.objs.size + 1 := Heap.size_push ..
    rw [hsz] at hp hz4 ⊢
    exact hQ _ ⟨⟨_, _, Heap.get?_push_of_some _ hz₃, hf⟩, ⟨_, _, Heap.get?_push_of_some _ (hk _ _ D.TOz D.TOi1 D.TOi2 hTO)⟩, h1₃.at fun o e => Heap.get?_push_of_some _ e, h2₃.at fun o e => Heap.get?_push_of_some _ e, hp, hz4,
      fun c o c1 _ c2 c3 e => Heap.get?_push_of_some _ (hk c o c1 c2 c3 e)⟩
end
end

/-! ## Ez2 -/
section
set_option maxHeartbeats 4000000
open PySem PySem.Spec PyProof.Rows L2
section
variable {prog : Program} {w : World} {A : Around} {E : Value → Shared → Prop} {s : Shared}
/-- a StopIteration comes -/
theorem stop_iter {α : Type} {Q : α → Shared → Prop} (hh : A.handled = none) (hE : ∀ h' e, (∀ c o, s.heap.get? c = some o → h'.get? c = some o) → (∃ o, h'.get? e = some o ∧ o.cls = .type "StopIteration") → E (.ref e) { s with heap := h' }) :
    wpAny (model prog w) A (Builtin.SmallTypes.stopIteration : Sem α) Q E s := by
  unfold Builtin.SmallTypes.stopIteration
  simp only [newExc, newTuple]
  refine wpAny_bind ?_
  refine wpAny_bind (wpAny_newObj_type ?_ (by size_fits))
  refine wpAny_bind (m := firstArgMember _ _) (wpAny_of_eq (a := Value.none) (by first | rfl | (simp only [firstArgMember]; rfl)) ?_)
  refine wpAny_newObj_type ?_ (by size_fits)
  simp only [raiseNew]
  refine wpAny_bind (wpAny_handled ?_)
  rw [hh]
  refine wpAny_bind (wpAny_pure (wpAny_throw ?_))
  exact hE _ _ (fun c o e => Heap.get?_push_of_some _ (Heap.get?_push_of_some _ e)) ⟨_, Heap.get?_push_size _ rfl, rfl⟩
theorem zipS_end {z TI TO i1 i2 l1 l2 : Addr} {k : Nat} {xs ys : Array Value} {a b f0 f1 : Value} {Q : Fin → Shared → Prop} (hh : A.handled = none) (D : ZipApart z TI TO i1 i2 l1 l2)
    (hz : IsZipS s.heap z TI TO f0 f1) (hf : OutV f0) (hTI : IsPair s.heap TI (.ref i1) (.ref i2)) (hTO : IsPair s.heap TO a b)
    (h1 : s.heap.IsListIter i1 l1 k) (h2 : s.heap.IsListIter i2 l2 k) (hl1 : s.heap.IsList l1 xs) (hl2 : s.heap.IsList l2 ys) (hx : xs[k]? = none) (hy : ys[k]? = none)
    (hE : ∀ h' e, (∀ c o, c ≠ z → c ≠ i1 → c ≠ i2 → s.heap.get? c = some o → h'.get? c = some o) → (∃ o, h'.get? e = some o ∧ o.cls = .type "StopIteration") → E (.ref e) { s with heap := h' }) :
    wpAny (model prog w) A (Builtin.«zip.__next__» ⟨[.ref z], []⟩) Q E s := by
  show wpAny _ _ (field (.ref z) 2 >>= _) _ _ _
  refine wpAny_bind (wpAny_field hz rfl (x := .bool true) rfl ?_)
  show wpAny _ _ (field (.ref z) 3 >>= _) _ _ _
  refine wpAny_bind (wpAny_field hz rfl (x := .ref TI) rfl ?_)
  refine wpAny_bind (wpAny_seqItems hTI rfl ?_)
  show wpAny _ _ (Builtin.SmallTypes.ownedTupleIsFree (.ref z) >>= _) _ _ _
  refine wpAny_bind (free_zipS hz hf ?_ fun h₁ f hz₁ hs₁ => ?_)
  · simp only [if_true]
    refine wpAny_bind (wpAny_rule ?_)
    refine wpAny_bind (wpAny_field hz rfl (x := .ref TO) rfl ?_)
    refine wpAny_bind (wpAny_setField_rec hz (by simp) fun h₁ hz₁ hs₁ => ?_)
    replace hz₁ : IsZipS h₁ z TI TO .ellipsis f1 := hz₁
    refine wpAny_bind ?_
    simp only [List.zipIdx_cons, List.zipIdx_nil, List.forIn_cons, List.forIn_nil]
    refine wpAny_bind (wpAny_bind (wpAny_onRaise ?_))
    show wpAny _ _ (Builtin.SmallTypes.nextOrEnd (.ref i1)) _ _ _
    refine noe_end hh (h1.extBut hs₁.extBut D.i1z) (hl1.extBut hs₁.extBut D.l1z) hx fun h₂ hs₂ => ?_
    have hz₂ : IsZipS h₂ z TI TO .ellipsis f1 := hs₂ _ _ D.i1z.symm hz₁
    refine wpAny_bind (wpAny_setField_rec hz₂ (by simp) fun h₃ hz₃ hs₃ => ?_)
    refine wpAny_bind ?_
    show wpAny _ _ (_ >>= _) _ _ _
    refine wpAny_bind ?_
    simp only [List.drop_succ_cons, List.drop_zero, List.zipIdx_cons, List.zipIdx_nil, List.forIn_cons, List.forIn_nil]
    refine wpAny_bind (wpAny_bind (noe_end (s := { s with heap := h₃ }) hh (((h2.extBut hs₁.extBut D.i2z).extBut hs₂ D.i12.symm).extBut hs₃.extBut D.i2z) (((hl2.extBut hs₁.extBut D.l2z).extBut hs₂ D.l2i1).extBut hs₃.extBut D.l2z) hy fun h₄ hs₄ => ?_))
    simp only [Option.isSome_none, Bool.false_eq_true, if_false]
    refine wpAny_pure (wpAny_pure (wpAny_bind (wpAny_rule (stop_iter (s := { s with heap := h₄ }) hh fun h' e k he => ?_))))
    exact hE h' e (fun c o c1 c2 c3 x => k _ _ (hs₄ _ _ c3 (hs₃.extBut _ _ c1 (hs₂ _ _ c2 (hs₁.extBut _ _ c1 x))))) he
  · simp only [Bool.false_eq_true, if_false]
    refine wpAny_bind ?_
    rw [← Array.forIn_toList]
    simp only [List.forIn_cons, List.forIn_nil]
    refine wpAny_bind (wpAny_bind (wpAny_holding ?_))
    show wpAny _ _ (Builtin.SmallTypes.nextOrEnd (.ref i1)) _ _ _
    refine noe_end (s := { s with heap := h₁ }) hh (h1.extBut hs₁.extBut D.i1z) (hl1.extBut hs₁.extBut D.l1z) hx fun h₂ hs₂ => ?_
    refine wpAny_bind ?_
    show wpAny _ _ (_ >>= _) _ _ _
    refine wpAny_bind ?_
    simp only [List.drop_succ_cons, List.drop_zero, List.zipIdx_cons, List.zipIdx_nil, List.forIn_cons, List.forIn_nil]
    refine wpAny_bind (wpAny_bind (noe_end (s := { s with heap := h₂ }) hh ((h2.extBut hs₁.extBut D.i2z).extBut hs₂ D.i12.symm) ((hl2.extBut hs₁.extBut D.l2z).extBut hs₂ D.l2i1) hy fun h₄ hs₄ => ?_))
    simp only [Option.isSome_none, Bool.false_eq_true, if_false]
    refine wpAny_pure (wpAny_pure (wpAny_bind (wpAny_rule (stop_iter (s := { s with heap := h₄ }) hh fun h' e k he => ?_))))
    exact hE h' e (fun c o c1 c2 c3 x => k _ _ (hs₄ _ _ c3 (hs₂ _ _ c2 (hs₁.extBut _ _ c1 x)))) he
end
end

/-! ## Ez3 -/
section
set_option maxHeartbeats 4000000
open PySem PySem.Spec PyProof.Rows L2
section
variable {M : Model} {A : Around} {E : Value → Shared → Prop} {s : Shared} {env : Env}
theorem cw_tkw {pos : Pos} {T : String} {e : Expr} {rest : List Expr} {kws : List Keyword} {Q : Value → Shared → Prop}
    (h : wpAny M A (spliced (backTo pos (starEach (e :: rest) env))) (fun vs s₁ => wpAny M A (evalAll ((backToKw pos (keywordEach kws env)).map (·.2)))
      (fun zs s₂ => wpAny M A (call (.type T) vs (((backToKw pos (keywordEach kws env)).filterMap (·.1)).zip zs)) Q E s₂) E s₁) E s)
    (he : backTo pos (starEach (e :: rest) env) = (false, eval e env) :: backTo pos (starEach rest env) := by rfl) (hpl : (backTo pos (starEach (e :: rest) env)).any (·.1) = false := by rfl)
    (hall : (backToKw pos (keywordEach kws env)).all (·.1.isSome) = true := by rfl) (hkw : (backToKw pos (keywordEach kws env)).any (·.1.isNone) = false := by rfl) :
    wpAny M A (callWith pos (.type T) [] (backTo pos (starEach (e :: rest) env)) (backToKw pos (keywordEach kws env))) Q E s := by
  have h1 : wpAny M A (evalArgs (.type T) true (backTo pos (starEach (e :: rest) env)) (backToKw pos (keywordEach kws env))) (fun a s₁ => wpAny M A (call (.type T) ([] ++ a.pos) a.kw) Q E s₁) E s := by
    rw [he] at h ⊢
    exact evalArgs_kwB hall h
  unfold callWith
  refine wpAny_bind (wpAny_holding (wpAny_mono h1 (fun a s₁ q => wpAny_bind (wpAny_standAt ?_)) fun _ _ x => x))
  simp only [hpl, hkw, Bool.or_false]
  refine wpAny_bind (wpAny_pure ?_)
  exact wpAny_bind (wpAny_mono q (fun r s₂ hr => wpAny_bind (wpAny_holding (wpAny_point (wpAny_pure hr)))) fun _ _ x => x)
end
section
variable {prog : Program} {w : World} {A : Around} {E : Value → Shared → Prop} {s : Shared}
theorem iter_zipS {z TI TO : Addr} {f0 f1 : Value} {Q : Value → Shared → Prop} (hz : IsZipS s.heap z TI TO f0 f1) (h : Q (.ref z) s) : wpAny (model prog w) A (pyIter (.ref z)) Q E s := by
  have hT : s.TypeIs (.ref z) "zip" := ⟨_, hz, rfl⟩
  refine wpAny_pyIter_slot hT F.slot_zip_iter (wpAny_call_entry F.slot_zip_iter hT F.entry_zip_iter ?_ (F.args_zip_iter_1 _))
  exact wpAny_pure ⟨_, rfl, "zip", _, hT, F.slot_zip_next.lookup, h⟩
theorem meets_enumZ (z TI TO : Addr) (f0 f1 : Value) :
    Meets (Builtin.«enumerate.__new__» ⟨[.type "enumerate", .ref z], []⟩) (fun _ R s => IsZipS s.heap z TI TO f0 f1 ∧
      R (.ok (.ret (.ref s.heap.objs.size))) { s with heap := s.heap.push { cls := .type "enumerate", data := .fields #[.none, .bool false, .ref z, rawInt 0, .none, .none] } }) :=
  .of_wp fun prog w A R s h => by
    obtain ⟨hp, g, d, tk, os⟩ := s; obtain ⟨hz, h⟩ := h
    have hsub := sub_enumerate
    have hZ : IsZipS (Shared.heap ⟨hp, g, d, tk, os⟩) z TI TO f0 f1 := hz
    wp_walk using AutoSeq1.wpAny_loadPart' hz
    refine wpAny_stack_any fun st => wpAny_pure ?_
    split
    · rename_i c _ _ _ _ _
      cases (c == Value.type "enumerate") <;> (wp_walk using AutoSeq1.wpAny_loadPart' hz, iter_zipS hZ; exact ⟨_, rfl, h⟩)
    · wp_walk using AutoSeq1.wpAny_loadPart' hz, iter_zipS hZ
      exact ⟨_, rfl, h⟩
theorem call_enumZ {z TI TO : Addr} {f0 f1 : Value} {Q : Value → Shared → Prop} (hz : IsZipS s.heap z TI TO f0 f1)
    (h : ∀ h', IsEnum h' s.heap.objs.size z 0 .none → (∀ b o, s.heap.get? b = some o → h'.get? b = some o) → Q (.ref s.heap.objs.size) { s with heap := h' }) :
    wpAny (model prog w) A (call (.type "enumerate") [.ref z]) Q E s := by
  refine callType_new F.called_enumerate (by decide) (F.typeCall_enumerate_1 _) (F.newCall_enumerate_1 _) (fun obj => F.args_object_init_2 obj _) F.entry_enumerate_new (meets_enumZ z TI TO f0 f1) ⟨hz, ?_⟩
  have he : IsEnum (s.heap.push { cls := .type "enumerate", data := .fields #[.none, .bool false, .ref z, rawInt 0, .none, .none] }) s.heap.objs.size z 0 .none := Heap.get?_push_size _ rfl
  exact ⟨⟨_, he, rfl⟩, h _ he fun b o x => Heap.get?_push_of_some _ x⟩
/-- e stands apart from the zip's own -/
structure EApart (e z TI TO i1 i2 : Addr) : Prop where
  z : z ≠ e
  TI : TI ≠ e
  TO : TO ≠ e
  i1 : i1 ≠ e
  i2 : i2 ≠ e
theorem enumZ_item {e z TI TO i1 i2 l1 l2 : Addr} {k : Nat} {xs ys : Array Value} {x y a b f0 f1 old : Value} {Q : Option Value → Shared → Prop} (D : ZipApart z TI TO i1 i2 l1 l2) (De : EApart e z TI TO i1 i2)
    (he : IsEnum s.heap e z k old) (hz : IsZipS s.heap z TI TO f0 f1) (hf : OutV f0) (hTI : IsPair s.heap TI (.ref i1) (.ref i2)) (hTO : IsPair s.heap TO a b)
    (h1 : s.heap.IsListIter i1 l1 k) (h2 : s.heap.IsListIter i2 l2 k) (hl1 : s.heap.IsList l1 xs) (hl2 : s.heap.IsList l2 ys) (hx : xs[k]? = some x) (hy : ys[k]? = some y)
    (hQ : ∀ h1 h', ZLeft s.heap h1 z TI TO i1 i2 l1 l2 k x y → IsEnumOut h' e z ((k : Int) + 1) (.ref s.heap.objs.size) (s.heap.objs.size + 1) →
      h'.get? (s.heap.objs.size + 1) = some { cls := .type "tuple", data := .seq #[.int k s.toks, .ref s.heap.objs.size] } → (∀ b o, b ≠ e → h1.get? b = some o → h'.get? b = some o) → h'.objs.size = s.heap.objs.size + 2 →
      Q (some (.ref (s.heap.objs.size + 1))) { s with heap := h', toks := s.toks + 1 }) :
    wpAny (model prog w) A (pyNext (.ref e)) Q E s := by
  have hT : s.TypeIs (.ref e) "enumerate" := ⟨_, he, rfl⟩
  unfold pyNext
  refine wpAny_bind (wpAny_attempt (wpAny_callSpecial?_slot (name := Str.ofString "__next__") hT F.slot_enumerate_next (wpAny_call_entry F.slot_enumerate_next hT F.entry_enumerate_next ?_ (F.args_enumerate_next_1 _))))
  obtain ⟨hp, g, d, tk, os⟩ := s
  have hTz : (⟨hp, g, d, tk, os⟩ : Shared).TypeIs (.ref z) "zip" := ⟨_, hz, rfl⟩
  show wpAny _ _ (field (.ref e) 2 >>= _) _ _ _
  refine wpAny_bind (wpAny_field he rfl (x := .ref z) rfl ?_)
  refine wpAny_bind ?_
  unfold Builtin.SmallTypes.nextOf
  refine wpAny_bind (wpAny_callSpecial?_slot (name := Str.ofString "__next__") hTz F.slot_zip_next (wpAny_call_entry F.slot_zip_next hTz F.entry_zip_next
    (zipS_item D hz hf hTI hTO h1 h2 hl1 hl2 hx hy fun h₁ L => wpAny_pure ?_) (F.args_zip_next_1 _)))
  have hel : e < hp.objs.size := Heap.lt_size he
  have he₁ : IsEnum h₁ e z k old := L.keep _ _ De.z.symm De.TO.symm De.i1.symm De.i2.symm he
  have sz1 : h₁.objs.size = hp.objs.size + 1 := L.sz
  show wpAny _ _ (field (.ref e) 3 >>= _) _ _ ⟨h₁, g, d, tk, os⟩
  refine wpAny_bind (wpAny_field he₁ rfl (x := rawInt k) rfl ?_)
  show wpAny _ _ (field (.ref e) 4 >>= _) _ _ ⟨h₁, g, d, tk, os⟩
  refine wpAny_bind (wpAny_field he₁ rfl (x := .none) rfl ?_)
  show wpAny _ _ (mkInt k >>= _) _ _ ⟨h₁, g, d, tk, os⟩
  refine wpAny_bind (wpAny_mkInt ?_)
  show wpAny _ _ (setField (.ref e) 3 (rawInt ((k : Int) + 1)) >>= _) _ _ ⟨h₁, g, d, tk + 1, os⟩
  refine wpAny_bind (wpAny_setField_rec he₁ (by simp) fun h₂ he₂ hs₂ => ?_)
  replace hs₂ : Heap.SameBut e h₁ h₂ := hs₂
  replace he₂ : IsEnum h₂ e z ((k : Int) + 1) old := he₂
  refine wpAny_bind (wpAny_setField_rec (s := ⟨h₂, g, d, tk + 1, os⟩) he₂ (by simp) fun h₃ he₃ hs₃ => ?_)
  replace hs₃ : Heap.SameBut e h₂ h₃ := hs₃
  replace he₃ : IsEnum h₃ e z ((k : Int) + 1) old := he₃
  have sz3 : h₃.objs.size = hp.objs.size + 1 := by rw [hs₃.1, hs₂.1, sz1]
  show wpAny _ _ (newTuple [.int k tk, .ref hp.objs.size] >>= _) _ _ ⟨h₃, g, d, tk + 1, os⟩
  refine wpAny_bind (wpAny_newTuple ?_)
  have he₄ : IsEnum (h₃.push { cls := .type "tuple", data := .seq #[.int k tk, .ref hp.objs.size] }) e z ((k : Int) + 1) old := Heap.get?_push_of_some _ he₃
  generalize hh₄ : h₃.push { cls := .type "tuple", data := .seq #[.int k tk, .ref hp.objs.size] } = h₄ at he₄
  have ht₄ : h₄.get? (hp.objs.size + 1) = some { cls := .type "tuple", data := .seq #[.int k tk, .ref hp.objs.size] } := by rw [← hh₄, ← sz3]; exact Heap.get?_push_size _ rfl
  have sz4 : h₄.objs.size = hp.objs.size + 2 := by rw [← hh₄, Heap.size_push, sz3]
  have hk₄ : ∀ b o, b ≠ e → h₁.get? b = some o → h₄.get? b = some o := fun b o hbe hb => by
    rw [← hh₄]; exact Heap.get?_push_of_some _ (hs₃.extBut b o hbe (hs₂.extBut b o hbe hb))
  show wpAny _ _ (Builtin.SmallTypes.ownedTupleIsFree (.ref e) >>= _) _ _ ⟨h₄, g, d, tk + 1, os⟩
  rw [sz3]
  refine wpAny_bind ?_
  unfold Builtin.SmallTypes.ownedTupleIsFree
  refine wpAny_bind (wpAny_field he₄ rfl (x := .none) rfl (wpAny_pure ?_))
  simp only [if_true]
  refine wpAny_bind (wpAny_rule (wpAny_bind (wpAny_field he₄ rfl (x := old) rfl (wpAny_bind (wpAny_setField_rec he₄ (by simp) fun h₅ he₅ hs₅ => ?_)))))
  replace hs₅ : Heap.SameBut e h₄ h₅ := hs₅
  replace he₅ : IsEnum h₅ e z ((k : Int) + 1) (.ref hp.objs.size) := he₅
  show wpAny _ _ (Builtin.SmallTypes.ownedTupleHandOut (.ref e) (.ref (hp.objs.size + 1)) >>= _) _ _ ⟨h₅, g, d, tk + 1, os⟩
  refine wpAny_bind ?_
  unfold Builtin.SmallTypes.ownedTupleHandOut
  refine wpAny_bind (wpAny_setField_rec he₅ (by simp) fun h₆ he₆ hs₆ => ?_)
  replace hs₆ : Heap.SameBut e h₅ h₆ := hs₆
  replace he₆ : IsEnumOut h₆ e z ((k : Int) + 1) (.ref hp.objs.size) (hp.objs.size + 1) := he₆
  refine wpAny_setField_rec he₆ (by simp) fun h₇ he₇ hs₇ => ?_
  replace hs₇ : Heap.SameBut e h₆ h₇ := hs₇
  replace he₇ : IsEnumOut h₇ e z ((k : Int) + 1) (.ref hp.objs.size) (hp.objs.size + 1) := he₇
  have up : ∀ b o, b ≠ e → h₄.get? b = some o → h₇.get? b = some o := fun b o hb q => hs₇.extBut _ _ hb (hs₆.extBut _ _ hb (hs₅.extBut _ _ hb q))
  refine wpAny_bind (wpAny_letGo (wpAny_pure ⟨_, rfl, wpAny_pure ?_⟩))
  exact hQ h₁ h₇ L he₇ (up _ _ (Nat.ne_of_gt (Nat.lt_succ_of_lt hel)) ht₄) (fun b o hb q => up b o hb (hk₄ b o hb q)) (by rw [hs₇.1, hs₆.1, hs₅.1, sz4])
theorem enumZ_end {e z TI TO i1 i2 l1 l2 : Addr} {k : Nat} {xs ys : Array Value} {a b f0 f1 old : Value} {Q : Option Value → Shared → Prop} (hh : A.handled = none) (D : ZipApart z TI TO i1 i2 l1 l2)
    (he : IsEnum s.heap e z k old) (hz : IsZipS s.heap z TI TO f0 f1) (hf : OutV f0) (hTI : IsPair s.heap TI (.ref i1) (.ref i2)) (hTO : IsPair s.heap TO a b)
    (h1 : s.heap.IsListIter i1 l1 k) (h2 : s.heap.IsListIter i2 l2 k) (hl1 : s.heap.IsList l1 xs) (hl2 : s.heap.IsList l2 ys) (hx : xs[k]? = none) (hy : ys[k]? = none)
    (hQ : ∀ h', (∀ c o, c ≠ z → c ≠ i1 → c ≠ i2 → s.heap.get? c = some o → h'.get? c = some o) → Q none { s with heap := h' }) :
    wpAny (model prog w) A (pyNext (.ref e)) Q E s := by
  have hT : s.TypeIs (.ref e) "enumerate" := ⟨_, he, rfl⟩
  have hTz : s.TypeIs (.ref z) "zip" := ⟨_, hz, rfl⟩
  unfold pyNext
  refine wpAny_bind (wpAny_attempt (wpAny_callSpecial?_slot (name := Str.ofString "__next__") hT F.slot_enumerate_next (wpAny_call_entry F.slot_enumerate_next hT F.entry_enumerate_next ?_ (F.args_enumerate_next_1 _))))
  show wpAny _ _ (field (.ref e) 2 >>= _) _ _ _
  refine wpAny_bind (wpAny_field he rfl (x := .ref z) rfl ?_)
  refine wpAny_bind ?_
  unfold Builtin.SmallTypes.nextOf
  refine wpAny_bind (wpAny_callSpecial?_slot (name := Str.ofString "__next__") hTz F.slot_zip_next (wpAny_call_entry F.slot_zip_next hTz F.entry_zip_next
    (zipS_end hh D hz hf hTI hTO h1 h2 hl1 hl2 hx hy fun h' x q ⟨o, ho, hc⟩ => ?_) (F.args_zip_next_1 _)))
  exact wpAny_bind (wpAny_isInstance (T := "StopIteration") (b := true) ⟨o, ho, hc⟩ isSubtype_stop (wpAny_pure (hQ _ q)))
end
end
section
open PySem PySem.Spec PyProof.Rows L2
/-! the walk -/
def Itez (K : PySem.W.Frag) (a b : Addr) : It :=
  ⟨fun i H => ∃ (xs ys : List V) (x y : V), SqL K H a xs ∧ SqL K H b ys ∧ xs[i]? = some x ∧ ys[i]? = some y,
    fun i H v H' => ∃ T R x y, v = .ref R ∧ H T = none ∧ upd H T (.tup [x, y]) R = none ∧ H' = upd (upd H T (.tup [x, y])) R (.tup [.int (i : Nat), .ref T]) ∧ (∀ xs, SqL K H a xs → xs[i]? = some x) ∧ ∀ ys, SqL K H b ys → ys[i]? = some y,
    fun i H => ∃ xs ys : List V, SqL K H a xs ∧ SqL K H b ys ∧ xs.length ≤ i ∧ ys.length ≤ i⟩
theorem turn_ez {P : Program} {w : World} {K : PySem.W.Frag} {elts : List Expr} {kk : Nat} {tpos : Pos} {a b e z TI TO i1 i2 : Addr} (D : ZipApart z TI TO i1 i2 a b) (De : EApart e z TI TO i1 i2) :
    Turn P w K (.Tuple elts kk tpos) (Itez K a b) [e, z, TI, TO, i1, i2] e (fun i h => (∃ old, IsEnum h e z (i : Nat) old) ∧ (∃ f0 f1, IsZipS h z TI TO f0 f1 ∧ OutV f0) ∧ IsPair h TI (.ref i1) (.ref i2) ∧ (∃ x y, IsPair h TO x y) ∧ h.IsListIter i1 a i ∧ h.IsListIter i2 b i) where
  mem := by simp
  obj := fun i h st c hc => by
    obtain ⟨⟨old, he⟩, ⟨f0, f1, hz, hf⟩, hTI, ⟨x, y, hTO⟩, ⟨o1, e1, _, d1⟩, ⟨o2, e2, _, d2⟩⟩ := st
    have e' : c = e ∨ c = z ∨ c = TI ∨ c = TO ∨ c = i1 ∨ c = i2 := by simpa using hc
    rcases e' with q | q | q | q | q | q <;> rw [q]
    · exact ⟨_, he, fun v q => nomatch q⟩
    · exact ⟨_, hz, fun v q => nomatch q⟩
    · exact ⟨_, hTI, fun v q => nomatch q⟩
    · exact ⟨_, hTO, fun v q => nomatch q⟩
    · exact ⟨o1, e1, fun v q => by rw [d1] at q; cases q⟩
    · exact ⟨o2, e2, fun v q => by rw [d2] at q; cases q⟩
  keep := fun i h h' st k => by
    obtain ⟨⟨old, he⟩, ⟨f0, f1, hz, hf⟩, hTI, ⟨x, y, hTO⟩, h1, h2⟩ := st
    exact ⟨⟨old, k e (by simp) _ he⟩, ⟨f0, f1, k z (by simp) _ hz, hf⟩, k TI (by simp) _ hTI, ⟨x, y, k TO (by simp) _ hTO⟩, h1.at fun o q => k i1 (by simp) o q, h2.at fun o q => k i2 (by simp) o q⟩
  item := by
    intro X hP hw hK hc i pins s σ H E I hf st hg
    subst hP hw hK
    obtain ⟨⟨old, he⟩, ⟨f0, f1, hz, ho0⟩, hTI, ⟨x0, y0, hTO⟩, h1, h2⟩ := st
    obtain ⟨xs, ys, x, y, hqx, hqy, hx, hy⟩ := hg
    obtain ⟨its, rv, p, _⟩ := I.list hqx
    obtain ⟨its2, rv2, p2, _⟩ := I.list hqy
    obtain ⟨u, hu, ru⟩ := rv.get hx
    obtain ⟨u2, hu2, ru2⟩ := rv2.get hy
    have hel : e < s.heap.objs.size := Heap.lt_size he
    have lts : ∀ c, c ∈ [e, z, TI, TO, i1, i2] → c < s.heap.objs.size := fun c hcm => by
      have e' : c = e ∨ c = z ∨ c = TI ∨ c = TO ∨ c = i1 ∨ c = i2 := by simpa using hcm
      rcases e' with q | q | q | q | q | q <;> rw [q]
      · exact hel
      · exact Heap.lt_size hz
      · exact Heap.lt_size hTI
      · exact Heap.lt_size hTO
      · obtain ⟨_, e1, _⟩ := h1; exact Heap.lt_size e1
      · obtain ⟨_, e2, _⟩ := h2; exact Heap.lt_size e2
    refine enumZ_item D De he hz ho0 hTI hTO h1 h2 p.isList p2.isList (x := u) (y := u2) (by simpa using hu) (by simpa using hu2) fun h₁ h' L hO hR hk hsz => ?_
    refine ⟨_, rfl, wpAny_letOwnedTupleGo_enum (s := { s with heap := h', toks := s.toks + 1 }) hO fun h'' he' sb => ?_⟩
    have fT : H s.heap.objs.size = none := I.hok.fresh (Nat.le_refl _)
    have new1 : ObjOk X.prog X.w (upd H s.heap.objs.size (.tup [x, y])) h₁ s.heap.objs.size (.tup [x, y]) := ⟨by show 2 ≤ sizeLine; decide, [u, u2], .cons ru (.cons ru2 .nil), ⟨_, L.new, rfl, _, rfl⟩⟩
    have I1 : Inv X pins σ (upd H s.heap.objs.size (.tup [x, y])) { s with heap := h₁ } :=
      I.turnedNew (t' := s.toks) (ch := [e, z, TI, TO, i1, i2]) (fun c o hb q => L.keep c o (fun q' => hb (by simp [q'])) (fun q' => hb (by simp [q'])) (fun q' => hb (by simp [q'])) (fun q' => hb (by simp [q'])) q) hf (Nat.le_refl _) new1
    have hf1 : ∀ c ∈ [e, z, TI, TO, i1, i2], FpOk X pins (upd H s.heap.objs.size (.tup [x, y])) c := fun c hcm => ⟨by rw [upd_ne (Nat.ne_of_lt (lts c hcm))]; exact (hf c hcm).1, (hf c hcm).2⟩
    have ne1 : s.heap.objs.size + 1 ≠ e := Nat.ne_of_gt (Nat.lt_succ_of_lt hel)
    have hR2 : h''.get? (s.heap.objs.size + 1) = some { cls := .type "tuple", data := .seq #[.int i s.toks, .ref s.heap.objs.size] } := (sb.2 _ ne1).trans hR
    have sz1 : h₁.objs.size = s.heap.objs.size + 1 := L.sz
    have hn1 : upd H s.heap.objs.size (.tup [x, y]) (s.heap.objs.size + 1) = none := I1.hok.fresh (by show h₁.objs.size ≤ _; rw [sz1]; exact Nat.le_refl _)
    have new2 : ObjOk X.prog X.w (upd (upd H s.heap.objs.size (.tup [x, y])) (s.heap.objs.size + 1) (.tup [.int (i : Nat), .ref s.heap.objs.size])) h'' (s.heap.objs.size + 1) (.tup [.int (i : Nat), .ref s.heap.objs.size]) :=
      ⟨by show 2 ≤ sizeLine; decide, [.int i s.toks, .ref s.heap.objs.size], .cons ⟨_, rfl⟩ (.cons rfl .nil), ⟨_, hR2, rfl, _, rfl⟩⟩
    have up : ∀ c o, c ≠ e → h₁.get? c = some o → h''.get? c = some o := fun c o hb q => (sb.2 _ hb).trans (hk c o hb q)
    have I2 := I1.turnedNew (h' := h'') (t' := s.toks + 1) (ch := [e, z, TI, TO, i1, i2]) (fun c o hb q => up c o (fun q' => hb (by simp [q'])) q) hf1 (by show h₁.objs.size ≤ _; rw [sz1]; exact Nat.le_refl _) new2
    refine ⟨.ref (s.heap.objs.size + 1), _, I2, rfl, ⟨_, _, x, y, rfl, fT, hn1, rfl, fun l hl => by rw [I.list_inj hl hqx]; exact hx, fun l hl => by rw [I.list_inj hl hqy]; exact hy⟩, ⟨⟨.ref s.heap.objs.size, ?_⟩, ?_, ?_, ?_, ?_, ?_⟩, fun c hcm => ?_⟩
    · have e1 : ((i + 1 : Nat) : Int) = (i : Int) + 1 := by omega
      rw [e1]; exact he'
    · obtain ⟨g0, g1, q1, q2⟩ := L.zp
      exact ⟨g0, g1, up _ _ De.z q1, q2⟩
    · exact up _ _ De.TI (L.keep _ _ D.TIz D.TITO D.TIi1 D.TIi2 hTI)
    · obtain ⟨g0, g1, q1⟩ := L.own
      exact ⟨g0, g1, up _ _ De.TO q1⟩
    · exact L.it1.at fun o q => up _ _ De.i1 q
    · exact L.it2.at fun o q => up _ _ De.i2 q
    · rw [upd_ne (Nat.ne_of_lt (Nat.lt_succ_of_lt (lts c hcm)))]
      exact (hf1 c hcm).1
  done := by
    intro X hP hw hK hc i pins s σ H E I hf st hg
    subst hP hw hK
    obtain ⟨⟨old, he⟩, ⟨f0, f1, hz, ho0⟩, hTI, ⟨x0, y0, hTO⟩, h1, h2⟩ := st
    obtain ⟨xs, ys, hqx, hqy, l1, l2⟩ := hg
    obtain ⟨its, rv, p, _⟩ := I.list hqx
    obtain ⟨its2, rv2, p2, _⟩ := I.list hqy
    have l3 := rv.length
    have l4 := rv2.length
    exact enumZ_end (I.ok.hd hc) D he hz ho0 hTI hTO h1 h2 p.isList p2.isList (by simp; omega) (by simp; omega) fun h' hk => ⟨rfl, I.turnedL (t' := s.toks) (ch := [e, z, TI, TO, i1, i2]) (fun c o hb q =>
      hk c o (fun q' => hb (by simp [q'])) (fun q' => hb (by simp [q'])) (fun q' => hb (by simp [q'])) q) hf⟩
  self := fun A i s Q E st h => let ⟨⟨_, he⟩, _⟩ := st; wpAny_pyIter_enum he h
def iEz (K : PySem.W.Frag) (ta : TA) : TI := fun σ H R => ta σ H fun vs H1 => ∃ a b xs ys, vs = [.ref a, .ref b] ∧ SqL K H1 a xs ∧ SqL K H1 b ys ∧ R (Itez K a b) H1
theorem pi_ez {X : Cx} {e e2 : Expr} {ta : TA} {p p2 pos pos2 tpos kp cp : Pos} {j : Nat} {elts : List Expr} {kk : Nat} (hg : Gl X "enumerate") (hm : X.mg "enumerate" = none) (hg2 : Gl X "zip") (hm2 : X.mg "zip" = none) (ha : PA X [e, e2] ta)
    (h1 : starEach [.Call (.Name "zip" p2) [e, e2] [⟨some (Str.ofString "strict"), .Constant (.bool true) j cp, kp⟩] pos2] X.env = [(false, eval (.Call (.Name "zip" p2) [e, e2] [⟨some (Str.ofString "strict"), .Constant (.bool true) j cp, kp⟩] pos2) X.env)] := by rfl)
    (hs : starEach [e, e2] X.env = (false, eval e X.env) :: starEach [e2] X.env := by rfl) (hpl : (backTo pos2 (starEach [e, e2] X.env)).any (·.1) = false := by rfl) :
    PI X (.Tuple elts kk tpos) (.Call (.Name "enumerate" p) [.Call (.Name "zip" p2) [e, e2] [⟨some (Str.ofString "strict"), .Constant (.bool true) j cp, kp⟩] pos2] [] pos) (iEz X.K ta) := by
  refine ⟨fun pins s σ H R I h => ?_⟩
  refine Call_ (ld_blt I hg hm boot_enumerate (PyProof.Rows.callWith_type1 ?_ h1 rfl))
  refine PyProof.Rows.args_cons ?_ h1
  refine wpAny_Call_Name_kw (ld_blt I hg2 hm2 PyProof.Rows.boot_zip ?_)
  refine cw_tkw (thn (ha.run pos2 pins s σ H _ I h) fun us s1 ⟨vs, H1, I1, r1, q1⟩ => ?_) (by rw [hs] <;> rfl) hpl
  have hk : PK X [⟨some (Str.ofString "strict"), .Constant (.bool true) j cp, kp⟩] (tCons (tC (.bl true)) tNil) := pk_cons pe_bl pk_nil
  refine thn (hk.run pos2 pins s1 σ H1 (fun zs H2 => zs = [V.bl true] ∧ H1 = H2) I1 ⟨rfl, rfl⟩) fun ws s2 ⟨zs, H2, I2, r2, ez, eH⟩ => ?_
  subst ez eH
  obtain ⟨wv, rfl, rw1⟩ := r2.one
  cases (show wv = Value.bool true from rw1)
  show wpAny _ _ (call (.type "zip") us [(Str.ofString "strict", .bool true)]) _ _ _
  obtain ⟨a, b, xs, ys, ex, hqx, hqy, q⟩ := q1
  subst ex
  obtain ⟨u1, u2, rfl, ra, rb⟩ := vals2 r1
  cases (show u1 = Value.ref a from ra)
  cases (show u2 = Value.ref b from rb)
  obtain ⟨its, rv, p1, _⟩ := I2.list hqx
  obtain ⟨its2, rv2, p3, _⟩ := I2.list hqy
  refine call_zipS p1.isList p3.isList fun h' hz hTI hTO i1 i2 hsz hk => ?_
  have I3 : Inv X pins σ H1 { s2 with heap := h' } := I2.kept (t' := s2.toks) hk
  refine PyProof.Rows.args_nil ?_
  refine call_enumZ (s := { s2 with heap := h' }) hz fun h2 he hk2 => wpAny_pyIter_enum he ?_
  have I4 : Inv X pins σ H1 { s2 with heap := h2 } := I3.kept (t' := s2.toks) hk2
  have D := PySem.W.ktu_apart s2.heap.objs.size a b p1.lt p3.lt
  have sz : h'.objs.size = s2.heap.objs.size + 5 := hsz
  refine ⟨_, [h'.objs.size, s2.heap.objs.size + 4, s2.heap.objs.size + 2, s2.heap.objs.size + 3, s2.heap.objs.size, s2.heap.objs.size + 1], _, _, H1, rfl, I4, turn_ez D ⟨?_, ?_, ?_, ?_, ?_⟩, ⟨⟨_, he⟩, ⟨_, _, hk2 _ _ hz, .inl rfl⟩, hk2 _ _ hTI, ⟨_, _, hk2 _ _ hTO⟩, i1.at fun o q => hk2 _ _ q, i2.at fun o q => hk2 _ _ q⟩, fun c hcm => ?_, q⟩
  · rw [sz]; exact Nat.ne_of_lt (Nat.lt_succ_self _)
  · rw [sz]; exact Nat.ne_of_lt (by omega)
  · rw [sz]; exact Nat.ne_of_lt (by omega)
  · rw [sz]; exact Nat.ne_of_lt (by omega)
  · rw [sz]; exact Nat.ne_of_lt (by omega)
  · have hle : s2.heap.objs.size ≤ c := by
      have e' : c = h'.objs.size ∨ c = s2.heap.objs.size + 4 ∨ c = s2.heap.objs.size + 2 ∨ c = s2.heap.objs.size + 3 ∨ c = s2.heap.objs.size ∨ c = s2.heap.objs.size + 1 := by simpa using hcm
      rw [sz] at e'
      rcases e' with z | z | z | z | z | z <;> (rw [z]; omega)
    exact I2.fpOk hle (I2.hok.fresh hle)
end

/-! ## Ru2 -/
section
set_option maxHeartbeats 4000000
open PySem PySem.Spec PyProof.Rows L2
section
variable {X : Cx} {K : PySem.W.Frag} {σ : L2.St} {H H0 : Hp} {Q : VK} {a p : Addr} {xs ys : List V} {l : List (Addr × HO)} {te ty tx to ti : TE} {x y v : V} {ta tk : TA} {pos apos cpos : Pos} {o e : Expr} {es : List Expr} {f m : Str} {z : Hp → Prop}
/-! ### attributes as targets -/
def gFld (K : PySem.W.Frag) (to : TE) (f : Str) : TG := fun v σ H q => to σ H fun x H1 => Wp K f v x H1 fun H2 => q σ H2
theorem pg_at (ho : PE X o to) : PG X (.Attribute o f pos) (gFld X.K to f) := by
  refine ⟨fun pins s σ H v u Q I r h => ?_⟩
  show wpAny _ _ (do
    let ov ← holding [u] (eval o X.env)
    standAt pos.atName
    holding [u, ov] (setAttr ov f u)
    release [u, ov] []) _ _ _
  refine wpAny_bind (wpAny_holding (thn (ho.run pins s σ H _ I h) fun ov s1 ⟨x, H1, I1, r1, a, C, dx, fs, ex, ea, c, n, l, q⟩ => wpAny_bind (wpAny_standAt ?_)))
  subst ex
  obtain rfl : ov = Value.ref a := r1
  exact wpAny_bind (wpAny_holding (setattr_ok I1 ea c n l r fun s2 I2 => wpAny_release ⟨σ, _, I2, q⟩))
theorem g_gfld {q : L2.St → Hp → Prop} (k : to σ H fun x H1 => Wp K f v x H1 fun H2 => q σ H2) : gFld K to f v σ H q := k
/-! ### xs[i] op= e -/
theorem get_list : PGet X (rIxL X.K) := by
  intro pins s σ H o i ov iv Q I ro ri h
  obtain ⟨p, xs, k, w, rfl, rfl, hq, he, q⟩ := h
  cases ro
  obtain ⟨t, rfl⟩ := ri
  obtain ⟨its, r, pl, hz⟩ := I.list hq
  obtain ⟨j, h1, h2, h3, h4, h5⟩ := atI_get he
  obtain ⟨u, ew, rw'⟩ := r.get h2
  have hl := r.length
  have hn := line63
  have fin : EP X pins σ Q u s := ⟨w, H, I, rw', q⟩
  by_cases h0 : 0 ≤ k
  · have hj : k.toNat = j := by
      rw [seqIndex_of h0 h5] at h1
      exact Option.some.inj h1
    exact wpAny_mono (wpAny_getItem_list (Q := fun r s' => r = u ∧ EP X pins σ Q r s') pl.isList h0 (by omega) (by rw [hj]; simpa using ew) ⟨rfl, fin⟩) (fun r s' h => h.2) fun _ _ h => h
  · have hj : (k + (its.toArray.size : Int)).toNat = j := by
      rw [seqIndex_neg (by omega) h4] at h1
      rw [List.size_toArray, ← hl]
      exact Option.some.inj h1
    exact wpAny_mono (wpAny_getItem_list_neg (Q := fun r s' => r = u ∧ EP X pins σ Q r s') pl.isList (by omega) (by rw [List.size_toArray] <;> omega) (by omega) (by rw [hj]; simpa using ew) ⟨rfl, fin⟩) (fun r s' h => h.2) fun _ _ h => h
theorem g_augS {tget : R2} {tip : TIp} {tset : TSet} {nx bk ct : L2.St → Hp → Prop} {rt : VK} (q : to σ H fun o H1 => ti σ H1 fun i H2 => tget o i H2 fun x H3 => te σ H3 fun y H4 => tip x y H4 fun z H5 => tset o i z H5 fun H6 => nx σ H6) : tAugS to ti te tget tip tset ⟨nx, rt, bk, ct⟩ σ H := q
theorem g_setL {k : Int} {j : Nat} {xs : List V} (h : H p = some (.lst xs)) (e : ixN xs.length k = some j) (q : Upd H p (.lst (xs.set j v)) z) : rSetL (.ref p) (.int k) v H z := ⟨p, xs, k, j, rfl, rfl, h, e, q⟩
/-! ### dicts by names -/
def DpP (y x : V) (H : Hp) (Q : VK) : Prop := ∃ a kvs k v, x = .ref a ∧ H a = some (.dK kvs) ∧ y = kV k ∧ valV kvs k = some v ∧ Upd H a (.dK (dropK kvs k)) (Q v)
/-! ### min(xs, default=None) of ints -/
def rMinD (K : PySem.W.Frag) : List V → List V → Hp → VK → Prop := fun vs zs H Q => ∃ (a : Addr) (ns : List Int), vs = [V.ref a] ∧ zs = [V.non] ∧ SqL K H a (ns.map V.int) ∧ (ns = [] → Q .non H) ∧ (∀ m, m ∈ ns → (∀ y, y ∈ ns → m ≤ y) → Q (.int m) H)
theorem cr_minD (hc : X.calm = true) : CallRK X (.builtin "min") [Str.ofString "default"] (rMinD X.K) := by
  intro pins s σ H vs zs us ws Q I r rz h
  obtain ⟨a, ns, rfl, rfl, hs, h0, h1⟩ := h
  obtain ⟨u, rfl, ru⟩ := r.one
  cases (show u = Value.ref a from ru)
  obtain ⟨w, rfl, rw1⟩ := rz.one
  cases (show w = Value.none from rw1)
  obtain ⟨its, rv, hl, _⟩ := I.list hs
  have hi := rv.ints
  have hlen : its.length = ns.length := by rw [← rv.length, List.length_map]
  have at_ : ∀ {i : Nat} {v : Value}, its.toArray[i]? = some v → ∃ t, v = .int (ns.getD i 0) t ∧ i < ns.length := fun {i v} e => by
    have e' : its[i]? = some v := by simpa using e
    have hi' : i < ns.length := by rw [← hlen]; exact (List.getElem?_eq_some_iff.mp e').1
    have e1 : (ns.map V.int)[i]? = some (V.int ns[i]) := by rw [List.getElem?_map, List.getElem?_eq_getElem hi'] <;> rfl
    obtain ⟨u, e2, r1⟩ := rv.get e1
    rw [e'] at e2
    cases e2
    obtain ⟨t, rfl⟩ := r1
    exact ⟨t, by rw [List.getD_eq_getElem?_getD, List.getElem?_eq_getElem hi'] <;> rfl, hi'⟩
  show wpAny _ _ (call (.builtin "min") [.ref a] [(Str.ofString "default", .none)]) _ _ _
  refine call_min_walkD (PySem.W.iter_listW (A := X.A.in1) (I.ok.hd hc) hl.isList fun s₂ e W st hfp hw hk => ?_)
  refine ⟨_, _, _, _, _, _, _, s.heap, (fun i j => decide (ns.getD i 0 < ns.getD j 0)), rfl, W, st, hfp, hw, hk, fun hz s' m => ?_, fun hp => ⟨?_, fun v s' hP m => ?_⟩⟩
  · obtain ⟨h', tk, rfl, hk'⟩ := PySem.W.moved_old e rfl m
    have e0 : ns = [] := List.eq_nil_of_length_eq_zero (by rw [← hlen]; simpa using hz)
    exact ⟨.non, H, I.kept hk', rfl, h0 e0⟩
  · intro i j vi vj s' Q' E' _ hi' hj' hq
    exact CmpOf.ints_lt (P := fun i v => its.toArray[i]? = some v) (fun i => ns.getD i 0) (fun i v e => let ⟨t, e', _⟩ := at_ e; ⟨t, e'⟩) i j vi vj s' Q' E' hi' hj' hq
  · obtain ⟨h', tk, rfl, hk'⟩ := PySem.W.moved_old e rfl m
    obtain ⟨g1, g2⟩ := argBest_lt (fun i => ns.getD i 0) (its.toArray.size - 1)
    obtain ⟨t, rfl, hlt⟩ := at_ hP
    refine ⟨.int _, H, I.kept hk', ⟨_, rfl⟩, h1 _ ?_ fun y hy => ?_⟩
    · rw [List.getD_eq_getElem?_getD, List.getElem?_eq_getElem hlt]
      exact List.getElem_mem hlt
    · obtain ⟨j, hj, rfl⟩ := List.mem_iff_getElem.mp hy
      have h2 := g2 j (by rw [List.size_toArray, hlen]; omega)
      rw [List.getD_eq_getElem?_getD (l := ns) (i := j), List.getElem?_eq_getElem hj] at h2
      exact h2
theorem g_ckw {r : List V → List V → Hp → VK → Prop} (q : ta σ H fun vs H1 => tk σ H1 fun zs H2 => r vs zs H2 Q) : tCKw r ta tk σ H Q := q
/-! ### a method called with keywords -/
section
variable {CX : CXT} {k j n : Nat} {C : Addr} {fd : FuncData} {ps ks : List Str} {sp : Sp} {kws : List Keyword} {g : List Value → List Value → List Value} {gV : List V → List V → List V}
def tMethN (C : Addr) (m : Str) (n nk : Nat) (sp : Sp) (gV : List V → List V → List V) (E : XK) (ta : TE) (t tk : TA) : TE := fun σ H Q => ta σ H fun x H1 => ∃ a dx fs, x = .ref a ∧ H1 a = some (.ins C dx fs) ∧ fs.lookup m = none ∧
  t σ H1 fun vs H2 => tk σ H2 fun zs H3 => vs.length = n ∧ zs.length = nk ∧ sp (gV (.ref a :: vs) zs) H3 Q E
theorem pe_mN {pl : Sem Bool} {fa : Addr} {tO : TE} (he : PE X o tO) (c : Cls X.K C) (hm : Meth X.K C m fa) (F : FnOk X.prog X.w X.K X.mg X.base CX k fa fd ps sp) (hr : Room k X.A) (hb : KBn X.K fd ps (n + 1) ks g gV) (hx : Passes CX X E0)
    (ha : PA X (e :: es) ta) (hkw : PK X kws tk) (hall : (backToKw pos (keywordEach kws X.env)).all (·.1.isSome) = true := by rfl) (hks : (backToKw pos (keywordEach kws X.env)).filterMap (·.1) = ks := by rfl)
    (hst : starEach (e :: es) X.env = (false, eval e X.env) :: starEach es X.env := by rfl) (hpl : ((backTo pos (starEach (e :: es) X.env)).any (·.1) || (backToKw pos (keywordEach kws X.env)).any (·.1.isNone)) = false := by rfl)
    (ht : eval (.Call (.Attribute o m apos) (e :: es) kws pos) X.env = (do let ov ← eval o X.env; standAt apos.atName; let (f, first) ← holding [ov] (getMethod ov m pl); callWith pos f first (backTo pos (starEach (e :: es) X.env)) (backToKw pos (keywordEach kws X.env))) := by rfl) :
    PE X (.Call (.Attribute o m apos) (e :: es) kws pos) (tMethN C m n ks.length sp gV E0 tO ta tk) := by
  refine ⟨fun pins s σ H Q I h => ?_⟩
  refine PySem.W.methodCall_KW (pl := pl) (thn (he.run pins s σ H _ I h) fun u s1 ⟨x, H1, I1, rx, a, dx, fs, ex, ea, l, q⟩ => ?_) ht
  subst ex
  obtain rfl : u = Value.ref a := rx
  refine getmeth_ok I1 ea c hm l ?_
  refine PySem.W.callWith_KW (first := [.ref a]) (h₀ := X.base) I.ok.mod.kin hm.kp hall (thn (ha.run pos pins s1 σ H1 _ I1 q) fun us s2 ⟨vs, H2, I2, r, q2⟩ => ?_) hpl hst
  refine thn (hkw.run pos pins s2 σ H2 _ I2 q2) fun ws s3 ⟨zs, H3, I3, rz, l1, l2, q3⟩ => ⟨I3.kIn, ?_⟩
  rw [hks]
  exact run_fnN (us := .ref a :: us) (vs := .ref a :: vs) F hr hb hx I3 (.cons rfl r) rz (by rw [List.length_cons, l1]) l2 q3
end
end
/-! ### while -/
def WhP (I : L2.St → Hp → List (Addr × HO) → Nat → Prop) : L2.St → Hp → Prop := fun σ H => ∃ H0 l m, SH H0 l H ∧ I σ H0 l m
/-- a turn has come with the measure below m -/
def Wh' (I : L2.St → Hp → List (Addr × HO) → Nat → Prop) (m : Nat) : L2.St → Hp → Prop := fun σ H => ∃ H0 l m', m' < m ∧ SH H0 l H ∧ I σ H0 l m'
theorem while_I {c : TT} {tb : TS} {nx bk ct : L2.St → Hp → Prop} {rt : VK} {σ : L2.St} {H H0 : Hp} {l : List (Addr × HO)} {m : Nat} (I : L2.St → Hp → List (Addr × HO) → Nat → Prop) (S : SH H0 l H) (i0 : I σ H0 l m)
    (turn : ∀ σ' H0' l' m' H', I σ' H0' l' m' → SH H0' l' H' → c σ' H' fun b H1 => if b = true then tb ⟨Wh' I m', rt, nx, Wh' I m'⟩ σ' H1 else nx σ' H1)
    (mono : ∀ σ H Q Q', (∀ b H1, Q b H1 → Q' b H1) → c σ H Q → c σ H Q') : tWhile c tb ⟨nx, rt, bk, ct⟩ σ H := by
  refine ⟨fun m σ H => ∃ H0 l, SH H0 l H ∧ I σ H0 l m, ⟨m, H0, l, S, i0⟩, ?_⟩
  rintro m' σ' H' ⟨H0', l', S', p⟩
  refine mono σ' H' _ _ (fun b H1 q => ?_) (turn σ' H0' l' m' H' p S')
  cases b with
  | true => exact ⟨Wh' I m', fun σ2 H2 ⟨H02, l2, m2, lt, S2, p2⟩ => ⟨m2, lt, H02, l2, S2, p2⟩, q⟩
  | false => exact q
/-! ### the walk of enumerate(zip(a, b, strict=True)) -/
def ForEz (K : PySem.W.Frag) (vs : List V) (g : TG) (tb : TS) (D : Ends) (σ : L2.St) (H : Hp) : Prop := ∃ a b xs ys, vs = [V.ref a, V.ref b] ∧ SqL K H a xs ∧ SqL K H b ys ∧ ForP (fun R => R (Itez K a b) H) g tb D σ
section
variable {K : PySem.W.Frag} {σ : L2.St} {H H0 : Hp} {Q rt : VK} {a b : Addr} {xs ys : List V} {l : List (Addr × HO)} {g : TG} {tb : TS} {nx bk ct : L2.St → Hp → Prop} {tA : TA}
theorem g_forEz {D : Ends} (q : tA σ H fun v H1 => ForEz K v g tb D σ H1) : tFor (iEz K tA) g tb D σ H := q
theorem for_Ez (I : Wd) (S : SH H0 l H) (i0 : I 0 σ H0 l) (hl : xs.length = ys.length) (hx : ∀ i σ' H0' l' H', I i σ' H0' l' → SH H0' l' H' → SqL K H' a xs ∧ SqL K H' b ys)
    (turn : ∀ i x y T R σ' H0' l' H', xs[i]? = some x → ys[i]? = some y → I i σ' H0' l' → SH H0' ((R, .tup [.int (i : Nat), .ref T]) :: (T, .tup [x, y]) :: l') H' → g (.ref R) σ' H' fun σ2 H2 => tb ⟨At I (i + 1), rt, nx, At I (i + 1)⟩ σ2 H2)
    (done : ∀ σ' H0' l' H', I xs.length σ' H0' l' → SH H0' l' H' → nx σ' H') : ForEz K [.ref a, .ref b] g tb ⟨nx, rt, bk, ct⟩ σ H :=
  ⟨a, b, xs, ys, rfl, (hx _ _ _ _ _ i0 S).1, (hx _ _ _ _ _ i0 S).2, for_core (y := fun i v H H2 => ∃ T R x y, v = .ref R ∧ H T = none ∧ upd H T (.tup [x, y]) R = none ∧ H2 = upd (upd H T (.tup [x, y])) R (.tup [.int (i : Nat), .ref T]) ∧ xs[i]? = some x ∧ ys[i]? = some y) I S i0
    (fun i σ' H0' l' H' hi p S' => by
      obtain ⟨q1, q2⟩ := hx _ _ _ _ _ p S'
      refine ⟨fun hlt => ⟨⟨xs, ys, xs[i], ys[i]'(by omega), q1, q2, by simp [hlt], by simp⟩, fun v H2 ⟨T, R, x, y, e1, e2, e3, e4, e5, e6⟩ => ⟨T, R, x, y, e1, e2, e3, e4, e5 xs q1, e6 ys q2⟩⟩, fun e => ⟨xs, ys, q1, q2, by omega, by omega⟩⟩)
    (fun i v σ' H0' l' H' H2 hi p S' yl => by
      obtain ⟨T, R, x, y, rfl, e2, e3, rfl, e5, e6⟩ := yl
      exact turn i x y T R σ' H0' l' _ e5 e6 p ((S'.new e2).new e3)) done⟩
end
end

/-! ## Ru3 -/
section
set_option maxHeartbeats 4000000
open PySem PySem.Spec PyProof.Rows L2
/-! ### list(d.keys()) -/
def rKeysL (x : V) (H : Hp) (Q : VK) : Prop := ∃ (d : Addr) (kvs : List (Key × V)), x = .ref d ∧ H d = some (.dK kvs) ∧ New (.lst (kvs.map fun kv => kV kv.1)) H Q
def tListKeys (te : TE) : TE := fun σ H Q => te σ H fun x H1 => rKeysL x H1 Q
section
variable {X : Cx} {e : Expr} {te : TE} {p apos cpos pos : Pos}
theorem pe_listKeys (hc : X.calm = true) (he : PE X e te) (hg : Gl X "list") (hm : X.mg "list" = none) (hbase : attributeBase e "keys" X.env (eval e X.env) = eval e X.env := by rfl) (hline : (apos.endLine == cpos.line) = true := by rfl)
    (hs : starEach [.Call (.Attribute e "keys" apos) [] [] cpos] X.env = (false, eval (.Call (.Attribute e "keys" apos) [] [] cpos) X.env) :: starEach [] X.env := by rfl) :
    PE X (.Call (.Name "list" p) [.Call (.Attribute e "keys" apos) [] [] cpos] [] pos) (tListKeys te) := by
  refine ⟨fun pins s σ H Q I hq => ?_⟩
  refine wpAny_Call_Name_kw (ld_blt I hg hm PyProof.Rows.boot_list (PyProof.Rows.callWith_type1 ?_ hs rfl))
  rw [hs]
  refine Calls.spliced_cons ?_
  refine wpAny_Call_method (T := "dict") (id := "dict.keys") hbase rfl hline F.plainAttrs_dict F.slot_dict_keys F.type_dict_keys (thn (he.run pins s σ H _ I hq) fun u s1 ⟨x, H1, I1, rx, d, kvs, ex, hd, q⟩ => ?_)
  subst ex
  obtain rfl : u = Value.ref d := rx
  obtain ⟨hz, hs0, vs, kv, hdo⟩ := I1.hok d _ hd
  obtain ⟨ep, hat⟩ := hdo.dictAt
  have I2 : Inv X pins σ H1 { s1 with heap := s1.heap.push { cls := .type "dict_keys", data := .fields #[.ref d] } } := I1.kept (t' := s1.toks) fun b ob q => Heap.get?_push_of_some _ q
  refine ⟨hdo.typeIs, hdo.mapOf.noDict, ?_⟩
  show wpAny _ _ (callWith cpos (.builtin "dict.keys") [.ref d] [] []) _ X.xe s1
  refine method_meetsIn F.slot_dict_keys F.entry_dict_keys rfl (PySem.evalArgs_none ⟨rfl, hdo.typeIs, F.args_dict_keys_1 _, _, PySem.W.kdl_meets_keys (mixKind X.prog X.w) d hs0, ⟨vs, hdo⟩, ?_⟩)
  refine Calls.spliced_nil ?_
  have ek : (kvs.map fun kv => kV kv.1) = vs.map fun p => kV p.1 := by
    have e := congrArg (List.map kV) kv.keys
    rw [List.map_map, List.map_map] at e
    exact e
  refine PySem.W.kdl_call (s := { s1 with heap := s1.heap.push { cls := .type "dict_keys", data := .fields #[.ref d] } }) (PySem.W.kdl_keys (knd := mixKind X.prog X.w) (kvs := vs) (ep := ep) (d := d) (r := s1.heap.objs.size)) (I2.ok.hd hc) ⟨⟨_, Heap.get?_push_size _ rfl, rfl, rfl⟩, hat.push _⟩ (by rw [← kv.length]; exact hz) fun h' tk acc c' hk hD hacc => ?_
  have hv : Vals (vs.map fun p => kV p.1) acc.toList := keys_at (by rw [Array.length_toList]; exact hacc.1) fun j v e => hacc.2 j v (by rw [← Array.getElem?_toList]; exact e)
  have hN : H1 (s1.heap.push { cls := .type "dict_keys", data := .fields #[.ref d] }).objs.size = none := I2.hok.fresh (Nat.le_refl _)
  exact ⟨.ref _, _, I2.laid (t' := tk) (a := (s1.heap.push { cls := .type "dict_keys", data := .fields #[.ref d] }).objs.size) hk (Nat.le_refl _)
    (show ObjOk X.prog X.w _ _ _ (.lst (kvs.map fun kv => kV kv.1)) from ⟨by rw [List.length_map]; exact hz, acc.toList, c', by rw [ek]; exact hv, by rw [Array.toArray_toList]; exact hD⟩), rfl, q _ hN⟩
end
/-! ### dicts by names -/
section
variable {X : Cx} {K : PySem.W.Frag} {σ : L2.St} {H H0 : Hp} {Q rt : VK} {a p : Addr} {l : List (Addr × HO)} {td te ty tx tv : TE} {x y v w : V} {kvs : List (Key × V)} {R : Addr → Prop} {z : Str} {i : Int} {nx bk ct : L2.St → Hp → Prop}
def OnD (x : V) (H : Hp) (R : Addr → Prop) : Prop := ∃ a, x = .ref a ∧ IsD H a ∧ R a
theorem g_onD (h : H a = some (.dK kvs)) (q : R a) : OnD (.ref a) H R := ⟨a, rfl, .inl ⟨kvs, .inl h⟩, q⟩
def Dp1 (a : Addr) (y : V) (H : Hp) (Q : VK) : Prop := ∃ kvs k v, H a = some (.dK kvs) ∧ y = kV k ∧ valV kvs k = some v ∧ Q v (upd H a (.dK (dropK kvs k)))
theorem g_dpop1 (q : td σ H fun x H1 => OnD x H1 fun a => ty σ H1 fun y H2 => Dp1 a y H2 Q) : tDPop1 td ty σ H Q := q
theorem g_dp1S (h : H a = some (.dK kvs)) (e : valV kvs (Sum.inr z) = some v) (q : Upd H a (.dK (dropK kvs (Sum.inr z))) fun H1 => Q v H1) : Dp1 a (.str z) H Q := ⟨kvs, _, v, h, rfl, e, q⟩
def Dp2 (a : Addr) (y w : V) (H : Hp) (Q : VK) : Prop := ∃ kvs k, H a = some (.dK kvs) ∧ y = kV k ∧ (∀ v, valV kvs k = some v → Q v (upd H a (.dK (dropK kvs k)))) ∧ (valV kvs k = none → Q w H)
theorem g_dpop2 (q : td σ H fun x H1 => OnD x H1 fun a => ty σ H1 fun y H2 => tx σ H2 fun w H3 => Dp2 a y w H3 Q) : tDPop2 td ty tx σ H Q := q
theorem g_dp2I (h : H a = some (.dK kvs)) (q1 : ∀ v, valV kvs (Sum.inl i) = some v → Upd H a (.dK (dropK kvs (Sum.inl i))) fun H1 => Q v H1) (q2 : valV kvs (Sum.inl i) = none → Q w H) : Dp2 a (.int i) w H Q := ⟨kvs, _, h, rfl, q1, q2⟩
def Ds2 (a : Addr) (y w : V) (H : Hp) (Q : VK) : Prop := ∃ (kvs : List (Key × V)) (k : Key), H a = some (.dK kvs) ∧ y = kV k ∧ kvs.length < sizeLine ∧ (∀ v, valV kvs k = some v → Q v H) ∧ (valV kvs k = none → Q w (upd H a (.dK (putK kvs k w))))
theorem g_dsetd (q : td σ H fun x H1 => OnD x H1 fun a => ty σ H1 fun y H2 => tx σ H2 fun w H3 => Ds2 a y w H3 Q) : tDSetd td ty tx σ H Q := q
theorem g_ds2I (h : H a = some (.dK kvs)) (n : kvs.length ≤ 1000000) (q1 : ∀ v, valV kvs (Sum.inl i) = some v → Q v H) (q2 : valV kvs (Sum.inl i) = none → Upd H a (.dK (putK kvs (Sum.inl i) w)) fun H1 => Q w H1) : Ds2 a (.int i) w H Q := ⟨kvs, _, h, rfl, Nat.lt_of_le_of_lt n (by decide), q1, q2⟩
def DwP (y v x : V) (H : Hp) (z : Hp → Prop) : Prop := ∃ a H4, x = .ref a ∧ DPut H a y v H4 ∧ z H4
theorem g_dput (q : tv σ H fun v H1 => td σ H1 fun x H2 => ty σ H2 fun y H3 => DwP y v x H3 fun H4 => nx σ H4) : sDPut td ty tv ⟨nx, rt, bk, ct⟩ σ H := q
theorem g_dwS {z' : Hp → Prop} (h : H a = some (.dK kvs)) (n : kvs.length ≤ 1000000) (q : Upd H a (.dK (putK kvs (Sum.inr z) v)) z') : DwP (.str z) v (.ref a) H z' := ⟨a, _, rfl, .k (k := Sum.inr z) h (Nat.lt_of_le_of_lt n (by decide)), q⟩
theorem g_lkeys (q : te σ H fun x H1 => rKeysL x H1 Q) : tListKeys te σ H Q := q
theorem g_rkeys (h : H a = some (.dK kvs)) (q : New (.lst (kvs.map fun kv => kV kv.1)) H Q) : rKeysL (.ref a) H Q := ⟨a, kvs, rfl, h, q⟩
end
end

/-! ## Sm -/
section
set_option maxHeartbeats 4000000
open PySem PySem.Spec PyProof.Rows L2
/-! ### sum(lists, start=[]) -/
abbrev lsO (vs : List Value) (n : Nat) : Obj := { cls := .type "list", data := .seq vs.toArray n }
section
variable {prog : Program} {w : World} {A : Around} {R : Result → Shared → Prop} {I a S T0 : Addr} {n : Nat} {P : Nat → Value → Prop} {St : Nat → Shared → Prop}
structure SumEnd (H0 : Heap) (s s' : Shared) (S T0 : Addr) (n : Nat) (fin : List Value) (T' : Addr) : Prop where
  gens : s'.gens = s.gens
  drawn : s'.drawn = s.drawn
  os : s'.os = s.os
  keep : ∀ b o, H0.get? b = some o → s'.heap.get? b = some o
  at_ : ∃ c, s'.heap.get? T' = some (lsO fin c)
  new : (n = 0 ∧ T' = T0) ∨ S < T'
theorem sumL_loop (W : WalksS prog w A.in1 I [I, a] [I] (fun a b => b = a) n P St) (H0 : Heap) (s0 : Shared) (xss : List (List Value)) (h00 : H0.get? T0 ≠ none) (hI0 : H0.get? I = none) (hS0 : H0.get? S = none) (hSI : I < S) (ha : a < I) (hn : xss.length = n) (hsz : xss.flatten.length ≤ 100000)
    (hval : ∀ i v, P i v → ∃ b its c, v = .ref b ∧ xss[i]? = some its ∧ H0.get? b = some (lsO its c))
    (hR : ∀ s' T', SumEnd H0 s0 s' S T0 n xss.flatten T' → R (.ok (.ret (.ref T'))) s') :
    ∀ (k i : Nat) (s : Shared) (T : Addr) (c c2 : Nat), n - i = k → i ≤ n → St i s → s.heap.get? S = some (lsO [.ref T] c) → s.heap.get? T = some (lsO (xss.take i).flatten c2) → ((i = 0 ∧ T = T0) ∨ S < T) →
      (∀ b o, H0.get? b = some o → s.heap.get? b = some o) → s.gens = s0.gens → s.drawn = s0.drawn → s.os = s0.os →
      codeAny (model prog w) A (.builtin "sum.loop" ⟨[.ref I, .ref S, rawInt 2, rawInt 0], []⟩) R s := by
  intro k
  induction k with
  | zero =>
    intro i s T c c2 hk hi hst hS hT hTn hkp g1 g2 g3
    have hin : i = n := by omega
    subst hin
    refine codeAny_builtin F.entry_sum_loop ?_
    rw [Around.under_plainId F.plain_sum_loop _]
    show wpAny _ A.in1 (seqItems? (.ref S) >>= _) _ _ s
    refine wpAny_bind (wpAny_seqItems hS rfl ?_)
    show wpAny _ A.in1 (tryCatch (pyNext (.ref I)) _ >>= _) _ _ s
    refine wpAny_bind (wpAny_tryCatch (W.done s _ _ hst fun s' hm => ?_))
    rw [← hn, List.take_length] at hT
    have hTI : T ≠ I := by
      rcases hTn with ⟨_, e⟩ | e
      · intro z
        rw [← e, z] at h00
        exact h00 hI0
      · exact Nat.ne_of_gt (Nat.lt_trans hSI e)
    exact wpAny_pure (hR s' T ⟨(show s'.gens = s.gens from hm.gens).trans g1, hm.drawn.trans g2, hm.os.trans g3, fun b o e => hm.heap b o (fun z => by rw [List.mem_singleton.mp z, hI0] at e; cases e) (hkp b o e), ⟨_, hm.heap _ _ (fun z => hTI (List.mem_singleton.mp z)) hT⟩, hTn⟩)
  | succ k ih =>
    intro i s T c c2 hk hi hst hS hT hTn hkp g1 g2 g3
    have hlt : i < n := by omega
    refine codeAny_builtin F.entry_sum_loop ?_
    rw [Around.under_plainId F.plain_sum_loop _]
    show wpAny _ A.in1 (seqItems? (.ref S) >>= _) _ _ s
    refine wpAny_bind (wpAny_seqItems hS rfl ?_)
    show wpAny _ A.in1 (tryCatch (pyNext (.ref I)) _ >>= _) _ _ s
    refine wpAny_bind (wpAny_tryCatch (W.item i s _ _ hlt hst fun v s' hP hst' hm => ?_))
    obtain ⟨b, its, c3, rfl, hx, hb⟩ := hval i v hP
    have hTI : T ≠ I := by
      rcases hTn with ⟨_, e⟩ | e
      · intro z
        rw [← e, z] at h00
        exact h00 hI0
      · exact Nat.ne_of_gt (Nat.lt_trans hSI e)
    have hTS : T ≠ S := by
      rcases hTn with ⟨_, e⟩ | e
      · intro z
        rw [← e, z] at h00
        exact h00 hS0
      · exact Nat.ne_of_gt e
    have hkp' : ∀ b o, H0.get? b = some o → s'.heap.get? b = some o := fun b o e => hm.heap b o (fun z => by rw [List.mem_singleton.mp z, hI0] at e; cases e) (hkp b o e)
    have hS' := hm.heap S _ (fun z => Nat.ne_of_gt hSI (List.mem_singleton.mp z)) hS
    have hT' := hm.heap T _ (fun z => hTI (List.mem_singleton.mp z)) hT
    have fl : (xss.take (i + 1)).flatten = (xss.take i).flatten ++ its := by rw [List.take_add_one, hx, List.flatten_append] <;> simp
    have le : (xss.take (i + 1)).flatten.length ≤ xss.flatten.length := by
      conv => rhs; rw [← List.take_append_drop (i + 1) xss, List.flatten_append, List.length_append]
      exact Nat.le_add_right _ _
    have l2 : (xss.take i).flatten.length + its.length ≤ 100000 := by rw [← List.length_append, ← fl]; omega
    show wpAny _ A.in1 ((holding [Value.ref b] (binaryOp .Add (.ref T) (.ref b))).attempt >>= _) _ _ _
    refine wpAny_bind (wpAny_attempt (wpAny_holding (PySem.P.add_list hT' (hkp' _ _ hb) ?_ (by rw [List.size_toArray, List.size_toArray, sizeLine_eq]; omega))))
    have ea : (xss.take i).flatten.toArray ++ its.toArray = ((xss.take (i + 1)).flatten).toArray := by rw [fl]; simp
    rw [ea]
    have hSp : S < s'.heap.objs.size := Heap.lt_size hS'
    have hS2 : (s'.heap.push (lsO (xss.take (i + 1)).flatten 0)).get? S = some (lsO [.ref T] c) := Heap.get?_push_of_some _ hS'
    show wpAny _ A.in1 (updateSeq S (fun _ => #[.ref s'.heap.objs.size]) >>= _) _ _ _
    refine wpAny_bind (wpAny_updateSeq hS2 rfl ?_)
    have hS3 := Heap.get?_update_self (Obj.mapSeq fun _ => #[Value.ref s'.heap.objs.size]) hS2 rfl
    refine wpAny_bind (wpAny_letGo ?_)
    refine wpAny_bind (wpAny_updateSeq hS3 rfl (wpAny_pure ⟨plainId_quiet F.plain_sum_loop _, ?_⟩))
    have hS4 := Heap.get?_update_self (Obj.mapSeq fun _ => #[Value.ref s'.heap.objs.size]) hS3 rfl
    have oth : ∀ c o, c ≠ S → s'.heap.get? c = some o → ((((s'.heap.push (lsO (xss.take (i + 1)).flatten 0)).update S (Obj.mapSeq fun _ => #[Value.ref s'.heap.objs.size])).update S (Obj.mapSeq fun _ => #[Value.ref s'.heap.objs.size]))).get? c = some o := fun c o h e =>
      (Heap.get?_update_other _ _ (Ne.symm h)).trans ((Heap.get?_update_other _ _ (Ne.symm h)).trans (Heap.get?_push_of_some _ e))
    have newT : ((((s'.heap.push (lsO (xss.take (i + 1)).flatten 0)).update S (Obj.mapSeq fun _ => #[Value.ref s'.heap.objs.size])).update S (Obj.mapSeq fun _ => #[Value.ref s'.heap.objs.size]))).get? s'.heap.objs.size = some (lsO (xss.take (i + 1)).flatten 0) :=
      (Heap.get?_update_other _ _ (Nat.ne_of_lt hSp)).trans ((Heap.get?_update_other _ _ (Nat.ne_of_lt hSp)).trans (Heap.get?_push_size _ rfl))
    refine ih (i + 1) _ s'.heap.objs.size _ 0 (by omega) hlt (W.frame _ s' _ _ hst' (Nat.le_refl _) fun c hc o e => oth c o (fun z => ?_) e) hS4 newT (.inr hSp) (fun b o e => oth b o (fun z => by rw [z, hS0] at e; cases e) (hkp' b o e)) ((show s'.gens = s.gens from hm.gens).trans g1) (hm.drawn.trans g2) (hm.os.trans g3)
    · rcases List.mem_cons.mp hc with q | q
      · rw [q] at z; exact Nat.ne_of_lt hSI z
      · rw [List.mem_singleton.mp q] at z; exact Nat.ne_of_lt (Nat.lt_trans ha hSI) z
end
theorem args_sumS (a v : Value) : argsOk "sum" ⟨[a], [(Str.ofString "start", v)]⟩ := by unfold argsOk; kernel_rfl
section
variable {prog : Program} {w : World} {A : Around} {E : Value → Shared → Prop} {s : Shared} {a T0 : Addr}
theorem call_sumL {vs : Array Value} {xss : List (List Value)} {c0 : Nat} {Q : Value → Shared → Prop} (hh : A.handled = none) (hl : s.heap.IsList a vs) (h0 : s.heap.get? T0 = some (lsO [] c0)) (hn : xss.length = vs.size) (hsz : xss.flatten.length ≤ 100000)
    (hval : ∀ (i : Nat) (v : Value), vs[i]? = some v → ∃ b its c, v = Value.ref b ∧ xss[i]? = some its ∧ s.heap.get? b = some (lsO its c))
    (hQ : ∀ h' tk T', (∀ b o, s.heap.get? b = some o → h'.get? b = some o) → (∃ c, h'.get? T' = some (lsO xss.flatten c)) → ((vs.size = 0 ∧ T' = T0) ∨ s.heap.objs.size ≤ T') → Q (.ref T') { s with heap := h', toks := tk }) :
    wpAny (model prog w) A (call (.builtin "sum") [.ref a] [(Str.ofString "start", .ref T0)]) Q E s := by
  refine PyProof.Rows.kmk_tree F.kind_sum F.plain_sum F.entry_sum (args_sumS _ _) ?_
  unfold Builtin.«sum»
  simp only [List.length_cons, List.length_nil]
  rw [if_neg (by decide)]
  refine wpAny_bind (wpAny_of_eq (show Builtin.Builtins.bindParams "sum" ["start"] 0 ⟨[], [(Str.ofString "start", .ref T0)]⟩ = pure [some (.ref T0)] from rfl) ?_)
  refine wpAny_bind (PySem.W.iter_listW (A := A.in1) hh hl fun s₂ e W st hfp hw hk => ?_)
  refine wpAny_bind (wpAny_pure ?_)
  have tyT : s₂.TypeIs (.ref T0) "list" := ⟨_, hk _ _ h0, rfl⟩
  simp only [List.forIn_cons, List.forIn_nil]
  refine wpAny_bind (wpAny_bind (wpAny_bind (wpAny_isInstance (T := "list") (b := false) tyT F.sub_list_str ?_)))
  simp only [Bool.false_eq_true, if_false]
  refine wpAny_pure (wpAny_bind (wpAny_bind (wpAny_isInstance (T := "list") (b := false) tyT F.sub_list_bytes ?_)))
  simp only [Bool.false_eq_true, if_false]
  refine wpAny_pure (wpAny_bind (wpAny_bind (wpAny_isInstance (T := "list") (b := false) tyT F.sub_list_bytearray ?_)))
  simp only [Bool.false_eq_true, if_false]
  refine wpAny_pure (wpAny_pure ?_)
  refine wpAny_bind (wpAny_newObj_type ?_)
  have sz2 : s₂.heap.objs.size = s.heap.objs.size + 1 := by rw [e]; exact Heap.size_push ..
  have hlt : a < s.heap.objs.size := by obtain ⟨_, e1, _⟩ := hl; exact Heap.lt_size e1
  have fr : ∀ {b : Addr}, s.heap.objs.size ≤ b → s.heap.get? b = none := fun {b} hb => by
    cases q : s.heap.get? b with
    | none => rfl
    | some o => exact absurd (Heap.lt_size q) (Nat.not_lt.mpr hb)
  refine wpAny_pure ⟨plainId_quiet F.plain_sum_loop _, ?_⟩
  refine sumL_loop (n := vs.size) (T0 := T0) (S := s₂.heap.objs.size) W s.heap s xss (by rw [h0]; exact fun z => nomatch z) (fr (Nat.le_refl _)) (fr (by rw [sz2]; exact Nat.le_succ _)) (by rw [sz2]; exact Nat.lt_succ_self _) hlt hn hsz hval
    (fun s' T' L => ?_) vs.size 0 _ T0 0 c0 (Nat.sub_zero _) (Nat.zero_le _) (W.frame 0 s₂ _ s₂.toks st (Nat.le_refl _) fun b _ o q => Heap.get?_push_of_some _ q) (Heap.get?_push_size _ rfl) (Heap.get?_push_of_some _ (hk _ _ h0)) (.inl ⟨rfl, rfl⟩)
    (fun b o q => Heap.get?_push_of_some _ (hk _ _ q)) (by rw [e]) (by rw [e]) (by rw [e])
  obtain ⟨hp', g', d', t', o'⟩ := s'
  obtain ⟨g1, g2, g3, kp, at_, nw⟩ := L
  have e1 : g' = s.gens := g1
  have e2 : d' = s.drawn := g2
  have e3 : o' = s.os := g3
  subst e1 e2 e3
  exact hQ hp' t' T' kp at_ (nw.imp_right fun z => by rw [sz2] at z; exact Nat.le_of_lt (Nat.lt_of_succ_lt z))
end
/-- the lists at as have these items -/
def LsAt (H : Hp) : List V → List (List V) → Prop := fun rs xss => rs.length = xss.length ∧ ∀ (i : Nat) (r : V) (xs : List V), rs[i]? = some r → xss[i]? = some xs → ∃ b, r = V.ref b ∧ H b = some (.lst xs)
def rSumL (K : PySem.W.Frag) : List V → List V → Hp → VK → Prop := fun vs zs H Q => ∃ (a b : Addr) (rs : List V) (xss : List (List V)), vs = [V.ref a] ∧ zs = [V.ref b] ∧ H a = some (.lst rs) ∧ H b = some (.lst []) ∧ LsAt H rs xss ∧ xss.flatten.length ≤ 100000 ∧
  ∀ p H', Same H H' → (p = b ∨ H p = none) → H' p = some (.lst xss.flatten) → Q (.ref p) H'
theorem cr_sumL {X : Cx} (hc : X.calm = true) : CallRK X (.builtin "sum") [Str.ofString "start"] (rSumL X.K) := by
  intro pins s σ H vs zs us ws Q I r rz h
  obtain ⟨a, b, rs, xss, rfl, rfl, ha, hb, ⟨hl, hls⟩, hz, q⟩ := h
  obtain ⟨u, rfl, ru⟩ := r.one
  cases (show u = Value.ref a from ru)
  obtain ⟨w, rfl, rw1⟩ := rz.one
  cases (show w = Value.ref b from rw1)
  obtain ⟨its, na, rv, ea, za⟩ := I.lst ha
  obtain ⟨its0, nb, rv0, eb, zb⟩ := I.lst hb
  cases rv0
  have lst : ∀ (i : Nat) (r : V) (xs : List V), rs[i]? = some r → xss[i]? = some xs → ∃ (c : Addr) (vs : List Value) (n : Nat), r = V.ref c ∧ Vals xs vs ∧ s.heap.get? c = some (lsO vs n) := fun i r xs e1 e2 => by
    obtain ⟨c, rfl, hc'⟩ := hls i r xs e1 e2
    obtain ⟨vs, n, r1, e3, _⟩ := I.lst hc'
    exact ⟨c, vs, n, rfl, r1, e3⟩
  have all : ∀ (m : Nat), m ≤ xss.length → ∃ wss : List (List Value), wss.length = m ∧ (∀ (i : Nat) (xs : List V) (ws : List Value), xss[i]? = some xs → wss[i]? = some ws → Vals xs ws) ∧ (∀ (i : Nat) (r : V) (ws : List Value), rs[i]? = some r → wss[i]? = some ws → ∃ c n, r = V.ref c ∧ s.heap.get? c = some (lsO ws n)) ∧ Vals (xss.take m).flatten wss.flatten := by
    intro m
    induction m with
    | zero => exact fun _ => ⟨[], rfl, fun i xs ws _ e => by simp at e, fun i r ws _ e => by simp at e, .nil⟩
    | succ m ih =>
      intro hm
      obtain ⟨wss, l1, k1, k2, k3⟩ := ih (Nat.le_of_succ_le hm)
      have hm' : m < xss.length := hm
      have hr' : m < rs.length := by omega
      obtain ⟨c, vs, n, e1, e2, e3⟩ := lst m rs[m] xss[m] (List.getElem?_eq_getElem hr') (List.getElem?_eq_getElem hm')
      refine ⟨wss ++ [vs], by rw [List.length_append, l1]; rfl, fun i xs ws g1 g2 => ?_, fun i r ws g1 g2 => ?_, ?_⟩
      · by_cases hi : i < m
        · rw [List.getElem?_append_left (by omega)] at g2
          exact k1 i xs ws g1 g2
        · have em : i = m := by
            have := (List.getElem?_eq_some_iff.mp g2).1
            rw [List.length_append, l1] at this
            simp at this
            omega
          subst em
          rw [List.getElem?_append_right (by omega), l1, Nat.sub_self] at g2
          cases g2
          rw [List.getElem?_eq_getElem hm'] at g1
          cases g1
          exact e2
      · by_cases hi : i < m
        · rw [List.getElem?_append_left (by omega)] at g2
          exact k2 i r ws g1 g2
        · have em : i = m := by
            have := (List.getElem?_eq_some_iff.mp g2).1
            rw [List.length_append, l1] at this
            simp at this
            omega
          subst em
          rw [List.getElem?_append_right (by omega), l1, Nat.sub_self] at g2
          cases g2
          rw [List.getElem?_eq_getElem hr'] at g1
          cases g1
          exact ⟨c, n, e1, e3⟩
      · rw [List.take_add_one, List.getElem?_eq_getElem hm', List.flatten_append, List.flatten_append]
        refine k3.append ?_
        show Vals ([xss[m]] : List (List V)).flatten [vs].flatten
        simpa using e2
  obtain ⟨wss, l1, k1, k2, k3⟩ := all xss.length (Nat.le_refl _)
  rw [List.take_length] at k3
  have hlen : wss.flatten.length = xss.flatten.length := k3.length.symm
  have lits : its.length = rs.length := rv.length.symm
  show wpAny _ _ (call (.builtin "sum") [.ref a] [(Str.ofString "start", .ref b)]) _ _ _
  refine call_sumL (xss := wss) (I.ok.hd hc) ⟨_, ea, rfl, na, rfl⟩ eb (by rw [List.size_toArray, l1, lits, hl]) (by omega) (fun i v e => ?_) fun h' tk T' kp at_ nw => ?_
  · have e' : its[i]? = some v := by simpa using e
    have hi : i < rs.length := by rw [← lits]; exact (List.getElem?_eq_some_iff.mp e').1
    obtain ⟨u, e2, r1⟩ := rv.get (List.getElem?_eq_getElem hi)
    rw [e'] at e2
    cases e2
    have hi2 : i < wss.length := by omega
    obtain ⟨c, n, e3, e4⟩ := k2 i rs[i] wss[i] (List.getElem?_eq_getElem hi) (List.getElem?_eq_getElem hi2)
    rw [e3] at r1
    cases (show v = Value.ref c from r1)
    exact ⟨c, _, n, rfl, List.getElem?_eq_getElem hi2, e4⟩
  · obtain ⟨c, hT⟩ := at_
    rcases nw with ⟨n0, rfl⟩ | nw
    · have e0 : xss = [] := List.eq_nil_of_length_eq_zero (by rw [← hl, ← lits]; simpa using n0)
      subst e0
      exact ⟨.ref T', H, I.kept kp, rfl, q T' H (Same.refl H) (.inl rfl) hb⟩
    · exact ⟨.ref T', _, I.laid (t' := tk) kp nw (show ObjOk X.prog X.w _ _ _ (.lst xss.flatten) from ⟨Nat.le_trans hz (by decide), _, c, k3, hT⟩), rfl, q T' _ (Same.new (I.hok.fresh nw)) (.inr (I.hok.fresh nw)) upd_same⟩
end

/-! ## Fz -/
section
set_option maxHeartbeats 4000000
open PySem PySem.Spec PyProof.Rows L2
/-! ### len(frozenset(texts)), all unlike -/
section
variable {prog : Program} {w : World} {K : Type} [DecidableEq K] (knd : KeyKind prog w K)
def FsOf (h : Heap) (a : Addr) (S : K → Bool) (n : Nat) : Prop :=
  ∃ o es ep t, h.get? a = some o ∧ o.cls = .type "frozenset" ∧ o.data = .set es ep t ∧ ElemsOf knd es.toList ∧ (∀ k, S k = true ↔ ∃ e ∈ es.toList, knd.is k e.2 = true) ∧ es.size < scanBound ∧ t.fits es.size = true ∧ es.size = n
variable {knd} {A : Around} {E : Value → Shared → Prop} {s : Shared}
theorem fs_store {h : Heap} {a : Addr} {o : Obj} {es es' : Array (Int × Value)} {ep : Nat} {t t' : SetTable} {S' : K → Bool} (ho : h.get? a = some o) (hc : o.cls = .type "frozenset") (hd : o.data = .set es ep t) (hel : ElemsOf knd es'.toList)
    (hmem : ∀ k, S' k = true ↔ ∃ e ∈ es'.toList, knd.is k e.2 = true) (hb : es'.size < scanBound) (hf : t'.fits es'.size = true) :
    (h.update a (Obj.putSet es' t')).get? a = some { o with data := .set es' (ep + 1) t' } ∧ FsOf knd (h.update a (Obj.putSet es' t')) a S' es'.size := by
  have hg := Heap.get?_update_self (Obj.putSet es' t') ho (by rw [putSet_of es' t' hd]; rfl)
  rw [putSet_of es' t' hd] at hg
  exact ⟨hg, _, es', ep + 1, t', hg, hc, rfl, hel, hmem, hb, hf, rfl⟩
theorem fs_tail {g : Bool → Sem Unit} (hg : ∀ (b : Bool) (s1 : Shared) (Q' : Unit → Shared → Prop), Q' () s1 → wpAny (model prog w) A (g b) Q' E s1) {a : Addr} {o : Obj} {es es1 : Array (Int × Value)} {ep : Nat} {t t2 : SetTable} {S' : K → Bool}
    (ho : s.heap.get? a = some o) (hc : o.cls = .type "frozenset") (hd : o.data = .set es ep t) (hel : ElemsOf knd es1.toList) (hmem : ∀ k', S' k' = true ↔ ∃ e ∈ es1.toList, knd.is k' e.2 = true) (hb : es1.size < scanBound) (hf : t2.fits es1.size = true) {wd : Bool} {R : Option Bool → Shared → Prop}
    (h : ∀ h', Heap.SameBut a s.heap h' → FsOf knd h' a S' es1.size → R (some true) { s with heap := h' }) :
    wpAny (model prog w) A (do
        storeSet a es1 t2
        if (!wd && t2.tooFull) = true then do
            g (relayAll t2 es1 (SetTable.grown es1.size)).2.2
            storeSet a (relayAll t2 es1 (SetTable.grown es1.size)).1 (relayAll t2 es1 (SetTable.grown es1.size)).2.1
            pure (some true)
          else pure (some true)) R E s := by
  obtain ⟨o1, S1⟩ := fs_store (knd := knd) ho hc hd hel hmem hb hf
  have b1 := Heap.SameBut.update s.heap a (Obj.putSet es1 t2)
  refine wpAny_bind (wpAny_storeSet_of ho hd ?_ (fits_of_scanBound hb))
  split
  · have hp := relayAll_perm t2 es1 (SetTable.grown es1.size)
    have hr := relayAll_fits t2 es1 (SetTable.grown es1.size)
    generalize relayAll t2 es1 (SetTable.grown es1.size) = Rl at hp hr ⊢
    obtain ⟨es2, t3, gv⟩ := Rl
    dsimp only at hp hr ⊢
    have m2 : ∀ k', S' k' = true ↔ ∃ e ∈ es2.toList, knd.is k' e.2 = true := fun k' => (hmem k').trans ⟨fun ⟨e, he, q⟩ => ⟨e, hp.mem_iff.mpr he, q⟩, fun ⟨e, he, q⟩ => ⟨e, hp.mem_iff.mp he, q⟩⟩
    have sz : es2.size = es1.size := by rw [← Array.length_toList, hp.length_eq, Array.length_toList]
    refine wpAny_bind (hg _ _ _ (wpAny_bind (wpAny_storeSet_of o1 rfl ?_ (fits_of_scanBound (by rw [sz]; exact hb)))))
    obtain ⟨_, S2⟩ := fs_store (knd := knd) o1 hc rfl (hel.perm hp) m2 (by rw [sz]; exact hb) hr
    rw [sz] at S2
    exact wpAny_pure (h _ (b1.trans (Heap.SameBut.update _ a _)) S2)
  · exact wpAny_pure (h _ b1 S1)
theorem fs_add {a : Addr} {S : K → Bool} {n : Nat} {k : K} {x : Value} {Q : Bool → Shared → Prop} (hkey : knd.is k x = true) (hsc : x.scannable = true) (hS : FsOf knd s.heap a S n) (hroom : n + 1 < scanBound) (hno : S k = false)
    (h : ∀ h', Heap.SameBut a s.heap h' → FsOf knd h' a (fun k' => S k' || decide (k' = k)) (n + 1) → Q true { s with heap := h' }) : wpAny (model prog w) A (setAddHashed a x (knd.hash k)) Q E s := by
  obtain ⟨o, es, ep, t, ho, hc, hd, hel, hmem, hb, hf, hn⟩ := hS
  unfold setAddHashed setAddHashedIn
  refine wpAny_holding (wpAny_bind (wpAny_setState_of ho hd hf ?_))
  dsimp only
  rw [byScan_of hsc hb hel]
  simp only [↓reduceIte]
  unfold setAddByScan
  refine wpAny_bind (wpAny_bind (wpAny_rule (wpAny_bind (wpAny_setScan_of hkey ho hd hf hel ?_))))
  have none_ : List.findIdx? (fun e => knd.is k e.2) es.toList = none := by
    refine List.findIdx?_eq_none_iff.mpr fun e he => ?_
    cases q : knd.is k e.2 with
    | false => rfl
    | true => rw [(hmem k).mpr ⟨e, he, q⟩] at hno; cases hno
  rw [none_]
  dsimp only
  have hgw : ∀ (b : Bool) {s1 : Shared} {Q' : Unit → Shared → Prop}, Q' () s1 → wpAny (model prog w) A (match b with | true => rule "set.scan.the-table-gave-way" | false => pure ()) Q' E s1 := fun b s1 Q' hq => by cases b <;> first | exact wpAny_pure hq | exact wpAny_rule hq
  have hp := layNew_perm t es (knd.hash k) x
  have hfit := layNew_fits t es (knd.hash k) x
  generalize layNew t es (knd.hash k) x = L at hp hfit ⊢
  obtain ⟨es1, t1, wd, gv⟩ := L
  dsimp only at hp hfit ⊢
  rw [Array.toList_push] at hp
  have el1 : ElemsOf knd es1.toList := (hel.push hkey hsc).perm hp
  have m1 : ∀ k', (S k' || decide (k' = k)) = true ↔ ∃ e ∈ es1.toList, knd.is k' e.2 = true := mem_push_iff hkey hmem hp
  have sz1 : es1.size = n + 1 := by rw [← Array.length_toList, hp.length_eq, List.length_append, Array.length_toList, hn]; rfl
  have b1 : es1.size < scanBound := by rw [sz1]; exact hroom
  refine wpAny_bind (hgw _ ?_)
  have fin : ∀ h', Heap.SameBut a s.heap h' → FsOf knd h' a (fun k' => S k' || decide (k' = k)) es1.size → Q true { s with heap := h' } := fun h' sb q => by rw [sz1] at q; exact h h' sb q
  split
  · refine wpAny_bind ?_
    rw [hashByValue_scannable 8 hsc]
    refine wpAny_pure (fs_tail ?_ ho hc hd el1 m1 b1 ?_ ?_)
    · intro b s1 Q' hq; cases b <;> first | exact wpAny_pure hq | exact wpAny_rule hq
    · split
      · exact hfit
      · exact SetTable.fits_plain_off hfit
    · intro h' sb q; dsimp only; exact wpAny_pure (fin h' sb q)
  · refine wpAny_bind (wpAny_pure ?_)
    simp only [↓reduceIte]
    refine fs_tail ?_ ho hc hd el1 m1 b1 hfit ?_
    · intro b s1 Q' hq; cases b <;> first | exact wpAny_pure hq | exact wpAny_rule hq
    · intro h' sb q; dsimp only; exact wpAny_pure (fin h' sb q)
end
section
variable {prog : Program} {w : World} {A : Around} {R : Result → Shared → Prop} {I : Addr} {fp wr : List Addr} {G : Array GenState → Array GenState → Prop} {n : Nat} {P : Nat → Value → Prop} {St : Nat → Shared → Prop}
theorem fs_loop (W : WalksS prog w A.in1 I fp wr G n P St) (S : Addr) (hSf : S ∉ fp) (xs : List Str) (hsz : xs.length = n) (hn1 : n ≤ 100) (nd : xs.Nodup) (hval : ∀ i v, P i v → ∃ t, v = .str (xs.getD i Str.empty) t) :
    ∀ (k i : Nat) (s : Shared), n - i = k → i ≤ n → St i s → FsOf (PySem.strKind prog w) s.heap S (fun k' => (xs.take i).any (· == k')) i →
      (∀ s', Moved (S :: wr) G s s' → FsOf (PySem.strKind prog w) s'.heap S (fun k' => (xs.take n).any (· == k')) n → R (.ok (.ret .none)) s') →
      codeAny (model prog w) A (.builtin "set.update.loop" ⟨[.ref S, .ref I], []⟩) R s := by
  have hSw : S ∉ wr := fun h => hSf (W.sub _ h)
  have hsub : ∀ b ∈ wr, b ∈ S :: wr := fun b hb => List.mem_cons_of_mem _ hb
  intro k
  induction k with
  | zero =>
    intro i s hk hi hst hS hR
    have hin : i = n := by omega
    subst hin
    refine codeAny_builtin PyProof.Rows.F.entry_set_update_loop ?_
    rw [Around.under_plainId PyProof.Rows.F.plain_set_update_loop _]
    show wpAny _ A.in1 (pyNext (.ref I) >>= _) _ _ s
    refine wpAny_bind (W.done s _ _ hst fun s' hm => wpAny_pure (hR s' (hm.mono hsub) ?_))
    obtain ⟨o, es, ep, t, ho, rest⟩ := hS
    exact ⟨o, es, ep, t, hm.heap S _ hSw ho, rest⟩
  | succ k ih =>
    intro i s hk hi hst hS hR
    have hlt : i < n := by omega
    have hlx : i < xs.length := by omega
    refine codeAny_builtin PyProof.Rows.F.entry_set_update_loop ?_
    rw [Around.under_plainId PyProof.Rows.F.plain_set_update_loop _]
    show wpAny _ A.in1 (pyNext (.ref I) >>= _) _ _ s
    refine wpAny_bind (W.item i s _ _ hlt hst fun v s' hP hst' hm => ?_)
    obtain ⟨t, rfl⟩ := hval i v hP
    have hS' : FsOf (PySem.strKind prog w) s'.heap S (fun k' => (xs.take i).any (· == k')) i := by
      obtain ⟨o, es, ep, tb, ho, rest⟩ := hS
      exact ⟨o, es, ep, tb, hm.heap S _ hSw ho, rest⟩
    have ei : xs.getD i Str.empty = xs[i] := by rw [List.getD_eq_getElem?_getD, List.getElem?_eq_getElem hlx] <;> rfl
    rw [ei]
    have hno : (xs.take i).any (· == xs[i]) = false := by
      cases q : (xs.take i).any (· == xs[i]) with
      | false => rfl
      | true =>
        obtain ⟨y, hy, e⟩ := List.any_eq_true.mp q
        have e' : y = xs[i] := eq_of_beq e
        obtain ⟨j, hj, ej⟩ := List.mem_iff_getElem.mp hy
        rw [List.length_take] at hj
        rw [List.getElem_take, e'] at ej
        have := (List.getElem_inj nd).mp ej
        omega
    show wpAny _ A.in1 (holding [Value.str xs[i] t] (setAdd S (.str xs[i] t)) >>= _) _ _ s'
    refine wpAny_bind (wpAny_holding ?_)
    unfold setAdd
    refine wpAny_holding (wpAny_bind ((PySem.strKind prog w).pyHash (k := xs[i]) (strKind_is _ _ _ _) ?_))
    refine fs_add (knd := PySem.strKind prog w) (s := { s' with toks := s'.toks + 1 }) (strKind_is _ _ _ _) rfl hS' (by unfold scanBound; omega) hno fun h' sb S2 => ?_
    have S3 : FsOf (PySem.strKind prog w) h' S (fun k' => (xs.take (i + 1)).any (· == k')) (i + 1) := by
      have e2 : (fun k' => (xs.take (i + 1)).any (· == k')) = fun k' => (xs.take i).any (· == k') || decide (k' = xs[i]) := by
        funext k'
        rw [List.take_add_one, List.getElem?_eq_getElem hlx, List.any_append]
        congr 1
        show ((xs[i] == k') || false) = _
        by_cases e : k' = xs[i]
        · subst e; simp
        · have hb : (xs[i] == k') = false := beq_eq_false_iff_ne.mpr (Ne.symm e)
          rw [hb, decide_eq_false e]
          rfl
      rw [e2]
      exact S2
    refine wpAny_pure ⟨plainId_quiet PyProof.Rows.F.plain_set_update_loop _, ih (i + 1) _ (by omega) hlt (W.frame _ s' _ _ hst' (Nat.le_succ _) fun b hb o e => ?_) S3 fun s'' hm2 q => ?_⟩
    · rw [sb.2 b (fun h : b = S => hSf (by rw [← h]; exact hb))]; exact e
    · refine hR s'' (Moved.trans W.gtrans ((hm.mono hsub).then_heap (Nat.le_succ _) fun b o hb e => ?_) hm2) q
      rw [sb.2 b (fun h : b = S => hb (by rw [h]; exact List.mem_cons_self))]; exact e
end
end

/-! ## Fz2 -/
section
set_option maxHeartbeats 4000000
open PySem PySem.Spec PyProof.Rows L2
theorem mro_fs : mroOf (.type "frozenset") = pure [.type "frozenset", .type "object"] := by rw [mroOf_type]; kernel_rfl
theorem lookup_fs_new : typeLookup (.type "frozenset") "__new__" = pure (some (.builtin "frozenset.__new__")) := by rw [typeLookup_type, builtinLookup_eq_fast]; kernel_rfl
theorem slot_fs_init : Slot "frozenset" "__init__" "object.__init__" :=
  .of (owner := "object") (n := "__init__") (by rw [typeLookup_type, builtinLookup_eq_fast]; kernel_rfl) (by decide +kernel) (by decide +kernel) (by decide +kernel) (by first | exact .inl (by decide +kernel) | exact .inr (by decide +kernel)) (by rw [isSubtype_type]; kernel_rfl)
theorem called_fs : TypeCalled "frozenset" "frozenset.__new__" "object.__init__" :=
  ⟨by decide +kernel, by decide +kernel, ⟨_, _, mro_fs⟩, madeBy_type mro_fs lookup_fs_new (by decide +kernel), by decide +kernel, by rw [isSubtype_type]; kernel_rfl, slot_fs_init⟩
theorem tc_fs (a : Value) : checkTypeCall "frozenset" ⟨[a], []⟩ = pure () := by kernel_rfl
theorem nc_fs (a : Value) : checkBuiltinCall "frozenset.__new__" ⟨[.type "frozenset", a], []⟩ = pure () := by kernel_rfl
theorem entry_fs_new : entryFor table "frozenset.__new__" = some Builtin.«frozenset.__new__» := entryFor_of_tree (by kernel_rfl)
theorem sub_fs : isSubtype (.type "frozenset") (.type "frozenset") = pure true := by rw [isSubtype_type]; kernel_rfl
theorem slot_fs_len : Slot "frozenset" "__len__" "frozenset.__len__" :=
  .of (owner := "frozenset") (n := "__len__") (by rw [typeLookup_type, builtinLookup_eq_fast]; kernel_rfl) (by decide +kernel) (by decide +kernel) (by decide +kernel) (by first | exact .inl (by decide +kernel) | exact .inr (by decide +kernel)) (by rw [isSubtype_type]; kernel_rfl)
theorem entry_fs_len : entryFor table "frozenset.__len__" = some Builtin.«frozenset.__len__» := entryFor_of_tree (by kernel_rfl)
theorem args_fs_len (a : Value) : argsOk "frozenset.__len__" ⟨[a], []⟩ := by unfold argsOk; kernel_rfl
section
variable {prog : Program} {w : World} {A : Around} {E : Value → Shared → Prop} {s : Shared}
theorem call_fs {l : Addr} {items : Array Value} {xs : List Str} {Q : Value → Shared → Prop} (hh : A.handled = none) (hl : s.heap.IsList l items) (hi : PyProof.Rows.StrsAre items.toList xs) (hn1 : xs.length ≤ 100) (nd : xs.Nodup)
    (h : ∀ h' tk S, FsOf (PySem.strKind prog w) h' S (fun k' => (xs.take items.size).any (· == k')) items.size → (∀ b o, s.heap.get? b = some o → h'.get? b = some o) → Q (.ref S) { s with heap := h', toks := tk }) :
    wpAny (model prog w) A (call (.type "frozenset") [.ref l]) Q E s := by
  refine callType_codes (T := "frozenset") (Bi := Builtin.«object.__init__») (Q₁ := fun r s₁ => ∃ S h' tk, r = .ref S ∧ s₁ = { s with heap := h', toks := tk } ∧ s₁.TypeIs r "frozenset" ∧ Q r s₁) called_fs (tc_fs _) PySem.F.entry_object_init ?_ ?_
  · refine codeAny_of_tree ?_
    show wpAny _ A.in1.in1 (do checkBuiltinCall "frozenset.__new__" ⟨[.type "frozenset", .ref l], []⟩; again (.builtin "frozenset.__new__" ⟨[.type "frozenset", .ref l], []⟩)) _ _ s
    refine wpAny_bind (wpAny_of_eq (nc_fs _) (wpAny_pure ⟨plainId_quiet (by decide +kernel) _, codeAny_builtin entry_fs_new ?_⟩))
    rw [Around.under_plainId (by decide +kernel) _]
    have hsub := sub_fs
    have hli := slot_fs_init.lookup
    obtain ⟨ol, hol, hcl, nl, hdl⟩ := id hl
    have hTl : s.TypeIs (.ref l) "list" := ⟨ol, hol, hcl⟩
    have hslf := PySem.F.sub_list_frozenset
    have hsls := PySem.F.sub_list_set
    unfold Builtin.«frozenset.__new__» Builtin.Frozenset.newClass noKeywords Builtin.Frozenset.newFrom Builtin.Frozenset.updateFrom
    generalize hPI : pyIter = PI
    wp_walk
    refine wpAny_askSetting (wpAny_pure ?_)
    dsimp only
    simp only [newObj]
    refine wpAny_bind (wpAny_alloc (wpAny_pure ?_))
    generalize hled : (!(Params.followText _ "set-order")) = led
    have hS : (s.heap.push { cls := .type "frozenset", dict := none, data := .set #[] 0 (.fresh 0 0 led) }).get? s.heap.objs.size = some { cls := .type "frozenset", dict := none, data := .set #[] 0 (.fresh 0 0 led) } := Heap.get?_push_size _ rfl
    have hl1 : (s.heap.push { cls := .type "frozenset", dict := none, data := .set #[] 0 (.fresh 0 0 led) }).IsList l items := hl.push _
    have hTl1 : Shared.TypeIs { s with heap := s.heap.push { cls := .type "frozenset", dict := none, data := .set #[] 0 (.fresh 0 0 led) } } (.ref l) "list" := ⟨ol, Heap.get?_push_of_some _ hol, hcl⟩
    wp_walk
    subst hPI
    refine PySem.W.iter_listW (A := A.in1.in1) (by simp [hh]) hl1 fun s₂ e W st hfp hw hk => ?_
    refine wpAny_bind (wpAny_runValue ?_)
    have hlS : l < s.heap.objs.size := Heap.lt_size hol
    have sz : (s.heap.push { cls := .type "frozenset", dict := none, data := .set #[] 0 (.fresh 0 0 led) }).objs.size = s.heap.objs.size + 1 := Heap.size_push ..
    have hsz : xs.length = items.size := by rw [← StrsAre.len_eq hi, Array.length_toList]
    have hval : ∀ (i : Nat) (v : Value), items[i]? = some v → ∃ t, v = .str (xs.getD i Str.empty) t := fun i v hv => SS.strs_at hi i v (by rw [Array.getElem?_toList]; exact hv)
    have W' := (PySem.Walks.list (prog := prog) (w := w) (A := A.in1.in1.in1) (by simp [hh]) (s.heap.push { cls := .type "frozenset", dict := none, data := .set #[] 0 (.fresh 0 0 led) }).objs.size l (by show ¬ _ = _; rw [sz]; exact Nat.ne_of_lt (Nat.lt_succ_of_lt hlS)) items).toS
    refine fs_loop W' s.heap.objs.size ?_ xs hsz (by omega) nd hval items.size 0 _ (Nat.sub_zero _) (Nat.zero_le _) st ?_ fun s' hm hS' => ?_
    · rw [sz]
      simp only [List.mem_cons, List.mem_singleton, List.not_mem_nil, or_false, not_or]
      exact ⟨Nat.ne_of_lt (Nat.lt_succ_self _), Nat.ne_of_gt hlS⟩
    · rw [e]
      exact ⟨_, #[], 0, _, Heap.get?_push_of_some _ hS, rfl, rfl, fun e he => by simp at he, fun k => by simp, by decide, by rfl, rfl⟩
    · have m1 : ∀ b o, s.heap.get? b = some o → s'.heap.get? b = some o := fun b o q => by
        have hb : b < s.heap.objs.size := Heap.lt_size q
        refine hm.heap b o ?_ (hk _ _ (Heap.get?_push_of_some _ q))
        rw [sz]
        simp only [List.mem_cons, List.mem_singleton, List.not_mem_nil, or_false, not_or]
        exact ⟨Nat.ne_of_lt hb, Nat.ne_of_lt (Nat.lt_succ_of_lt hb)⟩
      obtain ⟨h', g', d', tk', os'⟩ := s'
      have eg : g' = s.gens := (show g' = s₂.gens from hm.gens).trans (by rw [e])
      have ed : d' = s.drawn := hm.drawn.trans (by rw [e])
      have eo : os' = s.os := hm.os.trans (by rw [e])
      subst eg ed eo
      refine wpAny_pure (wpAny_pure (wpAny_pure ?_))
      refine ⟨_, h', tk', rfl, rfl, ?_, h h' tk' _ hS' m1⟩
      obtain ⟨o, _, _, _, ho, hc, _⟩ := hS'
      exact ⟨o, ho, hc⟩
  · rintro obj s₁ ⟨S, h', tk, rfl, rfl, hT, q⟩
    exact ⟨hT, F.args_object_init_2 _ _, object_init_meets called_fs.init.lookup called_fs.made (by decide) prog w A.in1 _ _ ⟨hT, rfl, q⟩⟩
theorem call_fs_len {K : Type} [DecidableEq K] {knd : KeyKind prog w K} {a : Addr} {S : K → Bool} {n : Nat} {Q : Value → Shared → Prop} (hS : FsOf knd s.heap a S n) (h : ∀ t tk, Q (.int n t) { s with toks := tk }) :
    wpAny (model prog w) A (call (.builtin "len") [.ref a]) Q E s := by
  obtain ⟨o, es, ep, t, ho, hc, hd, _, _, hb, hf, hn⟩ := hS
  have hT : s.TypeIs (.ref a) "frozenset" := ⟨o, ho, hc⟩
  have hfit : (es.size : Int) < 2 ^ 63 := by have : scanBound = 4096 := rfl; omega
  refine Calls.call_function_entry kind_len plain_len entry_len (args_len1 _) ?_
  unfold Builtin.«len»
  refine wpAny_bind (m := oneArg "len" _) (wpAny_pure ?_)
  refine wpAny_bind (m := callSpecial? (.ref a) (Str.ofString "__len__")) (wpAny_callSpecial?_slot (name := Str.ofString "__len__") hT slot_fs_len (wpAny_call_entry slot_fs_len hT entry_fs_len ?_ (args_fs_len _)))
  unfold Builtin.«frozenset.__len__» Builtin.Frozenset.slot0 slotArgs
  simp only [List.isEmpty_nil, Bool.not_true, Bool.false_eq_true, ↓reduceIte, bind_assoc, List.length_nil, bne_self_eq_false]
  unfold Builtin.Frozenset.addrOf Builtin.Frozenset.sizeOf
  refine wpAny_bind (wpAny_pure ?_)
  try dsimp only
  refine wpAny_bind (wpAny_pure (wpAny_bind (wpAny_bind (wpAny_setEntries_of ho hd hf (wpAny_pure ?_)))))
  show wpAny _ _ (retInt _) _ _ _
  unfold retInt
  refine wpAny_bind (wpAny_mkInt (wpAny_pure ⟨_, rfl, ?_⟩))
  refine wpAny_bind (wpAny_holding (wpAny_pure (wpAny_bind (wpAny_letGo ?_))))
  show wpAny _ _ (if ((es.size : Nat) : Int) < 0 then _ else _) _ _ _
  rw [if_neg (by omega)]
  show wpAny _ _ (if ((es.size : Nat) : Int) ≥ 2 ^ 63 then _ else _) _ _ _
  rw [if_neg (by omega), hn]
  exact wpAny_bind (wpAny_mkInt (wpAny_pure ⟨_, rfl, h _ _⟩))
end
/-- len(frozenset(xs)) of unlike texts -/
def rLFs (K : PySem.W.Frag) (x : V) (H : Hp) (Q : VK) : Prop := ∃ (l : Addr) (xs : List Str), x = .ref l ∧ SqL K H l (xs.map V.str) ∧ xs.Nodup ∧ xs.length ≤ 100 ∧ Q (.int (xs.length : Nat)) H
def tLenFs (K : PySem.W.Frag) (ta : TE) : TE := fun σ H Q => ta σ H fun x H1 => rLFs K x H1 Q
theorem pe_lenFs {X : Cx} {a : Expr} {ta : TE} {p p2 q pos : Pos} (hg : Gl X "len") (hm : X.mg "len" = none) (hg2 : Gl X "frozenset") (hm2 : X.mg "frozenset" = none) (ha : PE X a ta) (hc : X.calm = true := by rfl)
    (na : starEach [a] X.env = (false, eval a X.env) :: starEach [] X.env := by rfl) : PE X (.Call (.Name "len" p) [.Call (.Name "frozenset" p2) [a] [] q] [] pos) (tLenFs X.K ta) := by
  refine ⟨fun pins s σ H Q I h => ?_⟩
  refine Call_ (ld_blt I hg hm boot_len ?_)
  refine PyProof.Rows.callWith_builtin1 (PyProof.Rows.args_cons ?_ rfl) rfl rfl
  refine Call_ (ld_blt I hg2 hm2 PyProof.Rows.Boot.«frozenset» ?_)
  refine PyProof.Rows.callWith_type1 (PyProof.Rows.args_cons (thn (ha.run pins s σ H _ I h) fun v s1 ⟨x, H1, I1, r1, q1⟩ => PyProof.Rows.args_nil ?_) na) na rfl
  obtain ⟨l, xs, rfl, hq, nd, hn, q1⟩ := q1
  cases r1
  obtain ⟨its, r, pl, hz⟩ := I1.list hq
  refine call_fs (I1.ok.hd hc) pl.isList (by simpa using strsAre_of r) hn nd fun h' tk S hS hk => PyProof.Rows.args_nil ?_
  have I2 : Inv X pins σ H1 { s1 with heap := h', toks := tk } := I1.kept hk
  have el : its.toArray.size = xs.length := by rw [List.size_toArray, ← r.length, List.length_map]
  rw [el] at hS
  exact call_fs_len hS fun t tk' => ⟨.int (xs.length : Nat), H1, I2.tok _, ⟨_, rfl⟩, q1⟩
end

/-! ## St -/
section
set_option maxHeartbeats 4000000
open PySem PySem.Spec PyProof.Rows L2
/-! ### set(a list of ints) -/
abbrev setO0 (led : Bool) : Obj := { cls := .type "set", dict := none, data := .set #[] 0 (.fresh 0 0 led) }
section
variable {P : Program} {w : World} {A : Around} {E : Value → Shared → Prop} {s : Shared}
theorem set_init_l {l : Addr} {items : Array Value} {ns : List Int} {led : Bool} {Q : Value → Shared → Prop} (hh : A.handled = none) (hl : s.heap.IsList l items) (hit : IntsAre items.toList ns) (hb : ns.length + 1 < scanBound) (hled : (!w.params.followText "set-order") = led)
    (hS : (s.heap.push (setO0 led)).get? s.heap.objs.size = some (setO0 led))
    (h : ∀ (h' : Heap) (tk c : Nat), SetR w h' s.heap.objs.size (fun j => decide (j ∈ ns)) c → c ≤ ns.length → (∀ b o, s.heap.get? b = some o → h'.get? b = some o) → Q (.ref s.heap.objs.size) { s with heap := h', toks := tk }) :
    wpAny (model P w) A.in1.in1 (Builtin.«set.__init__» ⟨[.ref s.heap.objs.size, .ref l], []⟩)
      (fun fin s' => match fin with | .done f => wants (fun r s₂ => r = .none ∧ Q (.ref s.heap.objs.size) s₂) E (.ok f) s' | .again c' => c'.quiet = true ∧ codeAny (model P w) A.in1 c' (wants (fun r s₂ => r = .none ∧ Q (.ref s.heap.objs.size) s₂) E) s')
      (fun e s' => wants (fun r s₂ => r = .none ∧ Q (.ref s.heap.objs.size) s₂) E (.error e) s') { s with heap := s.heap.push (setO0 led) } := by
  have hisz : items.size = ns.length := by
    have q := IntsAre.length hit
    rw [Array.length_toList] at q
    exact q
  obtain ⟨ol, hol, hcl, nl, hdl⟩ := id hl
  have hl1 : (s.heap.push (setO0 led)).IsList l items := hl.push _
  have hTl : Shared.TypeIs { s with heap := s.heap.push (setO0 led) } (.ref l) "list" := ⟨ol, Heap.get?_push_of_some _ hol, hcl⟩
  have hslf := PySem.F.sub_list_frozenset
  have hsls := PySem.F.sub_list_set
  unfold Builtin.«set.__init__» noKeywords Builtin.Frozenset.updateFrom
  generalize hPI : pyIter = PI
  wp_walk
  subst hPI
  refine PySem.W.iter_listW (A := A.in1.in1) (by simp [hh]) hl1 fun s₂ e W st hfp hw hk => ?_
  refine wpAny_bind (wpAny_runValue ?_)
  have hlS : l < s.heap.objs.size := Heap.lt_size hol
  have sz : (s.heap.push (setO0 led)).objs.size = s.heap.objs.size + 1 := Heap.size_push ..
  have hval : ∀ (i : Nat) (v : Value), items[i]? = some v → ∃ k t, ns[i]? = some k ∧ v = .int k t := fun i v hv => by
    have hi : i < ns.length := by rw [← hisz]; exact (Array.getElem?_eq_some_iff.mp hv).1
    obtain ⟨t, e⟩ := IntsAre.int_at hit i v (by rw [Array.getElem?_toList]; exact hv)
    refine ⟨ns[i], t, List.getElem?_eq_getElem hi, ?_⟩
    rw [e, List.getD_eq_getElem?_getD, List.getElem?_eq_getElem hi] <;> rfl
  have W' := (PySem.Walks.list (prog := P) (w := w) (A := A.in1.in1.in1) (by simp [hh]) (s.heap.push (setO0 led)).objs.size l (by show ¬ _ = _; rw [sz]; exact Nat.ne_of_lt (Nat.lt_succ_of_lt hlS)) items).toS
  refine set_update_ints W' s.heap.objs.size ?_ ns hisz hb hval items.size 0 _ (Nat.sub_zero _) (Nat.zero_le _) st ⟨0, Nat.le_refl 0, ?_⟩ fun s' c hm hc hS' => ?_
  · rw [sz]
    simp only [List.mem_cons, List.mem_singleton, List.not_mem_nil, or_false, not_or]
    exact ⟨Nat.ne_of_lt (Nat.lt_succ_self _), Nat.ne_of_gt hlS⟩
  · rw [e]
    have q : ((s.heap.push (setO0 led)).push { cls := .type "list_iterator", data := .fields #[.ref l, .int 0 0] }).get? s.heap.objs.size = some (setO0 led) := Heap.get?_push_of_some _ hS
    rw [← hled] at q ⊢
    exact setR_new_at q
  · have m1 : ∀ b o, s.heap.get? b = some o → s'.heap.get? b = some o := fun b o q => by
      have hb : b < s.heap.objs.size := Heap.lt_size q
      refine hm.heap b o ?_ (hk _ _ (Heap.get?_push_of_some _ q))
      rw [sz]
      simp only [List.mem_cons, List.mem_singleton, List.not_mem_nil, or_false, not_or]
      exact ⟨Nat.ne_of_lt hb, Nat.ne_of_lt (Nat.lt_succ_of_lt hb)⟩
    obtain ⟨h', g', d', tk', os'⟩ := s'
    have eg : g' = s.gens := (show g' = s₂.gens from hm.gens).trans (by rw [e])
    have ed : d' = s.drawn := hm.drawn.trans (by rw [e])
    have eo : os' = s.os := hm.os.trans (by rw [e])
    subst eg ed eo
    rw [hisz] at hc
    exact wpAny_pure (wpAny_pure ⟨rfl, h h' tk' c hS' hc m1⟩)
theorem call_setL {l : Addr} {items : Array Value} (ns : List Int) {Q : Value → Shared → Prop} (hh : A.handled = none) (hl : s.heap.IsList l items) (hit : IntsAre items.toList ns) (hb : ns.length + 1 < scanBound)
    (h : ∀ (h' : Heap) (tk c : Nat), SetR w h' s.heap.objs.size (fun j => decide (j ∈ ns)) c → c ≤ ns.length → (∀ b o, s.heap.get? b = some o → h'.get? b = some o) → Q (.ref s.heap.objs.size) { s with heap := h', toks := tk }) :
    wpAny (model P w) A (call (.type "set") [.ref l]) Q E s := by
  have hisz : items.size = ns.length := by
    have q := IntsAre.length hit
    rw [Array.length_toList] at q
    exact q
  obtain ⟨_, _, hmro⟩ := F.called_set.mro
  have hmade := F.called_set.made
  have hsub := F.called_set.sub
  refine wpAny_call (codeAny_of_tree ?_)
  show wpAny _ _ (callAny (.type "set") _) _ _ _
  refine wpAny_pure ⟨Code.quiet_builtin _ (by decide +kernel), codeAny_builtin F.entry_type_call ?_⟩
  rw [Around.under_plain (weight_type_call_type "set" [.ref l] []) rfl]
  have h1 := F.called_set.notType
  have h2 := F.called_set.canCreate
  have hct := F.typeCall_set_1 (.ref l)
  repeat (any_goals (first | assumption | wp_step))
  refine codeAny_mono (code_set_led1 (.ref l) (E := E) (Q₁ := fun r s₁ => r = .ref s.heap.objs.size ∧ s₁ = { s with heap := s.heap.push (setO0 (!w.params.followText "set-order")) }) ⟨rfl, rfl⟩) fun r s₁ hr => ?_
  rcases r with er | (obj | _ | _ | _) <;> first | exact hr | exact hr.elim | skip
  obtain ⟨rfl, rfl⟩ := hr
  generalize hled : (!w.params.followText "set-order") = led
  have hS : (s.heap.push (setO0 led)).get? s.heap.objs.size = some (setO0 led) := Heap.get?_push_size _ rfl
  have hT : Shared.TypeIs { s with heap := s.heap.push (setO0 led) } (.ref s.heap.objs.size) "set" := ⟨_, hS, rfl⟩
  have hli := F.called_set.init.lookup
  have hbi := F.called_set.init.bind (.ref s.heap.objs.size)
  repeat (any_goals (first | assumption | wp_step))
  refine codeAny_mono (codeAny_call_builtin (R := wants (fun r s₂ => r = .none ∧ Q (.ref s.heap.objs.size) s₂) E) F.called_set.init.plain F.entry_set_init (check_set_init_1 hT ?_)) fun r₂ s₂ hr₂ => ?_
  · exact set_init_l hh hl hit hb hled hS h
  · rcases r₂ with er | (r | _ | _ | _) <;> first | exact hr₂ | exact hr₂.elim | skip
    obtain ⟨rfl, q⟩ := hr₂
    repeat (any_goals (first | assumption | wp_step))
end
def rSetL' (w : World) (K : PySem.W.Frag) : List V → Hp → VK → Prop := fun vs H Q => ∃ (a : Addr) (ns : List Int), vs = [V.ref a] ∧ SqL K H a (ns.map V.int) ∧ ns.length ≤ 1000 ∧ ∀ p c, H p = none → c ≤ ns.length → Q (.ref p) (upd H p (SetO w p (fun j => decide (j ∈ ns)) c))
theorem cr_setL {X : Cx} (hc : X.calm = true) : CallR X (.type "set") (rSetL' X.w X.K) := by
  intro pins s σ H vs us Q I r h
  obtain ⟨a, ns, rfl, hs, hn, q⟩ := h
  obtain ⟨its, rv, pl, _⟩ := I.list hs
  rw [Vals.ref1 r]
  refine call_setL ns (I.ok.hd hc) pl.isList rv.ints (by have : scanBound = 4096 := rfl; omega) fun h' tk c hS hcn hk => ?_
  exact ⟨.ref _, _, I.laid (t' := tk) hk (Nat.le_refl _) (setO_new hS), rfl, q _ c (I.hok.fresh (Nat.le_refl _)) hcn⟩
end

/-! ## Kv -/
section
set_option maxHeartbeats 4000000
open PySem PySem.Spec PyProof.Rows L2
/-! ### rules that speak of the written part, it told outright (so they stand in comprehensions too) -/
section
variable {X : Cx} (K : PySem.W.Frag) {f : Str} {e : Expr} {ta : TE} {pos : Pos} {es : List Expr} {t : TGs} {n k : Nat}
theorem ixLk (h : X.K = K := by rfl) : IxR X (rIxL K) := by subst h; exact ix_list
theorem ixTk (h : X.K = K := by rfl) : IxR X (rIxT K) := by subst h; exact ix_tup
theorem fldk (he : PE X e ta) (hb : attributeBase e f X.env (eval e X.env) = eval e X.env) (h : X.K = K := by rfl) : PE X (.Attribute e f pos) (tFld K ta f) := by subst h; exact pe_fld he hb
theorem tupk (hc : X.calm = true) (h : PGs X es t) (hK : X.K = K := by rfl) (hn : (assignEach es X.env).length = n := by rfl) (hst : (assignEach es X.env).findIdx? (·.1) = none := by rfl) : PG X (.Tuple es k pos) (gTup K n t) := by subst hK; exact pg_tup hc h hn hst
theorem lenk (h : X.K = K := by rfl) : CallR X (.builtin "len") (rLn K) := by subst h; exact cr_len
theorem lstk (h : X.K = K := by rfl) : CallR X (.type "list") (rLst K) := by subst h; exact cr_list
theorem tplk (h : X.K = K := by rfl) : CallR X (.type "tuple") (rTup K) := by subst h; exact cr_tuple
theorem ink (h : X.K = K := by rfl) : OpR X (compareOp .In) (rIn K false) := by subst h; exact op_in_seq
theorem nink (h : X.K = K := by rfl) : OpR X (compareOp .NotIn) (rIn K true) := by subst h; exact op_notIn_seq
theorem isik (h : X.K = K := by rfl) : CallR X (.builtin "isinstance") (rIsi K) := by subst h; exact call_isi
theorem allk (hc : X.calm = true) (h : X.K = K := by rfl) : CallR X (.builtin "all") (rAll K) := by subst h; exact cr_all hc
theorem anyk (hc : X.calm = true) (h : X.K = K := by rfl) : CallR X (.builtin "any") (rAny K) := by subst h; exact cr_any hc
end
end

/-! ## Ob -/
section
set_option maxHeartbeats 4000000
open PySem PySem.Spec PyProof.Rows L2
local macro_rules | `(tactic| walk_at "rd") => `(tactic| first
  | assumption
  | exact SH.g0 (by assumption)
  | exact SH.g1 (by assumption)
  | exact SH.g2 (by assumption)
  | exact SH.g3 (by assumption)
  | exact SH.g4 (by assumption)
  | exact SH.g5 (by assumption)
  | exact SH.g6 (by assumption)
  | exact SH.g7 (by assumption)
  | exact SH.g8 (by assumption)
  | exact SH.g9 (by assumption)
  | exact SH.rd (by assumption) (by assumption))
local macro_rules | `(tactic| walk_at "tup") => `(tactic| first | assumption | exact SqT.of (by walk_at "rd") | exact Same.tup (SH.same (by assumption)) (by assumption))
local macro_rules | `(tactic| walk_at "lst") => `(tactic| first | assumption | exact SqL.of (by walk_at "rd") | exact Same.seq (SH.same (by assumption)) (by assumption))
local macro_rules | `(tactic| walk_at "at") => `(tactic| first | exact at0 | exact at1 | exact at2 | exact at3 | assumption)
local macro_rules | `(tactic| walk_at "sz") => `(tactic| first
  | decide
  | assumption
  | omega
  | (simp; omega))
local macro_rules | `(tactic| walk_at "lct") => `(tactic| (refine lc_t ?_; dsimp only [List.map, wipe, List.set]))
local macro_rules | `(tactic| walk_at "yes") => `(tactic| first
  | assumption
  | exact rfl
  | decide +kernel)
local macro_rules | `(tactic| walk_at "no") => `(tactic| first
  | assumption
  | decide +kernel)
local macro_rules | `(tactic| walk_at "num") => `(tactic| first
  | assumption
  | decide
  | omega
  | exact ⟨by decide, by decide⟩
  | (unfold CMul; omega)
  | (unfold CDiv; omega)
  | (unfold CPow; omega))
local macro_rules | `(tactic| walk_at "fld") => `(tactic| first
  | ((with_reducible refine' rd_Boat_name ?T ?h ?_); (case T => assumption); (case h => walk_at "rd"))
  | ((with_reducible refine' rd_Boat_bears ?T ?h ?_); (case T => assumption); (case h => walk_at "rd"))
  | ((with_reducible refine' rd_Bridge_line_up ?T ?h ?_); (case T => assumption); (case h => walk_at "rd"))
  | ((with_reducible refine' rd_Bridge_beams ?T ?h ?_); (case T => assumption); (case h => walk_at "rd"))
  | ((with_reducible refine' rd_Stretch_first ?T ?h ?_); (case T => assumption); (case h => walk_at "rd"))
  | ((with_reducible refine' rd_Stretch_behind ?T ?h ?_); (case T => assumption); (case h => walk_at "rd"))
  | ((with_reducible refine' rd_Hours_first ?T ?h ?_); (case T => assumption); (case h => walk_at "rd"))
  | ((with_reducible refine' rd_Hours_behind ?T ?h ?_); (case T => assumption); (case h => walk_at "rd"))
  | ((with_reducible refine' rd_Days_weekdays ?T ?h ?_); (case T => assumption); (case h => walk_at "rd"))
  | ((with_reducible refine' rd_Unless_inner ?T ?h ?_); (case T => assumption); (case h => walk_at "rd"))
  | ((with_reducible refine' rd_Both_all_of ?T ?h ?_); (case T => assumption); (case h => walk_at "rd"))
  | ((with_reducible refine' rd_Either_some_of ?T ?h ?_); (case T => assumption); (case h => walk_at "rd"))
  | ((with_reducible refine' rd_Week_runs ?T ?h ?_); (case T => assumption); (case h => walk_at "rd"))
  | ((with_reducible refine' rd_Deck_bridge ?T ?h ?_); (case T => assumption); (case h => walk_at "rd"))
  | ((with_reducible refine' rd_Deck_part ?T ?h ?_); (case T => assumption); (case h => walk_at "rd"))
  | ((with_reducible refine' rd_Deck_out ?T ?h ?_); (case T => assumption); (case h => walk_at "rd"))
  | ((with_reducible refine' rd_Deck_pause ?T ?h ?_); (case T => assumption); (case h => walk_at "rd"))
  | ((with_reducible refine' rd_Deck_turn_most ?T ?h ?_); (case T => assumption); (case h => walk_at "rd"))
  | ((with_reducible refine' rd_Deck_rule ?T ?h ?_); (case T => assumption); (case h => walk_at "rd"))
  | ((with_reducible refine' rd_Deck_week ?T ?h ?_); (case T => assumption); (case h => walk_at "rd"))
  | ((with_reducible refine' rd_Deck_here ?T ?h ?_); (case T => assumption); (case h => walk_at "rd"))
  | ((with_reducible refine' rd_Deck_phase ?T ?h ?_); (case T => assumption); (case h => walk_at "rd"))
  | ((with_reducible refine' rd_Deck_ends ?T ?h ?_); (case T => assumption); (case h => walk_at "rd"))
  | ((with_reducible refine' rd_Deck_down_at ?T ?h ?_); (case T => assumption); (case h => walk_at "rd"))
  | ((with_reducible refine' rd_Deck_whose ?T ?h ?_); (case T => assumption); (case h => walk_at "rd"))
  | ((with_reducible refine' rd_Deck_gone_on ?T ?h ?_); (case T => assumption); (case h => walk_at "rd"))
  | ((with_reducible refine' rd_Deck_carts ?T ?h ?_); (case T => assumption); (case h => walk_at "rd"))
  | ((with_reducible refine' rd_Deck_lines ?T ?h ?_); (case T => assumption); (case h => walk_at "rd"))
  | ((with_reducible refine' rd_Deck_queue ?T ?h ?_); (case T => assumption); (case h => walk_at "rd"))
  | ((with_reducible refine' rd_Deck_told_for ?T ?h ?_); (case T => assumption); (case h => walk_at "rd"))
  | ((with_reducible refine' rd_Deck_known ?T ?h ?_); (case T => assumption); (case h => walk_at "rd"))
  | ((with_reducible refine' rd_Deck_hours ?T ?h ?_); (case T => assumption); (case h => walk_at "rd")))
local macro_rules | `(tactic| walk_at "set") => `(tactic| first
  | ((with_reducible refine' st_Deck_bridge ?T ?h ?_); (case T => assumption); (case h => walk_at "rd"))
  | ((with_reducible refine' st_Deck_part ?T ?h ?_); (case T => assumption); (case h => walk_at "rd"))
  | ((with_reducible refine' st_Deck_out ?T ?h ?_); (case T => assumption); (case h => walk_at "rd"))
  | ((with_reducible refine' st_Deck_pause ?T ?h ?_); (case T => assumption); (case h => walk_at "rd"))
  | ((with_reducible refine' st_Deck_turn_most ?T ?h ?_); (case T => assumption); (case h => walk_at "rd"))
  | ((with_reducible refine' st_Deck_rule ?T ?h ?_); (case T => assumption); (case h => walk_at "rd"))
  | ((with_reducible refine' st_Deck_week ?T ?h ?_); (case T => assumption); (case h => walk_at "rd"))
  | ((with_reducible refine' st_Deck_here ?T ?h ?_); (case T => assumption); (case h => walk_at "rd"))
  | ((with_reducible refine' st_Deck_phase ?T ?h ?_); (case T => assumption); (case h => walk_at "rd"))
  | ((with_reducible refine' st_Deck_ends ?T ?h ?_); (case T => assumption); (case h => walk_at "rd"))
  | ((with_reducible refine' st_Deck_down_at ?T ?h ?_); (case T => assumption); (case h => walk_at "rd"))
  | ((with_reducible refine' st_Deck_whose ?T ?h ?_); (case T => assumption); (case h => walk_at "rd"))
  | ((with_reducible refine' st_Deck_gone_on ?T ?h ?_); (case T => assumption); (case h => walk_at "rd"))
  | ((with_reducible refine' st_Deck_carts ?T ?h ?_); (case T => assumption); (case h => walk_at "rd"))
  | ((with_reducible refine' st_Deck_lines ?T ?h ?_); (case T => assumption); (case h => walk_at "rd"))
  | ((with_reducible refine' st_Deck_queue ?T ?h ?_); (case T => assumption); (case h => walk_at "rd"))
  | ((with_reducible refine' st_Deck_told_for ?T ?h ?_); (case T => assumption); (case h => walk_at "rd"))
  | ((with_reducible refine' st_Deck_known ?T ?h ?_); (case T => assumption); (case h => walk_at "rd"))
  | ((with_reducible refine' st_Deck_hours ?T ?h ?_); (case T => assumption); (case h => walk_at "rd"))
  | ((with_reducible refine' in_Boat_name ?T ?h ?_); (case T => assumption); (case h => walk_at "rd"))
  | ((with_reducible refine' in_Boat_bears ?T ?h ?_); (case T => assumption); (case h => walk_at "rd"))
  | ((with_reducible refine' in_Bridge_line_up ?T ?h ?_); (case T => assumption); (case h => walk_at "rd"))
  | ((with_reducible refine' in_Bridge_beams ?T ?h ?_); (case T => assumption); (case h => walk_at "rd"))
  | ((with_reducible refine' in_Stretch_first ?T ?h ?_); (case T => assumption); (case h => walk_at "rd"))
  | ((with_reducible refine' in_Stretch_behind ?T ?h ?_); (case T => assumption); (case h => walk_at "rd"))
  | ((with_reducible refine' in_Hours_first ?T ?h ?_); (case T => assumption); (case h => walk_at "rd"))
  | ((with_reducible refine' in_Hours_behind ?T ?h ?_); (case T => assumption); (case h => walk_at "rd"))
  | ((with_reducible refine' in_Days_weekdays ?T ?h ?_); (case T => assumption); (case h => walk_at "rd"))
  | ((with_reducible refine' in_Unless_inner ?T ?h ?_); (case T => assumption); (case h => walk_at "rd"))
  | ((with_reducible refine' in_Both_all_of ?T ?h ?_); (case T => assumption); (case h => walk_at "rd"))
  | ((with_reducible refine' in_Either_some_of ?T ?h ?_); (case T => assumption); (case h => walk_at "rd"))
  | ((with_reducible refine' in_Week_runs ?T ?h ?_); (case T => assumption); (case h => walk_at "rd"))
  | ((with_reducible refine' in_Deck_bridge ?T ?h ?_); (case T => assumption); (case h => walk_at "rd"))
  | ((with_reducible refine' in_Deck_part ?T ?h ?_); (case T => assumption); (case h => walk_at "rd"))
  | ((with_reducible refine' in_Deck_out ?T ?h ?_); (case T => assumption); (case h => walk_at "rd"))
  | ((with_reducible refine' in_Deck_pause ?T ?h ?_); (case T => assumption); (case h => walk_at "rd"))
  | ((with_reducible refine' in_Deck_turn_most ?T ?h ?_); (case T => assumption); (case h => walk_at "rd"))
  | ((with_reducible refine' in_Deck_rule ?T ?h ?_); (case T => assumption); (case h => walk_at "rd"))
  | ((with_reducible refine' in_Deck_week ?T ?h ?_); (case T => assumption); (case h => walk_at "rd"))
  | ((with_reducible refine' in_Deck_here ?T ?h ?_); (case T => assumption); (case h => walk_at "rd"))
  | ((with_reducible refine' in_Deck_phase ?T ?h ?_); (case T => assumption); (case h => walk_at "rd"))
  | ((with_reducible refine' in_Deck_ends ?T ?h ?_); (case T => assumption); (case h => walk_at "rd"))
  | ((with_reducible refine' in_Deck_down_at ?T ?h ?_); (case T => assumption); (case h => walk_at "rd"))
  | ((with_reducible refine' in_Deck_whose ?T ?h ?_); (case T => assumption); (case h => walk_at "rd"))
  | ((with_reducible refine' in_Deck_gone_on ?T ?h ?_); (case T => assumption); (case h => walk_at "rd"))
  | ((with_reducible refine' in_Deck_carts ?T ?h ?_); (case T => assumption); (case h => walk_at "rd"))
  | ((with_reducible refine' in_Deck_lines ?T ?h ?_); (case T => assumption); (case h => walk_at "rd"))
  | ((with_reducible refine' in_Deck_queue ?T ?h ?_); (case T => assumption); (case h => walk_at "rd"))
  | ((with_reducible refine' in_Deck_told_for ?T ?h ?_); (case T => assumption); (case h => walk_at "rd"))
  | ((with_reducible refine' in_Deck_known ?T ?h ?_); (case T => assumption); (case h => walk_at "rd"))
  | ((with_reducible refine' in_Deck_hours ?T ?h ?_); (case T => assumption); (case h => walk_at "rd")))
local macro_rules | `(tactic| walk_at "go1") => `(tactic| first
  | with_reducible refine g_seq ?_
  | with_reducible refine g_asg ?_
  | with_reducible refine g_n0 ?_
  | with_reducible refine g_n1 ?_
  | with_reducible refine g_n2 ?_
  | with_reducible refine g_n3 ?_
  | with_reducible refine g_n4 ?_
  | with_reducible refine g_n5 ?_
  | with_reducible refine g_n6 ?_
  | with_reducible refine g_n7 ?_
  | with_reducible refine g_n8 ?_
  | with_reducible refine g_n9 ?_
  | with_reducible refine g_n10 ?_
  | with_reducible refine g_n11 ?_
  | with_reducible refine g_n12 ?_
  | ((with_reducible refine' g_var ?h ?_); (case h => exact rfl))
  | with_reducible refine g_c ?_
  | ((with_reducible refine' g_aug ?h ?_); (case h => exact rfl))
  | with_reducible refine g_ip ?_
  | with_reducible refine g_op ?_
  | with_reducible refine g_un ?_
  | with_reducible refine g_I0 ?_
  | ((with_reducible refine' g_I ?h ?_); (case h => walk_at "num"))
  | with_reducible refine g_U ?_
  | ((with_reducible refine' g_eq ?h ?_); (case h => exact rfl))
  | ((with_reducible refine' g_ne ?h ?_); (case h => exact rfl))
  | with_reducible refine g_test ?_
  | with_reducible refine g_tb ?_
  | with_reducible refine g_bl ?_
  | with_reducible refine g_and ?_
  | with_reducible refine g_or ?_
  | with_reducible refine g_not ?_
  | with_reducible refine g_andV ?_
  | with_reducible refine g_orV ?_
  | with_reducible refine g_notV ?_
  | with_reducible refine g_ifE ?_
  | with_reducible refine g_if ?_
  | with_reducible refine g_next ?_
  | with_reducible refine g_cont ?_
  | with_reducible refine g_brk ?_
  | with_reducible refine g_drop ?_
  | with_reducible refine g_ret ?_
  | with_reducible refine g_retN ?_
  | with_reducible refine g_chain ?_
  | with_reducible refine g_nil ?_
  | with_reducible refine g_cons ?_
  | with_reducible refine g_call ?_
  | with_reducible refine g_cb ?_
  | with_reducible refine g_meth ?_
  | with_reducible refine g_fld ?_
  | with_reducible refine g_set ?_
  | with_reducible refine g_tup ?_
  | with_reducible refine g_lst ?_
  | with_reducible refine g_szN (by simp) ?_
  | with_reducible refine iteT ?_
  | with_reducible refine iteF ?_
  | with_reducible refine iteNT ?_
  | with_reducible refine iteNF ?_
  | ((with_reducible refine' w_dT ?h ?_); (case h => walk_at "yes"))
  | ((with_reducible refine' w_dF ?h ?_); (case h => walk_at "no"))
  | ((with_reducible refine' w_ndF ?h ?_); (case h => walk_at "yes"))
  | ((with_reducible refine' w_ndT ?h ?_); (case h => walk_at "no"))
  | with_reducible refine g_gtup ?_
  | with_reducible refine g_gcons ?_
  | with_reducible refine g_gnil ?_
  | ((with_reducible refine' g_ut ?h ?e ?_); (case h => walk_at "tup"); (case e => exact rfl))
  | ((with_reducible refine' g_ixT ?h ?e ?_); (case h => walk_at "tup"); (case e => walk_at "at"))
  | ((with_reducible refine' g_ixL ?h ?e ?_); (case h => walk_at "lst"); (case e => walk_at "at"))
  | ((with_reducible refine' g_lenT ?h ?_); (case h => walk_at "tup"))
  | ((with_reducible refine' g_lenL ?h ?_); (case h => walk_at "lst"))
  | ((with_reducible refine' g_listT ?h ?_); (case h => walk_at "tup"))
  | ((with_reducible refine' g_listL ?h ?_); (case h => walk_at "lst"))
  | ((with_reducible refine' g_tupleT ?h ?_); (case h => walk_at "tup"))
  | ((with_reducible refine' g_tupleL ?h ?_); (case h => walk_at "lst"))
  | with_reducible refine g_mx ?_
  | with_reducible refine g_mn ?_
  | with_reducible refine g_intB ?_
  | ((with_reducible refine' g_dm ?h ?_); (case h => walk_at "num"))
  | with_reducible refine g_isN ?_
  | with_reducible refine g_notN ?_
  | with_reducible refine g_inS ?_
  | ((with_reducible refine' g_inT ?h ?e1 ?e2 ?_); (case h => walk_at "tup"); (case e1 => exact rfl); (case e2 => exact rfl))
  | ((with_reducible refine' g_niT ?h ?e1 ?e2 ?_); (case h => walk_at "tup"); (case e1 => exact rfl); (case e2 => exact rfl))
  | ((with_reducible refine' g_cat ?h ?e1 ?e2 ?_); (case h => walk_at "rd"); (case e1 => walk_at "rd"); (case e2 => walk_at "sz"))
  | with_reducible refine g_isiII ?_
  | with_reducible refine g_isiIB ?_
  | with_reducible refine g_isiSS ?_
  | ((with_reducible refine' g_isiLL ?h ?_); (case h => walk_at "rd"))
  | with_reducible refine g_bm ?_
  | ((with_reducible refine' g_tyL ?h ?_); (case h => walk_at "lst"))
  | ((with_reducible refine' g_append ?h ?e ?_); (case h => walk_at "rd"); (case e => walk_at "sz"))
  | ((with_reducible refine' g_pop0 ?h ?_); (case h => walk_at "rd"))
  | with_reducible refine g_sl ?_
  | with_reducible refine g_nop ?_
  | with_reducible refine g_part ?_
  | with_reducible refine g_ptp ?_
  | with_reducible refine g_dget ?_
  | with_reducible refine g_din ?_
  | with_reducible refine g_dnew ?_
  | with_reducible refine g_dnewT ?_
  | with_reducible refine g_forL ?_
  | with_reducible refine g_forT ?_
  | with_reducible refine g_forR ?_
  | with_reducible refine g_forR2 ?_
  | with_reducible refine g_lcL ?_
  | with_reducible refine g_lcU ?_
  | with_reducible refine g_lcS ?_
  | with_reducible refine g_lcR ?_
  | ((with_reducible refine' g_wp ?h ?_); (case h => exact rfl))
  | with_reducible refine g_yes ?_
  | with_reducible refine g_gfld ?_
  | with_reducible refine g_augS ?_
  | with_reducible refine g_ckw ?_
  | with_reducible refine g_dpop1 ?_
  | with_reducible refine g_dpop2 ?_
  | with_reducible refine g_dsetd ?_
  | with_reducible refine g_dput ?_
  | with_reducible refine g_lkeys ?_
  | ((with_reducible refine' g_rkeys ?h ?_); (case h => walk_at "rd"))
  | ((with_reducible refine' g_onD ?h ?_); (case h => walk_at "rd"))
  | with_reducible refine g_forEz ?_
  | with_reducible refine g_lenFs ?_
  | with_reducible refine g_raise ?_
  | walk_at "fld")
local macro_rules | `(tactic| walk_at "go") => `(tactic| repeat walk_at "go1")

/-! ### Overload's making; a def that lets an error out -/
theorem g_lenFs {K : PySem.W.Frag} {σ : L2.St} {H : Hp} {Q : VK} {ta : TE} (q : ta σ H fun x H1 => rLFs K x H1 Q) : tLenFs K ta σ H Q := q
def sp_ov (K : PySem.W.Frag) : Sp := sp4 fun x a b c H Q _ => ∃ e, x = .ref e ∧ H e = some (exo e (He.ga K "Overload") none) ∧
  ∀ dx fs H2, H dx = none → dx ≠ e → H2 e = some (exo e (He.ga K "Overload") (some dx)) → H2 dx = some (exd dx fs) → (∀ b, b ≠ e → b ≠ dx → H2 b = H b) → Q .non H2
def RoP (C : Addr) (W : XK) (vs : List V) (H : Hp) : Prop := vs.length = 3 ∧ ∀ d H', Same H H' → W (.ref C) (some d) H'
def tRov (C : Addr) (W : WX) (ta : TA) : TS := fun _ σ H => ta σ H fun vs H1 => RoP C (fun cls d H' => W cls d σ H') vs H1
theorem g_raise {C : Addr} {W : WX} {ta : TA} {D : Ends} {σ : L2.St} {H : Hp} (q : ta σ H fun vs H1 => RoP C (fun cls d H' => W cls d σ H') vs H1) : tRov C W ta D σ H := q
section
variable {P : Program} {w : World} {K : PySem.W.Frag} {mg : Str → Option Value} {base : Heap}
theorem fn_ov (T : Top K mg) : ∃ fd, FnOk P w K mg base CX0 2 (He.ma K (He.ga K "Overload") "__init__") fd ["self", "part", "at", "over"] (sp_ov K) ∧ Binds K fd ["self", "part", "at", "over"] [] := by
  obtain ⟨fd, F⟩ := F_Overload_init T
  refine ⟨fd, ?_, F.bindsN (fun _ _ _ _ _ _ us hl => match us, hl with | [_, _, _, _], _ => rfl)⟩
  have oc : OvC K (He.ga K "Overload") := ov_ok (exs T).1.1.1.2
  have no : ∀ f ∈ (["part", "at", "over"] : List String), PySem.W.findIn K (.ref (He.ga K "Overload")) (Str.ofString f) = some none := fun f hf => of_decide_eq_true (List.all_eq_true.mp (exs T).1.1.2 f hf)
  refine fn_body F sc_Overload_init len4 (k := 1) ?_
  rintro cdv A outer s H vs Q E hr ⟨v0, v1, v2, v3, rfl, h⟩
  refine ⟨_, (pss_cons (ps_ov (pv 0) (pv 1))
    (pss_cons (ps_ov (pv 0) (pv 2))
    (pss_one (ps_ov (pv 0) (pv 3))))), ?_⟩
  try dsimp only [cxOf]
  rw [show start ["self", "part", "at", "over"] [v0, v1, v2, v3] = [some v0, some v1, some v2, some v3] from rfl]
  obtain ⟨e, rfl, he, k⟩ := h
  refine ⟨_, rfl, _, rfl, e, _, rfl, oc, no "part" (by simp), .inl ⟨he, fun dx hd hne => ?_⟩⟩
  have h1 : (upd (upd H dx (exd dx [("part", v1)])) e (exo e (He.ga K "Overload") (some dx))) e = some (exo e (He.ga K "Overload") (some dx)) := upd_same
  have h2 : (upd (upd H dx (exd dx [("part", v1)])) e (exo e (He.ga K "Overload") (some dx))) dx = some (exd dx [("part", v1)]) := by rw [upd_ne hne, upd_same]
  refine ⟨_, rfl, _, rfl, e, _, rfl, oc, no "at" (by simp), .inr ⟨dx, _, h1, h2, by show 1 ≤ 900; decide, ?_⟩⟩
  have h3 : ∀ (H' : Hp) (o : HO), H' e = some (exo e (He.ga K "Overload") (some dx)) → (upd H' dx o) e = some (exo e (He.ga K "Overload") (some dx)) := fun H' o q => by rw [upd_ne (Ne.symm hne)]; exact q
  refine ⟨_, rfl, _, rfl, e, _, rfl, oc, no "over" (by simp), .inr ⟨dx, _, h3 _ _ h1, upd_same, by show 2 ≤ 900; decide, ?_⟩⟩
  exact k dx _ _ hd hne (h3 _ _ (h3 _ _ h1)) upd_same fun b n1 n2 => by rw [upd_ne n2, upd_ne n2, upd_ne n1, upd_ne n2]
theorem ps_rov {X : Cx} {j : Nat} {W : WX} {e : Expr} {es : List Expr} {ta : TA} {p pos pos' : Pos} (T : Top X.K X.mg) (hr : Room j X.A) (hj : 3 ≤ j) (hc : X.calm = true) (tk : Takes X W) (ha : PA X (e :: es) ta) (hg : Gl X "Overload" := by rfl)
    (he : starEach (e :: es) X.env = (false, eval e X.env) :: starEach es X.env := by rfl) (hpl : (backTo pos (starEach es X.env)).any (·.1) = false := by rfl) :
    PS X (.Raise (some (.Call (.Name "Overload" p) (e :: es) [] pos)) none pos') (tRov (He.ga X.K "Overload") W ta) := by
  obtain ⟨fd, F, hb⟩ := fn_ov (P := X.prog) (w := X.w) (base := X.base) T
  have mt := He.meth_ok (T.says.fact 167 (f := .meth "Overload" "__init__"))
  have oc : OvC X.K (He.ga X.K "Overload") := ov_ok (exs T).1.1.1.2
  refine ps_raise hc tk (pmk_ov (R := fun vs H1 Q => RoP (He.ga X.K "Overload") Q vs H1) (fun vs H1 Q ⟨l3, q⟩ => ⟨by omega, fun a hn => ?_⟩) oc mt.at_ (beq_iff_eq.mp mt.fn) F (hr.mono hj) hb (fun pins σ H s e s' I h => pass0 pins σ H s e s' I h) hg (g_Overload T) ha (by decide) he hpl)
  obtain ⟨x, y, z, rfl⟩ : ∃ x y z, vs = [x, y, z] := by
    match vs, l3 with
    | [x, y, z], _ => exact ⟨x, y, z, rfl⟩
  refine ⟨_, _, _, _, rfl, a, rfl, upd_same, fun dx fs H2 n1 n2 e1 e2 e3 => ⟨rfl, dx, fs, e1, e2, by rw [← n1, upd_ne n2], q dx _ fun b u hb => ?_⟩⟩
  have nb : b ≠ a := ne_of_none hb hn
  have nd : b ≠ dx := by
    intro z
    rw [z] at hb
    rw [upd_ne n2] at n1
    rw [n1] at hb
    cases hb
  rw [upd_ne nd, del_ne nb, e3 b nb nd, upd_ne nb]
  exact hb
/-- the body of a def that may let an error out -/
def BodyX (P : Program) (w : World) (K : PySem.W.Frag) (mg : Str → Option Value) (base : Heap) (k : Nat) (N : List Str) (qual : Str) (scope : Scope) (body : List Stmt) (f : Addr) (sp : Sp) : Prop :=
  ∀ (cdv : Value) (A : Around) (outer : List Env) (s : Shared) (H : Hp) (vs : List V) (Q : VK) (E : XK), Room k (A.deeper (envOfC qual scope s.heap.objs.size f cdv)) → sp vs H Q E →
    ∃ t, PSs (cxOf (L2.CX P w) P w K mg base N qual scope f cdv A outer s H E) body t ∧ t { nx := fun _ H' => Q .non H', rt := Q } (start N vs) H
theorem fn_bodyX {x qual : Str} {params : Arguments} {body : List Stmt} {scope : Scope} {dvs : List V} {f : Addr} {fd : FuncData} {N ps : List Str} {k : Nat} {sp : Sp} (F : FunD K x qual params body scope dvs [] f fd) (S : FnScope N ps scope) (len : Len ps.length sp)
    (h : BodyX P w K mg base k N qual scope body f sp) : FnOk P w K mg base (L2.CX P w) (k + 1) f fd ps sp := F.ok S len fun cdv A outer s H vs Q E hr hs => h cdv A outer s H vs Q E hr hs
/-- a def that may let an error out, by its promise -/
structure CalX (P : Program) (w : World) (K : PySem.W.Frag) (mg : Str → Option Value) (base : Heap) (k : Nat) (x : Str) (sp : Sp) : Prop where
  ex : ∃ f fd ps, FnOk P w K mg base (L2.CX P w) k f fd ps sp ∧ mg x = some (.ref f) ∧ PySem.W.keepIn K (.ref f) = true ∧ Binds K fd ps []
section
variable {X : Cx} {k j : Nat} {x : Str} {sp : Sp} {p pos : Pos} {e : Expr} {es : List Expr} {t : TA}
theorem pe_fS {E : L2.St → XK} (c : CalX X.prog X.w X.K X.mg X.base k x sp) (hr : Room j X.A) (hk : k ≤ j) (hg : Gl X x) (hx : ∀ σ, PassesAt (L2.CX X.prog X.w) X σ (E σ)) (ha : PA X (e :: es) t) (hdb : (x == ("__debug__" : Str)) = false := by decide)
    (he : starEach (e :: es) X.env = (false, eval e X.env) :: starEach es X.env := by rfl) (hpl : (backTo pos (starEach es X.env)).any (·.1) = false := by rfl) : PE X (.Call (.Name x p) (e :: es) [] pos) (tCallS sp E t) := by
  obtain ⟨f, fd, ps, F, h1, h2, h3⟩ := c.ex
  exact pe_callS F (hr.mono hk) hg h1 h2 h3 hx ha hdb he hpl
/-- .. where it lets none out -/
theorem pe_fX (c : CalX X.prog X.w X.K X.mg X.base k x sp) (hr : Room j X.A) (hk : k ≤ j) (hg : Gl X x) (ha : PA X (e :: es) t) (hdb : (x == ("__debug__" : Str)) = false := by decide)
    (he : starEach (e :: es) X.env = (false, eval e X.env) :: starEach es X.env := by rfl) (hpl : (backTo pos (starEach es X.env)).any (·.1) = false := by rfl) : PE X (.Call (.Name x p) (e :: es) [] pos) (tCall sp [] E0 t) := by
  obtain ⟨f, fd, ps, F, h1, h2, h3⟩ := c.ex
  exact pe_call F (hr.mono hk) hg h1 h2 h3 .nil passL ha hdb he hpl
end
end
end

/-! ## B17 -/
open PySem PySem.Spec PyProof.Rows L2
local macro_rules | `(tactic| walk_at "rd") => `(tactic| first
  | assumption
  | exact SH.g0 (by assumption)
  | exact SH.g1 (by assumption)
  | exact SH.g2 (by assumption)
  | exact SH.g3 (by assumption)
  | exact SH.g4 (by assumption)
  | exact SH.g5 (by assumption)
  | exact SH.g6 (by assumption)
  | exact SH.g7 (by assumption)
  | exact SH.g8 (by assumption)
  | exact SH.g9 (by assumption)
  | exact SH.rd (by assumption) (by assumption))
local macro_rules | `(tactic| walk_at "tup") => `(tactic| first | assumption | exact SqT.of (by walk_at "rd") | exact Same.tup (SH.same (by assumption)) (by assumption))
local macro_rules | `(tactic| walk_at "lst") => `(tactic| first | assumption | exact SqL.of (by walk_at "rd") | exact Same.seq (SH.same (by assumption)) (by assumption))
local macro_rules | `(tactic| walk_at "at") => `(tactic| first | exact at0 | exact at1 | exact at2 | exact at3 | assumption)
local macro_rules | `(tactic| walk_at "sz") => `(tactic| first
  | decide
  | assumption
  | omega
  | (simp; omega))
local macro_rules | `(tactic| walk_at "lct") => `(tactic| (refine lc_t ?_; dsimp only [List.map, wipe, List.set]))
local macro_rules | `(tactic| walk_at "yes") => `(tactic| first
  | assumption
  | exact rfl
  | decide +kernel)
local macro_rules | `(tactic| walk_at "no") => `(tactic| first
  | assumption
  | decide +kernel)
local macro_rules | `(tactic| walk_at "num") => `(tactic| first
  | assumption
  | decide
  | omega
  | exact ⟨by decide, by decide⟩
  | (unfold CMul; omega)
  | (unfold CDiv; omega)
  | (unfold CPow; omega))
local macro_rules | `(tactic| walk_at "fld") => `(tactic| first
  | ((with_reducible refine' rd_Boat_name ?T ?h ?_); (case T => assumption); (case h => walk_at "rd"))
  | ((with_reducible refine' rd_Boat_bears ?T ?h ?_); (case T => assumption); (case h => walk_at "rd"))
  | ((with_reducible refine' rd_Bridge_line_up ?T ?h ?_); (case T => assumption); (case h => walk_at "rd"))
  | ((with_reducible refine' rd_Bridge_beams ?T ?h ?_); (case T => assumption); (case h => walk_at "rd"))
  | ((with_reducible refine' rd_Stretch_first ?T ?h ?_); (case T => assumption); (case h => walk_at "rd"))
  | ((with_reducible refine' rd_Stretch_behind ?T ?h ?_); (case T => assumption); (case h => walk_at "rd"))
  | ((with_reducible refine' rd_Hours_first ?T ?h ?_); (case T => assumption); (case h => walk_at "rd"))
  | ((with_reducible refine' rd_Hours_behind ?T ?h ?_); (case T => assumption); (case h => walk_at "rd"))
  | ((with_reducible refine' rd_Days_weekdays ?T ?h ?_); (case T => assumption); (case h => walk_at "rd"))
  | ((with_reducible refine' rd_Unless_inner ?T ?h ?_); (case T => assumption); (case h => walk_at "rd"))
  | ((with_reducible refine' rd_Both_all_of ?T ?h ?_); (case T => assumption); (case h => walk_at "rd"))
  | ((with_reducible refine' rd_Either_some_of ?T ?h ?_); (case T => assumption); (case h => walk_at "rd"))
  | ((with_reducible refine' rd_Week_runs ?T ?h ?_); (case T => assumption); (case h => walk_at "rd"))
  | ((with_reducible refine' rd_Deck_bridge ?T ?h ?_); (case T => assumption); (case h => walk_at "rd"))
  | ((with_reducible refine' rd_Deck_part ?T ?h ?_); (case T => assumption); (case h => walk_at "rd"))
  | ((with_reducible refine' rd_Deck_out ?T ?h ?_); (case T => assumption); (case h => walk_at "rd"))
  | ((with_reducible refine' rd_Deck_pause ?T ?h ?_); (case T => assumption); (case h => walk_at "rd"))
  | ((with_reducible refine' rd_Deck_turn_most ?T ?h ?_); (case T => assumption); (case h => walk_at "rd"))
  | ((with_reducible refine' rd_Deck_rule ?T ?h ?_); (case T => assumption); (case h => walk_at "rd"))
  | ((with_reducible refine' rd_Deck_week ?T ?h ?_); (case T => assumption); (case h => walk_at "rd"))
  | ((with_reducible refine' rd_Deck_here ?T ?h ?_); (case T => assumption); (case h => walk_at "rd"))
  | ((with_reducible refine' rd_Deck_phase ?T ?h ?_); (case T => assumption); (case h => walk_at "rd"))
  | ((with_reducible refine' rd_Deck_ends ?T ?h ?_); (case T => assumption); (case h => walk_at "rd"))
  | ((with_reducible refine' rd_Deck_down_at ?T ?h ?_); (case T => assumption); (case h => walk_at "rd"))
  | ((with_reducible refine' rd_Deck_whose ?T ?h ?_); (case T => assumption); (case h => walk_at "rd"))
  | ((with_reducible refine' rd_Deck_gone_on ?T ?h ?_); (case T => assumption); (case h => walk_at "rd"))
  | ((with_reducible refine' rd_Deck_carts ?T ?h ?_); (case T => assumption); (case h => walk_at "rd"))
  | ((with_reducible refine' rd_Deck_lines ?T ?h ?_); (case T => assumption); (case h => walk_at "rd"))
  | ((with_reducible refine' rd_Deck_queue ?T ?h ?_); (case T => assumption); (case h => walk_at "rd"))
  | ((with_reducible refine' rd_Deck_told_for ?T ?h ?_); (case T => assumption); (case h => walk_at "rd"))
  | ((with_reducible refine' rd_Deck_known ?T ?h ?_); (case T => assumption); (case h => walk_at "rd"))
  | ((with_reducible refine' rd_Deck_hours ?T ?h ?_); (case T => assumption); (case h => walk_at "rd")))
local macro_rules | `(tactic| walk_at "set") => `(tactic| first
  | ((with_reducible refine' st_Deck_bridge ?T ?h ?_); (case T => assumption); (case h => walk_at "rd"))
  | ((with_reducible refine' st_Deck_part ?T ?h ?_); (case T => assumption); (case h => walk_at "rd"))
  | ((with_reducible refine' st_Deck_out ?T ?h ?_); (case T => assumption); (case h => walk_at "rd"))
  | ((with_reducible refine' st_Deck_pause ?T ?h ?_); (case T => assumption); (case h => walk_at "rd"))
  | ((with_reducible refine' st_Deck_turn_most ?T ?h ?_); (case T => assumption); (case h => walk_at "rd"))
  | ((with_reducible refine' st_Deck_rule ?T ?h ?_); (case T => assumption); (case h => walk_at "rd"))
  | ((with_reducible refine' st_Deck_week ?T ?h ?_); (case T => assumption); (case h => walk_at "rd"))
  | ((with_reducible refine' st_Deck_here ?T ?h ?_); (case T => assumption); (case h => walk_at "rd"))
  | ((with_reducible refine' st_Deck_phase ?T ?h ?_); (case T => assumption); (case h => walk_at "rd"))
  | ((with_reducible refine' st_Deck_ends ?T ?h ?_); (case T => assumption); (case h => walk_at "rd"))
  | ((with_reducible refine' st_Deck_down_at ?T ?h ?_); (case T => assumption); (case h => walk_at "rd"))
  | ((with_reducible refine' st_Deck_whose ?T ?h ?_); (case T => assumption); (case h => walk_at "rd"))
  | ((with_reducible refine' st_Deck_gone_on ?T ?h ?_); (case T => assumption); (case h => walk_at "rd"))
  | ((with_reducible refine' st_Deck_carts ?T ?h ?_); (case T => assumption); (case h => walk_at "rd"))
  | ((with_reducible refine' st_Deck_lines ?T ?h ?_); (case T => assumption); (case h => walk_at "rd"))
  | ((with_reducible refine' st_Deck_queue ?T ?h ?_); (case T => assumption); (case h => walk_at "rd"))
  | ((with_reducible refine' st_Deck_told_for ?T ?h ?_); (case T => assumption); (case h => walk_at "rd"))
  | ((with_reducible refine' st_Deck_known ?T ?h ?_); (case T => assumption); (case h => walk_at "rd"))
  | ((with_reducible refine' st_Deck_hours ?T ?h ?_); (case T => assumption); (case h => walk_at "rd"))
  | ((with_reducible refine' in_Boat_name ?T ?h ?_); (case T => assumption); (case h => walk_at "rd"))
  | ((with_reducible refine' in_Boat_bears ?T ?h ?_); (case T => assumption); (case h => walk_at "rd"))
  | ((with_reducible refine' in_Bridge_line_up ?T ?h ?_); (case T => assumption); (case h => walk_at "rd"))
  | ((with_reducible refine' in_Bridge_beams ?T ?h ?_); (case T => assumption); (case h => walk_at "rd"))
  | ((with_reducible refine' in_Stretch_first ?T ?h ?_); (case T => assumption); (case h => walk_at "rd"))
  | ((with_reducible refine' in_Stretch_behind ?T ?h ?_); (case T => assumption); (case h => walk_at "rd"))
  | ((with_reducible refine' in_Hours_first ?T ?h ?_); (case T => assumption); (case h => walk_at "rd"))
  | ((with_reducible refine' in_Hours_behind ?T ?h ?_); (case T => assumption); (case h => walk_at "rd"))
  | ((with_reducible refine' in_Days_weekdays ?T ?h ?_); (case T => assumption); (case h => walk_at "rd"))
  | ((with_reducible refine' in_Unless_inner ?T ?h ?_); (case T => assumption); (case h => walk_at "rd"))
  | ((with_reducible refine' in_Both_all_of ?T ?h ?_); (case T => assumption); (case h => walk_at "rd"))
  | ((with_reducible refine' in_Either_some_of ?T ?h ?_); (case T => assumption); (case h => walk_at "rd"))
  | ((with_reducible refine' in_Week_runs ?T ?h ?_); (case T => assumption); (case h => walk_at "rd"))
  | ((with_reducible refine' in_Deck_bridge ?T ?h ?_); (case T => assumption); (case h => walk_at "rd"))
  | ((with_reducible refine' in_Deck_part ?T ?h ?_); (case T => assumption); (case h => walk_at "rd"))
  | ((with_reducible refine' in_Deck_out ?T ?h ?_); (case T => assumption); (case h => walk_at "rd"))
  | ((with_reducible refine' in_Deck_pause ?T ?h ?_); (case T => assumption); (case h => walk_at "rd"))
  | ((with_reducible refine' in_Deck_turn_most ?T ?h ?_); (case T => assumption); (case h => walk_at "rd"))
  | ((with_reducible refine' in_Deck_rule ?T ?h ?_); (case T => assumption); (case h => walk_at "rd"))
  | ((with_reducible refine' in_Deck_week ?T ?h ?_); (case T => assumption); (case h => walk_at "rd"))
  | ((with_reducible refine' in_Deck_here ?T ?h ?_); (case T => assumption); (case h => walk_at "rd"))
  | ((with_reducible refine' in_Deck_phase ?T ?h ?_); (case T => assumption); (case h => walk_at "rd"))
  | ((with_reducible refine' in_Deck_ends ?T ?h ?_); (case T => assumption); (case h => walk_at "rd"))
  | ((with_reducible refine' in_Deck_down_at ?T ?h ?_); (case T => assumption); (case h => walk_at "rd"))
  | ((with_reducible refine' in_Deck_whose ?T ?h ?_); (case T => assumption); (case h => walk_at "rd"))
  | ((with_reducible refine' in_Deck_gone_on ?T ?h ?_); (case T => assumption); (case h => walk_at "rd"))
  | ((with_reducible refine' in_Deck_carts ?T ?h ?_); (case T => assumption); (case h => walk_at "rd"))
  | ((with_reducible refine' in_Deck_lines ?T ?h ?_); (case T => assumption); (case h => walk_at "rd"))
  | ((with_reducible refine' in_Deck_queue ?T ?h ?_); (case T => assumption); (case h => walk_at "rd"))
  | ((with_reducible refine' in_Deck_told_for ?T ?h ?_); (case T => assumption); (case h => walk_at "rd"))
  | ((with_reducible refine' in_Deck_known ?T ?h ?_); (case T => assumption); (case h => walk_at "rd"))
  | ((with_reducible refine' in_Deck_hours ?T ?h ?_); (case T => assumption); (case h => walk_at "rd")))
local macro_rules | `(tactic| walk_at "go1") => `(tactic| first
  | with_reducible refine g_seq ?_
  | with_reducible refine g_asg ?_
  | with_reducible refine g_n0 ?_
  | with_reducible refine g_n1 ?_
  | with_reducible refine g_n2 ?_
  | with_reducible refine g_n3 ?_
  | with_reducible refine g_n4 ?_
  | with_reducible refine g_n5 ?_
  | with_reducible refine g_n6 ?_
  | with_reducible refine g_n7 ?_
  | with_reducible refine g_n8 ?_
  | with_reducible refine g_n9 ?_
  | with_reducible refine g_n10 ?_
  | with_reducible refine g_n11 ?_
  | with_reducible refine g_n12 ?_
  | ((with_reducible refine' g_var ?h ?_); (case h => exact rfl))
  | with_reducible refine g_c ?_
  | ((with_reducible refine' g_aug ?h ?_); (case h => exact rfl))
  | with_reducible refine g_ip ?_
  | with_reducible refine g_op ?_
  | with_reducible refine g_un ?_
  | with_reducible refine g_I0 ?_
  | ((with_reducible refine' g_I ?h ?_); (case h => walk_at "num"))
  | with_reducible refine g_U ?_
  | ((with_reducible refine' g_eq ?h ?_); (case h => exact rfl))
  | ((with_reducible refine' g_ne ?h ?_); (case h => exact rfl))
  | with_reducible refine g_test ?_
  | with_reducible refine g_tb ?_
  | with_reducible refine g_bl ?_
  | with_reducible refine g_and ?_
  | with_reducible refine g_or ?_
  | with_reducible refine g_not ?_
  | with_reducible refine g_andV ?_
  | with_reducible refine g_orV ?_
  | with_reducible refine g_notV ?_
  | with_reducible refine g_ifE ?_
  | with_reducible refine g_if ?_
  | with_reducible refine g_next ?_
  | with_reducible refine g_cont ?_
  | with_reducible refine g_brk ?_
  | with_reducible refine g_drop ?_
  | with_reducible refine g_ret ?_
  | with_reducible refine g_retN ?_
  | with_reducible refine g_chain ?_
  | with_reducible refine g_nil ?_
  | with_reducible refine g_cons ?_
  | with_reducible refine g_call ?_
  | with_reducible refine g_cb ?_
  | with_reducible refine g_meth ?_
  | with_reducible refine g_fld ?_
  | with_reducible refine g_set ?_
  | with_reducible refine g_tup ?_
  | with_reducible refine g_lst ?_
  | with_reducible refine g_szN (by simp) ?_
  | with_reducible refine iteT ?_
  | with_reducible refine iteF ?_
  | with_reducible refine iteNT ?_
  | with_reducible refine iteNF ?_
  | ((with_reducible refine' w_dT ?h ?_); (case h => walk_at "yes"))
  | ((with_reducible refine' w_dF ?h ?_); (case h => walk_at "no"))
  | ((with_reducible refine' w_ndF ?h ?_); (case h => walk_at "yes"))
  | ((with_reducible refine' w_ndT ?h ?_); (case h => walk_at "no"))
  | with_reducible refine g_gtup ?_
  | with_reducible refine g_gcons ?_
  | with_reducible refine g_gnil ?_
  | ((with_reducible refine' g_ut ?h ?e ?_); (case h => walk_at "tup"); (case e => exact rfl))
  | ((with_reducible refine' g_ixT ?h ?e ?_); (case h => walk_at "tup"); (case e => walk_at "at"))
  | ((with_reducible refine' g_ixL ?h ?e ?_); (case h => walk_at "lst"); (case e => walk_at "at"))
  | ((with_reducible refine' g_lenT ?h ?_); (case h => walk_at "tup"))
  | ((with_reducible refine' g_lenL ?h ?_); (case h => walk_at "lst"))
  | ((with_reducible refine' g_listT ?h ?_); (case h => walk_at "tup"))
  | ((with_reducible refine' g_listL ?h ?_); (case h => walk_at "lst"))
  | ((with_reducible refine' g_tupleT ?h ?_); (case h => walk_at "tup"))
  | ((with_reducible refine' g_tupleL ?h ?_); (case h => walk_at "lst"))
  | with_reducible refine g_mx ?_
  | with_reducible refine g_mn ?_
  | with_reducible refine g_intB ?_
  | ((with_reducible refine' g_dm ?h ?_); (case h => walk_at "num"))
  | with_reducible refine g_isN ?_
  | with_reducible refine g_notN ?_
  | with_reducible refine g_inS ?_
  | ((with_reducible refine' g_inT ?h ?e1 ?e2 ?_); (case h => walk_at "tup"); (case e1 => exact rfl); (case e2 => exact rfl))
  | ((with_reducible refine' g_niT ?h ?e1 ?e2 ?_); (case h => walk_at "tup"); (case e1 => exact rfl); (case e2 => exact rfl))
  | ((with_reducible refine' g_cat ?h ?e1 ?e2 ?_); (case h => walk_at "rd"); (case e1 => walk_at "rd"); (case e2 => walk_at "sz"))
  | with_reducible refine g_isiII ?_
  | with_reducible refine g_isiIB ?_
  | with_reducible refine g_isiSS ?_
  | ((with_reducible refine' g_isiLL ?h ?_); (case h => walk_at "rd"))
  | with_reducible refine g_bm ?_
  | ((with_reducible refine' g_tyL ?h ?_); (case h => walk_at "lst"))
  | ((with_reducible refine' g_append ?h ?e ?_); (case h => walk_at "rd"); (case e => walk_at "sz"))
  | ((with_reducible refine' g_pop0 ?h ?_); (case h => walk_at "rd"))
  | with_reducible refine g_sl ?_
  | with_reducible refine g_nop ?_
  | with_reducible refine g_part ?_
  | with_reducible refine g_ptp ?_
  | with_reducible refine g_dget ?_
  | with_reducible refine g_din ?_
  | with_reducible refine g_dnew ?_
  | with_reducible refine g_dnewT ?_
  | with_reducible refine g_forL ?_
  | with_reducible refine g_forT ?_
  | with_reducible refine g_forR ?_
  | with_reducible refine g_forR2 ?_
  | with_reducible refine g_lcL ?_
  | with_reducible refine g_lcU ?_
  | with_reducible refine g_lcS ?_
  | with_reducible refine g_lcR ?_
  | ((with_reducible refine' g_wp ?h ?_); (case h => exact rfl))
  | with_reducible refine g_yes ?_
  | with_reducible refine g_gfld ?_
  | with_reducible refine g_augS ?_
  | with_reducible refine g_ckw ?_
  | with_reducible refine g_dpop1 ?_
  | with_reducible refine g_dpop2 ?_
  | with_reducible refine g_dsetd ?_
  | with_reducible refine g_dput ?_
  | with_reducible refine g_lkeys ?_
  | ((with_reducible refine' g_rkeys ?h ?_); (case h => walk_at "rd"))
  | ((with_reducible refine' g_onD ?h ?_); (case h => walk_at "rd"))
  | with_reducible refine g_forEz ?_
  | with_reducible refine g_lenFs ?_
  | with_reducible refine g_raise ?_
  | walk_at "fld")
local macro_rules | `(tactic| walk_at "go") => `(tactic| repeat walk_at "go1")
section
set_option maxHeartbeats 4000000
open PySem PySem.Spec PyProof.Rows L2


section
variable {P : Program} {w : World} {K : PySem.W.Frag} {mg : Str → Option Value} {base : Heap}
/-! whole numbers and names -/
def sp_is_whole : Sp := sp1 fun x H Q _ => (∃ i, x = .int i) ∧ Ret (.bl true) H Q
theorem ok_is_whole (T : Top K mg) : Cal P w K mg base 2 "is_whole" sp_is_whole [] := by
  obtain ⟨fd, F⟩ := F_is_whole T
  refine cal_of F (g_is_whole T) (fun _ _ _ _ _ _ us hl => match us, hl with | [_], _ => rfl) sc_is_whole len1 (k := 1) ?_
  rintro cdv A outer s H vs Q E hr ⟨v0, rfl, h⟩
  refine ⟨_, (pss_one (ps_ret (pe_and (pe_callB (isik K) rfl (fr_isinstance T) PyProof.Rows.boot_isinstance (pa_cons (pv 0) (pa_cons (pe_bltn (v := .ty "int") rfl (fr_int T) PyProof.Rows.boot_int rfl) pa_nil))) (pe_one (pe_not (pe_callB (isik K) rfl (fr_isinstance T) PyProof.Rows.boot_isinstance (pa_cons (pv 0) (pa_cons (pe_bltn (v := .ty "bool") rfl (fr_bool T) PyProof.Rows.boot_bool rfl) pa_nil)))))))), ?_⟩
  try dsimp only [cxOf]
  rw [show start ["thing"] [v0] = [some v0] from rfl]
  obtain ⟨⟨i, rfl⟩, k⟩ := h
  walk_at "go"
  exact k _ (Same.refl _)
def sp_is_from_to : Sp := sp3 fun x a b H Q _ => ∃ i m n, x = .int i ∧ a = .int m ∧ b = .int n ∧ Ret (.bl (decide (m ≤ i) && decide (i ≤ n))) H Q
theorem ok_is_from_to (T : Top K mg) : Cal P w K mg base 3 "is_from_to" sp_is_from_to [] := by
  obtain ⟨fd, F⟩ := F_is_from_to T
  refine cal_of F (g_is_from_to T) (fun _ _ _ _ _ _ us hl => match us, hl with | [_, _, _], _ => rfl) sc_is_from_to len3 (k := 2) ?_
  rintro cdv A outer s H vs Q E hr ⟨v0, v1, v2, rfl, h⟩
  refine ⟨_, (pss_one (ps_ret (pe_and (pe_f (ok_is_whole T) hr (by decide) rfl (pa_cons (pv 0) pa_nil)) (pe_one (pe_chain op_le op_le (pv 1) (pv 0) (pv 2)))))), ?_⟩
  try dsimp only [cxOf]
  rw [show start ["thing", "least", "most"] [v0, v1, v2] = [some v0, some v1, some v2] from rfl]
  obtain ⟨i, m, n, rfl, rfl, rfl, k⟩ := h
  have S := SH.rfl' (H := H)
  walk_at "go"
  refine ⟨_, rfl, ⟨_, rfl⟩, g_retV S fun H1 S1 => ?_⟩
  walk_at "go"
  refine w_d (fun h => ?_) (fun h => ?_)
  · walk_at "go"
    have k1 := k.go S1
    rw [decide_eq_true h] at k1
    exact k1
  · have k1 := k.go S1
    rw [decide_eq_false h] at k1
    exact k1
/-- a name: one to eight small letters -/
def IsNm (z : Str) : Prop := 1 ≤ z.length ∧ z.length ≤ 8 ∧ ∀ c ∈ z.cps.toList, 97 ≤ c ∧ c ≤ 122
theorem letters {c : Nat} (h : 97 ≤ c ∧ c ≤ 122) : decide (c ∈ ("abcdefghijklmnopqrstuvwxyz" : Str).cps.toList) = true := by
  have e : ("abcdefghijklmnopqrstuvwxyz" : Str).cps.toList = (List.range 26).map (· + 97) := by decide +kernel
  rw [e]
  exact decide_eq_true (List.mem_map.mpr ⟨c - 97, List.mem_range.mpr (by omega), by omega⟩)
theorem all_true {bs : List Bool} (h : ∀ b ∈ bs, b = true) : bs.all id = true := List.all_eq_true.mpr fun b m => h b m
theorem trues : ∀ {n : Nat} {acc : List V}, acc = List.replicate n (V.bl true) → acc = (List.replicate n true).map V.bl := fun {n acc} e => by rw [e, List.map_replicate]
theorem all_rep (n : Nat) : (List.replicate n true).all id = true := all_true fun b m => List.eq_of_mem_replicate m
def sp_is_name : Sp := sp1 fun x H Q _ => ∃ z, x = .str z ∧ IsNm z ∧ Ret (.bl true) H Q
theorem ok_is_name (T : Top K mg) : Cal P w K mg base 2 "is_name" sp_is_name [] := by
  obtain ⟨fd, F⟩ := F_is_name T
  refine cal_of F (g_is_name T) (fun _ _ _ _ _ _ us hl => match us, hl with | [_], _ => rfl) sc_is_name len1 (k := 1) ?_
  rintro cdv A outer s H vs Q E hr ⟨v0, rfl, h⟩
  refine ⟨_, (pss_cons (ps_if (PW.pt (pw_or (pt_not (pt_val (pe_callB (isik K) rfl (fr_isinstance T) PyProof.Rows.boot_isinstance (pa_cons (pv 0) (pa_cons (pe_bltn (v := .ty "str") rfl (fr_str T) PyProof.Rows.boot_str rfl) pa_nil))))) (pw_or1 (pt_not (pt_chain op_le op_le pe_int (pe_callB cr_lenS rfl (fr_len T) PySem.boot_len (pa_cons (pv 0) pa_nil)) (C8.pe_gc rfl (i_LONGEST_NAME T))))))) (pss_one (ps_ret pe_bl)) pss_nil)
    (pss_one (ps_ret (pe_callB (allk K rfl) rfl (fr_all T) PyProof.Rows.boot_all (pa_cons (pe_lc (own := [("sign", 1)]) (g := gName 1) (by rfl) sc_is_name.nd (pi_str (pv 0)) (blkOk_by (own := [("sign", 1)]) (N := ["thing", "sign"]) (sc := defScope s_is_name) (by decide +kernel)) (fun _ _ _ _ _ => (pg_name (i := 1) sc_is_name.nd rfl (by first | exact Or.inl rfl | exact Or.inr rfl))) (fun _ _ _ _ _ => pts_nil) (fun _ _ _ _ _ => (pe_cmpR op_inS (pv 1) (C8.pe_gc rfl (i_LETTERS T)) rfl))) pa_nil))))), ?_⟩
  try dsimp only [cxOf]
  rw [show start ["thing", "sign"] [v0] = [some v0, none] from rfl]
  obtain ⟨z, rfl, ⟨z1, z2, z3⟩, k⟩ := h
  have S := SH.rfl' (H := H)
  have z4 : z.length ≤ sizeLine := Nat.le_trans z2 (by decide)
  walk_at "go"
  refine g_lenS z4 ?_
  walk_at "go"
  refine w_dT (by omega) ?_
  walk_at "go"
  refine w_ndF (by omega) ?_
  walk_at "go"
  refine lc_S (fun i acc H0 l => acc = List.replicate i (V.bl true) ∧ l = [] ∧ H0 = H) S ⟨rfl, rfl, rfl⟩ ?_ ?_
  · rintro i c acc D H0 l H' hc ⟨rfl, rfl, rfl⟩ S' hz
    refine lc_t ?_
    dsimp only [List.map, wipe, List.set]
    walk_at "go"
    have hi : i < z.cps.size := (Array.getElem?_eq_some_iff.mp hc).1
    refine yes S' hz (by have e : z.cps.size = z.length := rfl; omega) ⟨?_, rfl, rfl⟩
    rw [letters (z3 c (Array.mem_toList_iff.mpr (Array.mem_of_getElem? hc))), List.replicate_succ']
  · rintro D acc H0 l H' ⟨e, rfl, rfl⟩ _ S'
    refine ⟨D, _, rfl, SqL.of (by rw [← trues e]; exact S'.g0), ?_⟩
    rw [all_rep]
    exact k.go S'.tail
end
end

/-! ## B2 -/
section
set_option maxHeartbeats 4000000
open PySem PySem.Spec PyProof.Rows L2


/-! ### the bridge, carts -/
abbrev bk (b : Bool) : V := .str (if b then "near" else "far")
abbrev cartV (n : Str) (b : Bool) (w p : Int) : List V := [.str n, bk b, .int w, .int p]
/-- boats that bear ws -/
def BoatsAt (K : PySem.W.Frag) (H : Hp) (xs : List V) (ws : List Int) : Prop := xs.length = ws.length ∧ ∀ (i : Nat) (x : V) (w : Int), xs[i]? = some x → ws[i]? = some w → ∃ a dx nm, x = V.ref a ∧ H a = some (.ins (He.ga K "Boat") dx (fl_Boat nm (.int w)))
/-- a bridge of such boats, its spans ss -/
structure BrAt (K : PySem.W.Frag) (H : Hp) (br : Addr) (xs : List V) (ws ss : List Int) : Prop where
  ex : ∃ dx lu be, H br = some (.ins (He.ga K "Bridge") dx (fl_Bridge (.ref lu) (.ref be))) ∧ H lu = some (.tup xs) ∧ H be = some (.tup (ss.map V.int))
  boats : BoatsAt K H xs ws
  len : ss.length = ws.length + 1
  few : ws.length ≤ 10
theorem BoatsAt.same {K : PySem.W.Frag} {H H' : Hp} {xs : List V} {ws : List Int} (s : Same H H') (h : BoatsAt K H xs ws) : BoatsAt K H' xs ws := ⟨h.1, fun i x w e1 e2 => let ⟨a, dx, nm, e, q⟩ := h.2 i x w e1 e2; ⟨a, dx, nm, e, s _ _ q⟩⟩
theorem BrAt.same {K : PySem.W.Frag} {H H' : Hp} {br : Addr} {xs : List V} {ws ss : List Int} (s : Same H H') (h : BrAt K H br xs ws ss) : BrAt K H' br xs ws ss :=
  ⟨let ⟨dx, lu, be, h1, h2, h3⟩ := h.ex; ⟨dx, lu, be, s _ _ h1, s _ _ h2, s _ _ h3⟩, h.boats.same s, h.len, h.few⟩
/-- a cart on the deck -/
structure Crt where
  name : Str
  near : Bool
  w : Int
  p : Int
def CrtAt (K : PySem.W.Frag) (H : Hp) (x : V) (c : Crt) : Prop := ∃ a, x = .ref a ∧ SqT K H a (cartV c.name c.near c.w c.p)
theorem CrtAt.same {K : PySem.W.Frag} {H H' : Hp} {x : V} {c : Crt} (s : Same H H') (h : CrtAt K H x c) : CrtAt K H' x c := let ⟨a, e, q⟩ := h; ⟨a, e, Same.tup s q⟩
abbrev CrtsAt (K : PySem.W.Frag) (H : Hp) (xs : List V) (cs : List Crt) : Prop := Paired (CrtAt K H) xs cs
theorem CrtsAt.same {K : PySem.W.Frag} {H H' : Hp} (s : Same H H') : ∀ {xs : List V} {cs : List Crt}, CrtsAt K H xs cs → CrtsAt K H' xs cs
  | _, _, .nil => .nil
  | _, _, .cons h t => .cons (h.same s) (CrtsAt.same s t)
def Crt.roll (c : Crt) : Crt := { c with p := if c.near then c.p + 1 else c.p - 1 }
def Crt.off (n : Nat) (c : Crt) : Bool := !(decide (0 ≤ c.p) && decide (c.p ≤ n))
section
variable {P : Program} {w : World} {K : PySem.W.Frag} {mg : Str → Option Value} {base : Heap}
def sp_Bridge_len (K : PySem.W.Frag) : Sp := sp1 fun b H Q _ => ∃ br xs ws ss, b = .ref br ∧ BrAt K H br xs ws ss ∧ Ret (.int (ws.length : Nat)) H Q
theorem ok_Bridge_len (T : Top K mg) : Met P w K mg base 2 (He.ga K "Bridge") "__len__" (sp_Bridge_len K) [] := by
  obtain ⟨fd, F⟩ := F_Bridge_len T
  refine met_of F (c_Bridge T) (m_Bridge_len T) (fun _ _ _ _ _ _ us hl => match us, hl with | [_], _ => rfl) sc_Bridge_len len1 (k := 1) ?_
  rintro cdv A outer s H vs Q E hr ⟨v0, rfl, h⟩
  refine ⟨_, (pss_one (ps_ret (pe_callB (lenk K) rfl (fr_len T) PySem.boot_len (pa_cons (fldk K (pv 0) rfl) pa_nil)))), ?_⟩
  try dsimp only [cxOf]
  rw [show start ["self"] [v0] = [some v0] from rfl]
  obtain ⟨br, xs, ws, ss, rfl, ⟨⟨dx, lu, be, h1, h2, h3⟩, hb, hl, hf⟩, k⟩ := h
  have S := SH.rfl' (H := H)
  walk_at "go"
  rw [hb.1]
  exact k.go S
def sp_Bridge_boats (K : PySem.W.Frag) : Sp := sp1 fun b H Q _ => ∃ br xs ws ss, b = .ref br ∧ BrAt K H br xs ws ss ∧ RetN (.lst xs) H Q
theorem ok_Bridge_boats (T : Top K mg) : Met P w K mg base 2 (He.ga K "Bridge") "boats" (sp_Bridge_boats K) [] := by
  obtain ⟨fd, F⟩ := F_Bridge_boats T
  refine met_of F (c_Bridge T) (m_Bridge_boats T) (fun _ _ _ _ _ _ us hl => match us, hl with | [_], _ => rfl) sc_Bridge_boats len1 (k := 1) ?_
  rintro cdv A outer s H vs Q E hr ⟨v0, rfl, h⟩
  refine ⟨_, (pss_one (ps_ret (pe_callTy (lstk K) rfl (fr_list T) PyProof.Rows.boot_list (pa_cons (fldk K (pv 0) rfl) pa_nil)))), ?_⟩
  try dsimp only [cxOf]
  rw [show start ["self"] [v0] = [some v0] from rfl]
  obtain ⟨br, xs, ws, ss, rfl, ⟨⟨dx, lu, be, h1, h2, h3⟩, hb, hl, hf⟩, k⟩ := h
  have S := SH.rfl' (H := H)
  walk_at "go"
  refine g_new S fun p H1 S1 => ?_
  exact k.go0 S1
def sp_Bridge_spans (K : PySem.W.Frag) : Sp := sp1 fun b H Q _ => ∃ br xs ws ss, b = .ref br ∧ BrAt K H br xs ws ss ∧ RetN (.lst (ss.map V.int)) H Q
theorem ok_Bridge_spans (T : Top K mg) : Met P w K mg base 2 (He.ga K "Bridge") "spans" (sp_Bridge_spans K) [] := by
  obtain ⟨fd, F⟩ := F_Bridge_spans T
  refine met_of F (c_Bridge T) (m_Bridge_spans T) (fun _ _ _ _ _ _ us hl => match us, hl with | [_], _ => rfl) sc_Bridge_spans len1 (k := 1) ?_
  rintro cdv A outer s H vs Q E hr ⟨v0, rfl, h⟩
  refine ⟨_, (pss_one (ps_ret (pe_callTy (lstk K) rfl (fr_list T) PyProof.Rows.boot_list (pa_cons (fldk K (pv 0) rfl) pa_nil)))), ?_⟩
  try dsimp only [cxOf]
  rw [show start ["self"] [v0] = [some v0] from rfl]
  obtain ⟨br, xs, ws, ss, rfl, ⟨⟨dx, lu, be, h1, h2, h3⟩, hb, hl, hf⟩, k⟩ := h
  have S := SH.rfl' (H := H)
  walk_at "go"
  refine g_new S fun p H1 S1 => ?_
  exact k.go0 S1
theorem g_lnB {br : Addr} {xs : List V} {ws ss : List Int} {H0 H : Hp} {Q : VK} {l : List (Addr × HO)} (hb : BrAt K H br xs ws ss) (S : SH H0 l H) (k : ∀ H1, SH H0 l H1 → Q (.int (ws.length : Nat)) H1) : rLnO (He.ga K "Bridge") (sp_Bridge_len K) [V.ref br] H Q :=
  let ⟨dx, lu, be, h1, _⟩ := hb.ex
  ⟨br, dx, _, rfl, h1, _, rfl, br, xs, ws, ss, rfl, hb, fun H1 s => ⟨ws.length, rfl, Nat.le_trans hb.few (by decide), k H1 (S.call s)⟩⟩
local macro_rules | `(tactic| walk_at "br") => `(tactic| first | assumption | exact BrAt.same (SH.same (by assumption)) (by assumption))
local macro_rules | `(tactic| walk_at "go1") => `(tactic| ((with_reducible refine' g_lnB ?h ?S (fun _ _ => ?_)); (case h => walk_at "br"); (case S => assumption)))
/-! rolled, banks -/
def sp_rolled (K : PySem.W.Frag) : Sp := sp1 fun x H Q _ => ∃ c, CrtAt K H x c ∧ RetN (.tup (cartV c.name c.near c.w c.roll.p)) H Q
theorem ok_rolled (T : Top K mg) : Cal P w K mg base 2 "rolled" (sp_rolled K) [] := by
  obtain ⟨fd, F⟩ := F_rolled T
  refine cal_of F (g_rolled T) (fun _ _ _ _ _ _ us hl => match us, hl with | [_], _ => rfl) sc_rolled len1 (k := 1) ?_
  rintro cdv A outer s H vs Q E hr ⟨v0, rfl, h⟩
  refine ⟨_, (pss_cons (ps_asg (pv 0) (tupk K (n := 4) rfl (pgs_cons (pg_name (i := 1) sc_rolled.nd rfl (by first | exact Or.inl rfl | exact Or.inr rfl)) (pgs_cons (pg_name (i := 2) sc_rolled.nd rfl (by first | exact Or.inl rfl | exact Or.inr rfl)) (pgs_cons (pg_name (i := 3) sc_rolled.nd rfl (by first | exact Or.inl rfl | exact Or.inr rfl)) (pgs_cons (pg_name (i := 4) sc_rolled.nd rfl (by first | exact Or.inl rfl | exact Or.inr rfl)) pgs_nil))))))
    (pss_cons (ps_aug (i := 4) sc_rolled.nd rfl (by first | exact Or.inl rfl | exact Or.inr rfl) (pe_ifExp (pt_cmpR op_eq (pv 2) pe_str (nomark _)) pe_int (pe_un un_neg pe_int)) ip_add)
    (pss_one (ps_ret (pe_tup (pa_cons (pv 1) (pa_cons (pv 2) (pa_cons (pv 3) (pa_cons (pv 4) pa_nil))))))))), ?_⟩
  try dsimp only [cxOf]
  rw [show start ["cart", "name", "bank", "weight", "place"] [v0] = [some v0, none, none, none, none] from rfl]
  obtain ⟨⟨n, b, wt, p⟩, ⟨a, rfl, ht⟩, k⟩ := h
  dsimp only [Crt.roll] at ht k
  have S := SH.rfl' (H := H)
  cases b
  · walk_at "go"
    refine g_new S fun q H1 S1 => ?_
    exact k.go0 S1
  · walk_at "go"
    refine g_new S fun q H1 S1 => ?_
    exact k.go0 S1
def rTix (K : PySem.W.Frag) : V → List V → Hp → VK → Prop := fun x xs H Q => ∃ p, ∃ ys : List Str, ∃ z j, x = .ref p ∧ xs = [.str z] ∧ SqT K H p (ys.map V.str) ∧ ys[j]? = some z ∧ (∀ m, m < j → ys[m]? ≠ some z) ∧ Q (.int (j : Nat)) H
theorem mt_tindex {X : Cx} : MtR X "tuple.index" (rTix X.K) := mt_tup_index
theorem g_bix {T : Top K mg} {b : Bool} {H : Hp} {Q : VK} (q : Q (.int (if b then 0 else 1)) H) : rTix K (.ref (He.ga K "BANKS")) [bk b] H Q := by
  cases b
  · exact ⟨_, ["near", "far"], "far", 1, rfl, rfl, t_BANKS T H, rfl, fun m hm => by (obtain rfl : m = 0 := by omega); decide +kernel, q⟩
  · exact ⟨_, ["near", "far"], "near", 0, rfl, rfl, t_BANKS T H, rfl, fun m hm => absurd hm (Nat.not_lt_zero m), q⟩
def sp_other_bank : Sp := sp1 fun x H Q _ => ∃ b, x = bk b ∧ Ret (bk (!b)) H Q
theorem ok_other_bank (T : Top K mg) : Cal P w K mg base 2 "other_bank" sp_other_bank [] := by
  obtain ⟨fd, F⟩ := F_other_bank T
  refine cal_of F (g_other_bank T) (fun _ _ _ _ _ _ us hl => match us, hl with | [_], _ => rfl) sc_other_bank len1 (k := 1) ?_
  rintro cdv A outer s H vs Q E hr ⟨v0, rfl, h⟩
  refine ⟨_, (pss_one (ps_ret (pe_ix (ixTk K) (pe_glob (v := V.ref _) rfl (g_BANKS T) rfl) (pe_op op_sub pe_int (pe_bm PySem.F.plainAttrs_tuple PySem.F.slot_tuple_index PySem.F.type_tuple_index mt_tindex (pe_glob (v := V.ref _) rfl (g_BANKS T) rfl) (pa_cons (pv 0) pa_nil))) (fun _ _ => rfl)))), ?_⟩
  try dsimp only [cxOf]
  rw [show start ["bank"] [v0] = [some v0] from rfl]
  obtain ⟨b, rfl, k⟩ := h
  have S := SH.rfl' (H := H)
  have tB := t_BANKS T H
  walk_at "go"
  refine ⟨.inr (.inl ⟨rfl, bx T⟩), ?_⟩
  walk_at "go"
  refine g_bix (T := T) ?_
  walk_at "go"
  cases b
  · exact g_ixT tB at0 (k.go S)
  · exact g_ixT tB at1 (k.go S)
def sp_bank_span (K : PySem.W.Frag) : Sp := sp2 fun x y H Q _ => ∃ br xs ws ss b, x = .ref br ∧ y = bk b ∧ BrAt K H br xs ws ss ∧ Ret (.int (if b then 0 else (ws.length : Nat))) H Q
theorem ok_bank_span (T : Top K mg) : Cal P w K mg base 4 "bank_span" (sp_bank_span K) [] := by
  obtain ⟨fd, F⟩ := F_bank_span T
  refine cal_of F (g_bank_span T) (fun _ _ _ _ _ _ us hl => match us, hl with | [_, _], _ => rfl) sc_bank_span len2 (k := 3) ?_
  rintro cdv A outer s H vs Q E hr ⟨v0, v1, rfl, h⟩
  refine ⟨_, (pss_one (ps_ret (pe_ifExp (pt_cmpR op_eq (pv 1) pe_str (nomark _)) pe_int (pe_callB (cr_lnO (ok_Bridge_len T) hr (by decide)) rfl (fr_len T) PySem.boot_len (pa_cons (pv 0) pa_nil))))), ?_⟩
  try dsimp only [cxOf]
  rw [show start ["bridge", "bank"] [v0, v1] = [some v0, some v1] from rfl]
  obtain ⟨br, xs, ws, ss, b, rfl, rfl, hb, k⟩ := h
  have S := SH.rfl' (H := H)
  cases b
  · walk_at "go"
    exact k.go (by assumption)
  · walk_at "go"
    exact k.go S
def sp_is_off (K : PySem.W.Frag) : Sp := sp2 fun x y H Q _ => ∃ br xs ws ss c, x = .ref br ∧ CrtAt K H y c ∧ BrAt K H br xs ws ss ∧ Ret (.bl (c.off ws.length)) H Q
theorem ok_is_off (T : Top K mg) : Cal P w K mg base 4 "is_off" (sp_is_off K) [] := by
  obtain ⟨fd, F⟩ := F_is_off T
  refine cal_of F (g_is_off T) (fun _ _ _ _ _ _ us hl => match us, hl with | [_, _], _ => rfl) sc_is_off len2 (k := 3) ?_
  rintro cdv A outer s H vs Q E hr ⟨v0, v1, rfl, h⟩
  refine ⟨_, (pss_one (ps_ret (pe_not (pe_chain op_le op_le pe_int (pe_ix (ixTk K) (pv 1) pe_int (fun _ _ => rfl)) (pe_callB (cr_lnO (ok_Bridge_len T) hr (by decide)) rfl (fr_len T) PySem.boot_len (pa_cons (pv 0) pa_nil)))))), ?_⟩
  try dsimp only [cxOf]
  rw [show start ["bridge", "cart"] [v0, v1] = [some v0, some v1] from rfl]
  obtain ⟨br, xs, ws, ss, ⟨n, b, wt, p⟩, rfl, ⟨a, rfl, ht⟩, hb, k⟩ := h
  dsimp only [Crt.off] at ht k
  have S := SH.rfl' (H := H)
  walk_at "go"
  refine w_d (fun h1 => ?_) (fun h1 => ?_)
  · walk_at "go"
    rw [decide_eq_true h1, Bool.true_and] at k
    exact k.go (by assumption)
  · walk_at "go"
    rw [decide_eq_false h1, Bool.false_and] at k
    exact k.go S
end
end

/-! ## B3 -/
local macro_rules | `(tactic| walk_at "br") => `(tactic| first | assumption | exact BrAt.same (SH.same (by assumption)) (by assumption))
local macro_rules | `(tactic| walk_at "go1") => `(tactic| ((with_reducible refine' g_lnB ?h ?S (fun _ _ => ?_)); (case h => walk_at "br"); (case S => assumption)))
section
set_option maxHeartbeats 4000000
open PySem PySem.Spec PyProof.Rows L2




section
variable {P : Program} {w : World} {K : PySem.W.Frag} {mg : Str → Option Value} {base : Heap}
/-! ### loads -/
def ldOf (n : Nat) (cs : List Crt) : List Int := cs.foldl (fun l c => l.set c.p.toNat (l.getD c.p.toNat 0 + c.w)) (List.replicate (n + 1) 0)
theorem ldOf_snoc (n : Nat) (cs : List Crt) (c : Crt) : ldOf n (cs ++ [c]) = (ldOf n cs).set c.p.toNat ((ldOf n cs).getD c.p.toNat 0 + c.w) := by unfold ldOf; rw [List.foldl_append]; rfl
theorem ldOf_len (n : Nat) (cs : List Crt) : (ldOf n cs).length = n + 1 := by
  unfold ldOf
  have : ∀ (cs : List Crt) (l : List Int), (cs.foldl (fun l c => l.set c.p.toNat (l.getD c.p.toNat 0 + c.w)) l).length = l.length := by
    intro cs
    induction cs with
    | nil => intro l; rfl
    | cons c r ih => intro l; rw [List.foldl_cons, ih, List.length_set]
  rw [this, List.length_replicate]
theorem rep_int (n : Nat) : List.flatten (List.replicate n [V.int 0]) = (List.replicate n (0 : Int)).map V.int := by
  induction n with
  | zero => rfl
  | succ n ih => rw [List.replicate_succ, List.flatten_cons, ih, List.replicate_succ, List.map_cons] <;> rfl
theorem off_no {n : Nat} {c : Crt} (h : c.off n = false) : 0 ≤ c.p ∧ c.p ≤ n := by
  unfold Crt.off at h
  simpa using h
theorem CrtsAt.get {H : Hp} {xs : List V} {cs : List Crt} (h : CrtsAt K H xs cs) {i : Nat} {x : V} (e : xs[i]? = some x) : ∃ c, cs[i]? = some c ∧ CrtAt K H x c := LiI.paired_get h e
theorem ixNn {n j : Nat} (hj : j < n) : ixN n (j : Int) = some j := by
  unfold ixN
  rw [if_pos (by omega), if_pos (by omega), Int.toNat_natCast]
def sp_load_of (K : PySem.W.Frag) : Sp := sp2 fun x y H Q _ => ∃ br xs ws ss lc rs cs, x = .ref br ∧ y = .ref lc ∧ BrAt K H br xs ws ss ∧ SqL K H lc rs ∧ CrtsAt K H rs cs ∧ (∀ c ∈ cs, c.off ws.length = false) ∧ RetN (.lst ((ldOf ws.length cs).map V.int)) H Q
theorem ok_load_of (T : Top K mg) : Cal P w K mg base 4 "load_of" (sp_load_of K) [] := by
  obtain ⟨fd, F⟩ := F_load_of T
  refine cal_of F (g_load_of T) (fun _ _ _ _ _ _ us hl => match us, hl with | [_, _], _ => rfl) sc_load_of len2 (k := 3) ?_
  rintro cdv A outer s H vs Q E hr ⟨v0, v1, rfl, h⟩
  refine ⟨_, (pss_cons (ps_set (i := 2) sc_load_of.nd rfl (by first | exact Or.inl rfl | exact Or.inr rfl) (pe_op op_rep (pe_lst (pa_cons pe_int pa_nil)) (pe_op op_add (pe_callB (cr_lnO (ok_Bridge_len T) hr (by decide)) rfl (fr_len T) PySem.boot_len (pa_cons (pv 0) pa_nil)) pe_int)))
    (pss_cons (ps_for PassesOwn.never rfl (pi_list (pv 1)) (tupk K (n := 4) rfl (pgs_cons (pg_name (i := 3) sc_load_of.nd rfl (by first | exact Or.inl rfl | exact Or.inr rfl)) (pgs_cons (pg_name (i := 4) sc_load_of.nd rfl (by first | exact Or.inl rfl | exact Or.inr rfl)) (pgs_cons (pg_name (i := 5) sc_load_of.nd rfl (by first | exact Or.inl rfl | exact Or.inr rfl)) (pgs_cons (pg_name (i := 6) sc_load_of.nd rfl (by first | exact Or.inl rfl | exact Or.inr rfl)) pgs_nil))))) (pss_one (ps_augS (pv 2) (pv 6) get_list (pv 5) ip_add set_list)))
    (pss_one (ps_ret (pv 2))))), ?_⟩
  try dsimp only [cxOf]
  rw [show start ["bridge", "carts", "found", "name", "bank", "weight", "place"] [v0, v1] = [some v0, some v1, none, none, none, none, none] from rfl]
  obtain ⟨br, xs, ws, ss, lc, rs, cs, rfl, rfl, hb, hl, hc, hof, k⟩ := h
  have S := SH.rfl' (H := H)
  have few := hb.few
  walk_at "go"
  refine g_new S fun z H1 S1 => ?_
  walk_at "go"
  refine g_rep (by walk_at "rd") (by omega) (by decide) ?_
  rename_i H2 S2
  refine g_new S2 fun f H3 S3 => ?_
  walk_at "go"
  rw [show ((ws.length : Int) + 1).toNat = ws.length + 1 by omega, rep_int] at S3
  have hlen : rs.length = cs.length := Paired.length hc
  refine for_L (fun i σ H0 l => (∃ a b c d, σ = [some (.ref br), some (.ref lc), some (.ref f), a, b, c, d]) ∧ H0 = H ∧ l = [(f, .lst ((ldOf ws.length (cs.take i)).map V.int)), (z, .lst [.int 0])]) S3 ⟨⟨_, _, _, _, rfl⟩, rfl, rfl⟩
    (fun i σ H0 l H' ⟨_, e, _⟩ S' => by subst e; exact S'.same.seq hl) ?_ ?_
  · rintro i x σ H0 l H' hx ⟨⟨a, b, c, d, rfl⟩, rfl, rfl⟩ S'
    obtain ⟨⟨nm, nr, wt, p⟩, hci, ⟨t, rfl, ht⟩⟩ := hc.get hx
    have hm := hof _ (List.mem_of_getElem? hci)
    obtain ⟨p0, p1⟩ := off_no hm
    dsimp only at ht p0 p1
    obtain ⟨q, rfl⟩ : ∃ q : Nat, p = (q : Int) := ⟨p.toNat, by omega⟩
    have e1 : (ldOf ws.length (cs.take (i + 1))) = (ldOf ws.length (cs.take i)).set q ((ldOf ws.length (cs.take i)).getD q 0 + wt) := by rw [List.take_add_one, hci]; exact ldOf_snoc ..
    have l1 : (ldOf ws.length (cs.take i)).length = ws.length + 1 := ldOf_len ..
    have hp : q < (ldOf ws.length (cs.take i)).length := by rw [l1]; omega
    walk_at "go"
    refine g_ixL (v := .int ((ldOf ws.length (cs.take i)).getD q 0)) (by walk_at "lst") (atI_nat (by rw [List.getElem?_map, List.getElem?_eq_getElem hp, List.getD_eq_getElem?_getD, List.getElem?_eq_getElem hp] <;> rfl)) ?_
    walk_at "go"
    refine g_setL (j := q) (by walk_at "rd") (ixNn (by rw [List.length_map]; exact hp)) (S'.u0 fun H4 S4 => ?_)
    rw [← List.map_set, ← e1] at S4
    exact ⟨_, _, S4, ⟨_, _, _, _, rfl⟩, rfl, rfl⟩
  · rintro σ H0 l H' ⟨⟨a, b, c, d, rfl⟩, rfl, rfl⟩ S'
    rw [hlen, List.take_length] at S'
    walk_at "go"
    exact k.go0 S'
end
end

/-! ## B4 -/
section
set_option maxHeartbeats 4000000
open PySem PySem.Spec PyProof.Rows L2




section
variable {P : Program} {w : World} {K : PySem.W.Frag} {mg : Str → Option Value} {base : Heap}
def hvOf (n : Nat) (ld : List Int) : List Int := (List.range n).map fun k => ld.getD k 0 + ld.getD (k + 1) 0
theorem atInts {ld : List Int} {j : Nat} (h : j < ld.length) : atI (ld.map V.int) (j : Int) = some (.int (ld.getD j 0)) := atI_nat (by rw [List.getElem?_map, List.getElem?_eq_getElem h, List.getD_eq_getElem?_getD, List.getElem?_eq_getElem h] <;> rfl)
def sp_halves (K : PySem.W.Frag) : Sp := sp2 fun x y H Q _ => ∃ br xs ws ss lo ld, x = .ref br ∧ y = .ref lo ∧ BrAt K H br xs ws ss ∧ SqL K H lo (ld.map V.int) ∧ ld.length = ws.length + 1 ∧ RetN (.lst ((hvOf ws.length ld).map V.int)) H Q
theorem ok_halves (T : Top K mg) : Cal P w K mg base 4 "halves" (sp_halves K) [] := by
  obtain ⟨fd, F⟩ := F_halves T
  refine cal_of F (g_halves T) (fun _ _ _ _ _ _ us hl => match us, hl with | [_, _], _ => rfl) sc_halves len2 (k := 3) ?_
  rintro cdv A outer s H vs Q E hr ⟨v0, v1, rfl, h⟩
  refine ⟨_, (pss_one (ps_ret (pe_lc (own := [("k", 2)]) (g := gName 2) (by rfl) sc_halves.nd (pi_range1 rfl (fr_range T) (pa_cons (pe_callB (cr_lnO (ok_Bridge_len T) hr (by decide)) rfl (fr_len T) PySem.boot_len (pa_cons (pv 0) pa_nil)) pa_nil)) (blkOk_by (own := [("k", 2)]) (N := ["bridge", "load", "k"]) (sc := defScope s_halves) (by decide +kernel)) (fun _ _ _ _ _ => (pg_name (i := 2) sc_halves.nd rfl (by first | exact Or.inl rfl | exact Or.inr rfl))) (fun _ _ _ _ _ => pts_nil) (fun _ _ _ _ _ => (pe_op op_add (pe_ix (ixLk K) (pv 1) (pv 2) (fun _ _ => rfl)) (pe_ix (ixLk K) (pv 1) (pe_op op_add (pv 2) pe_int) (fun _ _ => rfl))))))), ?_⟩
  try dsimp only [cxOf]
  rw [show start ["bridge", "load", "k"] [v0, v1] = [some v0, some v1, none] from rfl]
  obtain ⟨br, xs, ws, ss, lo, ld, rfl, rfl, hb, hl, hn, k⟩ := h
  have S := SH.rfl' (H := H)
  have few := hb.few
  walk_at "go"
  rename_i H1 S1
  refine lc_R (fun i acc H0 l => acc = (hvOf i ld).map V.int ∧ H = H0 ∧ l = []) S1 (by omega) ⟨rfl, rfl, rfl⟩ ?_ ?_
  · rintro i acc D H0 l H' hi ⟨rfl, rfl, rfl⟩ S' hz
    walk_at "lct"
    walk_at "go"
    refine g_ixL (by walk_at "lst") (atInts (by omega)) ?_
    walk_at "go"
    refine g_ixL (by walk_at "lst") (by rw [show ((i : Int) + 1) = ((i + 1 : Nat) : Int) by omega]; exact atInts (by omega)) ?_
    walk_at "go"
    refine yes S' hz (by omega) ⟨?_, rfl, rfl⟩
    unfold hvOf
    rw [List.range_succ, List.map_append, List.map_append] <;> rfl
  · rintro D acc H0 l H' ⟨rfl, rfl, rfl⟩ hz S'
    rw [show (ws.length : Int).toNat = ws.length by omega] at S'
    exact k.go0 S'
/-! ### what is too much -/
def Fits (ws ss ld : List Int) : Prop := (∀ (i : Nat) l s, ld[i]? = some l → ss[i]? = some s → l ≤ s) ∧ ∀ (i : Nat) a b, (hvOf ws.length ld)[i]? = some a → ws[i]? = some b → a ≤ 2 * b
def sp_need (K : PySem.W.Frag) : Sp := sp2 fun x y H Q E => ∃ br xs ws ss lo ld, x = .ref br ∧ y = .ref lo ∧ BrAt K H br xs ws ss ∧ SqL K H lo (ld.map V.int) ∧ ld.length = ws.length + 1 ∧ Ret .non H Q ∧ (¬ Fits ws ss ld → ∀ d H', Same H H' → E (.ref (He.ga K "Overload")) (some d) H')
theorem hv_len (n : Nat) (ld : List Int) : (hvOf n ld).length = n := by unfold hvOf; rw [List.length_map, List.length_range]
theorem ints_at {ns : List Int} {i : Nat} {x : V} (h : (ns.map V.int)[i]? = some x) : ∃ k, ns[i]? = some k ∧ x = .int k := by
  rw [List.getElem?_map] at h
  cases e : ns[i]? with
  | none => rw [e] at h; cases h
  | some k => rw [e] at h; cases h; exact ⟨k, rfl, rfl⟩
theorem ok_need_borne (T : Top K mg) : CalX P w K mg base 5 "need_borne" (sp_need K) := by
  obtain ⟨fd, F⟩ := F_need_borne T
  refine ⟨_, fd, ["bridge", "load"], ?_, g_need_borne T, F.kp, F.bindsN (fun _ _ _ _ _ _ us hl => match us, hl with | [_, _], _ => rfl)⟩
  refine fn_bodyX F sc_need_borne len2 (k := 4) ?_
  rintro cdv A outer s H vs Q E hr ⟨v0, v1, rfl, h⟩
  refine ⟨_, (pss_cons (ps_for (passes_of rfl) rfl (pi_ez rfl (fr_enumerate T) rfl (fr_zip T) (pa_cons (pv 1) (pa_cons (pe_m0 (ok_Bridge_spans T) hr (by decide) (pv 0)) pa_nil))) (tupk K (n := 2) rfl (pgs_cons (pg_name (i := 2) sc_need_borne.nd rfl (by first | exact Or.inl rfl | exact Or.inr rfl)) (pgs_cons (tupk K (n := 2) rfl (pgs_cons (pg_name (i := 3) sc_need_borne.nd rfl (by first | exact Or.inl rfl | exact Or.inr rfl)) (pgs_cons (pg_name (i := 4) sc_need_borne.nd rfl (by first | exact Or.inl rfl | exact Or.inr rfl)) pgs_nil))) pgs_nil))) (pss_one (ps_if (pt_cmpR op_gt (pv 3) (pv 4) (nomark _)) (pss_one (ps_rov T hr (by decide) rfl (takes_of rfl rfl rfl rfl) (pa_cons pe_str (pa_cons (pv 2) (pa_cons (pe_op op_sub (pv 3) (pv 4)) pa_nil))))) pss_nil)))
    (pss_one (ps_for (passes_of rfl) rfl (pi_ez rfl (fr_enumerate T) rfl (fr_zip T) (pa_cons (pe_f (ok_halves T) hr (by decide) rfl (pa_cons (pv 0) (pa_cons (pv 1) pa_nil))) (pa_cons (pe_m0 (ok_Bridge_boats T) hr (by decide) (pv 0)) pa_nil))) (tupk K (n := 2) rfl (pgs_cons (pg_name (i := 2) sc_need_borne.nd rfl (by first | exact Or.inl rfl | exact Or.inr rfl)) (pgs_cons (tupk K (n := 2) rfl (pgs_cons (pg_name (i := 5) sc_need_borne.nd rfl (by first | exact Or.inl rfl | exact Or.inr rfl)) (pgs_cons (pg_name (i := 6) sc_need_borne.nd rfl (by first | exact Or.inl rfl | exact Or.inr rfl)) pgs_nil))) pgs_nil))) (pss_one (ps_if (pt_cmpR op_gt (pv 5) (pe_op op_mul pe_int (fldk K (pv 6) rfl)) (nomark _)) (pss_one (ps_rov T hr (by decide) rfl (takes_of rfl rfl rfl rfl) (pa_cons pe_str (pa_cons (pv 2) (pa_cons (pe_op op_sub (pv 5) (pe_op op_mul pe_int (fldk K (pv 6) rfl))) pa_nil))))) pss_nil))))), ?_⟩
  try dsimp only [cxOf]
  rw [show start ["bridge", "load", "at", "weight", "most", "both", "boat"] [v0, v1] = [some v0, some v1, none, none, none, none, none] from rfl]
  obtain ⟨br, xs, ws, ss, lo, ld, rfl, rfl, hb, hl, hn, k1, k2⟩ := h
  have S := SH.rfl' (H := H)
  have hss := hb.len
  walk_at "go"
  obtain ⟨dx, lu, be, hbr, hlu, hbe⟩ := id hb.ex
  refine g_mp hbr rfl ?_
  walk_at "go"
  refine ⟨_, rfl, br, xs, ws, ss, rfl, hb, g_retN_ S fun sp H1 S1 => ?_⟩
  refine for_Ez (xs := ld.map V.int) (ys := ss.map V.int) (fun i σ H0 l => (∃ a b c, σ = [some (.ref br), some (.ref lo), a, b, c, none, none]) ∧ H = H0 ∧ l = [(sp, .lst (ss.map V.int))]) S1 ⟨⟨_, _, _, rfl⟩, rfl, rfl⟩ (by rw [List.length_map, List.length_map]; omega) ?_ ?_ ?_
  · rintro i σ H0 l H' ⟨_, rfl, rfl⟩ S'
    exact ⟨by walk_at "lst", by walk_at "lst"⟩
  · rintro i x y t r σ H0 l H' hx hy ⟨⟨a, b, c, rfl⟩, rfl, rfl⟩ S'
    obtain ⟨u, hu, rfl⟩ := ints_at hx
    obtain ⟨v, hv, rfl⟩ := ints_at hy
    walk_at "go"
    refine w_d (fun h1 => ?_) (fun h1 => ?_)
    · walk_at "go"
      exact ⟨rfl, fun d H2 s2 => k2 (fun z => by have := z.1 i u v hu hv; omega) d H2 (S'.same.trans s2)⟩
    · walk_at "go"
      exact ⟨_, _, S'.tail.tail, ⟨_, _, _, rfl⟩, rfl, rfl⟩
  · rintro σ H0 l H2 ⟨⟨a, b, c, rfl⟩, rfl, rfl⟩ S2
    walk_at "go"
    refine ⟨_, _, rfl, br, xs, ws, ss, lo, ld, rfl, rfl, by walk_at "br", by walk_at "lst", hn, g_retN_ S2 fun hv H3 S3 => ?_⟩
    walk_at "go"
    refine g_mp (SH.rd S3 hbr) rfl ?_
    walk_at "go"
    refine ⟨_, rfl, br, xs, ws, ss, rfl, by walk_at "br", g_retN_ S3 fun bt H4 S4 => ?_⟩
    refine for_Ez (xs := (hvOf ws.length ld).map V.int) (ys := xs) (fun i σ H0 l => (∃ a b c d e, σ = [some (.ref br), some (.ref lo), a, b, c, d, e]) ∧ H = H0 ∧ l = [(bt, .lst xs), (hv, .lst ((hvOf ws.length ld).map V.int)), (sp, .lst (ss.map V.int))]) S4 ⟨⟨_, _, _, _, _, rfl⟩, rfl, rfl⟩ (by rw [List.length_map, hv_len]; exact hb.boats.1.symm) ?_ ?_ ?_
    · rintro i σ H0 l H' ⟨_, rfl, rfl⟩ S'
      exact ⟨by walk_at "lst", by walk_at "lst"⟩
    · rintro i x y t r σ H0 l H' hx hy ⟨⟨a, b, c, d, e, rfl⟩, rfl, rfl⟩ S'
      obtain ⟨u, hu, rfl⟩ := ints_at hx
      have hi : i < ws.length := by rw [← hb.boats.1]; exact (List.getElem?_eq_some_iff.mp hy).1
      obtain ⟨ba, bx, nm, rfl, hba⟩ := hb.boats.2 i y ws[i] hy (List.getElem?_eq_getElem hi)
      walk_at "go"
      refine w_d (fun h1 => ?_) (fun h1 => ?_)
      · walk_at "go"
        exact ⟨rfl, fun d H2 s2 => k2 (fun z => by have := z.2 i u ws[i] hu (List.getElem?_eq_getElem hi); omega) d H2 (S'.same.trans s2)⟩
      · walk_at "go"
        exact ⟨_, _, S'.tail.tail, ⟨_, _, _, _, _, rfl⟩, rfl, rfl⟩
    · rintro σ H0 l H' ⟨⟨a, b, c, d, e, rfl⟩, rfl, rfl⟩ S'
      walk_at "go"
      exact k1.go S'
end
end

/-! ## B5 -/
section
set_option maxHeartbeats 4000000
open PySem PySem.Spec PyProof.Rows L2




section
variable {P : Program} {w : World} {K : PySem.W.Frag} {mg : Str → Option Value} {base : Heap}
def sp_is_borne (K : PySem.W.Frag) : Sp := sp2 fun x y H Q _ => ∃ br xs ws ss lo, ∃ ld : List Int, x = .ref br ∧ y = .ref lo ∧ BrAt K H br xs ws ss ∧ SqL K H lo (ld.map V.int) ∧ ld.length = ws.length + 1 ∧ ∀ b, Ret (.bl b) H Q
theorem ok_is_borne (T : Top K mg) : Cal P w K mg base 6 "is_borne" (sp_is_borne K) [] := by
  obtain ⟨fd, F⟩ := F_is_borne T
  refine cal_of F (g_is_borne T) (fun _ _ _ _ _ _ us hl => match us, hl with | [_, _], _ => rfl) sc_is_borne len2 (k := 5) ?_
  rintro cdv A outer s H vs Q E hr ⟨v0, v1, rfl, h⟩
  refine ⟨_, (pss_cons (ps_try_only rfl rfl ⟨rfl, by decide, .inl (g_Overload T)⟩ takes0 (fun W pn xe tk _ => pss_one (ps_expr (pe_fS (ok_need_borne T) hr (by decide) rfl (fun σ => passAt tk σ) (pa_cons (pv 0) (pa_cons (pv 1) pa_nil))))) (fun a oe cls d pn _ _ => pss_one (ps_ret pe_bl)))
    (pss_one (ps_ret pe_bl))), ?_⟩
  try dsimp only [cxOf]
  rw [show start ["bridge", "load"] [v0, v1] = [some v0, some v1] from rfl]
  obtain ⟨br, xs, ws, ss, lo, ld, rfl, rfl, hb, hl, hn, k⟩ := h
  have S := SH.rfl' (H := H)
  walk_at "go"
  refine ⟨_, rfl, _, rfl, _, _, rfl, br, xs, ws, ss, lo, ld, rfl, rfl, hb, hl, hn, fun H1 s1 => ?_, fun _ d H1 s1 => ?_⟩
  · walk_at "go"
    exact k true _ s1
  · refine ⟨true, exm_Overload T, fun _ a ha => ?_, fun z => nomatch z⟩
    walk_at "go"
    exact k false _ s1
/-! ### a cart alone -/
def AloneOk (wt : Int) (ws ss : List Int) : Prop := (∀ s ∈ ss, wt ≤ s ∧ 0 ≤ s) ∧ ∀ b ∈ ws, wt ≤ 2 * b ∧ 0 ≤ b
theorem ld_one {n p : Nat} {wt : Int} (hp : p ≤ n) : ldOf n [⟨"", true, wt, p⟩] = (List.replicate (n + 1) 0).set p wt := by
  show ((List.replicate (n + 1) (0 : Int)).set (Int.toNat p) ((List.replicate (n + 1) (0 : Int)).getD (Int.toNat p) 0 + wt)) = _
  rw [Int.toNat_natCast, List.getD_eq_getElem?_getD, List.getElem?_replicate]
  have : p < n + 1 := by omega
  simp [this]
theorem ld_at {n p i : Nat} {wt : Int} (hi : i ≤ n) : ((List.replicate (n + 1) (0 : Int)).set p wt).getD i 0 = if i = p then wt else 0 := by
  rw [List.getD_eq_getElem?_getD]
  by_cases h : i = p
  · subst h
    rw [List.getElem?_set_self (by rw [List.length_replicate]; omega), if_pos rfl] <;> rfl
  · rw [List.getElem?_set_ne (Ne.symm h), List.getElem?_replicate, if_pos (by omega), if_neg h] <;> rfl
theorem alone_fits {wt : Int} {ws ss : List Int} {p : Nat} (h : AloneOk wt ws ss) (h0 : 0 ≤ wt) (hs : ss.length = ws.length + 1) (hp : p ≤ ws.length) : Fits ws ss (ldOf ws.length [⟨"", true, wt, p⟩]) := by
  rw [ld_one hp]
  refine ⟨fun i l s e1 e2 => ?_, fun i a b e1 e2 => ?_⟩
  · have hi : i < ss.length := (List.getElem?_eq_some_iff.mp e2).1
    obtain ⟨h1, h2⟩ := h.1 s (List.mem_of_getElem? e2)
    have e3 := ld_at (wt := wt) (p := p) (show i ≤ ws.length by omega)
    rw [List.getD_eq_getElem?_getD, e1] at e3
    have e4 : l = if i = p then wt else 0 := e3
    rw [e4]
    split <;> omega
  · have hi : i < ws.length := (List.getElem?_eq_some_iff.mp e2).1
    obtain ⟨h1, h2⟩ := h.2 b (List.mem_of_getElem? e2)
    unfold hvOf at e1
    rw [List.getElem?_map, List.getElem?_range hi] at e1
    have e4 : ((List.replicate (ws.length + 1) (0 : Int)).set p wt).getD i 0 + ((List.replicate (ws.length + 1) (0 : Int)).set p wt).getD (i + 1) 0 = a := Option.some.inj e1
    rw [ld_at (by omega), ld_at (by omega)] at e4
    rw [← e4]
    by_cases h3 : i = p
    · rw [if_pos h3, if_neg (by omega)]; omega
    · rw [if_neg h3]
      split <;> omega
def sp_need_alone (K : PySem.W.Frag) : Sp := sp2 fun x y H Q _ => ∃ br xs ws ss wt, x = .ref br ∧ y = .int wt ∧ BrAt K H br xs ws ss ∧ AloneOk wt ws ss ∧ 0 ≤ wt ∧ Ret .non H Q
theorem ok_need_alone (T : Top K mg) : Cal P w K mg base 6 "need_alone" (sp_need_alone K) [] := by
  obtain ⟨fd, F⟩ := F_need_alone T
  refine cal_of F (g_need_alone T) (fun _ _ _ _ _ _ us hl => match us, hl with | [_, _], _ => rfl) sc_need_alone len2 (k := 5) ?_
  rintro cdv A outer s H vs Q E hr ⟨v0, v1, rfl, h⟩
  refine ⟨_, (pss_one (ps_for PassesOwn.never rfl (pi_range1 rfl (fr_range T) (pa_cons (pe_op op_add (pe_callB (cr_lnO (ok_Bridge_len T) hr (by decide)) rfl (fr_len T) PySem.boot_len (pa_cons (pv 0) pa_nil)) pe_int) pa_nil)) (pg_name (i := 2) sc_need_alone.nd rfl (by first | exact Or.inl rfl | exact Or.inr rfl)) (pss_one (ps_expr (by exact (pe_fX (ok_need_borne T) hr (by decide) rfl (pa_cons (pv 0) (pa_cons (pe_f (ok_load_of T) hr (by decide) rfl (pa_cons (pv 0) (pa_cons (pe_lst (pa_cons (pe_tup (pa_cons pe_str (pa_cons pe_str (pa_cons (pv 1) (pa_cons (pv 2) pa_nil))))) pa_nil)) pa_nil))) pa_nil)))))))), ?_⟩
  try dsimp only [cxOf]
  rw [show start ["bridge", "weight", "place"] [v0, v1] = [some v0, some v1, none] from rfl]
  obtain ⟨br, xs, ws, ss, wt, rfl, rfl, hb, ho, h0, k⟩ := h
  have S := SH.rfl' (H := H)
  have few := hb.few
  walk_at "go"
  rename_i H1 S1
  refine for_R (fun i σ H0 l => (∃ a, σ = [some (.ref br), some (.int wt), a]) ∧ H = H0 ∧ l = []) S1 (by omega) ⟨⟨_, rfl⟩, rfl, rfl⟩ ?_ ?_
  · rintro i σ H0 l H' hi ⟨⟨a, rfl⟩, rfl, rfl⟩ S'
    walk_at "go"
    refine g_new S' fun t H2 S2 => ?_
    walk_at "go"
    refine g_new S2 fun c H3 S3 => ?_
    walk_at "go"
    refine ⟨_, _, rfl, br, xs, ws, ss, c, [.ref t], [⟨"", true, wt, i⟩], rfl, rfl, by walk_at "br", by walk_at "lst", .cons ⟨t, rfl, by walk_at "tup"⟩ .nil, ?_, g_retN_ S3 fun ld H4 S4 => ?_⟩
    · intro c hc
      rw [List.mem_singleton.mp hc]
      show (!(decide ((0 : Int) ≤ i) && decide ((i : Int) ≤ ws.length))) = false
      rw [decide_eq_true (by omega), decide_eq_true (by omega)] <;> rfl
    · walk_at "go"
      refine ⟨_, _, rfl, br, xs, ws, ss, ld, _, rfl, rfl, by walk_at "br", by walk_at "lst", ldOf_len .., g_retV S4 fun H5 S5 => ?_, fun z => absurd (alone_fits ho h0 hb.len (by omega)) z⟩
      walk_at "go"
      exact ⟨_, _, S5.tail.tail.tail, ⟨_, rfl⟩, rfl, rfl⟩
  · rintro σ H0 l H' ⟨⟨a, rfl⟩, rfl, rfl⟩ S'
    exact k.go S'
/-! ### to come -/
def Crt.toCome (p0 p1 : Int) (c : Crt) : Bool := if c.near then decide (c.p ≤ p1) else decide (p0 ≤ c.p)
def sp_is_to_come (K : PySem.W.Frag) : Sp := sp2 fun x y H Q _ => ∃ c pa p0 p1, CrtAt K H x c ∧ y = .ref pa ∧ SqT K H pa [.int p0, .int p1] ∧ Ret (.bl (c.toCome p0 p1)) H Q
theorem ok_is_to_come (T : Top K mg) : Cal P w K mg base 2 "is_to_come" (sp_is_to_come K) [] := by
  obtain ⟨fd, F⟩ := F_is_to_come T
  refine cal_of F (g_is_to_come T) (fun _ _ _ _ _ _ us hl => match us, hl with | [_, _], _ => rfl) sc_is_to_come len2 (k := 1) ?_
  rintro cdv A outer s H vs Q E hr ⟨v0, v1, rfl, h⟩
  refine ⟨_, (pss_one (ps_ret (pe_ifExp (pt_cmpR op_eq (pe_ix (ixTk K) (pv 0) pe_int (fun _ _ => rfl)) pe_str (nomark _)) (pe_cmpR op_le (pe_ix (ixTk K) (pv 0) pe_int (fun _ _ => rfl)) (pe_ix (ixTk K) (pv 1) pe_int (fun _ _ => rfl)) (nomark _)) (pe_cmpR op_ge (pe_ix (ixTk K) (pv 0) pe_int (fun _ _ => rfl)) (pe_ix (ixTk K) (pv 1) pe_int (fun _ _ => rfl)) (nomark _))))), ?_⟩
  try dsimp only [cxOf]
  rw [show start ["cart", "part"] [v0, v1] = [some v0, some v1] from rfl]
  obtain ⟨⟨n, b, wt, p⟩, pa, p0, p1, ⟨a, rfl, ht⟩, rfl, hp, k⟩ := h
  dsimp only [Crt.toCome] at ht k
  have S := SH.rfl' (H := H)
  cases b
  · walk_at "go"
    exact k.go S
  · walk_at "go"
    exact k.go S
end
end

/-! ## B6 -/
section
set_option maxHeartbeats 4000000
open PySem PySem.Spec PyProof.Rows L2




section
variable {P : Program} {w : World} {K : PySem.W.Frag} {mg : Str → Option Value} {base : Heap}
/-- how long a cart is yet on the deck -/
def Crt.stay (n : Nat) (c : Crt) : Nat := (if c.near then n + 1 - c.p else c.p + 1).toNat
theorem stay_roll {n : Nat} {c : Crt} (h : c.off n = false) : (c.roll).stay n < c.stay n := by
  obtain ⟨h1, h2⟩ := off_no h
  unfold Crt.stay Crt.roll
  obtain ⟨nm, b, wt, p⟩ := c
  cases b
  · simp only [Bool.false_eq_true, if_false] at h1 h2 ⊢; omega
  · simp only [if_true] at h1 h2 ⊢; omega
/-- the new first of ours stands for good, the second stays ours -/
theorem SH.keepT {H0 H : Hp} {p : Addr} {o : HO} {l : List (Addr × HO)} (S : SH H0 ((p, o) :: l) H) : SH (upd H0 p o) l H ∧ Same H0 (upd H0 p o) ∧ (upd H0 p o) p = some o := ⟨S.keep, Same.new S.out0, upd_same⟩
theorem pair_snoc {α β : Type} {F : α → β → Prop} {x : α} {y : β} : ∀ {xs : List α} {ys : List β}, Paired F xs ys → F x y → Paired F (xs ++ [x]) (ys ++ [y])
  | _, _, .nil, k => .cons k .nil
  | _, _, .cons h t, k => .cons h (pair_snoc t k)
theorem CrtsAt.snoc {H : Hp} {xs : List V} {cs : List Crt} {x : V} {c : Crt} (h : CrtsAt K H xs cs) (k : CrtAt K H x c) : CrtsAt K H (xs ++ [x]) (cs ++ [c]) := pair_snoc h k
theorem CrtAt.of {H : Hp} {p : Addr} {c : Crt} (h : H p = some (.tup (cartV c.name c.near c.w c.p))) : CrtAt K H (.ref p) c := ⟨p, rfl, SqT.of h⟩
def sp_is_borne_on (K : PySem.W.Frag) : Sp := sp3 fun x y z H Q _ => ∃ br xs ws ss lc rs cs c, x = .ref br ∧ y = .ref lc ∧ BrAt K H br xs ws ss ∧ SqL K H lc rs ∧ CrtsAt K H rs cs ∧ (∀ c ∈ cs, c.off ws.length = false) ∧ rs.length ≤ 1000 ∧ CrtAt K H z c ∧ c.off ws.length = false ∧ ∀ b, Ret (.bl b) H Q
theorem ok_is_borne_on (T : Top K mg) : Cal P w K mg base 7 "is_borne_on" (sp_is_borne_on K) [] := by
  obtain ⟨fd, F⟩ := F_is_borne_on T
  refine cal_of F (g_is_borne_on T) (fun _ _ _ _ _ _ us hl => match us, hl with | [_, _, _], _ => rfl) sc_is_borne_on len3 (k := 6) ?_
  rintro cdv A outer s H vs Q E hr ⟨v0, v1, v2, rfl, h⟩
  refine ⟨_, (pss_cons (ps_set (i := 3) sc_is_borne_on.nd rfl (by first | exact Or.inl rfl | exact Or.inr rfl) (pe_op op_cat (pe_callTy (lstk K) rfl (fr_list T) PyProof.Rows.boot_list (pa_cons (pv 1) pa_nil)) (pe_lst (pa_cons (pv 2) pa_nil))))
    (pss_cons (ps_while PassesOwn.never (pt_not (pt_val (pe_f (ok_is_off T) hr (by decide) rfl (pa_cons (pv 0) (pa_cons (pv 2) pa_nil))))) (pss_cons (ps_if (pt_not (pt_val (pe_f (ok_is_borne T) hr (by decide) rfl (pa_cons (pv 0) (pa_cons (pe_f (ok_load_of T) hr (by decide) rfl (pa_cons (pv 0) (pa_cons (pv 3) pa_nil))) pa_nil))))) (pss_one (ps_ret pe_bl)) pss_nil)
    (pss_cons (ps_set (i := 2) sc_is_borne_on.nd rfl (by first | exact Or.inl rfl | exact Or.inr rfl) (pe_f (ok_rolled T) hr (by decide) rfl (pa_cons (pv 2) pa_nil)))
    (pss_one (ps_setLc (i := 3) (own := [("one", 4)]) (g := gName 4) (by rfl) sc_is_borne_on.nd rfl rfl (sw_true rfl rfl rfl (by decide +kernel)) (pi_list (pe_lc (own := [("one", 4)]) (g := gName 4) (by rfl) sc_is_borne_on.nd (pi_list (pv 3)) (blkOk_by (own := [("one", 4)]) (N := ["bridge", "carts", "cart", "here", "one"]) (sc := defScope s_is_borne_on) (by decide +kernel)) (fun _ _ _ _ _ => (pg_name (i := 4) sc_is_borne_on.nd rfl (by first | exact Or.inl rfl | exact Or.inr rfl))) (fun _ _ _ _ _ => pts_nil) (fun _ _ _ _ _ => (pe_f (ok_rolled T) hr (by decide) rfl (pa_cons (pv 4) pa_nil))))) (blkOk_by (own := [("one", 4)]) (N := ["bridge", "carts", "cart", "here", "one"]) (sc := defScope s_is_borne_on) (by decide +kernel)) (fun _ _ _ _ _ => (pg_name (i := 4) sc_is_borne_on.nd rfl (by first | exact Or.inl rfl | exact Or.inr rfl))) (fun _ _ _ _ _ => (pts_one (pt_not (pt_val (pe_f (ok_is_off T) hr (by decide) rfl (pa_cons (pv 0) (pa_cons (pv 4) pa_nil))))))) (fun _ _ _ _ _ => (pv 4)))))))
    (pss_one (ps_ret pe_bl)))), ?_⟩
  try dsimp only [cxOf]
  rw [show start ["bridge", "carts", "cart", "here", "one"] [v0, v1, v2] = [some v0, some v1, some v2, none, none] from rfl]
  obtain ⟨br, xs, ws, ss, lc, rs, cs, c, rfl, rfl, hb, hl, hcs, hof, hrl, hc, hco, k⟩ := h
  have S := SH.rfl' (H := H)
  obtain ⟨ca, rfl, hca⟩ := id hc
  walk_at "go"
  refine g_new S fun a1 H1 S1 => ?_
  walk_at "go"
  refine g_new S1 fun a2 H2 S2 => ?_
  walk_at "go"
  refine g_cat S2.g1 S2.g0 (by show rs.length + 1 ≤ sizeLine; exact Nat.le_trans (Nat.succ_le_succ hrl) (by decide)) (g_new S2 fun a3 H3 S3 => ?_)
  walk_at "go"
  obtain ⟨S4, s4, e4⟩ := S3.keepT
  refine while_I (m := c.stay ws.length) (fun σ H0 l m => ∃ hl rs cs ca c o, σ = [some (.ref br), some (.ref lc), some ca, some (.ref hl), o] ∧ Same H H0 ∧ CrtAt K H0 ca c ∧ m = c.stay ws.length ∧ H0 hl = some (.lst rs) ∧ CrtsAt K H0 rs cs ∧ rs.length ≤ 2000 ∧ ∀ c ∈ cs, c.off ws.length = false) S4
    ⟨a3, rs ++ [.ref ca], cs ++ [c], .ref ca, c, none, rfl, s4, hc.same s4, rfl, e4, (CrtsAt.same s4 hcs).snoc (hc.same s4), by rw [List.length_append]; exact Nat.le_trans (Nat.succ_le_succ hrl) (by decide), fun c' hm => by
      rcases List.mem_append.mp hm with hm | hm
      · exact hof c' hm
      · rw [List.mem_singleton.mp hm]; exact hco⟩ ?_ ?_
  · rintro σ H0 l m H' ⟨hl, rs, cs, ca, c, o, rfl, s0, hc, rfl, hh, hcs, hrl, hof⟩ S'
    have hb' : BrAt K H' br xs ws ss := hb.same (s0.trans S'.same)
    walk_at "go"
    refine ⟨_, _, rfl, br, xs, ws, ss, c, rfl, hc.same S'.same, hb', g_retV S' fun H5 S5 => ?_⟩
    walk_at "go"
    cases hco : c.off ws.length with
    | true =>
      walk_at "go"
      exact k true _ (s0.trans S5.same)
    | false =>
      walk_at "go"
      refine ⟨_, _, rfl, br, xs, ws, ss, hl, rs, cs, rfl, rfl, hb.same (s0.trans S5.same), SqL.of (S5.rd hh), CrtsAt.same S5.same hcs, hof, g_retN_ S5 fun ld H6 S6 => ?_⟩
      walk_at "go"
      refine ⟨_, _, rfl, br, xs, ws, ss, ld, _, rfl, rfl, hb.same (s0.trans S6.same), SqL.of S6.g0, ldOf_len .., fun b => g_retV S6.tail fun H7 S7 => ?_⟩
      walk_at "go"
      cases b
      · walk_at "go"
        exact k false _ (s0.trans S7.same)
      · walk_at "go"
        refine ⟨_, rfl, c, hc.same S7.same, g_retN_ S7 fun p H8 S8 => ?_⟩
        obtain ⟨S9, s9, e9⟩ := S8.keepT
        walk_at "go"
        refine lc_L (xs := rs) (fun i acc H0' l => Same (upd H0 p (.tup (cartV c.name c.near c.w c.roll.p))) H0' ∧ CrtsAt K H0' acc ((cs.take i).map Crt.roll)) S9 ⟨Same.refl _, .nil⟩ (fun i acc D H0' l' H' ⟨s1, _⟩ S' => SqL.of (S'.rd (s1 _ _ (s9 _ _ hh)))) (SqL.of (S9.rd (s9 _ _ hh))) ?_ ?_
        · rintro i x acc D H0' l' H' hx ⟨s1, hacc⟩ S' hz
          obtain ⟨c', hci, hxc⟩ := hcs.get hx
          walk_at "lct"
          walk_at "go"
          refine ⟨_, rfl, c', hxc.same (s9.trans (s1.trans S'.same)), g_retN_ S' fun q H1 S1 => ?_⟩
          obtain ⟨S2, s2, e2⟩ := S1.keepT
          refine yes S2 hz (Nat.le_trans (Nat.le_of_lt (List.getElem?_eq_some_iff.mp hx).1) (Nat.le_trans hrl (by decide))) ⟨s1.trans s2, ?_⟩
          rw [List.take_add_one, hci, List.map_append]
          exact (CrtsAt.same s2 hacc).snoc (c := c'.roll) (CrtAt.of e2)
        · rintro D acc H0' l' H' ⟨s1, hacc⟩ hz S'
          rw [Paired.length hcs, List.take_length] at hacc
          obtain ⟨S2, s2, e2⟩ := S'.keepT
          refine lc_L (xs := acc) (fun i acc2 H1 l => Same (upd H0' D (.lst acc)) H1 ∧ ∃ cs2, CrtsAt K H1 acc2 cs2 ∧ ∀ c ∈ cs2, c.off ws.length = false) S2 ⟨Same.refl _, [], .nil, nofun⟩ (fun i acc2 D2 H1 l2 H2 ⟨s3, _⟩ S3 => SqL.of (S3.rd (s3 _ _ e2))) (SqL.of (S2.rd e2)) ?_ ?_
          · rintro i x acc2 D2 H1 l2 H2 hx ⟨s3, cs2, hacc2, hof2⟩ S3 hz2
            obtain ⟨c', hci, hxc⟩ := hacc.get hx
            have hi : i ≤ 1000000 := Nat.le_trans (Nat.le_of_lt (List.getElem?_eq_some_iff.mp hx).1) (Nat.le_trans hz (Nat.le_trans hrl (by decide)))
            walk_at "lct"
            walk_at "go"
            refine ⟨_, _, rfl, br, xs, ws, ss, c', rfl, hxc.same (s2.trans (s3.trans S3.same)), hb.same (s0.trans (s9.trans (s1.trans (s2.trans (s3.trans S3.same))))), g_retV S3 fun H3 S4 => ?_⟩
            cases ho : c'.off ws.length with
            | true =>
              walk_at "go"
              exact no S4 hz2 ⟨s3, cs2, hacc2, hof2⟩
            | false =>
              walk_at "go"
              exact yes S4 hz2 hi ⟨s3, cs2 ++ [c'], hacc2.snoc (hxc.same (s2.trans s3)), fun c3 hm => by
                rcases List.mem_append.mp hm with hm | hm
                · exact hof2 c3 hm
                · rw [List.mem_singleton.mp hm]; exact ho⟩
          · rintro D2 acc2 H1 l2 H2 ⟨s3, cs2, hacc2, hof2⟩ hz2 S3
            obtain ⟨S4, s4', e4'⟩ := S3.keepT
            walk_at "go"
            have all := s9.trans (s1.trans (s2.trans (s3.trans s4')))
            exact ⟨_, _, c.roll.stay ws.length, stay_roll hco, S4, D2, acc2, cs2, .ref p, c.roll, _, rfl, s0.trans all, (CrtAt.of (c := c.roll) e9).same (s1.trans (s2.trans (s3.trans s4'))), rfl, e4', CrtsAt.same s4' hacc2, Nat.le_trans hz2 (Nat.le_trans hz hrl), hof2⟩
  · rintro σ H Q Q' hm ⟨v, hv, w', hw, z1, z2, e, br, xs, ws, ss, c, e1, e2, e3, q⟩
    refine ⟨v, hv, w', hw, z1, z2, e, br, xs, ws, ss, c, e1, e2, e3, fun H1 s1 => ?_⟩
    obtain ⟨b, eb, q1⟩ := q H1 s1
    exact ⟨b, eb, hm _ _ q1⟩
end
end

/-! ## Pu -/
section
set_option maxHeartbeats 1000000
open PySem
/-! ### the deck in plain Lean -/
inductive Ph | down | out | opn | back
  deriving DecidableEq
inductive Thing
  | ship (n : Str) (l : Int)
  | cart (n : Str) (b : Bool) (w : Int)
inductive Ev
  | off (m : Int) (n : Str) (b : Bool)
  | down (m : Int)
  | thr (m : Int) (n : Str)
  | back (m : Int)
  | out (m : Int)
  | turn (m : Int) (b : Bool)
  | on (m : Int) (n : Str) (b : Bool)
  deriving DecidableEq
def Ev.min : Ev → Int
  | .off m _ _ | .down m | .thr m _ | .back m | .out m | .turn m _ | .on m _ _ => m
def Ev.word : Ev → Option Ph
  | .down _ => some .down
  | .thr _ _ => some .opn
  | .back _ => some .back
  | .out _ => some .out
  | _ => none
/-- n boats, the times, the part -/
structure Wl where
  n : Nat
  out : Int
  rest : Int
  turn : Int
  p0 : Int
  p1 : Int
structure St where
  here : Int
  ph : Ph
  ends : Option Int
  da : Option Int
  whose : Bool
  gone : Int
  carts : List Crt
  near : List (Str × Int)
  far : List (Str × Int)
  queue : List (Str × Int)
  told : List (Int × List Thing)
  known : List Str
  evs : List Ev
def St.line (s : St) (b : Bool) : List (Str × Int) := if b then s.near else s.far
def St.setLine (s : St) (b : Bool) (x : List (Str × Int)) : St := if b then { s with near := x } else { s with far := x }
def St.ev (s : St) (e : Ev) : St := { s with evs := s.evs ++ [e] }
def St.drop (s : St) (n : Str) : St := { s with known := s.known.filter fun k => decide (k ≠ n) }
def St.take1 (s : St) : Thing → St
  | .ship n l => { s with queue := s.queue ++ [(n, l)] }
  | .cart n b w => s.setLine b (s.line b ++ [(n, w)])
def toldAt (t : List (Int × List Thing)) (m : Int) : List Thing := ((t.find? fun p => decide (p.1 = m)).map (·.2)).getD []
def St.come (m : Int) (s : St) : St := (toldAt s.told m).foldl St.take1 { s with told := s.told.filter fun p => decide (p.1 ≠ m) }
def St.off1 (n : Nat) (m : Int) (s : St) (c : Crt) : St := if c.off n then (s.ev (.off m c.name (!c.near))).drop c.name else s
def St.roll (W : Wl) (m : Int) (s : St) : St := (s.carts.map Crt.roll).foldl (St.off1 W.n m) { s with carts := (s.carts.map Crt.roll).filter fun c => !c.off W.n }
def St.swingOn (W : Wl) (m : Int) (s : St) : St :=
  if s.ends = some m then
    if s.ph = .back then { s with ph := .down, ends := none, da := some m }.ev (.down m)
    else match s.queue with
      | (n, l) :: q => ({ s with queue := q, ph := .opn, ends := some (m + l) }.ev (.thr m n)).drop n
      | [] => { s with ph := .back, ends := some (m + W.out) }.ev (.back m)
  else s
/-- what a call by ships needs -/
def St.mayCall (W : Wl) (m : Int) (s : St) : Prop := ∀ d, s.da = some d → d + W.rest ≤ m
def St.swingOut (W : Wl) (m : Int) (s : St) : St := if s.carts.any (Crt.toCome W.p0 W.p1) then s else { s with ph := .out, ends := some (m + W.out) }.ev (.out m)
def St.turnOver (W : Wl) (m : Int) (s : St) : St :=
  if s.carts ≠ [] ∨ s.line (!s.whose) = [] then s
  else if s.line s.whose = [] ∨ W.turn ≤ s.gone then { s with whose := !s.whose, gone := 0 }.ev (.turn m (!s.whose)) else s
def startP (W : Wl) (b : Bool) : Int := if b then 0 else W.n
def St.goOn (W : Wl) (borne : Bool) (m : Int) (s : St) : St :=
  match s.line s.whose with
  | [] => s
  | (n, w) :: r =>
    if W.turn ≤ s.gone ∧ s.line (!s.whose) ≠ [] then s
    else if s.carts.any (fun c => decide (c.p = startP W s.whose)) || !borne then s
    else { s.setLine s.whose r with carts := s.carts ++ [(⟨n, s.whose, w, startP W s.whose⟩ : Crt)], gone := s.gone + 1 }.ev (.on m n s.whose)
def St.work (W : Wl) (called borne : Bool) (m : Int) (s : St) : St :=
  let t := ((s.come m).roll W m).swingOn W m
  if t.ph = .down then (if called then t.swingOut W m else (t.turnOver W m).goOn W borne m) else t
/-- what the next moment keeps to -/
structure WfOk (s : St) (o : Option Int) : Prop where
  lo : ∀ m, o = some m → s.here ≤ m
  carts : s.carts ≠ [] → ∃ m, o = some m ∧ m ≤ s.here
  ends : ∀ m e, o = some m → s.ends = some e → m ≤ e
  told : ∀ m p, o = some m → p ∈ s.told → m ≤ p.1
inductive Run (W : Wl) (u : Int) : St → St → Prop
  | stop (s : St) (o : Option Int) (h : WfOk s o) (k : ∀ m, o = some m → u ≤ m) : Run W u s { s with here := u }
  | step (s t : St) (m : Int) (called borne : Bool) (h : WfOk s (some m)) (k : m < u) (hc : called = true → (((s.come m).roll W m).swingOn W m).mayCall W m) (r : Run W u { s.work W called borne m with here := m + 1 } t) : Run W u s t
end

/-! ## Pu2 -/
section
set_option maxHeartbeats 1000000
open PySem
/-! ### what the parts of a moment's work do, outright -/
def Thing.name : Thing → Str
  | .ship n _ => n
  | .cart n _ _ => n
def shipsOf : List Thing → List (Str × Int)
  | [] => []
  | .ship n l :: r => (n, l) :: shipsOf r
  | .cart _ _ _ :: r => shipsOf r
def cartsOf (b : Bool) : List Thing → List (Str × Int)
  | [] => []
  | .ship _ _ :: r => cartsOf b r
  | .cart n c w :: r => if c = b then (n, w) :: cartsOf b r else cartsOf b r
theorem take_all : ∀ (ts : List Thing) (s : St), ts.foldl St.take1 s = { s with queue := s.queue ++ shipsOf ts, near := s.near ++ cartsOf true ts, far := s.far ++ cartsOf false ts }
  | [], s => by simp [shipsOf, cartsOf]
  | .ship n l :: r, s => by rw [List.foldl_cons, take_all r]; simp [St.take1, shipsOf, cartsOf]
  | .cart n b w :: r, s => by
    rw [List.foldl_cons, take_all r]
    cases b <;> simp [St.take1, St.setLine, St.line, shipsOf, cartsOf]
theorem come_eq (m : Int) (s : St) : s.come m = { s with told := s.told.filter (fun p => decide (p.1 ≠ m)), queue := s.queue ++ shipsOf (toldAt s.told m), near := s.near ++ cartsOf true (toldAt s.told m), far := s.far ++ cartsOf false (toldAt s.told m) } := take_all ..
def offEv (m : Int) (c : Crt) : Ev := .off m c.name (!c.near)
theorem off_all (n : Nat) (m : Int) : ∀ (cs : List Crt) (s : St), cs.foldl (St.off1 n m) s = { s with evs := s.evs ++ (cs.filter (Crt.off n)).map (offEv m), known := s.known.filter fun k => decide (k ∉ (cs.filter (Crt.off n)).map (·.name)) }
  | [], s => by
    have : (s.known.filter fun k => decide (k ∉ ([] : List Str))) = s.known := List.filter_eq_self.mpr fun a _ => by simp
    show s = { s with evs := s.evs ++ [], known := s.known.filter fun k => decide (k ∉ ([] : List Str)) }
    rw [this, List.append_nil]
  | c :: r, s => by
    rw [List.foldl_cons, off_all n m r]
    unfold St.off1
    cases h : c.off n with
    | false => simp [h]
    | true =>
      simp only [if_true, St.ev, St.drop, List.filter_cons, h, List.map_cons, List.append_assoc, List.cons_append, List.nil_append, List.filter_filter, offEv]
      congr 1
      refine List.filter_congr fun k _ => ?_
      simp only [List.mem_cons, not_or, ne_eq, Bool.decide_and]
      exact Bool.and_comm ..
theorem roll_eq (W : Wl) (m : Int) (s : St) : s.roll W m = { s with carts := (s.carts.map Crt.roll).filter (fun c => !c.off W.n), evs := s.evs ++ ((s.carts.map Crt.roll).filter (Crt.off W.n)).map (offEv m), known := s.known.filter fun k => decide (k ∉ ((s.carts.map Crt.roll).filter (Crt.off W.n)).map (·.name)) } := off_all ..
/-! ### the words of the part -/
def lastW (l : List Ev) : Ph := l.foldl (fun w e => e.word.getD w) .down
theorem lastW_app (l r : List Ev) : lastW (l ++ r) = r.foldl (fun w e => e.word.getD w) (lastW l) := List.foldl_append ..
theorem fold_mute {r : List Ev} (h : ∀ e ∈ r, e.word = none) : ∀ w : Ph, r.foldl (fun w e => e.word.getD w) w = w := by
  induction r with
  | nil => exact fun _ => rfl
  | cons e r ih =>
    intro w
    rw [List.foldl_cons, h e (List.mem_cons_self ..)]
    exact ih (fun e he => h e (List.mem_cons_of_mem _ he)) w
/-- the word at the end of minute m -/
def phAt (l : List Ev) (m : Int) : Ph := lastW (l.filter fun e => decide (e.min ≤ m))
theorem phAt_app {l r : List Ev} {m : Int} (h : ∀ e ∈ r, m < e.min) : phAt (l ++ r) m = phAt l m := by
  unfold phAt
  have z : (r.filter fun e => decide (e.min ≤ m)) = [] := List.filter_eq_nil_iff.mpr fun e he => by
    have := h e he
    simp; omega
  rw [List.filter_append, z, List.append_nil]
theorem phAt_end {l : List Ev} {m : Int} (h : ∀ e ∈ l, e.min ≤ m) : phAt l m = lastW l := by
  unfold phAt
  rw [List.filter_eq_self.mpr]
  intro e he
  exact decide_eq_true (h e he)
/-! ### the swings follow one another -/
def okAfter : Ph → Ph → Bool
  | .out, .down | .opn, .out | .opn, .opn | .back, .out | .back, .opn | .down, .back => true
  | _, _ => false
def evLasts (ships : Str → Int) : Ev → Int
  | .thr _ n => ships n
  | _ => 0
def swStep (W : Wl) (ships : Str → Int) : Option (Ph × Option Int × Int) → Ev → Option (Ph × Option Int × Int)
  | none, _ => none
  | some (a, wh, la), e => match e.word with
    | none => some (a, wh, la)
    | some w =>
      if okAfter w a = false then none
      else if (a = .opn ∧ e.min ≠ wh.getD 0 + la) ∨ ((a = .out ∨ a = .back) ∧ e.min ≠ wh.getD 0 + W.out) then none
      else if w = .out ∧ wh.isSome = true ∧ e.min < wh.getD 0 + W.rest then none
      else some (w, some e.min, evLasts ships e)
def swFold (W : Wl) (ships : Str → Int) (l : List Ev) : Option (Ph × Option Int × Int) := l.foldl (swStep W ships) (some (.down, none, 0))
theorem sw_mute (W : Wl) (ships : Str → Int) {r : List Ev} (h : ∀ e ∈ r, e.word = none) : ∀ o, r.foldl (swStep W ships) o = o := by
  induction r with
  | nil => exact fun _ => rfl
  | cons e r ih =>
    intro o
    rw [List.foldl_cons]
    have : swStep W ships o e = o := by
      cases o with
      | none => rfl
      | some p => obtain ⟨a, wh, la⟩ := p; simp only [swStep, h e (List.mem_cons_self ..)]
    rw [this]
    exact ih (fun e he => h e (List.mem_cons_of_mem _ he)) o
theorem swFold_app (W : Wl) (ships : Str → Int) (l r : List Ev) : swFold W ships (l ++ r) = r.foldl (swStep W ships) (swFold W ships l) := List.foldl_append ..
/-- what the phase says of the last swing -/
def PhOk (W : Wl) (s : St) (wh : Option Int) (la : Int) : Prop := match s.ph with
  | .down => s.ends = none ∧ wh = s.da
  | .out | .back => ∃ t, wh = some t ∧ s.ends = some (t + W.out)
  | .opn => ∃ t, wh = some t ∧ s.ends = some (t + la)
structure Sw (W : Wl) (ships : Str → Int) (s : St) : Prop where
  sw : ∃ wh la, swFold W ships s.evs = some (s.ph, wh, la) ∧ PhOk W s wh la
  lw : lastW s.evs = s.ph
theorem Sw.mute {W : Wl} {ships : Str → Int} {s t : St} (h : Sw W ships s) (r : List Ev) (he : t.evs = s.evs ++ r) (hr : ∀ e ∈ r, e.word = none) (h1 : t.ph = s.ph) (h2 : t.ends = s.ends) (h3 : t.da = s.da) : Sw W ships t := by
  obtain ⟨⟨wh, la, k1, k2⟩, k3⟩ := h
  refine ⟨⟨wh, la, ?_, ?_⟩, ?_⟩
  · rw [he, swFold_app, sw_mute W ships hr, k1, h1]
  · unfold PhOk at k2 ⊢
    rw [h1, h2, h3]
    exact k2
  · rw [he, lastW_app, fold_mute hr, k3, h1]
theorem Sw.swingOn {W : Wl} {ships : Str → Int} {s : St} {m : Int} (h : Sw W ships s) (hq : ∀ q ∈ s.queue, ships q.1 = q.2) : Sw W ships (s.swingOn W m) := by
  obtain ⟨⟨wh, la, k1, k2⟩, k3⟩ := h
  unfold St.swingOn
  by_cases he : s.ends = some m
  · rw [if_pos he]
    by_cases hp : s.ph = .back
    · rw [if_pos hp]
      unfold PhOk at k2
      rw [hp] at k2
      obtain ⟨t, rfl, e⟩ := k2
      have em : m = t + W.out := Option.some.inj (he.symm.trans e)
      refine ⟨⟨some m, 0, ?_, ?_⟩, ?_⟩
      · show swFold W ships (s.evs ++ [.down m]) = _
        rw [swFold_app, k1, hp]
        simp [swStep, Ev.word, okAfter, Ev.min, em, evLasts, St.ev]
      · exact ⟨rfl, rfl⟩
      · show lastW (s.evs ++ [.down m]) = _
        rw [lastW_app]; rfl
    · rw [if_neg hp]
      have hph : s.ph = .out ∨ s.ph = .opn := by
        unfold PhOk at k2
        cases q : s.ph with
        | down => rw [q] at k2; rw [k2.1] at he; cases he
        | out => exact .inl rfl
        | opn => exact .inr rfl
        | back => exact absurd q hp
      have tm : ∃ t, wh = some t ∧ ((s.ph = .out ∧ m = t + W.out) ∨ (s.ph = .opn ∧ m = t + la)) := by
        unfold PhOk at k2
        rcases hph with q | q <;> rw [q] at k2 <;> obtain ⟨t, e1, e2⟩ := k2
        · exact ⟨t, e1, .inl ⟨q, Option.some.inj (he.symm.trans e2)⟩⟩
        · exact ⟨t, e1, .inr ⟨q, Option.some.inj (he.symm.trans e2)⟩⟩
      obtain ⟨t, rfl, tm⟩ := tm
      cases hqu : s.queue with
      | nil =>
        refine ⟨⟨some m, 0, ?_, ⟨m, rfl, rfl⟩⟩, ?_⟩
        · show swFold W ships (s.evs ++ [.back m]) = _
          rw [swFold_app, k1]
          rcases tm with ⟨q, em⟩ | ⟨q, em⟩ <;> rw [q] <;> simp [swStep, Ev.word, okAfter, Ev.min, em, evLasts, St.ev]
        · show lastW (s.evs ++ [.back m]) = _
          rw [lastW_app]; rfl
      | cons x q =>
        obtain ⟨n, l⟩ := x
        have hl : ships n = l := hq (n, l) (by rw [hqu]; exact List.mem_cons_self ..)
        refine ⟨⟨some m, l, ?_, ⟨m, rfl, rfl⟩⟩, ?_⟩
        · show swFold W ships (s.evs ++ [.thr m n]) = _
          rw [swFold_app, k1]
          rcases tm with ⟨q, em⟩ | ⟨q, em⟩ <;> rw [q] <;> simp [swStep, Ev.word, okAfter, Ev.min, em, evLasts, St.ev, St.drop, hl]
        · show lastW (s.evs ++ [.thr m n]) = _
          rw [lastW_app]; rfl
  · rw [if_neg he]
    exact ⟨⟨wh, la, k1, k2⟩, k3⟩
theorem Sw.swingOut {W : Wl} {ships : Str → Int} {s : St} {m : Int} (h : Sw W ships s) (hp : s.ph = .down) (hc : s.mayCall W m) : Sw W ships (s.swingOut W m) := by
  obtain ⟨⟨wh, la, k1, k2⟩, k3⟩ := h
  unfold St.swingOut
  split
  · exact ⟨⟨wh, la, k1, k2⟩, k3⟩
  · unfold PhOk at k2
    rw [hp] at k2
    obtain ⟨e1, e2⟩ := k2
    refine ⟨⟨some m, 0, ?_, ⟨m, rfl, rfl⟩⟩, ?_⟩
    · show swFold W ships (s.evs ++ [.out m]) = _
      rw [swFold_app, k1, hp, e2]
      cases hd : s.da with
      | none => simp [swStep, Ev.word, okAfter, Ev.min, evLasts, St.ev]
      | some d =>
        have := hc d hd
        have n : ¬ m < d + W.rest := by omega
        simp [swStep, Ev.word, okAfter, Ev.min, evLasts, St.ev, n]
    · show lastW (s.evs ++ [.out m]) = _
      rw [lastW_app]; rfl
end

/-! ## Pu3 -/
section
set_option maxHeartbeats 1000000
open PySem
def ThingOk (ships : Str → Int) : Thing → Prop
  | .ship n l => ships n = l ∧ 1 ≤ l
  | .cart _ _ _ => True
def Ev.isOff : Ev → Bool
  | .off _ _ _ => true
  | _ => false
def onsOf : List Ev → List (Int × Str × Bool)
  | [] => []
  | .on m n b :: r => (m, n, b) :: onsOf r
  | _ :: r => onsOf r
theorem ons_app : ∀ (l r : List Ev), onsOf (l ++ r) = onsOf l ++ onsOf r
  | [], _ => rfl
  | .on m n b :: l, r => congrArg ((m, n, b) :: ·) (ons_app l r)
  | .off _ _ _ :: l, r | .down _ :: l, r | .thr _ _ :: l, r | .back _ :: l, r | .out _ :: l, r | .turn _ _ :: l, r => ons_app l r
theorem ons_mem : ∀ {l : List Ev} {m : Int} {n : Str} {b : Bool}, (m, n, b) ∈ onsOf l ↔ Ev.on m n b ∈ l
  | [], _, _, _ => by simp [onsOf]
  | .on m' n' b' :: l, m, n, b => by simp [onsOf, ons_mem (l := l)]
  | .off _ _ _ :: l, _, _, _ | .down _ :: l, _, _, _ | .thr _ _ :: l, _, _, _ | .back _ :: l, _, _, _ | .out _ :: l, _, _, _ | .turn _ _ :: l, _, _, _ => by simp [onsOf, ons_mem (l := l)]
theorem ons_off (m : Int) (cs : List Crt) : onsOf (cs.map (offEv m)) = [] := by
  induction cs with
  | nil => rfl
  | cons c r ih => exact ih
/-- where a cart is in minute k that went on in minute b -/
def posOf (W : Wl) (b : Int) (side : Bool) (k : Int) : Int := if side then k - b else W.n - (k - b)
def OnOk (W : Wl) (s : St) (b : Int) (who : Str) (side : Bool) : Prop :=
  phAt s.evs b = .down ∧ (∀ k, b ≤ k → k < s.here → k ≤ b + W.n → W.p0 ≤ posOf W b side k → posOf W b side k ≤ W.p1 → phAt s.evs k = .down) ∧
  ((Ev.off (b + W.n + 1) who (!side) ∈ s.evs ∧ b + W.n + 1 < s.here) ∨ ∃ c ∈ s.carts, c.name = who ∧ c.near = side ∧ c.p = posOf W b side (s.here - 1))
structure Iv (W : Wl) (ships : Str → Int) (s : St) : Prop where
  told : ∀ p ∈ s.told, s.here ≤ p.1 ∧ ∀ t ∈ p.2, ThingOk ships t
  ends : ∀ e, s.ends = some e → s.here ≤ e
  h0 : 0 ≤ s.here
  qok : ∀ q ∈ s.queue, ships q.1 = q.2 ∧ 1 ≤ q.2
  out : 1 ≤ W.out
  srt : s.evs.Pairwise (fun e f => e.min ≤ f.min)
  lt : ∀ e ∈ s.evs, 0 ≤ e.min ∧ e.min < s.here
  sw : Sw W ships s
  on_ : ∀ c ∈ s.carts, c.off W.n = false ∧ c.near = s.whose
  clear : s.ph ≠ .down → ∀ c ∈ s.carts, c.toCome W.p0 W.p1 = false
  hist : ∀ b who side, Ev.on b who side ∈ s.evs → OnOk W s b who side
  prs : (onsOf s.evs).Pairwise (fun (e f : Int × Str × Bool) => e.1 < f.1 ∧ (e.2.2 = f.2.2 ∨ e.1 + (W.n : Int) + 1 ≤ f.1))
  cnt : (s.evs.filter Ev.isOff).length + s.carts.length = (onsOf s.evs).length
def rolledOn (W : Wl) (s : St) : List Crt := (s.carts.map Crt.roll).filter fun c => !c.off W.n
def rolledOff (W : Wl) (s : St) : List Crt := (s.carts.map Crt.roll).filter (Crt.off W.n)
/-- what stands after a part of the moment's work -/
structure Shape (W : Wl) (ships : Str → Int) (s : St) (m : Int) (t : St) (new : List Ev) : Prop where
  evs : t.evs = s.evs ++ ((rolledOff W s).map (offEv m) ++ new)
  nw : ∀ e ∈ new, e.min = m ∧ e.isOff = false
  whose : t.whose = s.whose ∨ rolledOn W s = []
  clear : t.ph ≠ .down → ∀ c ∈ rolledOn W s, c.toCome W.p0 W.p1 = false
  sw : Sw W ships t
  ends : ∀ e, t.ends = some e → m + 1 ≤ e
  told : ∀ p ∈ t.told, m + 1 ≤ p.1 ∧ ∀ th ∈ p.2, ThingOk ships th
  qok : ∀ q ∈ t.queue, ships q.1 = q.2 ∧ 1 ≤ q.2
  ons : (onsOf new = [] ∧ t.carts = rolledOn W s) ∨ ∃ n w, onsOf new = [(m, n, t.whose)] ∧ t.carts = rolledOn W s ++ [⟨n, t.whose, w, startP W t.whose⟩] ∧ t.ph = .down
theorem roll_far {c : Crt} {p0 p1 : Int} (h : c.toCome p0 p1 = false) : c.roll.toCome p0 p1 = false := by
  obtain ⟨n, b, w, p⟩ := c
  cases b <;> simp [Crt.toCome, Crt.roll] at h ⊢ <;> omega
theorem mem_on {W : Wl} {s : St} {c : Crt} (h : c ∈ rolledOn W s) : ∃ d ∈ s.carts, c = d.roll ∧ c.off W.n = false := by
  obtain ⟨h1, h2⟩ := List.mem_filter.mp h
  obtain ⟨d, hd, e⟩ := List.mem_map.mp h1
  exact ⟨d, hd, e.symm, by simpa using h2⟩
theorem toldAt_mem {t : List (Int × List Thing)} {m : Int} {x : Thing} (h : x ∈ toldAt t m) : ∃ p ∈ t, x ∈ p.2 := by
  unfold toldAt at h
  cases e : t.find? (fun p => decide (p.1 = m)) with
  | none => rw [e] at h; simp at h
  | some p => rw [e] at h; exact ⟨p, List.mem_of_find?_eq_some e, h⟩
theorem ships_mem : ∀ {ts : List Thing} {q : Str × Int}, q ∈ shipsOf ts → Thing.ship q.1 q.2 ∈ ts
  | .ship n l :: r, q, h => by
    rcases List.mem_cons.mp h with e | h
    · rw [e]; exact List.mem_cons_self ..
    · exact List.mem_cons_of_mem _ (ships_mem h)
  | .cart _ _ _ :: r, q, h => List.mem_cons_of_mem _ (ships_mem (ts := r) h)
section
variable {W : Wl} {ships : Str → Int} {s : St} {m : Int}
/-- come, roll, swing on -/
theorem shape3 (I : Iv W ships s) (wf : WfOk s (some m)) : ∃ new, onsOf new = [] ∧ Shape W ships s m (((s.come m).roll W m).swingOn W m) new := by
  have hm := wf.lo m rfl
  have hq : ∀ q ∈ s.queue ++ shipsOf (toldAt s.told m), ships q.1 = q.2 ∧ 1 ≤ q.2 := fun q hq => by
    rcases List.mem_append.mp hq with hq | hq
    · exact I.qok q hq
    · obtain ⟨p, hp, hx⟩ := toldAt_mem (ships_mem hq)
      exact (I.told p hp).2 _ hx
  have ht : ∀ p ∈ s.told.filter (fun p => decide (p.1 ≠ m)), m + 1 ≤ p.1 ∧ ∀ th ∈ p.2, ThingOk ships th := fun p hp => by
    obtain ⟨h1, h2⟩ := List.mem_filter.mp hp
    have h3 := wf.told m p rfl h1
    have h4 : p.1 ≠ m := by simpa using h2
    exact ⟨by omega, (I.told p h1).2⟩
  obtain ⟨t, et⟩ : ∃ t, t = (s.come m).roll W m := ⟨_, rfl⟩
  rw [← et]
  have e1 : t.evs = s.evs ++ (rolledOff W s).map (offEv m) := by rw [et, come_eq, roll_eq] <;> rfl
  have e2 : t.carts = rolledOn W s := by rw [et, come_eq, roll_eq] <;> rfl
  have e3 : t.ph = s.ph := by rw [et, come_eq, roll_eq]
  have e4 : t.ends = s.ends := by rw [et, come_eq, roll_eq]
  have e5 : t.da = s.da := by rw [et, come_eq, roll_eq]
  have e6 : t.whose = s.whose := by rw [et, come_eq, roll_eq]
  have e7 : t.queue = s.queue ++ shipsOf (toldAt s.told m) := by rw [et, come_eq, roll_eq]
  have e8 : t.told = s.told.filter (fun p => decide (p.1 ≠ m)) := by rw [et, come_eq, roll_eq]
  rw [← e7] at hq
  rw [← e8] at ht
  have sw2 : Sw W ships t := I.sw.mute _ e1 (fun e he => by obtain ⟨c, _, rfl⟩ := List.mem_map.mp he; rfl) e3 e4 e5
  have sw3 := sw2.swingOn (m := m) (fun q h => (hq q h).1)
  have clr : s.ph ≠ .down → ∀ c ∈ rolledOn W s, c.toCome W.p0 W.p1 = false := fun hp c hc => by
    obtain ⟨d, hd, rfl, _⟩ := mem_on hc
    exact roll_far (I.clear hp d hd)
  have out := I.out
  obtain ⟨⟨wh, la, _, pk⟩, _⟩ := sw2
  revert sw3
  unfold St.swingOn
  by_cases he : t.ends = some m
  · rw [if_pos he]
    have hp : s.ph ≠ .down := fun z => by
      rw [← e3] at z
      unfold PhOk at pk
      rw [z] at pk
      rw [pk.1] at he
      cases he
    by_cases hb : t.ph = .back
    · rw [if_pos hb]
      exact fun sw3 => ⟨[.down m], rfl, ⟨by simp [St.ev, e1], fun e he => by rw [List.mem_singleton.mp he]; exact ⟨rfl, rfl⟩, .inl e6, fun _ => clr hp, sw3, fun e he => (by cases he), ht, hq, .inl ⟨rfl, e2⟩⟩⟩
    · rw [if_neg hb]
      cases hqu : t.queue with
      | nil =>
        exact fun sw3 => ⟨[.back m], rfl, ⟨by simp [St.ev, e1], fun e he => by rw [List.mem_singleton.mp he]; exact ⟨rfl, rfl⟩, .inl e6, fun _ => clr hp, sw3, fun e he => (by have e1 : m + W.out = e := Option.some.inj he; omega), ht, (fun q hq' => (by cases hq')), .inl ⟨rfl, e2⟩⟩⟩
      | cons x q =>
        obtain ⟨n, l⟩ := x
        rw [hqu] at hq
        have h1 := hq (n, l) (List.mem_cons_self ..)
        exact fun sw3 => ⟨[.thr m n], rfl, ⟨by simp [St.ev, St.drop, e1], fun e he => by rw [List.mem_singleton.mp he]; exact ⟨rfl, rfl⟩, .inl e6, fun _ => clr hp, sw3, fun e he => by have e1 : m + l = e := Option.some.inj he; have := h1.2; omega, ht, fun z hz => hq z (List.mem_cons_of_mem _ hz), .inl ⟨rfl, e2⟩⟩⟩
  · rw [if_neg he]
    exact fun sw3 => ⟨[], rfl, ⟨by simp [e1], nofun, .inl e6, fun z => clr (by rw [← e3]; exact z), sw3, fun e h1 => by
      have h2 := wf.ends m e rfl (by rw [← e4]; exact h1)
      have h3 : e ≠ m := fun z => he (by rw [← z]; exact h1)
      omega, ht, hq, .inl ⟨rfl, e2⟩⟩⟩
theorem shape_out {t : St} {new : List Ev} (h0 : onsOf new = []) (S : Shape W ships s m t new) (hp : t.ph = .down) (hc : t.mayCall W m) (out : 1 ≤ W.out) : ∃ new', Shape W ships s m (t.swingOut W m) new' := by
  have sw := S.sw.swingOut hp hc
  have hcarts : t.carts = rolledOn W s := by
    rcases S.ons with ⟨_, e⟩ | ⟨n, w, e, _⟩
    · exact e
    · rw [h0] at e; cases e
  revert sw
  unfold St.swingOut
  by_cases h : t.carts.any (Crt.toCome W.p0 W.p1) = true
  · rw [if_pos h]
    exact fun _ => ⟨new, S⟩
  · rw [if_neg h]
    intro sw
    refine ⟨new ++ [.out m], ⟨by simp [St.ev, S.evs], fun e he => ?_, S.whose, fun _ c hc => ?_, sw, fun e he => by have e1 : m + W.out = e := Option.some.inj he; omega, S.told, S.qok, .inl ⟨by rw [ons_app, h0]; rfl, hcarts⟩⟩⟩
    · rcases List.mem_append.mp he with he | he
      · exact S.nw e he
      · rw [List.mem_singleton.mp he]; exact ⟨rfl, rfl⟩
    · cases q : c.toCome W.p0 W.p1 with
      | false => rfl
      | true => exact absurd (List.any_eq_true.mpr ⟨c, by rw [hcarts]; exact hc, q⟩) h
theorem shape_turn {t : St} {new : List Ev} (h0 : onsOf new = []) (S : Shape W ships s m t new) (hp : t.ph = .down) : ∃ new', onsOf new' = [] ∧ Shape W ships s m (t.turnOver W m) new' ∧ (t.turnOver W m).ph = .down := by
  have hcarts : t.carts = rolledOn W s := by
    rcases S.ons with ⟨_, e⟩ | ⟨n, w, e, _⟩
    · exact e
    · rw [h0] at e; cases e
  unfold St.turnOver
  by_cases h : t.carts ≠ [] ∨ t.line (!t.whose) = []
  · rw [if_pos h]; exact ⟨new, h0, S, hp⟩
  · rw [if_neg h]
    by_cases h2 : t.line t.whose = [] ∨ W.turn ≤ t.gone
    · rw [if_pos h2]
      have hn : rolledOn W s = [] := by
        rw [← hcarts]
        cases q : t.carts with
        | nil => rfl
        | cons a b => exact absurd (.inl (by rw [q]; exact List.cons_ne_nil _ _)) h
      refine ⟨new ++ [.turn m (!t.whose)], by rw [ons_app, h0]; rfl, ⟨by simp [St.ev, S.evs], fun e he => ?_, .inr hn, fun z => absurd hp z, S.sw.mute [.turn m (!t.whose)] rfl (fun e he => by rw [List.mem_singleton.mp he]; rfl) rfl rfl rfl, S.ends, S.told, S.qok, .inl ⟨by rw [ons_app, h0]; rfl, hcarts⟩⟩, hp⟩
      rcases List.mem_append.mp he with he | he
      · exact S.nw e he
      · rw [List.mem_singleton.mp he]; exact ⟨rfl, rfl⟩
    · rw [if_neg h2]; exact ⟨new, h0, S, hp⟩
theorem shape_on {t : St} {new : List Ev} {borne : Bool} (h0 : onsOf new = []) (S : Shape W ships s m t new) (hp : t.ph = .down) : ∃ new', Shape W ships s m (t.goOn W borne m) new' := by
  have hcarts : t.carts = rolledOn W s := by
    rcases S.ons with ⟨_, e⟩ | ⟨n, w, e, _⟩
    · exact e
    · rw [h0] at e; cases e
  unfold St.goOn
  split
  · exact ⟨new, S⟩
  · rename_i n w r hr
    split
    · exact ⟨new, S⟩
    · split
      · exact ⟨new, S⟩
      · have sl : ∀ b x, t.setLine b x = { t with near := (t.setLine b x).near, far := (t.setLine b x).far } := fun b x => by cases b <;> rfl
        rw [sl]
        refine ⟨new ++ [.on m n t.whose], ⟨by simp [St.ev, S.evs], fun e he => ?_, S.whose, fun z => absurd hp z, S.sw.mute [.on m n t.whose] rfl (fun e he => by rw [List.mem_singleton.mp he]; rfl) rfl rfl rfl, S.ends, S.told, S.qok, .inr ⟨n, w, by rw [ons_app, h0]; rfl, by rw [← hcarts]; rfl, hp⟩⟩⟩
        rcases List.mem_append.mp he with he | he
        · exact S.nw e he
        · rw [List.mem_singleton.mp he]; exact ⟨rfl, rfl⟩
theorem shape_work {called borne : Bool} (I : Iv W ships s) (wf : WfOk s (some m)) (hc : called = true → (((s.come m).roll W m).swingOn W m).mayCall W m) : ∃ new, Shape W ships s m (s.work W called borne m) new := by
  obtain ⟨new, h0, S⟩ := shape3 I wf
  unfold St.work
  dsimp only
  by_cases hp : (((s.come m).roll W m).swingOn W m).ph = .down
  · rw [if_pos hp]
    cases called with
    | true => exact shape_out h0 S hp (hc rfl) I.out
    | false =>
      obtain ⟨n2, h2, S2, hp2⟩ := shape_turn h0 S hp
      exact shape_on h2 S2 hp2
  · rw [if_neg hp]
    exact ⟨new, S⟩
end
end

/-! ## Pu4 -/
section
set_option maxHeartbeats 1000000
open PySem
theorem filt_len {α : Type} (p : α → Bool) : ∀ l : List α, (l.filter p).length + (l.filter fun a => !p a).length = l.length
  | [] => rfl
  | a :: l => by
    have := filt_len p l
    cases h : p a <;> simp [h] <;> omega
theorem off_count (m : Int) (cs : List Crt) : ((cs.map (offEv m)).filter Ev.isOff).length = cs.length := by
  induction cs with
  | nil => rfl
  | cons c r ih =>
    show (offEv m c :: (r.map (offEv m)).filter Ev.isOff).length = r.length + 1
    rw [List.length_cons, ih]
theorem pos_next (W : Wl) {b : Int} {c : Crt} {k : Int} (h : c.p = posOf W b c.near (k - 1)) : c.roll.p = posOf W b c.near k := by
  obtain ⟨n, nr, w, p⟩ := c
  cases nr <;> simp [posOf, Crt.roll] at h ⊢ <;> omega
theorem off_when {W : Wl} {b : Int} {c : Crt} {k : Int} (h : c.p = posOf W b c.near (k - 1)) (h1 : c.off W.n = false) (h2 : c.roll.off W.n = true) (hb : b < k) : k = b + W.n + 1 := by
  obtain ⟨p1, p2⟩ := off_no h1
  have h3 := pos_next W h
  obtain ⟨n, nr, w, p⟩ := c
  cases nr <;> simp [posOf, Crt.roll, Crt.off] at h h2 h3 p1 p2 ⊢ <;> omega
theorem on_when {W : Wl} {b : Int} {c : Crt} {k : Int} (h : c.p = posOf W b c.near k) (h1 : c.off W.n = false) : b ≤ k ∧ k ≤ b + W.n := by
  obtain ⟨p1, p2⟩ := off_no h1
  obtain ⟨n, nr, w, p⟩ := c
  cases nr <;> simp [posOf] at h p1 p2 <;> omega
theorem not_off {W : Wl} {b : Int} {c : Crt} {k : Int} (h : c.p = posOf W b c.near k) (h1 : b ≤ k) (h2 : k ≤ b + W.n) : c.off W.n = false := by
  obtain ⟨n, nr, w, p⟩ := c
  cases nr <;> simp [posOf, Crt.off] at h ⊢ <;> omega
theorem far_part {W : Wl} {c : Crt} (h : c.toCome W.p0 W.p1 = false) (h0 : W.p0 ≤ c.p) (h1 : c.p ≤ W.p1) : False := by
  obtain ⟨n, nr, w, p⟩ := c
  cases nr <;> simp [Crt.toCome] at h h0 h1 <;> omega
section
variable {W : Wl} {ships : Str → Int} {s t : St} {m : Int} {new : List Ev}
theorem Iv.step (I : Iv W ships s) (wf : WfOk s (some m)) (S : Shape W ships s m t new) : Iv W ships { t with here := m + 1 } := by
  have hm := wf.lo m rfl
  have mh : s.carts ≠ [] → m = s.here := fun h => by
    obtain ⟨m', e, h'⟩ := wf.carts h
    have e' : m = m' := Option.some.inj e
    omega
  have appMin : ∀ e ∈ (rolledOff W s).map (offEv m) ++ new, e.min = m := fun e he => by
    rcases List.mem_append.mp he with he | he
    · obtain ⟨c, _, rfl⟩ := List.mem_map.mp he; rfl
    · exact (S.nw e he).1
  have evm : ∀ e ∈ t.evs, 0 ≤ e.min ∧ e.min ≤ m := fun e he => by
    rw [S.evs] at he
    rcases List.mem_append.mp he with he | he
    · have := I.lt e he; omega
    · have := appMin e he
      have := I.h0
      omega
  have phm : phAt t.evs m = t.ph := by rw [phAt_end (fun e he => (evm e he).2), S.sw.lw]
  have pho : ∀ k, k < m → phAt t.evs k = phAt s.evs k := fun k hk => by rw [S.evs]; exact phAt_app fun e he => by rw [appMin e he]; exact hk
  have hc0 : rolledOn W s ≠ [] → s.carts ≠ [] := fun h z => h (by unfold rolledOn; rw [z]; rfl)
  have sub : ∀ c ∈ rolledOn W s, c ∈ t.carts := fun c hc => by
    rcases S.ons with ⟨_, e⟩ | ⟨n, w, _, e, _⟩ <;> rw [e]
    · exact hc
    · exact List.mem_append_left _ hc
  have onsE : onsOf t.evs = onsOf s.evs ++ onsOf new := by rw [S.evs, ons_app, ons_app, ons_off, List.nil_append]
  have clr : t.ph ≠ .down → t.carts = rolledOn W s := fun hp => by
    rcases S.ons with ⟨_, e⟩ | ⟨n, w, _, _, e⟩
    · exact e
    · exact absurd e hp
  -- what has become of a cart that went on before
  have old : ∀ b who side, Ev.on b who side ∈ s.evs → b < s.here ∧ ((Ev.off (b + W.n + 1) who (!side) ∈ t.evs ∧ b + W.n + 1 < m + 1) ∨ ∃ c ∈ rolledOn W s, c.name = who ∧ c.near = side ∧ c.p = posOf W b side m) := fun b who side hb => by
    have hlt := (I.lt _ hb).2
    refine ⟨hlt, ?_⟩
    obtain ⟨_, _, h3⟩ := I.hist b who side hb
    rcases h3 with ⟨h4, h5⟩ | ⟨c, hc, rfl, rfl, hp⟩
    · exact .inl ⟨by rw [S.evs]; exact List.mem_append_left _ h4, by omega⟩
    · have e : m = s.here := mh (fun z => by rw [z] at hc; cases hc)
      rw [← e] at hp
      have hb' : b < m := by have : b < s.here := hlt; omega
      have hmem : c.roll ∈ s.carts.map Crt.roll := List.mem_map.mpr ⟨c, hc, rfl⟩
      cases ho : c.roll.off W.n with
      | true =>
        have ek := off_when hp (I.on_ c hc).1 ho hb'
        refine .inl ⟨?_, by omega⟩
        rw [S.evs]
        refine List.mem_append_right _ (List.mem_append_left _ (List.mem_map.mpr ⟨c.roll, List.mem_filter.mpr ⟨hmem, ho⟩, ?_⟩))
        rw [← ek]; rfl
      | false => exact .inr ⟨c.roll, List.mem_filter.mpr ⟨hmem, by rw [ho]; rfl⟩, rfl, rfl, pos_next W hp⟩
  refine ⟨S.told, S.ends, by show 0 ≤ m + 1; have := I.h0; omega, S.qok, I.out, ?_, fun e he => by have := evm e he; show 0 ≤ e.min ∧ e.min < m + 1; omega, ⟨S.sw.sw, S.sw.lw⟩, ?_, ?_, ?_, ?_, ?_⟩
  · show t.evs.Pairwise _
    rw [S.evs, List.pairwise_append]
    refine ⟨I.srt, List.Pairwise.imp_of_mem (fun {a b} ha hb _ => ?_) (List.pairwise_of_forall (R := fun _ _ => True) fun _ _ => trivial), fun a ha b hb => ?_⟩
    · rw [appMin a ha, appMin b hb]; exact Int.le_refl _
    · rw [appMin b hb]; have := (I.lt a ha).2; omega
  · show ∀ c ∈ t.carts, c.off W.n = false ∧ c.near = t.whose
    intro c hc
    have key : ∀ c ∈ rolledOn W s, c.off W.n = false ∧ c.near = t.whose := fun c hc => by
      obtain ⟨d, hd, rfl, ho⟩ := mem_on hc
      refine ⟨ho, ?_⟩
      rcases S.whose with e | e
      · rw [e]; exact (I.on_ d hd).2
      · rw [e] at hc; cases hc
    rcases S.ons with ⟨_, e⟩ | ⟨n, w, _, e, _⟩ <;> rw [e] at hc
    · exact key c hc
    · rcases List.mem_append.mp hc with hc | hc
      · exact key c hc
      · rw [List.mem_singleton.mp hc]
        refine ⟨?_, rfl⟩
        unfold Crt.off startP
        cases t.whose <;> simp <;> omega
  · show t.ph ≠ .down → ∀ c ∈ t.carts, c.toCome W.p0 W.p1 = false
    intro hp c hc
    rw [clr hp] at hc
    exact S.clear hp c hc
  · show ∀ b who side, Ev.on b who side ∈ t.evs → OnOk W { t with here := m + 1 } b who side
    intro b who side hb
    rw [← ons_mem, onsE] at hb
    rcases List.mem_append.mp hb with hb | hb
    · have hb := ons_mem.mp hb
      obtain ⟨hlt, st⟩ := old b who side hb
      obtain ⟨h1, h2, h3⟩ := I.hist b who side hb
      refine ⟨(pho b (by omega)).trans h1, fun k k1 k2 k3 k4 k5 => ?_, ?_⟩
      · show phAt t.evs k = .down
        have k2' : k < m + 1 := k2
        by_cases hk : k < s.here
        · rw [pho k (by omega)]; exact h2 k k1 hk k3 k4 k5
        · rcases h3 with ⟨h4, h5⟩ | ⟨c0, hc0', _, _, _⟩
          · omega
          · have e : m = s.here := mh (fun z => by rw [z] at hc0'; cases hc0')
            have ek : k = m := by omega
            subst ek
            rw [phm]
            rcases st with ⟨_, s2⟩ | ⟨c, hc, rfl, rfl, hp⟩
            · omega
            · cases q : t.ph with
              | down => rfl
              | _ => exact (far_part (S.clear (by rw [q]; exact fun z => nomatch z) c hc) (by rw [hp]; exact k4) (by rw [hp]; exact k5)).elim
      · show (_ ∧ b + W.n + 1 < m + 1) ∨ ∃ c ∈ t.carts, c.name = who ∧ c.near = side ∧ c.p = posOf W b side (m + 1 - 1)
        rw [show m + 1 - 1 = m by omega]
        exact st.imp_right fun ⟨c, hc, r⟩ => ⟨c, sub c hc, r⟩
    · rcases S.ons with ⟨e, _⟩ | ⟨n, w, e, ec, hd⟩
      · rw [e] at hb; cases hb
      · rw [e] at hb
        have eb := List.mem_singleton.mp hb
        cases eb
        refine ⟨phm.trans hd, fun k k1 k2 _ _ _ => ?_, .inr ⟨_, by rw [ec]; exact List.mem_append_right _ (List.mem_cons_self ..), rfl, rfl, ?_⟩⟩
        · have k2' : k < m + 1 := k2
          have ek : k = m := by omega
          subst ek
          exact phm.trans hd
        · show startP W t.whose = posOf W m t.whose (m + 1 - 1)
          unfold startP posOf
          cases t.whose <;> simp <;> omega
  · show (onsOf t.evs).Pairwise _
    rw [onsE, List.pairwise_append]
    refine ⟨I.prs, ?_, fun e he f hf => ?_⟩
    · rcases S.ons with ⟨e, _⟩ | ⟨n, w, e, _, _⟩ <;> rw [e]
      · exact .nil
      · exact List.pairwise_singleton ..
    · obtain ⟨b, who, side⟩ := e
      rcases S.ons with ⟨e0, _⟩ | ⟨n, w, e0, _, _⟩
      · rw [e0] at hf; cases hf
      · rw [e0] at hf
        rw [List.mem_singleton.mp hf]
        obtain ⟨hlt, st⟩ := old b who side (ons_mem.mp he)
        refine ⟨by show b < m; omega, ?_⟩
        show side = t.whose ∨ b + (W.n : Int) + 1 ≤ m
        rcases st with ⟨_, h5⟩ | ⟨c, hc, rfl, rfl, hp⟩
        · exact .inr (by omega)
        · obtain ⟨d, hd, rfl, _⟩ := mem_on hc
          rcases S.whose with e | e
          · rw [e]; exact .inl (I.on_ d hd).2
          · rw [e] at hc; cases hc
  · show (t.evs.filter Ev.isOff).length + t.carts.length = (onsOf t.evs).length
    have n0 : new.filter Ev.isOff = [] := List.filter_eq_nil_iff.mpr fun e he => by rw [(S.nw e he).2]; exact Bool.false_ne_true
    have c1 := I.cnt
    have c2 : (rolledOff W s).length + (rolledOn W s).length = s.carts.length := by
      have := filt_len (Crt.off W.n) (s.carts.map Crt.roll)
      rw [List.length_map] at this
      exact this
    rw [onsE, S.evs, List.filter_append, List.filter_append, n0, List.append_nil, List.length_append, List.length_append, off_count]
    rcases S.ons with ⟨e, ec⟩ | ⟨n, w, e, ec, _⟩ <;> rw [e, ec]
    · simp only [List.length_nil]; omega
    · rw [List.length_append]; simp only [List.length_cons, List.length_nil]; omega
theorem Iv.work {called borne : Bool} (I : Iv W ships s) (wf : WfOk s (some m)) (hc : called = true → (((s.come m).roll W m).swingOn W m).mayCall W m) : Iv W ships { s.work W called borne m with here := m + 1 } := by
  obtain ⟨new, S⟩ := shape_work (borne := borne) I wf hc
  exact I.step wf S
/-- what the law asks of the events -/
structure Fin (W : Wl) (ships : Str → Int) (u : Int) (l : List Ev) : Prop where
  srt : l.Pairwise (fun e f => e.min ≤ f.min)
  lt : ∀ e ∈ l, 0 ≤ e.min ∧ e.min < u
  sw : (swFold W ships l).isSome = true
  on_ : ∀ b who side, Ev.on b who side ∈ l → phAt l b = .down ∧ (b + W.n + 1 < u → Ev.off (b + W.n + 1) who (!side) ∈ l) ∧ ∀ k, b ≤ k → k < u → k ≤ b + W.n → W.p0 ≤ posOf W b side k → posOf W b side k ≤ W.p1 → phAt l k = .down
  prs : (onsOf l).Pairwise (fun (e f : Int × Str × Bool) => e.1 < f.1 ∧ (e.2.2 = f.2.2 ∨ e.1 + (W.n : Int) + 1 ≤ f.1))
  cnt : (l.filter Ev.isOff).length ≤ (onsOf l).length
theorem Run.fin {u : Int} (r : Run W u s t) : Iv W ships s → s.here ≤ u → Fin W ships u t.evs := by
  induction r with
  | stop s o h k =>
    intro I hu
    have carts : s.carts ≠ [] → s.here = u := fun hc => by
      obtain ⟨m, e, h1⟩ := h.carts hc
      have := k m e
      omega
    refine ⟨I.srt, fun e he => by have := I.lt e he; omega, ?_, fun b who side hb => ?_, I.prs, by show (s.evs.filter Ev.isOff).length ≤ (onsOf s.evs).length; have := I.cnt; omega⟩
    · obtain ⟨⟨_, _, e, _⟩, _⟩ := I.sw
      rw [e]; rfl
    · obtain ⟨h1, h2, h3⟩ := I.hist b who side hb
      have hbl := (I.lt _ hb).2
      rcases h3 with ⟨h4, h5⟩ | ⟨c, hc, rfl, rfl, hp⟩
      · exact ⟨h1, fun _ => h4, fun k k1 k2 k3 => h2 k k1 (by omega) k3⟩
      · have e := carts (fun z => by rw [z] at hc; cases hc)
        have w1 := on_when hp (I.on_ c hc).1
        exact ⟨h1, fun z => by omega, fun k k1 k2 k3 => h2 k k1 (by omega) k3⟩
  | step s t m called borne h k hc r ih =>
    intro I hu
    exact ih (I.work h hc) (by show m + 1 ≤ u; omega)
end
end

/-! ## Pu5 -/
section
set_option maxHeartbeats 1000000
open PySem
/-! ### the names -/
def tNames (t : List (Int × List Thing)) : List Str := t.flatMap fun p => p.2.map Thing.name
def St.pend (s : St) : List Str := tNames s.told ++ (s.near.map (·.1) ++ (s.far.map (·.1) ++ (s.queue.map (·.1) ++ s.carts.map (·.name))))
structure Nk (s : St) : Prop where
  nd : s.pend.Nodup
  kn : ∀ n ∈ s.pend, n ∈ s.known
  few : s.pend.length ≤ 100
  keys : (s.told.map (·.1)).Nodup
theorem Nk.of {s t : St} (h : Nk s) (p : t.pend.Perm s.pend) (hk : t.known = s.known) (k : (t.told.map (·.1)).Nodup) : Nk t :=
  ⟨p.nodup_iff.mpr h.nd, fun n hn => by rw [hk]; exact h.kn n (p.mem_iff.mp hn), by rw [p.length_eq]; exact h.few, k⟩
/-- some names go for good -/
theorem Nk.less {s t : St} (h : Nk s) (gone : List Str) (p : (gone ++ t.pend).Perm s.pend) (hk : t.known = s.known.filter fun k => decide (k ∉ gone)) (k : t.told = s.told) : Nk t := by
  have nd := p.nodup_iff.mpr h.nd
  obtain ⟨n1, n2, n3⟩ := List.nodup_append.mp nd
  refine ⟨n2, fun n hn => ?_, ?_, by rw [k]; exact h.keys⟩
  · rw [hk]
    refine List.mem_filter.mpr ⟨h.kn n (p.mem_iff.mp (List.mem_append_right _ hn)), decide_eq_true fun z => n3 n z n hn rfl⟩
  · have := p.length_eq
    rw [List.length_append] at this
    have := h.few
    omega
theorem count_things (a : Str) : ∀ ts : List Thing, (ts.map Thing.name).count a = ((shipsOf ts).map (·.1)).count a + (((cartsOf true ts).map (·.1)).count a + ((cartsOf false ts).map (·.1)).count a)
  | [] => rfl
  | .ship n l :: r => by
    have := count_things a r
    simp only [List.map_cons, shipsOf, cartsOf, Thing.name, List.count_cons] at this ⊢
    omega
  | .cart n b w :: r => by
    have := count_things a r
    cases b <;> simp only [List.map_cons, shipsOf, cartsOf, Thing.name, List.count_cons, if_true, Bool.false_eq_true, if_false, Bool.true_eq_false] at this ⊢ <;> omega
theorem count_told (a : Str) (m : Int) : ∀ {t : List (Int × List Thing)}, (t.map (·.1)).Nodup → (tNames t).count a = (tNames (t.filter fun p => decide (p.1 ≠ m))).count a + ((toldAt t m).map Thing.name).count a
  | [], _ => rfl
  | p :: r, hn => by
    obtain ⟨h1, h2⟩ := List.nodup_cons.mp (show (p.1 :: r.map (·.1)).Nodup from hn)
    by_cases h : p.1 = m
    · have e1 : toldAt (p :: r) m = p.2 := by unfold toldAt; rw [List.find?_cons_of_pos (by simpa using h)]; rfl
      have e2 : r.filter (fun p => decide (p.1 ≠ m)) = r := List.filter_eq_self.mpr fun q hq => decide_eq_true fun z => h1 (by rw [h, ← z]; exact List.mem_map.mpr ⟨q, hq, rfl⟩)
      rw [e1, List.filter_cons_of_neg (by simpa using h), e2]
      show (p.2.map Thing.name ++ tNames r).count a = _
      rw [List.count_append]; omega
    · have e1 : toldAt (p :: r) m = toldAt r m := by unfold toldAt; rw [List.find?_cons_of_neg (by simpa using h)]
      have := count_told a m h2
      rw [e1, List.filter_cons_of_pos (by simpa using h)]
      show (p.2.map Thing.name ++ tNames r).count a = (p.2.map Thing.name ++ tNames _).count a + _
      rw [List.count_append, List.count_append]; omega
theorem Nk.come {s : St} (h : Nk s) (m : Int) : Nk (s.come m) := by
  rw [come_eq]
  refine h.of (List.perm_iff_count.mpr fun a => ?_) rfl (h.keys.sublist (List.Sublist.map _ (List.filter_sublist ..)))
  have h1 := count_told a m h.keys
  have h2 := count_things a (toldAt s.told m)
  simp only [St.pend, List.map_append, List.count_append]
  omega
theorem count_split (a : Str) (p : Crt → Bool) : ∀ cs : List Crt, (cs.map (·.name)).count a = ((cs.filter p).map (·.name)).count a + ((cs.filter fun c => !p c).map (·.name)).count a
  | [] => rfl
  | c :: r => by
    have := count_split a p r
    cases h : p c <;> simp only [List.map_cons, List.count_cons, List.filter_cons, h, if_true, Bool.false_eq_true, if_false, Bool.not_false, Bool.not_true] at this ⊢ <;> omega
theorem roll_names (cs : List Crt) : (cs.map Crt.roll).map (·.name) = cs.map (·.name) := by rw [List.map_map]; rfl
theorem Nk.roll {s : St} (h : Nk s) (W : Wl) (m : Int) : Nk (s.roll W m) := by
  rw [roll_eq]
  refine h.less (((s.carts.map Crt.roll).filter (Crt.off W.n)).map (·.name)) (List.perm_iff_count.mpr fun a => ?_) rfl rfl
  have h1 := count_split a (Crt.off W.n) (s.carts.map Crt.roll)
  rw [roll_names] at h1
  simp only [St.pend, List.count_append]
  omega
theorem Nk.swingOn {s : St} (h : Nk s) (W : Wl) (m : Int) : Nk (s.swingOn W m) := by
  unfold St.swingOn
  split
  · split
    · exact h.of (.refl _) rfl h.keys
    · cases hq : s.queue with
      | nil => exact h.of (List.perm_iff_count.mpr fun a => by simp only [St.pend, St.ev, hq]) rfl h.keys
      | cons x q =>
        obtain ⟨n, l⟩ := x
        refine h.less [n] (List.perm_iff_count.mpr fun a => ?_) ?_ rfl
        · simp only [St.pend, St.ev, St.drop, hq, List.count_append, List.map_cons, List.count_cons, List.count_nil]
          omega
        · show s.known.filter _ = s.known.filter _
          refine List.filter_congr fun k _ => ?_
          simp
  · exact h
theorem Nk.swingOut {s : St} (h : Nk s) (W : Wl) (m : Int) : Nk (s.swingOut W m) := by
  unfold St.swingOut
  split
  · exact h
  · exact h.of (.refl _) rfl h.keys
theorem Nk.turnOver {s : St} (h : Nk s) (W : Wl) (m : Int) : Nk (s.turnOver W m) := by
  unfold St.turnOver
  split
  · exact h
  · split
    · exact h.of (.refl _) rfl h.keys
    · exact h
theorem Nk.goOn {s : St} (h : Nk s) (W : Wl) (b : Bool) (m : Int) : Nk (s.goOn W b m) := by
  unfold St.goOn
  split
  · exact h
  · rename_i n w r hr
    split
    · exact h
    · split
      · exact h
      · refine h.of (List.perm_iff_count.mpr fun a => ?_) (by cases s.whose <;> rfl) (by cases s.whose <;> exact h.keys)
        unfold St.line at hr
        cases hw : s.whose <;> rw [hw] at hr <;> simp only [if_true, Bool.false_eq_true, if_false] at hr <;>
          simp only [St.pend, St.ev, St.setLine, hr, if_true, Bool.false_eq_true, if_false, List.map_append, List.map_cons, List.map_nil, List.count_append, List.count_cons, List.count_nil] <;> omega
theorem Nk.work {s : St} (h : Nk s) (W : Wl) (c b : Bool) (m : Int) : Nk (s.work W c b m) := by
  have h3 := ((h.come m).roll W m).swingOn W m
  unfold St.work
  dsimp only
  split
  · cases c with
    | true => exact h3.swingOut W m
    | false => exact (h3.turnOver W m).goOn W b m
  · exact h3
/-! how many events -/
theorem come_evs (m : Int) (s : St) : (s.come m).evs = s.evs := by rw [come_eq]
theorem roll_evs {s : St} (h : Nk s) (W : Wl) (m : Int) : (s.roll W m).evs.length ≤ s.evs.length + 100 := by
  rw [roll_eq]
  have h1 := h.few
  have h2 : ((s.carts.map Crt.roll).filter (Crt.off W.n)).length ≤ s.carts.length := by
    have := List.length_filter_le (Crt.off W.n) (s.carts.map Crt.roll)
    rw [List.length_map] at this
    exact this
  simp only [St.pend, List.length_append, List.length_map] at h1 ⊢
  omega
theorem swingOn_evs (W : Wl) (m : Int) (s : St) : (s.swingOn W m).evs.length ≤ s.evs.length + 1 := by
  unfold St.swingOn
  split
  · split
    · simp [St.ev]
    · split <;> simp [St.ev, St.drop]
  · omega
theorem swingOut_evs (W : Wl) (m : Int) (s : St) : (s.swingOut W m).evs.length ≤ s.evs.length + 1 := by
  unfold St.swingOut
  split <;> simp [St.ev]
theorem turnOver_evs (W : Wl) (m : Int) (s : St) : (s.turnOver W m).evs.length ≤ s.evs.length + 1 := by
  unfold St.turnOver
  split
  · omega
  · split <;> simp [St.ev]
theorem goOn_evs (W : Wl) (b : Bool) (m : Int) (s : St) : (s.goOn W b m).evs.length ≤ s.evs.length + 1 := by
  unfold St.goOn
  split
  · omega
  · split
    · omega
    · split
      · omega
      · cases s.whose <;> simp [St.ev, St.setLine]
theorem work_evs {s : St} (h : Nk s) (W : Wl) (c b : Bool) (m : Int) : (s.work W c b m).evs.length ≤ s.evs.length + 110 := by
  have h1 := roll_evs (h.come m) W m
  rw [come_evs] at h1
  have h2 := swingOn_evs W m ((s.come m).roll W m)
  unfold St.work
  dsimp only
  split
  · cases c with
    | true =>
      have h3 := swingOut_evs W m (((s.come m).roll W m).swingOn W m)
      simp only [if_true]; omega
    | false =>
      have h3 := turnOver_evs W m (((s.come m).roll W m).swingOn W m)
      have h4 := goOn_evs W b m ((((s.come m).roll W m).swingOn W m).turnOver W m)
      simp only [Bool.false_eq_true, if_false]; omega
  · omega
end

/-! ## De -/
section
set_option maxHeartbeats 4000000
open PySem PySem.Spec PyProof.Rows L2
/-! ### a list beside the empty list -/
section
variable {K : PySem.W.Frag} {H H0 : Hp} {Q : VK} {a b : Addr} {xs : List V} {x : V} {l l' : List (Addr × HO)}
def Lay (K : PySem.W.Frag) (H : Hp) (x : V) : Prop := ∃ d, Dp K H x d ∧ d.canLay0 = true ∧ d.depth ≤ 60
theorem lay_all : ∀ {xs : List V}, (∀ x ∈ xs, Lay K H x) → ∃ ds, DpAll K H xs ds ∧ PyData.canLayAll0 ds = true ∧ PyData.depthAll ds ≤ 60 ∧ ds.length = xs.length
  | [], _ => ⟨[], .nil, rfl, by simp [PyData.depthAll], rfl⟩
  | x :: r, h => by
    obtain ⟨d, h1, h2, h3⟩ := h x (List.mem_cons_self ..)
    obtain ⟨ds, g1, g2, g3, g4⟩ := lay_all fun y hy => h y (List.mem_cons_of_mem _ hy)
    refine ⟨d :: ds, .cons h1 g1, ?_, ?_, by rw [List.length_cons, g4, List.length_cons]⟩
    · simp [PyData.canLayAll0, h2, g2]
    · simp only [PyData.depthAll]; exact Nat.max_le.mpr ⟨h3, g3⟩
theorem lay_list (h : SqL K H a xs) (f : ∀ x ∈ xs, Lay K H x) : ∃ ds, Dp K H (.ref a) (.list ds) ∧ SeqAt.shaped (.list ds) = true ∧ ds.length = xs.length := by
  obtain ⟨ds, g1, g2, g3, g4⟩ := lay_all f
  refine ⟨ds, .lst h g1, ?_, g4⟩
  unfold SeqAt.shaped
  have : PyData.depth (.list ds) ≤ 64 := by simp only [PyData.depth]; omega
  rw [decide_eq_true this]
  simp only [PyData.canLay0, g2, Bool.and_self]
theorem eqv_nil {ds : List PyData} (e : ds.length = xs.length) : PyData.eqv (.list ds) (.list []) = decide (xs = []) := by
  cases xs with
  | nil =>
    cases ds with
    | nil => simp [PyData.eqv, PyData.eqvAll]
    | cons _ _ => cases e
  | cons _ _ =>
    cases ds with
    | nil => cases e
    | cons _ _ => simp [PyData.eqv, PyData.eqvAll]
theorem g_eqE (h : SqL K H a xs) (h' : SqL K H b []) (f : ∀ x ∈ xs, Lay K H x) (q : Q (.bl (decide (xs = []))) H) : rEqD K (.ref a) (.ref b) H Q := by
  obtain ⟨ds, h1, h2, h3⟩ := lay_list h f
  exact ⟨_, .list [], h1, .lst h' .nil, h2, by decide, by rw [eqv_nil h3]; exact q⟩
theorem g_neE (h : SqL K H a xs) (h' : SqL K H b []) (f : ∀ x ∈ xs, Lay K H x) (q : Q (.bl (!decide (xs = []))) H) : rNeD K (.ref a) (.ref b) H Q := by
  obtain ⟨ds, h1, h2, h3⟩ := lay_list h f
  exact ⟨_, .list [], h1, .lst h' .nil, h2, by decide, by rw [eqv_nil h3]; exact q⟩
theorem lay_flat : ∀ {ys : List V}, (∀ y ∈ ys, ∃ d, Dp K H y d ∧ d.canLay0 = true ∧ d.depth ≤ 5) → ∃ ds, DpAll K H ys ds ∧ PyData.canLayAll0 ds = true ∧ PyData.depthAll ds ≤ 5
  | [], _ => ⟨[], .nil, rfl, by simp [PyData.depthAll]⟩
  | x :: r, h => by
    obtain ⟨d, h1, h2, h3⟩ := h x (List.mem_cons_self ..)
    obtain ⟨ds, g1, g2, g3⟩ := lay_flat fun y hy => h y (List.mem_cons_of_mem _ hy)
    refine ⟨d :: ds, .cons h1 g1, ?_, ?_⟩
    · simp [PyData.canLayAll0, h2, g2]
    · simp only [PyData.depthAll]; exact Nat.max_le.mpr ⟨h3, g3⟩
def okV : V → Bool
  | .non | .bl _ | .int _ => true
  | .str s => PyData.strOk s
  | _ => false
/-- a tuple of plain things may be laid beside another -/
theorem Lay.tup {ys : List V} (h : SqT K H a ys) (f : ∀ y ∈ ys, okV y = true) : Lay K H (.ref a) := by
  obtain ⟨ds, g1, g2, g3⟩ := lay_flat (K := K) (H := H) (ys := ys) fun y hy => by
    have := f y hy
    cases y with
    | non => exact ⟨_, .non, rfl, by simp [PyData.depth]⟩
    | bl b => exact ⟨_, .bl b, rfl, by simp [PyData.depth]⟩
    | int i => exact ⟨_, .int i, rfl, by simp [PyData.depth]⟩
    | str s => exact ⟨_, .str s, by simpa [PyData.canLay0, okV] using this, by simp [PyData.depth]⟩
    | _ => cases this
  refine ⟨_, .tup h g1, by simp only [PyData.canLay0, g2], ?_⟩
  simp only [PyData.depth]; omega
/-- what is ours, in part -/
theorem SH.sub (S : SH H0 l H) (h : l'.Sublist l) : SH H0 l' H := ⟨S.same, fun p m => S.at_ p (h.subset m), S.nd.sublist (h.map _), fun p m => S.out p (h.subset m)⟩
theorem SH.perm (S : SH H0 l H) (h : l'.Perm l) : SH H0 l' H := ⟨S.same, fun p m => S.at_ p (h.subset m), (h.map _).nodup_iff.mpr S.nd, fun p m => S.out p (h.subset m)⟩
theorem SH.drop1 {x y : Addr × HO} (S : SH H0 (x :: y :: l) H) : SH H0 (x :: l) H := S.sub (List.Sublist.cons_cons x (List.sublist_cons_self y l))
end
/-! ### a method of an object whose class is told by what stands -/
/-- x has the method m, of promise G (x itself not told) -/
def DynOk (P : Program) (w : World) (K : PySem.W.Frag) (mg : Str → Option Value) (base : Heap) (k : Nat) (m : Str) (H : Hp) (x : V) (G : List V → Hp → VK → Prop) : Prop :=
  ∃ a C dx fs f fd ps sp, x = .ref a ∧ H a = some (.ins C dx fs) ∧ fs.lookup m = none ∧ Cls K C ∧ Meth K C m f ∧ FnOk P w K mg base CX0 k f fd ps sp ∧ Binds K fd ps [] ∧ ∀ H' vs Q E, Same H H' → G vs H' Q → sp (x :: vs) H' Q E
theorem DynOk.same {P : Program} {w : World} {K : PySem.W.Frag} {mg : Str → Option Value} {base : Heap} {k : Nat} {m : Str} {H H' : Hp} {x : V} {G : List V → Hp → VK → Prop} (h : DynOk P w K mg base k m H x G) (s : Same H H') : DynOk P w K mg base k m H' x G :=
  let ⟨a, C, dx, fs, f, fd, ps, sp, h1, h2, h3, h4, h5, h6, h7, h8⟩ := h
  ⟨a, C, dx, fs, f, fd, ps, sp, h1, s _ _ h2, h3, h4, h5, h6, h7, fun H2 vs Q E s2 g => h8 H2 vs Q E (s.trans s2) g⟩
def tDyn (P : Program) (w : World) (K : PySem.W.Frag) (mg : Str → Option Value) (base : Heap) (j : Nat) (m : Str) (ta : TE) (t : TA) : TE := fun σ H Q => ta σ H fun x H1 => ∃ k G, k ≤ j ∧ DynOk P w K mg base k m H1 x G ∧ t σ H1 fun vs H2 => Same H1 H2 ∧ G vs H2 Q
section
variable {X : Cx} {j : Nat} {m : Str} {p pos apos : Pos} {e o : Expr} {es : List Expr} {ta : TE} {t : TA} {P : Program} {w : World} {K : PySem.W.Frag} {mg : Str → Option Value} {base : Heap}
theorem pe_dyn {pl : Sem Bool} (hr : Room j X.A) (ho : PE X o ta) (ha : PA X (e :: es) t) (hst : starEach (e :: es) X.env = (false, eval e X.env) :: starEach es X.env := by rfl)
    (hpl : (backTo pos (starEach es X.env)).any (·.1) = false := by rfl)
    (ht : eval (.Call (.Attribute o m apos) (e :: es) [] pos) X.env = (do let ov ← eval o X.env; standAt apos.atName; let (f, first) ← holding [ov] (getMethod ov m pl); callWith pos f first (backTo pos (starEach (e :: es) X.env)) (backToKw pos (keywordEach [] X.env))) := by rfl) :
    PE X (.Call (.Attribute o m apos) (e :: es) [] pos) (tDyn X.prog X.w X.K X.mg X.base j m ta t) := by
  refine ⟨fun pins s σ H Q I h => ?_⟩
  refine PySem.W.methodCall_KW (pl := pl) (thn (ho.run pins s σ H _ I h) fun u s1 ⟨x, H1, I1, rx, k, G, hk, ⟨a, C, dx, fs, f, fd, ps, sp, ex, ea, l, c, hm, F, hb, g⟩, q⟩ => ?_) ht
  subst ex
  obtain rfl : u = Value.ref a := rx
  refine getmeth_ok I1 ea c hm l ?_
  refine PySem.W.callWith_K (first := [.ref a]) (h₀ := X.base) I.ok.mod.kin hm.kp (thn (ha.run pos pins s1 σ H1 _ I1 q) fun us s2 ⟨vs, H2, I2, r, sm, q2⟩ => ⟨I2.kIn, ?_⟩) hst hpl
  exact run_fn (us := .ref a :: us) (vs := .ref a :: vs) (dvs := []) (E := E0) F (hr.mono hk) hb .nil pass0 I2 (.cons rfl r) (by rw [List.append_nil]; exact g H2 _ _ _ sm q2)
/-- .. with nothing given -/
theorem pe_dyn0 {pl : Sem Bool} (hr : Room j X.A) (ho : PE X o ta)
    (ht : eval (.Call (.Attribute o m apos) [] [] pos) X.env = (do let ov ← eval o X.env; standAt apos.atName; let (f, first) ← holding [ov] (getMethod ov m pl); callWith pos f first (backTo pos (starEach [] X.env)) (backToKw pos (keywordEach [] X.env))) := by rfl) :
    PE X (.Call (.Attribute o m apos) [] [] pos) (tDyn X.prog X.w X.K X.mg X.base j m ta tNil) := by
  refine ⟨fun pins s σ H Q I h => ?_⟩
  refine PySem.W.methodCall_KW (pl := pl) (thn (ho.run pins s σ H _ I h) fun u s1 ⟨x, H1, I1, rx, k, G, hk, ⟨a, C, dx, fs, f, fd, ps, sp, ex, ea, l, c, hm, F, hb, g⟩, sm, q⟩ => ?_) ht
  subst ex
  obtain rfl : u = Value.ref a := rx
  refine getmeth_ok I1 ea c hm l ?_
  exact PySem.W.callWith_K0 (first := [.ref a]) I1.kIn hm.kp (run_fn (us := [.ref a]) (vs := [.ref a]) (dvs := []) (E := E0) F (hr.mono hk) hb .nil pass0 I1 (.cons rfl .nil) (g H1 _ _ _ sm q))
theorem dynk (P : Program) (w : World) (K : PySem.W.Frag) (mg : Str → Option Value) (base : Heap) (e1 : X.prog = P) (e2 : X.w = w) (e3 : X.K = K) (e4 : X.mg = mg) (e5 : X.base = base) {pl : Sem Bool} (hr : Room j X.A) (ho : PE X o ta) (ha : PA X (e :: es) t) (hst : starEach (e :: es) X.env = (false, eval e X.env) :: starEach es X.env := by rfl)
    (hpl : (backTo pos (starEach es X.env)).any (·.1) = false := by rfl)
    (ht : eval (.Call (.Attribute o m apos) (e :: es) [] pos) X.env = (do let ov ← eval o X.env; standAt apos.atName; let (f, first) ← holding [ov] (getMethod ov m pl); callWith pos f first (backTo pos (starEach (e :: es) X.env)) (backToKw pos (keywordEach [] X.env))) := by rfl) :
    PE X (.Call (.Attribute o m apos) (e :: es) [] pos) (tDyn P w K mg base j m ta t) := by
  subst e1 e2 e3 e4 e5; exact pe_dyn (pl := pl) hr ho ha hst hpl ht
theorem dynk0 (P : Program) (w : World) (K : PySem.W.Frag) (mg : Str → Option Value) (base : Heap) (e1 : X.prog = P) (e2 : X.w = w) (e3 : X.K = K) (e4 : X.mg = mg) (e5 : X.base = base) {pl : Sem Bool} (hr : Room j X.A) (ho : PE X o ta)
    (ht : eval (.Call (.Attribute o m apos) [] [] pos) X.env = (do let ov ← eval o X.env; standAt apos.atName; let (f, first) ← holding [ov] (getMethod ov m pl); callWith pos f first (backTo pos (starEach [] X.env)) (backToKw pos (keywordEach [] X.env))) := by rfl) :
    PE X (.Call (.Attribute o m apos) [] [] pos) (tDyn P w K mg base j m ta tNil) := by
  subst e1 e2 e3 e4 e5; exact pe_dyn0 (pl := pl) hr ho ht
theorem g_dyn {σ : L2.St} {H : Hp} {Q : VK} (q : ta σ H fun x H1 => ∃ k G, k ≤ j ∧ DynOk P w K mg base k m H1 x G ∧ t σ H1 fun vs H2 => Same H1 H2 ∧ G vs H2 Q) : tDyn P w K mg base j m ta t σ H Q := q
end
end

/-! ## D1 -/
section
set_option maxHeartbeats 4000000
open PySem PySem.Spec PyProof.Rows L2
/-! ### the deck in the heap -/
/-- where the deck's parts lie, and what never changes of it -/
structure DA where
  (deck dx near far queue told known lines hours bridge part week ev : Addr)
  rul : V
  xs : List V
  (ws ss : List Int)
  W : Wl
def phS : Ph → V
  | .down => .str "down"
  | .out => .str "out"
  | .opn => .str "open"
  | .back => .str "back"
def optV : Option Int → V
  | none => .non
  | some i => .int i
abbrev dfOf (D : DA) (s : St) (ca : Addr) : DF := ⟨.ref D.bridge, .ref D.part, .int D.W.out, .int D.W.rest, .int D.W.turn, D.rul, .ref D.week, .int s.here, phS s.ph, optV s.ends, optV s.da, bk s.whose, .int s.gone, .ref ca, .ref D.lines, .ref D.queue, .ref D.told, .ref D.known, .ref D.hours⟩
abbrev knd (s : St) : List (Key × V) := s.known.map fun n => (Sum.inr n, .bl true)
abbrev ours (K : PySem.W.Frag) (D : DA) (s : St) (ca : Addr) (cs ns fs qs : List V) (td : List (Key × V)) (l : List (Addr × HO)) : List (Addr × HO) :=
  (ca, .lst cs) :: (D.deck, .ins (He.ga K "Deck") D.dx (fl_Deck (dfOf D s ca))) :: (D.near, .lst ns) :: (D.far, .lst fs) :: (D.queue, .lst qs) :: (D.told, .dK td) :: (D.known, .dK (knd s)) :: l
section
variable (K : PySem.W.Frag) (H : Hp)
def PairAt (x : V) (p : Str × Int) : Prop := ∃ a, x = .ref a ∧ SqT K H a [.str p.1, .int p.2]
def ThAt (x : V) : Thing → Prop
  | .ship n l => ∃ a, x = .ref a ∧ SqT K H a [.str "ship", .str n, .int l]
  | .cart n b w => ∃ a, x = .ref a ∧ SqT K H a [.str "cart", .str n, bk b, .int w]
def ToldAt (kv : Key × V) (p : Int × List Thing) : Prop := kv.1 = Sum.inl p.1 ∧ ∃ a xs, kv.2 = .ref a ∧ H a = some (.lst xs) ∧ Paired (ThAt K H) xs p.2
def evV : Ev → List V
  | .off m n b => [.int m, .str "off", .str n, bk b]
  | .down m => [.int m, .str "down"]
  | .thr m n => [.int m, .str "through", .str n]
  | .back m => [.int m, .str "back"]
  | .out m => [.int m, .str "out"]
  | .turn m b => [.int m, .str "turn", bk b]
  | .on m n b => [.int m, .str "on", .str n, bk b]
def EvAt (x : V) (e : Ev) : Prop := ∃ a, x = .ref a ∧ SqT K H a (evV e)
/-- what the parts hold -/
structure Held (D : DA) (s : St) (cs ns fs qs : List V) (td : List (Key × V)) : Prop where
  carts : CrtsAt K H cs s.carts
  on : ∀ c ∈ s.carts, c.off D.W.n = false
  near : Paired (PairAt K H) ns s.near
  far : Paired (PairAt K H) fs s.far
  queue : Paired (PairAt K H) qs s.queue
  told : Paired (ToldAt K H) td s.told
  nm : ∀ n ∈ s.known, PyData.strOk n = true
end
section
variable {K : PySem.W.Frag} {H H' H0 : Hp} {D : DA} {s t : St} {cs ns fs qs es : List V} {td : List (Key × V)} {x : V}
theorem PairAt.same (k : Same H H') {p : Str × Int} (h : PairAt K H x p) : PairAt K H' x p := let ⟨a, e, q⟩ := h; ⟨a, e, Same.tup k q⟩
theorem ThAt.same (k : Same H H') {p : Thing} (h : ThAt K H x p) : ThAt K H' x p := by
  cases p with
  | ship n l => obtain ⟨a, e, q⟩ := h; exact ⟨a, e, Same.tup k q⟩
  | cart n b w => obtain ⟨a, e, q⟩ := h; exact ⟨a, e, Same.tup k q⟩
theorem EvAt.same (k : Same H H') {e : Ev} (h : EvAt K H x e) : EvAt K H' x e := let ⟨a, e, q⟩ := h; ⟨a, e, Same.tup k q⟩
theorem pair_mono {α β : Type} {F G : α → β → Prop} (k : ∀ x y, F x y → G x y) : ∀ {xs : List α} {ys : List β}, Paired F xs ys → Paired G xs ys
  | _, _, .nil => .nil
  | _, _, .cons h t => .cons (k _ _ h) (pair_mono k t)
theorem pair_app {α β : Type} {F : α → β → Prop} : ∀ {xs : List α} {ys : List β} {xs' : List α} {ys' : List β}, Paired F xs ys → Paired F xs' ys' → Paired F (xs ++ xs') (ys ++ ys')
  | _, _, _, _, .nil, k => k
  | _, _, _, _, .cons h t, k => .cons h (pair_app t k)
theorem pair_mem {α β : Type} {F : α → β → Prop} {xs : List α} {ys : List β} (h : Paired F xs ys) {x : α} (m : x ∈ xs) : ∃ y ∈ ys, F x y := by
  obtain ⟨i, hi⟩ := List.mem_iff_getElem?.mp m
  obtain ⟨y, e, f⟩ := LiI.paired_get h hi
  exact ⟨y, List.mem_of_getElem? e, f⟩
theorem pair_take {α β : Type} {F : α → β → Prop} : ∀ {xs : List α} {ys : List β} (i : Nat), Paired F xs ys → Paired F (xs.take i) (ys.take i)
  | _, _, 0, _ => by rw [List.take_zero, List.take_zero]; exact .nil
  | _, _, i + 1, .nil => by simp; exact .nil
  | _, _, i + 1, .cons h t => by rw [List.take_succ_cons, List.take_succ_cons]; exact .cons h (pair_take i t)
theorem ToldAt.same (k : Same H H') {kv : Key × V} {p : Int × List Thing} (h : ToldAt K H kv p) : ToldAt K H' kv p :=
  let ⟨e, a, xs, e2, h1, h2⟩ := h; ⟨e, a, xs, e2, k _ _ h1, pair_mono (fun _ _ => ThAt.same k) h2⟩
theorem Held.same (k : Same H H') (h : Held K H D s cs ns fs qs td) : Held K H' D s cs ns fs qs td :=
  ⟨CrtsAt.same k h.carts, h.on, pair_mono (fun _ _ => PairAt.same k) h.near, pair_mono (fun _ _ => PairAt.same k) h.far, pair_mono (fun _ _ => PairAt.same k) h.queue, pair_mono (fun _ _ => ToldAt.same k) h.told, h.nm⟩
theorem evs_same (k : Same H H') {l : List Ev} (h : Paired (EvAt K H) es l) : Paired (EvAt K H') es l := pair_mono (fun _ _ => EvAt.same k) h
/-! what was told for a minute -/
theorem told_none {m : Int} : ∀ {td : List (Key × V)} {t : List (Int × List Thing)}, Paired (ToldAt K H) td t → valV td (Sum.inl m) = none → toldAt t m = [] ∧ Paired (ToldAt K H) td (t.filter fun p => decide (p.1 ≠ m))
  | _, _, .nil, _ => ⟨rfl, .nil⟩
  | _, _, @Paired.cons _ _ _ kv p td t h r, e => by
    have ne : ¬ p.1 = m := fun z => by rw [valV_pos (show kv.1 = Sum.inl m by rw [h.1, z])] at e; cases e
    rw [valV_neg (show ¬ kv.1 = Sum.inl m from fun z => ne (Sum.inl.inj (h.1.symm.trans z)))] at e
    obtain ⟨h1, h2⟩ := told_none r e
    refine ⟨?_, ?_⟩
    · unfold toldAt at h1 ⊢; rw [List.find?_cons_of_neg (by simpa using ne)]; exact h1
    · rw [List.filter_cons_of_pos (by simpa using ne)]; exact .cons h h2
theorem told_drop {m : Int} : ∀ {td : List (Key × V)} {t : List (Int × List Thing)}, Paired (ToldAt K H) td t → Paired (ToldAt K H) (dropK td (Sum.inl m)) (t.filter fun p => decide (p.1 ≠ m))
  | _, _, .nil => .nil
  | _, _, @Paired.cons _ _ _ kv p td t h r => by
    unfold dropK
    by_cases e : p.1 = m
    · rw [List.filter_cons_of_neg (by rw [h.1]; simpa using e), List.filter_cons_of_neg (by simpa using e)]; exact told_drop r
    · rw [List.filter_cons_of_pos (by rw [h.1]; simpa using e), List.filter_cons_of_pos (by simpa using e)]; exact .cons h (told_drop r)
theorem told_some {m : Int} {v : V} : ∀ {td : List (Key × V)} {t : List (Int × List Thing)}, Paired (ToldAt K H) td t → valV td (Sum.inl m) = some v → ∃ a xs, v = .ref a ∧ H a = some (.lst xs) ∧ Paired (ThAt K H) xs (toldAt t m)
  | _, _, .nil, e => by cases e
  | _, _, @Paired.cons _ _ _ kv p td t h r, e => by
    by_cases z : p.1 = m
    · rw [valV_pos (show kv.1 = Sum.inl m by rw [h.1, z])] at e
      obtain ⟨_, a, xs, e2, h1, h2⟩ := h
      refine ⟨a, xs, (Option.some.inj e).symm.trans e2, h1, ?_⟩
      unfold toldAt
      rw [List.find?_cons_of_pos (by simpa using z)]
      exact h2
    · rw [valV_neg (show ¬ kv.1 = Sum.inl m from fun q => z (Sum.inl.inj (h.1.symm.trans q)))] at e
      obtain ⟨a, xs, h1, h2, h3⟩ := told_some r e
      refine ⟨a, xs, h1, h2, ?_⟩
      unfold toldAt at h3 ⊢
      rw [List.find?_cons_of_neg (by simpa using z)]
      exact h3
theorem lay_pair {p : Str × Int} (h : PairAt K H x p) (ok : PyData.strOk p.1 = true) : Lay K H x := by
  obtain ⟨a, rfl, h⟩ := h
  exact Lay.tup h fun y hy => by
    rcases List.mem_cons.mp hy with e | hy
    · rw [e]; exact ok
    · rw [List.mem_singleton.mp hy] <;> rfl
theorem lay_cart {c : Crt} (h : CrtAt K H x c) (ok : PyData.strOk c.name = true) : Lay K H x := by
  obtain ⟨a, rfl, h⟩ := h
  exact Lay.tup h fun y hy => by
    simp only [List.mem_cons, List.not_mem_nil, or_false] at hy
    rcases hy with e | e | e | e <;> rw [e]
    · exact ok
    · cases c.near <;> decide +kernel
    all_goals rfl
theorem mem_pend_near {p : Str × Int} (h : p ∈ s.near) : p.1 ∈ s.pend := List.mem_append_right _ (List.mem_append_left _ (List.mem_map.mpr ⟨p, h, rfl⟩))
theorem mem_pend_far {p : Str × Int} (h : p ∈ s.far) : p.1 ∈ s.pend := List.mem_append_right _ (List.mem_append_right _ (List.mem_append_left _ (List.mem_map.mpr ⟨p, h, rfl⟩)))
theorem mem_pend_queue {p : Str × Int} (h : p ∈ s.queue) : p.1 ∈ s.pend := List.mem_append_right _ (List.mem_append_right _ (List.mem_append_right _ (List.mem_append_left _ (List.mem_map.mpr ⟨p, h, rfl⟩))))
theorem mem_pend_carts {p : Crt} (h : p ∈ s.carts) : p.name ∈ s.pend := List.mem_append_right _ (List.mem_append_right _ (List.mem_append_right _ (List.mem_append_right _ (List.mem_map.mpr ⟨p, h, rfl⟩))))
theorem Held.layN (h : Held K H D s cs ns fs qs td) (n : Nk s) : ∀ x ∈ ns, Lay K H x := fun x hx => let ⟨p, hp, f⟩ := pair_mem h.near hx; lay_pair f (h.nm _ (n.kn _ (mem_pend_near hp)))
theorem Held.layF (h : Held K H D s cs ns fs qs td) (n : Nk s) : ∀ x ∈ fs, Lay K H x := fun x hx => let ⟨p, hp, f⟩ := pair_mem h.far hx; lay_pair f (h.nm _ (n.kn _ (mem_pend_far hp)))
theorem Held.layQ (h : Held K H D s cs ns fs qs td) (n : Nk s) : ∀ x ∈ qs, Lay K H x := fun x hx => let ⟨p, hp, f⟩ := pair_mem h.queue hx; lay_pair f (h.nm _ (n.kn _ (mem_pend_queue hp)))
theorem Held.layC (h : Held K H D s cs ns fs qs td) (n : Nk s) : ∀ x ∈ cs, Lay K H x := fun x hx => let ⟨p, hp, f⟩ := pair_mem h.carts hx; lay_cart f (h.nm _ (n.kn _ (mem_pend_carts hp)))
theorem pair_nil {α β : Type} {F : α → β → Prop} {xs : List α} {ys : List β} (h : Paired F xs ys) : (xs = []) ↔ (ys = []) := by
  cases h with
  | nil => exact ⟨fun _ => rfl, fun _ => rfl⟩
  | cons _ _ => exact ⟨nofun, nofun⟩
theorem len_few (n : Nk s) : (tNames s.told).length + (s.near.length + (s.far.length + (s.queue.length + s.carts.length))) ≤ 100 := by
  have := n.few
  simpa only [St.pend, List.length_append, List.length_map] using this
end
/-! what stands about the deck for good -/
def AlOk (P : Program) (w : World) (K : PySem.W.Frag) (mg : Str → Option Value) (base : Heap) (H : Hp) (x : V) : Prop := DynOk P w K mg base 4 "allows" H x fun vs H Q => ∃ m : Int, vs = [.int m] ∧ ∀ b, Ret (.bl b) H Q
def StrAt (K : PySem.W.Frag) (H : Hp) (x : V) (i j : Int) : Prop := ∃ a dx, x = .ref a ∧ H a = some (.ins (He.ga K "Stretch") dx (fl_Stretch (.int i) (.int j)))
def WeekAt (K : PySem.W.Frag) (H : Hp) (x : V) : Prop := ∃ a dx r rs, x = .ref a ∧ H a = some (.ins (He.ga K "Week") dx (fl_Week (.ref r))) ∧ H r = some (.lst rs) ∧ ∀ y ∈ rs, ∃ i j, StrAt K H y i j
structure Stat (P : Program) (w : World) (K : PySem.W.Frag) (mg : Str → Option Value) (base : Heap) (D : DA) (H : Hp) : Prop where
  br : BrAt K H D.bridge D.xs D.ws D.ss
  n : D.W.n = D.ws.length
  part : SqT K H D.part [.int D.W.p0, .int D.W.p1]
  lines : H D.lines = some (.dK [(Sum.inr "near", .ref D.near), (Sum.inr "far", .ref D.far)])
  hours : H D.hours = some (.lst [])
  rul : D.rul = .non ∨ AlOk P w K mg base H D.rul
  week : WeekAt K H (.ref D.week)
theorem StrAt.same {K : PySem.W.Frag} {H H' : Hp} {x : V} {i j : Int} (k : Same H H') (h : StrAt K H x i j) : StrAt K H' x i j := let ⟨a, dx, e, q⟩ := h; ⟨a, dx, e, k _ _ q⟩
theorem WeekAt.same {K : PySem.W.Frag} {H H' : Hp} {x : V} (k : Same H H') (h : WeekAt K H x) : WeekAt K H' x := let ⟨a, dx, r, rs, e, h1, h2, h3⟩ := h; ⟨a, dx, r, rs, e, k _ _ h1, k _ _ h2, fun y hy => let ⟨i, j, q⟩ := h3 y hy; ⟨i, j, q.same k⟩⟩
theorem Stat.same {P : Program} {w : World} {K : PySem.W.Frag} {mg : Str → Option Value} {base : Heap} {D : DA} {H H' : Hp} (k : Same H H') (h : Stat P w K mg base D H) : Stat P w K mg base D H' :=
  ⟨h.br.same k, h.n, Same.tup k h.part, k _ _ h.lines, k _ _ h.hours, h.rul.imp_right fun q => q.same k, h.week.same k⟩
def DAt (K : PySem.W.Frag) (D : DA) (s : St) (H0 H : Hp) : Prop := ∃ ca cs ns fs qs td es, SH H0 (ours K D s ca cs ns fs qs td [(D.ev, .lst es)]) H ∧ Held K H0 D s cs ns fs qs td ∧ Paired (EvAt K H0) es s.evs
end

/-! ## B7 -/
section
set_option maxHeartbeats 4000000
open PySem PySem.Spec PyProof.Rows L2




section
variable {K : PySem.W.Frag} {H : Hp} {Q : VK} {a : Addr} {x0 : V} {r : List V}
theorem g_slT1 (h : SqT K H a (x0 :: r)) (q : New (.tup r) H Q) : rSlT K (.ref a) (some 1) none H Q := by
  refine ⟨a, x0 :: r, rfl, h, ?_, ?_⟩
  · rintro ⟨h1, _⟩
    have : HT.sIx (x0 :: r).length 0 (some 1) = 1 := by
      simp [HT.sIx]
    rw [this] at h1; cases h1
  · have : cutV (x0 :: r) (some 1) none = r := by
      simp [cutV, HT.sIx]
    rw [this]
    exact q
end
local macro_rules | `(tactic| walk_at "go1") => `(tactic| ((with_reducible refine' g_slT1 ?h ?_); (case h => walk_at "tup")))
local macro_rules | `(tactic| walk_at "go1") => `(tactic| with_reducible refine g_dyn ?_)
local macro_rules | `(tactic| walk_at "go1") => `(tactic| walk_at "set")

section
variable {P : Program} {w : World} {K : PySem.W.Frag} {mg : Str → Option Value} {base : Heap}
theorem toldAt_len (m : Int) : ∀ t : List (Int × List Thing), (toldAt t m).length ≤ (tNames t).length
  | [] => Nat.zero_le _
  | p :: r => by
    have := toldAt_len m r
    show _ ≤ (p.2.map Thing.name ++ tNames r).length
    rw [List.length_append, List.length_map]
    unfold toldAt at this ⊢
    by_cases e : p.1 = m
    · rw [List.find?_cons_of_pos (by simpa using e)]
      show p.2.length ≤ _
      omega
    · rw [List.find?_cons_of_neg (by simpa using e)]; omega
theorem come_both {D : DA} {s : St} {H0 H : Hp} {ca : Addr} {cs ns fs qs es : List V} {td : List (Key × V)} {m : Int} {Q : VK} (S : SH H0 (ours K D s ca cs ns fs qs td [(D.ev, .lst es)]) H) (hd : Held K H0 D s cs ns fs qs td)
    (k : ∀ a xs H0' H' td', SH H0' (ours K D s ca cs ns fs qs td' [(D.ev, .lst es)]) H' → Same H0 H0' → H0' a = some (.lst xs) → Paired (ThAt K H0') xs (toldAt s.told m) → Paired (ToldAt K H0') td' (s.told.filter fun p => decide (p.1 ≠ m)) → Q (.ref a) H') :
    New (.lst []) H fun w H3 => Dp2 D.told (.int m) w H3 Q := by
  refine g_new S fun e H1 S1 => ?_
  refine g_dp2I S1.g6 (fun v e1 => ?_) (fun e1 => ?_)
  · obtain ⟨a, xs, rfl, h1, h2⟩ := told_some hd.told e1
    refine S1.u6 fun H2 S2 => ?_
    exact k a xs _ _ _ S2.tail (Same.refl _) h1 h2 (told_drop hd.told)
  · obtain ⟨S2, s2, h2⟩ := S1.keepT
    obtain ⟨h3, h4⟩ := told_none hd.told e1
    exact k e [] _ _ _ S2 s2 h2 (by rw [h3]; exact .nil) (pair_mono (fun _ _ => ToldAt.same s2) h4)
theorem ne_nf : ¬ (Sum.inr (Str.ofString "near") : Int ⊕ Str) = Sum.inr (Str.ofString "far") := by decide +kernel
theorem g_lines {D : DA} {H : Hp} {b : Bool} {Q : VK} (h : H D.lines = some (.dK [(Sum.inr "near", .ref D.near), (Sum.inr "far", .ref D.far)])) (q : Q (.ref (if b then D.near else D.far)) H) : DgP (.ref D.lines) (bk b) H Q := by
  cases b
  · exact g_dgS (z := "far") h ((valV_neg ne_nf).trans (valV_pos rfl)) q
  · exact g_dgS (z := "near") h (valV_pos rfl) q
def sp_Deck_come (P : Program) (w : World) (K : PySem.W.Frag) (mg : Str → Option Value) (base : Heap) : Sp := sp2 fun x y H Q _ => ∃ D s H0 m, x = .ref D.deck ∧ y = .int m ∧ Stat P w K mg base D H0 ∧ Nk s ∧ DAt K D s H0 H ∧ ∀ H0' H', Same H0 H0' → DAt K D (s.come m) H0' H' → Q .non H'
theorem ok_Deck_come (T : Top K mg) : Met P w K mg base 2 (He.ga K "Deck") "come" (sp_Deck_come P w K mg base) [] := by
  obtain ⟨fd, F⟩ := F_Deck_come T
  refine met_of F (c_Deck T) (m_Deck_come T) (fun _ _ _ _ _ _ us hl => match us, hl with | [_, _], _ => rfl) sc_Deck_come len2 (k := 1) ?_
  rintro cdv A outer s H vs Q E hr ⟨v0, v1, rfl, h⟩
  refine ⟨_, (pss_one (ps_for PassesOwn.never rfl (pi_list (pe_dpop2 (fldk K (pv 0) rfl) (pv 1) (pe_lst pa_nil) ⟨rfl, rfl, rfl, rfl⟩)) (pg_name (i := 2) sc_Deck_come.nd rfl (by first | exact Or.inl rfl | exact Or.inr rfl)) (pss_one (ps_if (pt_cmpR op_eq (pe_ix (ixTk K) (pv 2) pe_int (fun _ _ => rfl)) pe_str (nomark _)) (pss_one (ps_expr (by exact (pe_bm PySem.F.plainAttrs_list PySem.F.slot_list_append PySem.F.type_list_append mt_append (fldk K (pv 0) rfl) (pa_cons (pe_slice sl_tup (pv 2) (po_some pe_int) po_none) pa_nil))))) (pss_one (ps_expr (by exact (pe_bm PySem.F.plainAttrs_list PySem.F.slot_list_append PySem.F.type_list_append mt_append (pe_dget (hu_of hr) (fldk K (pv 0) rfl) (pe_ix (ixTk K) (pv 2) pe_int (fun _ _ => rfl)) (fun _ _ => rfl)) (pa_cons (pe_tup (pa_cons (pe_ix (ixTk K) (pv 2) pe_int (fun _ _ => rfl)) (pa_cons (pe_ix (ixTk K) (pv 2) pe_int (fun _ _ => rfl)) pa_nil))) pa_nil))))))))), ?_⟩
  try dsimp only [cxOf]
  rw [show start ["self", "minute", "thing"] [v0, v1] = [some v0, some v1, none] from rfl]
  obtain ⟨D, s, H0, m, rfl, rfl, st, nk, ⟨ca, cs, ns, fs, qs, td, es, S, hd, he⟩, k⟩ := h
  walk_at "go"
  have few := len_few nk
  have tl := toldAt_len m s.told
  refine come_both S hd fun a xs H0' H' td' S1 s1 ha hth htd => ?_
  have hl : xs.length = (toldAt s.told m).length := Paired.length hth
  refine for_L (xs := xs) (fun i σ H1 l => (∃ o, σ = [some (.ref D.deck), some (.int m), o]) ∧ Same H0' H1 ∧ ∃ ns fs qs u, u = ((toldAt s.told m).take i).foldl St.take1 { s with told := s.told.filter fun p => decide (p.1 ≠ m) } ∧ l = ours K D u ca cs ns fs qs td' [(D.ev, .lst es)] ∧ Held K H1 D u cs ns fs qs td' ∧ u.evs = s.evs ∧
    ns.length ≤ 100 + i ∧ fs.length ≤ 100 + i ∧ qs.length ≤ 100 + i) S1 ⟨⟨_, rfl⟩, Same.refl _, ns, fs, qs, _, rfl, rfl, ?_, rfl, ?_, ?_, ?_⟩ (fun i σ H1 l H2 ⟨_, s2, _⟩ S2 => SqL.of (S2.rd (s2 _ _ ha))) ?_ ?_
  · have h := hd.same s1
    exact ⟨h.carts, h.on, h.near, h.far, h.queue, htd, h.nm⟩
  · rw [Paired.length hd.near]; omega
  · rw [Paired.length hd.far]; omega
  · rw [Paired.length hd.queue]; omega
  · rintro i x σ H1 l H2 hx ⟨⟨o, rfl⟩, s2, ns, fs, qs, u, hu, rfl, hd2, hev, b1, b2, b3⟩ S2
    obtain ⟨t, ht, hxt⟩ := LiI.paired_get hth hx
    have hi := (List.getElem?_eq_some_iff.mp hx).1
    have hxt := hxt.same (s2.trans S2.same)
    have hS := st.lines
    have hL := (s1.trans (s2.trans S2.same)) _ _ hS
    have e1 : u.take1 t = ((toldAt s.told m).take (i + 1)).foldl St.take1 { s with told := s.told.filter fun p => decide (p.1 ≠ m) } := by
      rw [List.take_add_one, ht, hu, List.foldl_append] <;> rfl
    cases t with
    | ship n l =>
      obtain ⟨q, rfl, hq⟩ := hxt
      walk_at "go"
      refine g_new S2 fun p H3 S3 => ?_
      walk_at "go"
      obtain ⟨S4, s4, e4⟩ := S3.keepT
      refine SH.u4 S4 fun H5 S5 => ?_
      have h := hd2.same s4
      exact ⟨_, _, S5, ⟨_, rfl⟩, s2.trans s4, ns, fs, qs ++ [.ref p], _, e1, rfl, ⟨h.carts, h.on, h.near, h.far, pair_snoc h.queue ⟨p, rfl, SqT.of e4⟩, h.told, h.nm⟩, hev, by omega, by omega, by rw [List.length_append]; exact Nat.succ_le_succ b3⟩
    | cart n b w =>
      obtain ⟨q, rfl, hq⟩ := hxt
      walk_at "go"
      refine g_lines hL ?_
      cases b
      · walk_at "go"
        refine g_new S2 fun p H3 S3 => ?_
        obtain ⟨S4, s4, e4⟩ := S3.keepT
        walk_at "go"
        refine SH.u3 S4 fun H5 S5 => ?_
        have h := hd2.same s4
        exact ⟨_, _, S5, ⟨_, rfl⟩, s2.trans s4, ns, fs ++ [.ref p], qs, _, e1, rfl, ⟨h.carts, h.on, h.near, pair_snoc h.far ⟨p, rfl, SqT.of e4⟩, h.queue, h.told, h.nm⟩, hev, by omega, by rw [List.length_append]; exact Nat.succ_le_succ b2, by omega⟩
      · walk_at "go"
        refine g_new S2 fun p H3 S3 => ?_
        obtain ⟨S4, s4, e4⟩ := S3.keepT
        walk_at "go"
        refine SH.u2 S4 fun H5 S5 => ?_
        have h := hd2.same s4
        exact ⟨_, _, S5, ⟨_, rfl⟩, s2.trans s4, ns ++ [.ref p], fs, qs, _, e1, rfl, ⟨h.carts, h.on, pair_snoc h.near ⟨p, rfl, SqT.of e4⟩, h.far, h.queue, h.told, h.nm⟩, hev, by rw [List.length_append]; exact Nat.succ_le_succ b1, by omega, by omega⟩
  · rintro σ H1 l H2 ⟨⟨o, rfl⟩, s2, ns, fs, qs, u, hu, rfl, hd2, hev, b1, b2, b3⟩ S2
    rw [hl, List.take_length] at hu
    have hu : u = s.come m := hu
    subst hu
    exact k _ _ (s1.trans s2) ⟨ca, cs, ns, fs, qs, td', es, S2, hd2, by rw [hev]; exact evs_same (s1.trans s2) he⟩
end
end

/-! ## B8 -/
local macro_rules | `(tactic| walk_at "go1") => `(tactic| ((with_reducible refine' g_slT1 ?h ?_); (case h => walk_at "tup")))
local macro_rules | `(tactic| walk_at "go1") => `(tactic| with_reducible refine g_dyn ?_)
local macro_rules | `(tactic| walk_at "go1") => `(tactic| walk_at "set")
section
set_option maxHeartbeats 4000000
open PySem PySem.Spec PyProof.Rows L2






section
variable {P : Program} {w : World} {K : PySem.W.Frag} {mg : Str → Option Value} {base : Heap}
theorem knd_get {n : Str} : ∀ {l : List Str}, n ∈ l → valV (l.map fun n => ((Sum.inr n : Key), V.bl true)) (Sum.inr n) = some (.bl true)
  | x :: r, h => by
    by_cases e : x = n
    · exact valV_pos (p := (Sum.inr x, V.bl true)) (by rw [e])
    · exact (valV_neg (p := (Sum.inr x, V.bl true)) fun z => e (Sum.inr.inj z)).trans (knd_get ((List.mem_cons.mp h).resolve_left fun z => e z.symm))
theorem knd_drop (n : Str) : ∀ l : List Str, dropK (l.map fun n => ((Sum.inr n : Key), V.bl true)) (Sum.inr n) = (l.filter fun k => decide (k ≠ n)).map fun n => ((Sum.inr n : Key), V.bl true)
  | [] => rfl
  | x :: r => by
    have ih := knd_drop n r
    unfold dropK at ih ⊢
    by_cases e : x = n
    · rw [List.map_cons, List.filter_cons_of_neg (by simpa using e), List.filter_cons_of_neg (by simpa using e)]; exact ih
    · rw [List.map_cons, List.filter_cons_of_pos (by simpa using e), List.filter_cons_of_pos (by simpa using e), List.map_cons, ih]
theorem crts_nodup {s : St} (nk : Nk s) : (s.carts.map (·.name)).Nodup :=
  (List.nodup_append.mp (List.nodup_append.mp (List.nodup_append.mp (List.nodup_append.mp nk.nd).2.1).2.1).2.1).2.1
/-- a cart's name is known yet when its turn to go comes -/
theorem still_known {s : St} {n : Nat} {m : Int} {i : Nat} {c : Crt} (nk : Nk s) (h : (s.carts.map Crt.roll)[i]? = some c) :
    c.name ∈ (((s.carts.map Crt.roll).take i).foldl (St.off1 n m) { s with carts := (s.carts.map Crt.roll).filter fun c => !c.off n }).known := by
  rw [off_all]
  have nd := crts_nodup nk
  rw [← roll_names] at nd
  refine List.mem_filter.mpr ⟨?_, decide_eq_true fun z => ?_⟩
  · obtain ⟨d, hd, rfl⟩ := List.mem_map.mp (List.mem_of_getElem? h)
    exact nk.kn d.name (mem_pend_carts hd)
  · obtain ⟨d, hd, e⟩ := List.mem_map.mp z
    obtain ⟨j, hj⟩ := List.mem_iff_getElem?.mp (List.mem_filter.mp hd).1
    have hji : j < i := by
      have := (List.getElem?_eq_some_iff.mp hj).1
      rw [List.length_take] at this
      omega
    rw [List.getElem?_take_of_lt hji] at hj
    have := nd_ix nd (i := j) (j := i) (by rw [List.getElem?_map, hj]; rfl) (by rw [List.getElem?_map, h]; exact congrArg some e.symm)
    omega
def sp_Deck_roll (P : Program) (w : World) (K : PySem.W.Frag) (mg : Str → Option Value) (base : Heap) : Sp := sp3 fun x y z H Q _ => ∃ D s H0 m, x = .ref D.deck ∧ y = .int m ∧ z = .ref D.ev ∧ Stat P w K mg base D H0 ∧ Nk s ∧ s.evs.length ≤ 90000 ∧ DAt K D s H0 H ∧ ∀ H0' H', Same H0 H0' → DAt K D (s.roll D.W m) H0' H' → Q .non H'
theorem ok_Deck_roll (T : Top K mg) : Met P w K mg base 5 (He.ga K "Deck") "roll" (sp_Deck_roll P w K mg base) [] := by
  obtain ⟨fd, F⟩ := F_Deck_roll T
  refine met_of F (c_Deck T) (m_Deck_roll T) (fun _ _ _ _ _ _ us hl => match us, hl with | [_, _, _], _ => rfl) sc_Deck_roll len3 (k := 4) ?_
  rintro cdv A outer s H vs Q E hr ⟨v0, v1, v2, rfl, h⟩
  refine ⟨_, (pss_cons (ps_setLc (i := 3) (own := [("cart", 4)]) (g := gName 4) (by rfl) sc_Deck_roll.nd rfl rfl (sw_true rfl rfl rfl (by decide +kernel)) (pi_list (fldk K (pv 0) rfl)) (blkOk_by (own := [("cart", 4)]) (N := ["self", "minute", "events", "gone", "cart"]) (sc := defScope s_Deck_roll) (by decide +kernel)) (fun _ _ _ _ _ => (pg_name (i := 4) sc_Deck_roll.nd rfl (by first | exact Or.inl rfl | exact Or.inr rfl))) (fun _ _ _ _ _ => pts_nil) (fun _ _ _ _ _ => (pe_f (ok_rolled T) hr (by decide) rfl (pa_cons (pv 4) pa_nil))))
    (pss_cons (ps_fld (pv 0) (pe_lc (own := [("cart", 4)]) (g := gName 4) (by rfl) sc_Deck_roll.nd (pi_list (pv 3)) (blkOk_by (own := [("cart", 4)]) (N := ["self", "minute", "events", "gone", "cart"]) (sc := defScope s_Deck_roll) (by decide +kernel)) (fun _ _ _ _ _ => (pg_name (i := 4) sc_Deck_roll.nd rfl (by first | exact Or.inl rfl | exact Or.inr rfl))) (fun _ _ _ _ _ => (pts_one (pt_not (pt_val (pe_f (ok_is_off T) hr (by decide) rfl (pa_cons (fldk K (pv 0) rfl) (pa_cons (pv 4) pa_nil))))))) (fun _ _ _ _ _ => (pv 4))) rfl)
    (pss_one (ps_for PassesOwn.never rfl (pi_list (pv 3)) (pg_name (i := 4) sc_Deck_roll.nd rfl (by first | exact Or.inl rfl | exact Or.inr rfl)) (pss_one (ps_if (pt_val (pe_f (ok_is_off T) hr (by decide) rfl (pa_cons (fldk K (pv 0) rfl) (pa_cons (pv 4) pa_nil)))) (pss_cons (ps_expr (by exact (pe_bm PySem.F.plainAttrs_list PySem.F.slot_list_append PySem.F.type_list_append mt_append (pv 2) (pa_cons (pe_tup (pa_cons (pv 1) (pa_cons pe_str (pa_cons (pe_ix (ixTk K) (pv 4) pe_int (fun _ _ => rfl)) (pa_cons (pe_f (ok_other_bank T) hr (by decide) rfl (pa_cons (pe_ix (ixTk K) (pv 4) pe_int (fun _ _ => rfl)) pa_nil)) pa_nil))))) pa_nil))))
    (pss_one (ps_expr (by exact (pe_dpop1 (fldk K (pv 0) rfl) (pe_ix (ixTk K) (pv 4) pe_int (fun _ _ => rfl)) ⟨rfl, rfl, rfl, rfl⟩))))) pss_nil)))))), ?_⟩
  try dsimp only [cxOf]
  rw [show start ["self", "minute", "events", "gone", "cart"] [v0, v1, v2] = [some v0, some v1, some v2, none, none] from rfl]
  obtain ⟨D, s, H0, m, rfl, rfl, rfl, st, nk, hev, ⟨ca, cs, ns, fs, qs, td, es, S, hd, he⟩, k⟩ := h
  have few := len_few nk
  have lc := Paired.length hd.carts
  walk_at "go"
  refine lc_L (xs := cs) (fun i acc H1 l => Same H0 H1 ∧ l = ours K D s ca cs ns fs qs td [(D.ev, .lst es)] ∧ CrtsAt K H1 acc ((s.carts.take i).map Crt.roll)) S ⟨Same.refl _, rfl, .nil⟩ (fun i acc L H1 l H2 ⟨_, e, _⟩ S2 => by subst e; exact SqL.of S2.g1) (SqL.of S.g0) ?_ ?_
  · rintro i x acc L H1 l H2 hx ⟨s1, rfl, hacc⟩ S2 hz
    obtain ⟨c, hci, hxc⟩ := hd.carts.get hx
    walk_at "lct"
    walk_at "go"
    refine ⟨_, rfl, c, hxc.same (s1.trans S2.same), g_retN_ S2 fun q H3 S3 => ?_⟩
    obtain ⟨S4, s4, e4⟩ := S3.keepT
    have hi := (List.getElem?_eq_some_iff.mp hx).1
    refine yes S4 hz (by omega) ⟨s1.trans s4, rfl, ?_⟩
    rw [List.take_add_one, hci, List.map_append]
    exact (CrtsAt.same s4 hacc).snoc (c := c.roll) (CrtAt.of e4)
  · rintro gl acc H1 l H2 ⟨s1, rfl, hacc⟩ hz S2
    rw [lc, List.take_length] at hacc
    obtain ⟨S3, s3, e3⟩ := S2.keepT
    have la := Paired.length hacc
    rw [List.length_map] at la
    walk_at "go"
    refine lc_L (xs := acc) (fun i acc2 H3 l => Same (upd H1 gl (.lst acc)) H3 ∧ l = ours K D s ca cs ns fs qs td [(D.ev, .lst es)] ∧ CrtsAt K H3 acc2 (((s.carts.map Crt.roll).take i).filter fun c => !c.off D.W.n)) S3 ⟨Same.refl _, rfl, .nil⟩ (fun i acc2 L H3 l H4 ⟨s4, e, _⟩ S4 => SqL.of (S4.rd (s4 _ _ e3))) (SqL.of (S3.rd e3)) ?_ ?_
    · rintro i x acc2 L H3 l H4 hx ⟨s4, rfl, hacc2⟩ S4 hz2
      obtain ⟨c, hci, hxc⟩ := hacc.get hx
      have hi := (List.getElem?_eq_some_iff.mp hx).1
      have e1 : ((s.carts.map Crt.roll).take (i + 1)).filter (fun c => !c.off D.W.n) = ((s.carts.map Crt.roll).take i).filter (fun c => !c.off D.W.n) ++ (if c.off D.W.n then [] else [c]) := by
        rw [List.take_add_one, hci, List.filter_append]
        cases ho : c.off D.W.n <;> simp [ho]
      walk_at "lct"
      walk_at "go"
      have hb := st.br.same ((s1.trans s3).trans (s4.trans S4.same))
      refine ⟨_, _, rfl, _, _, _, _, c, rfl, hxc.same (s3.trans (s4.trans S4.same)), hb, g_retV S4 fun H5 S5 => ?_⟩
      rw [← st.n]
      cases ho : c.off D.W.n with
      | true =>
        walk_at "go"
        refine no S5 hz2 ⟨s4, rfl, ?_⟩
        rw [e1, ho, if_pos rfl, List.append_nil]; exact hacc2
      | false =>
        walk_at "go"
        refine yes S5 hz2 (by omega) ⟨s4, rfl, ?_⟩
        rw [e1, ho, if_neg (by decide)]
        exact hacc2.snoc (hxc.same (s3.trans s4))
    · rintro g2 acc2 H3 l H4 ⟨s4, rfl, hacc2⟩ hz2 S4
      rw [← List.length_map (f := Crt.roll), ← List.length_map (f := Crt.roll)] at la
      rw [Paired.length hacc, List.take_length] at hacc2
      walk_at "go"
      refine SH.u2 S4 fun H5 S5 => ?_
      have S6 := S5.drop1
      walk_at "go"
      have S7 : SH H3 (ours K D { s with carts := (s.carts.map Crt.roll).filter fun c => !c.off D.W.n } g2 acc2 ns fs qs td [(D.ev, .lst es)]) H5 := S6
      have all := s1.trans (s3.trans s4)
      have la2 : acc.length = (s.carts.map Crt.roll).length := Paired.length hacc
      have la3 : acc.length ≤ 100 := by rw [la2, List.length_map]; omega
      refine for_L (xs := acc) (fun i σ H6 l => (∃ o, σ = [some (.ref D.deck), some (.int m), some (.ref D.ev), some (.ref gl), o]) ∧ Same H3 H6 ∧ ∃ es' u, u = ((s.carts.map Crt.roll).take i).foldl (St.off1 D.W.n m) { s with carts := (s.carts.map Crt.roll).filter fun c => !c.off D.W.n } ∧ l = ours K D u g2 acc2 ns fs qs td [(D.ev, .lst es')] ∧
        Held K H6 D u acc2 ns fs qs td ∧ Paired (EvAt K H6) es' u.evs ∧ es'.length ≤ 90000 + i) S7 ⟨⟨_, rfl⟩, Same.refl _, es, _, rfl, rfl, ?_, evs_same all he, by rw [Paired.length he]; omega⟩ (fun i σ H6 l H7 ⟨_, s6, _⟩ S6 => SqL.of (S6.rd (s6 _ _ (s4 _ _ e3)))) ?_ ?_
      · have h := hd.same all
        exact ⟨hacc2, fun c hc => by simpa using (List.mem_filter.mp hc).2, h.near, h.far, h.queue, h.told, h.nm⟩
      · rintro i x σ H6 l H7 hx ⟨⟨o, rfl⟩, s6, es', u, hu, rfl, hd2, he2, hz3⟩ S8
        obtain ⟨c, hci, hxc⟩ := hacc.get hx
        have hi := (List.getElem?_eq_some_iff.mp hx).1
        have hk := still_known (n := D.W.n) (m := m) nk hci
        rw [← hu] at hk
        have e1 : u.off1 D.W.n m c = ((s.carts.map Crt.roll).take (i + 1)).foldl (St.off1 D.W.n m) { s with carts := (s.carts.map Crt.roll).filter fun c => !c.off D.W.n } := by
          rw [List.take_add_one, hci, hu, List.foldl_append] <;> rfl
        have hb := st.br.same (all.trans (s6.trans S8.same))
        have hxc := hxc.same (s3.trans (s4.trans s6))
        walk_at "go"
        refine ⟨_, _, rfl, _, _, _, _, c, rfl, hxc.same S8.same, hb, g_retV S8 fun H8 S9 => ?_⟩
        rw [← st.n]
        cases ho : c.off D.W.n with
        | false =>
          walk_at "go"
          rw [St.off1, ho, if_neg (by decide)] at e1
          exact ⟨_, _, S9, ⟨_, rfl⟩, s6, es', u, e1, rfl, hd2, he2, by omega⟩
        | true =>
          obtain ⟨q, rfl, hq⟩ := hxc
          have hq6 := hq
          have hq := Same.tup (S9.same) hq6
          rw [St.off1, ho, if_pos rfl] at e1
          walk_at "go"
          refine ⟨_, rfl, c.near, rfl, g_retV S9 fun H9 S10 => ?_⟩
          have hq := Same.tup (S10.same) hq6
          walk_at "go"
          refine g_new S10 fun p H10 S11 => ?_
          obtain ⟨S12, s12, e12⟩ := S11.keepT
          have hq := Same.tup s12 hq6
          walk_at "go"
          refine SH.u7 S12 fun H13 S13 => ?_
          walk_at "go"
          refine g_dp1S S13.g6 (knd_get hk) (SH.u6 S13 fun H14 S14 => ?_)
          rw [knd_drop] at S14
          walk_at "go"
          have h := hd2.same s12
          exact ⟨_, _, S14, ⟨_, rfl⟩, s6.trans s12, es' ++ [.ref p], _, e1, rfl, ⟨h.carts, h.on, h.near, h.far, h.queue, h.told, fun n hn => h.nm n (List.mem_filter.mp hn).1⟩, pair_snoc (evs_same s12 he2) ⟨p, rfl, SqT.of e12⟩, by rw [List.length_append]; exact Nat.succ_le_succ hz3⟩
      · rintro σ H6 l H7 ⟨⟨o, rfl⟩, s6, es', u, hu, rfl, hd2, he2, hz3⟩ S8
        rw [la2, List.take_length] at hu
        have hu : u = s.roll D.W m := hu
        subst hu
        exact k _ _ (all.trans s6) ⟨g2, acc2, ns, fs, qs, td, es', S8, hd2, he2⟩
end
end

/-! ## B9 -/
section
set_option maxHeartbeats 4000000
open PySem PySem.Spec PyProof.Rows L2






section
variable {P : Program} {w : World} {K : PySem.W.Frag} {mg : Str → Option Value} {base : Heap}
theorem phS_inj {a b : Ph} (h : phS a = phS b) : a = b := by
  cases a <;> cases b <;> first
    | rfl
    | exact absurd h (by decide +kernel)
def sp_Deck_swing_on (P : Program) (w : World) (K : PySem.W.Frag) (mg : Str → Option Value) (base : Heap) : Sp := sp3 fun x y z H Q _ => ∃ D s H0 m, x = .ref D.deck ∧ y = .int m ∧ z = .ref D.ev ∧ Stat P w K mg base D H0 ∧ Nk s ∧ s.evs.length ≤ 91000 ∧ DAt K D s H0 H ∧ ∀ H0' H', Same H0 H0' → DAt K D (s.swingOn D.W m) H0' H' → Q .non H'
theorem ok_Deck_swing_on (T : Top K mg) : Met P w K mg base 2 (He.ga K "Deck") "swing_on" (sp_Deck_swing_on P w K mg base) [] := by
  obtain ⟨fd, F⟩ := F_Deck_swing_on T
  refine met_of F (c_Deck T) (m_Deck_swing_on T) (fun _ _ _ _ _ _ us hl => match us, hl with | [_, _, _], _ => rfl) sc_Deck_swing_on len3 (k := 1) ?_
  rintro cdv A outer s H vs Q E hr ⟨v0, v1, v2, rfl, h⟩
  refine ⟨_, (pss_cons (ps_if (pt_cmpR op_ne (fldk K (pv 0) rfl) (pv 1) (nomark _)) (pss_one ps_retN) pss_nil)
    (pss_one (ps_if (pt_cmpR op_eq (fldk K (pv 0) rfl) pe_str (nomark _)) (pss_cons (ps_asg (pe_tup (pa_cons pe_str (pa_cons pe_non (pa_cons (pv 1) pa_nil)))) (tupk K (n := 3) rfl (pgs_cons (pg_at (pv 0)) (pgs_cons (pg_at (pv 0)) (pgs_cons (pg_at (pv 0)) pgs_nil)))))
    (pss_one (ps_expr (by exact (pe_bm PySem.F.plainAttrs_list PySem.F.slot_list_append PySem.F.type_list_append mt_append (pv 2) (pa_cons (pe_tup (pa_cons (pv 1) (pa_cons pe_str pa_nil))) pa_nil)))))) (pss_one (ps_if (pt_cmpR (op_neD hr.units) (fldk K (pv 0) rfl) (pe_lst pa_nil) (nomark _)) (pss_cons (ps_asg (pe_bm PySem.F.plainAttrs_list PySem.F.slot_list_pop PySem.F.type_list_pop mt_popAt (fldk K (pv 0) rfl) (pa_cons pe_int pa_nil)) (tupk K (n := 2) rfl (pgs_cons (pg_name (i := 3) sc_Deck_swing_on.nd rfl (by first | exact Or.inl rfl | exact Or.inr rfl)) (pgs_cons (pg_name (i := 4) sc_Deck_swing_on.nd rfl (by first | exact Or.inl rfl | exact Or.inr rfl)) pgs_nil))))
    (pss_cons (ps_asg (pe_tup (pa_cons pe_str (pa_cons (pe_op op_add (pv 1) (pv 4)) pa_nil))) (tupk K (n := 2) rfl (pgs_cons (pg_at (pv 0)) (pgs_cons (pg_at (pv 0)) pgs_nil))))
    (pss_cons (ps_expr (by exact (pe_bm PySem.F.plainAttrs_list PySem.F.slot_list_append PySem.F.type_list_append mt_append (pv 2) (pa_cons (pe_tup (pa_cons (pv 1) (pa_cons pe_str (pa_cons (pv 3) pa_nil)))) pa_nil))))
    (pss_one (ps_expr (by exact (pe_dpop1 (fldk K (pv 0) rfl) (pv 3) ⟨rfl, rfl, rfl, rfl⟩))))))) (pss_cons (ps_asg (pe_tup (pa_cons pe_str (pa_cons (pe_op op_add (pv 1) (fldk K (pv 0) rfl)) pa_nil))) (tupk K (n := 2) rfl (pgs_cons (pg_at (pv 0)) (pgs_cons (pg_at (pv 0)) pgs_nil))))
    (pss_one (ps_expr (by exact (pe_bm PySem.F.plainAttrs_list PySem.F.slot_list_append PySem.F.type_list_append mt_append (pv 2) (pa_cons (pe_tup (pa_cons (pv 1) (pa_cons pe_str pa_nil))) pa_nil))))))))))), ?_⟩
  try dsimp only [cxOf]
  rw [show start ["self", "minute", "events", "name", "long"] [v0, v1, v2] = [some v0, some v1, some v2, none, none] from rfl]
  obtain ⟨D, s, H0, m, rfl, rfl, rfl, st, nk, hev, ⟨ca, cs, ns, fs, qs, td, es, S, hd, he⟩, k⟩ := h
  have lq := hd.layQ nk
  have kn := nk.kn
  have lev := Paired.length he
  obtain ⟨here, ph, ends, da, whose, gone, carts, near, far, queue, told, known, evs⟩ := s
  have hev : es.length ≤ 91000 := by rw [lev]; exact hev
  have same : ∀ e, ends = e → e ≠ some m → Q .non H := fun e h1 h2 => by
    refine k H0 H (Same.refl _) ?_
    have : St.swingOn D.W m ⟨here, ph, ends, da, whose, gone, carts, near, far, queue, told, known, evs⟩ = ⟨here, ph, ends, da, whose, gone, carts, near, far, queue, told, known, evs⟩ := if_neg (by show ¬ ends = some m; rw [h1]; exact h2)
    rw [this]
    exact ⟨ca, cs, ns, fs, qs, td, es, S, hd, he⟩
  cases ends with
  | none =>
    walk_at "go"
    exact same none rfl nofun
  | some e =>
    by_cases hem : e = m
    · subst hem
      walk_at "go"
      by_cases hb : ph = .back
      · subst hb
        simp only [St.swingOn, if_true] at k
        walk_at "go"
        refine g_new S fun p H1 S1 => ?_
        obtain ⟨S2, s2, e2⟩ := S1.keepT
        walk_at "go"
        refine SH.u1 S2 fun H3 S3 => ?_
        walk_at "go"
        refine SH.u1 S3 fun H4 S4 => ?_
        walk_at "go"
        refine SH.u1 S4 fun H5 S5 => ?_
        walk_at "go"
        refine g_new S5 fun q H6 S6 => ?_
        obtain ⟨S7, s7, e7⟩ := S6.keepT
        walk_at "go"
        refine SH.u7 S7 fun H8 S8 => ?_
        walk_at "go"
        refine k _ _ (s2.trans s7) ⟨ca, cs, ns, fs, qs, td, es ++ [V.ref q], S8, ?_, pair_snoc (evs_same (s2.trans s7) he) ⟨q, rfl, SqT.of e7⟩⟩
        have h := hd.same (s2.trans s7)
        exact ⟨h.carts, h.on, h.near, h.far, h.queue, h.told, h.nm⟩
      · simp only [St.swingOn, if_true] at k
        rw [if_neg hb] at k
        refine g_eq (by cases ph <;> rfl) ?_
        walk_at "go"
        refine w_dF (fun z => hb (phS_inj (b := .back) z)) ?_
        walk_at "go"
        refine g_new S fun b H1 S1 => ?_
        walk_at "go"
        refine g_neE (SqL.of S1.g5) (SqL.of S1.g0) ((hd.same S1.same).layQ nk) ?_
        walk_at "go"
        have S2 := S1.tail
        cases hd.queue with
        | nil =>
          dsimp only at k
          refine w_ndF (show ([] : List V) = [] from rfl) ?_
          walk_at "go"
          refine g_new S2 fun p H3 S3 => ?_
          obtain ⟨S4, s4, e4⟩ := S3.keepT
          walk_at "go"
          refine SH.u1 S4 fun H5 S5 => ?_
          walk_at "go"
          refine SH.u1 S5 fun H6 S6 => ?_
          walk_at "go"
          refine g_new S6 fun q H7 S7 => ?_
          obtain ⟨S8, s8, e8⟩ := S7.keepT
          walk_at "go"
          refine SH.u7 S8 fun H9 S9 => ?_
          walk_at "go"
          refine k _ _ (s4.trans s8) ⟨ca, cs, ns, fs, [], td, es ++ [V.ref q], S9, ?_, pair_snoc (evs_same (s4.trans s8) he) ⟨q, rfl, SqT.of e8⟩⟩
          have h := hd.same (s4.trans s8)
          exact ⟨h.carts, h.on, h.near, h.far, h.queue, h.told, h.nm⟩
        | cons hx hr2 =>
          rename_i x n xr nr
          obtain ⟨n, l⟩ := n
          obtain ⟨a, rfl, hx⟩ := hx
          dsimp only at k
          refine w_ndT (List.cons_ne_nil _ _) ?_
          walk_at "go"
          refine SH.u4 S2 fun H3 S3 => ?_
          walk_at "go"
          refine g_new S3 fun p H4 S4 => ?_
          obtain ⟨S5, s5, e5⟩ := S4.keepT
          walk_at "go"
          refine SH.u1 S5 fun H6 S6 => ?_
          walk_at "go"
          refine SH.u1 S6 fun H7 S7 => ?_
          walk_at "go"
          refine g_new S7 fun q H8 S8 => ?_
          obtain ⟨S9, s9, e9⟩ := S8.keepT
          walk_at "go"
          refine SH.u7 S9 fun H10 S10 => ?_
          walk_at "go"
          refine g_dp1S S10.g6 (knd_get (kn n (mem_pend_queue (p := (n, l)) (List.mem_cons_self ..)))) (SH.u6 S10 fun H11 S11 => ?_)
          rw [knd_drop] at S11
          walk_at "go"
          refine k _ _ (s5.trans s9) ⟨ca, cs, ns, fs, xr, td, es ++ [V.ref q], S11, ?_, pair_snoc (evs_same (s5.trans s9) he) ⟨q, rfl, SqT.of e9⟩⟩
          have h := hd.same (s5.trans s9)
          exact ⟨h.carts, h.on, h.near, h.far, pair_mono (fun _ _ => PairAt.same (s5.trans s9)) hr2, h.told, fun n hn => h.nm n (List.mem_filter.mp hn).1⟩
    · walk_at "go"
      refine w_ndT (fun z => hem (V.int.inj z)) ?_
      walk_at "go"
      exact same _ rfl fun z => hem (Option.some.inj z)
end
end

/-! ## B10 -/
section
set_option maxHeartbeats 4000000
open PySem PySem.Spec PyProof.Rows L2






section
variable {P : Program} {w : World} {K : PySem.W.Frag} {mg : Str → Option Value} {base : Heap}
def sp_Deck_is_called (P : Program) (w : World) (K : PySem.W.Frag) (mg : Str → Option Value) (base : Heap) : Sp := sp2 fun x y H Q _ => ∃ D s H0 m, x = .ref D.deck ∧ y = .int m ∧ Stat P w K mg base D H0 ∧ Nk s ∧ DAt K D s H0 H ∧ ∀ b, (b = true → s.mayCall D.W m) → Ret (.bl b) H Q
theorem DAt.facts {D : DA} {s : St} {H0 H : Hp} (h : DAt K D s H0 H) (st : Stat P w K mg base D H0) : ∃ ca cs ns fs qs td es, H ca = some (.lst cs) ∧ H D.deck = some (.ins (He.ga K "Deck") D.dx (fl_Deck (dfOf D s ca))) ∧ H D.near = some (.lst ns) ∧ H D.far = some (.lst fs) ∧ H D.queue = some (.lst qs) ∧ H D.told = some (.dK td) ∧ H D.known = some (.dK (knd s)) ∧ H D.ev = some (.lst es) ∧
    Held K H D s cs ns fs qs td ∧ Paired (EvAt K H) es s.evs ∧ Stat P w K mg base D H :=
  let ⟨ca, cs, ns, fs, qs, td, es, S, hd, he⟩ := h
  ⟨ca, cs, ns, fs, qs, td, es, S.g0, S.g1, S.g2, S.g3, S.g4, S.g5, S.g6, S.g7, hd.same S.same, evs_same S.same he, st.same S.same⟩
theorem called_tail (T : Top K mg) {D : DA} {s : St} {H H1 : Hp} {ca : Addr} {m : Int} {Q : VK} (st : Stat P w K mg base D H) (h1 : H D.deck = some (.ins (He.ga K "Deck") D.dx (fl_Deck (dfOf D s ca)))) (s1 : Same H H1) (k : ∀ b, Ret (.bl b) H Q) :
    if decide ((dfOf D s ca).rul = .non) = true then Q (.bl true) H1 else tDyn P w K mg base 4 "allows" (tFld K (tVar 0) "rule") (tCons (tVar 1) tNil) [some (.ref D.deck), some (.int m)] H1 Q := by
  have S1 := SH.of s1
  refine w_d (fun _ => k true _ s1) (fun h => ?_)
  walk_at "go"
  have al := st.rul.resolve_left h
  refine ⟨4, _, Nat.le_refl _, al.same s1, ?_⟩
  walk_at "go"
  exact ⟨Same.refl _, m, rfl, fun b H2 s2 => k b _ (s1.trans s2)⟩
theorem ok_Deck_is_called (T : Top K mg) : Met P w K mg base 5 (He.ga K "Deck") "is_called" (sp_Deck_is_called P w K mg base) [] := by
  obtain ⟨fd, F⟩ := F_Deck_is_called T
  refine met_of F (c_Deck T) (m_Deck_is_called T) (fun _ _ _ _ _ _ us hl => match us, hl with | [_, _], _ => rfl) sc_Deck_is_called len2 (k := 4) ?_
  rintro cdv A outer s H vs Q E hr ⟨v0, v1, rfl, h⟩
  refine ⟨_, (pss_cons (ps_if (PW.pt (pw_or (pt_cmpR (op_eqD hr.units) (fldk K (pv 0) rfl) (pe_lst pa_nil) (nomark _)) (pw_or1 (PW.pt (pw_and (pt_cmpR op_notN1 (fldk K (pv 0) rfl) pe_non (nomark _)) (pw_and1 (pt_cmpR op_lt (pe_op op_sub (pv 1) (fldk K (pv 0) rfl)) (fldk K (pv 0) rfl) (nomark _)))))))) (pss_one (ps_ret pe_bl)) pss_nil)
    (pss_one (ps_ret (pe_or (pe_cmpR op_isN1 (fldk K (pv 0) rfl) pe_non (nomark _)) (pe_one (dynk P w K mg base rfl rfl rfl rfl rfl hr (fldk K (pv 0) rfl) (pa_cons (pv 1) pa_nil))))))), ?_⟩
  try dsimp only [cxOf]
  rw [show start ["self", "minute"] [v0, v1] = [some v0, some v1] from rfl]
  obtain ⟨D, s, H0, m, rfl, rfl, st, nk, dat, k⟩ := h
  obtain ⟨ca, cs, ns, fs, qs, td, es, h0, h1, h2, h3, h4, h5, h6, h7, hd, he, st⟩ := dat.facts st
  have S := SH.rfl' (H := H)
  walk_at "go"
  refine g_new S fun b H1 S1 => ?_
  walk_at "go"
  refine g_eqE (SqL.of (S1.rd h4)) (SqL.of S1.g0) ((hd.same S1.same).layQ nk) ?_
  walk_at "go"
  refine w_d (fun _ => ?_) (fun _ => ?_)
  · walk_at "go"
    exact k false nofun _ S1.same
  · walk_at "go"
    cases hda : s.da with
    | none =>
      refine w_ndF (by show optV s.da = .non; rw [hda]; rfl) ?_
      walk_at "go"
      exact called_tail T st h1 S1.same fun b => k b fun _ d hd => by rw [hda] at hd; cases hd
    | some d =>
      have e1 : (dfOf D s ca).down_at = .int d := by show optV s.da = .int d; rw [hda]; rfl
      refine w_ndT (by rw [e1]; nofun) ?_
      walk_at "go"
      rw [e1]
      walk_at "go"
      refine w_d (fun _ => ?_) (fun hl => ?_)
      · walk_at "go"
        exact k false nofun _ S1.same
      · walk_at "go"
        refine called_tail T st h1 S1.same fun b => k b fun _ d' hd => ?_
        rw [hda] at hd
        cases hd
        omega
def spM (P : Program) (w : World) (K : PySem.W.Frag) (mg : Str → Option Value) (base : Heap) (lim : Nat) (f : Wl → Int → St → St) : Sp := sp3 fun x y z H Q _ => ∃ D s H0 m, x = .ref D.deck ∧ y = .int m ∧ z = .ref D.ev ∧ Stat P w K mg base D H0 ∧ Nk s ∧ s.evs.length ≤ lim ∧ DAt K D s H0 H ∧ ∀ H0' H', Same H0 H0' → DAt K D (f D.W m s) H0' H' → Q .non H'
theorem ok_Deck_swing_out (T : Top K mg) : Met P w K mg base 3 (He.ga K "Deck") "swing_out" (spM P w K mg base 92000 St.swingOut) [] := by
  obtain ⟨fd, F⟩ := F_Deck_swing_out T
  refine met_of F (c_Deck T) (m_Deck_swing_out T) (fun _ _ _ _ _ _ us hl => match us, hl with | [_, _, _], _ => rfl) sc_Deck_swing_out len3 (k := 2) ?_
  rintro cdv A outer s H vs Q E hr ⟨v0, v1, v2, rfl, h⟩
  refine ⟨_, (pss_one (ps_if (pt_not (pt_val (pe_callB (anyk K rfl) rfl (fr_any T) PyProof.Rows.boot_any (pa_cons (pe_lc (own := [("cart", 3)]) (g := gName 3) (by rfl) sc_Deck_swing_out.nd (pi_list (fldk K (pv 0) rfl)) (blkOk_by (own := [("cart", 3)]) (N := ["self", "minute", "events", "cart"]) (sc := defScope s_Deck_swing_out) (by decide +kernel)) (fun _ _ _ _ _ => (pg_name (i := 3) sc_Deck_swing_out.nd rfl (by first | exact Or.inl rfl | exact Or.inr rfl))) (fun _ _ _ _ _ => pts_nil) (fun _ _ _ _ _ => (pe_f (ok_is_to_come T) hr (by decide) rfl (pa_cons (pv 3) (pa_cons (fldk K (pv 0) rfl) pa_nil))))) pa_nil)))) (pss_cons (ps_asg (pe_tup (pa_cons pe_str (pa_cons (pe_op op_add (pv 1) (fldk K (pv 0) rfl)) pa_nil))) (tupk K (n := 2) rfl (pgs_cons (pg_at (pv 0)) (pgs_cons (pg_at (pv 0)) pgs_nil))))
    (pss_one (ps_expr (by exact (pe_bm PySem.F.plainAttrs_list PySem.F.slot_list_append PySem.F.type_list_append mt_append (pv 2) (pa_cons (pe_tup (pa_cons (pv 1) (pa_cons pe_str pa_nil))) pa_nil)))))) pss_nil)), ?_⟩
  try dsimp only [cxOf]
  rw [show start ["self", "minute", "events", "cart"] [v0, v1, v2] = [some v0, some v1, some v2, none] from rfl]
  obtain ⟨D, s, H0, m, rfl, rfl, rfl, st, nk, hev, ⟨ca, cs, ns, fs, qs, td, es, S, hd, he⟩, k⟩ := h
  have few := len_few nk
  have lc := Paired.length hd.carts
  have lev := Paired.length he
  walk_at "go"
  refine lc_L (xs := cs) (fun i acc H1 l => H1 = H0 ∧ l = ours K D s ca cs ns fs qs td [(D.ev, .lst es)] ∧ acc = ((s.carts.take i).map (Crt.toCome D.W.p0 D.W.p1)).map V.bl) S ⟨rfl, rfl, rfl⟩ (fun i acc L H1 l H2 ⟨_, e, _⟩ S2 => by subst e; exact SqL.of S2.g1) (SqL.of S.g0) ?_ ?_
  · rintro i x acc L H1 l H2 hx ⟨rfl, rfl, rfl⟩ S2 hz
    obtain ⟨c, hci, hxc⟩ := hd.carts.get hx
    walk_at "lct"
    walk_at "go"
    refine ⟨_, _, rfl, c, D.part, D.W.p0, D.W.p1, hxc.same S2.same, rfl, Same.tup S2.same st.part, g_retV S2 fun H3 S3 => ?_⟩
    have hi := (List.getElem?_eq_some_iff.mp hx).1
    refine yes S3 hz (by omega) ⟨rfl, rfl, ?_⟩
    rw [List.take_add_one, hci, List.map_append, List.map_append] <;> rfl
  · rintro L acc H1 l H2 ⟨rfl, rfl, rfl⟩ hz S2
    rw [lc, List.take_length] at S2
    walk_at "go"
    refine ⟨L, _, rfl, SqL.of S2.g0, ?_⟩
    have e1 : ((s.carts.map (Crt.toCome D.W.p0 D.W.p1)).any id) = s.carts.any (Crt.toCome D.W.p0 D.W.p1) := by
      rw [List.any_map]; rfl
    rw [e1]
    have S3 := S2.tail
    walk_at "go"
    cases ha : s.carts.any (Crt.toCome D.W.p0 D.W.p1) with
    | true =>
      walk_at "go"
      have := k H1 H2 (Same.refl _)
      rw [St.swingOut, if_pos ha] at this
      exact this ⟨ca, cs, ns, fs, qs, td, es, S3, hd, he⟩
    | false =>
      walk_at "go"
      refine g_new S3 fun p H4 S4 => ?_
      obtain ⟨S5, s5, e5⟩ := S4.keepT
      walk_at "go"
      refine SH.u1 S5 fun H6 S6 => ?_
      walk_at "go"
      refine SH.u1 S6 fun H7 S7 => ?_
      walk_at "go"
      refine g_new S7 fun q H8 S8 => ?_
      obtain ⟨S9, s9, e9⟩ := S8.keepT
      walk_at "go"
      refine SH.u7 S9 fun H10 S10 => ?_
      walk_at "go"
      have := k _ H10 (s5.trans s9)
      rw [St.swingOut, if_neg (by rw [ha]; decide)] at this
      have h := hd.same (s5.trans s9)
      exact this ⟨ca, cs, ns, fs, qs, td, es ++ [V.ref q], S10, ⟨h.carts, h.on, h.near, h.far, h.queue, h.told, h.nm⟩, pair_snoc (evs_same (s5.trans s9) he) ⟨q, rfl, SqT.of e9⟩⟩
end
end

/-! ## B11 -/
section
set_option maxHeartbeats 4000000
open PySem PySem.Spec PyProof.Rows L2






section
variable {P : Program} {w : World} {K : PySem.W.Frag} {mg : Str → Option Value} {base : Heap}
section
variable {D : DA} {s : St} {H0 H : Hp} {ca : Addr} {cs ns fs qs : List V} {td : List (Key × V)} {l : List (Addr × HO)} {z : Hp → Prop}
/-- the line of a bank -/
abbrev lnV (b : Bool) (ns fs : List V) : List V := if b then ns else fs
abbrev lnA (D : DA) (b : Bool) : Addr := if b then D.near else D.far
theorem Held.line (h : Held K H D s cs ns fs qs td) (b : Bool) : Paired (PairAt K H) (lnV b ns fs) (s.line b) := by
  cases b
  · exact h.far
  · exact h.near
theorem Held.layL (h : Held K H D s cs ns fs qs td) (n : Nk s) (b : Bool) : ∀ x ∈ lnV b ns fs, Lay K H x := by
  cases b
  · exact h.layF n
  · exact h.layN n
theorem ln_get (hn : H D.near = some (.lst ns)) (hf : H D.far = some (.lst fs)) (b : Bool) : H (lnA D b) = some (.lst (lnV b ns fs)) := by
  cases b
  · exact hf
  · exact hn
theorem SH.uLine (S : SH H0 (ours K D s ca cs ns fs qs td l) H) {ls : List V} (b : Bool) (k : ∀ H1, SH H0 (ours K D s ca cs (if b then ls else ns) (if b then fs else ls) qs td l) H1 → z H1) : Upd H (lnA D b) (.lst ls) z := by
  cases b
  · exact S.u3 k
  · exact S.u2 k
theorem setLine_eq (b : Bool) (x : List (Str × Int)) : s.setLine b x = { s with near := (s.setLine b x).near, far := (s.setLine b x).far } := by cases b <;> rfl
theorem pair_near (b : Bool) {xr : List V} {r : List (Str × Int)} {F : V → Str × Int → Prop} (h : Paired F ns s.near) (k : Paired F xr r) : Paired F (if b then xr else ns) (s.setLine b r).near := by
  cases b
  · exact h
  · exact k
theorem pair_far (b : Bool) {xr : List V} {r : List (Str × Int)} {F : V → Str × Int → Prop} (h : Paired F fs s.far) (k : Paired F xr r) : Paired F (if b then fs else xr) (s.setLine b r).far := by
  cases b
  · exact k
  · exact h
theorem nil_iff {b : Bool} (h : Held K H D s cs ns fs qs td) : lnV b ns fs = [] ↔ s.line b = [] := pair_nil (h.line b)
end
theorem ok_Deck_turn_over (T : Top K mg) : Met P w K mg base 3 (He.ga K "Deck") "turn_over" (spM P w K mg base 93000 St.turnOver) [] := by
  obtain ⟨fd, F⟩ := F_Deck_turn_over T
  refine met_of F (c_Deck T) (m_Deck_turn_over T) (fun _ _ _ _ _ _ us hl => match us, hl with | [_, _, _], _ => rfl) sc_Deck_turn_over len3 (k := 2) ?_
  rintro cdv A outer s H vs Q E hr ⟨v0, v1, v2, rfl, h⟩
  refine ⟨_, (pss_cons (ps_set (i := 3) sc_Deck_turn_over.nd rfl (by first | exact Or.inl rfl | exact Or.inr rfl) (pe_f (ok_other_bank T) hr (by decide) rfl (pa_cons (fldk K (pv 0) rfl) pa_nil)))
    (pss_cons (ps_if (PW.pt (pw_or (pt_cmpR (op_neD hr.units) (fldk K (pv 0) rfl) (pe_lst pa_nil) (nomark _)) (pw_or1 (pt_cmpR (op_eqD hr.units) (pe_dget (hu_of hr) (fldk K (pv 0) rfl) (pv 3) (fun _ _ => rfl)) (pe_lst pa_nil) (nomark _))))) (pss_one ps_retN) pss_nil)
    (pss_one (ps_if (PW.pt (pw_or (pt_cmpR (op_eqD hr.units) (pe_dget (hu_of hr) (fldk K (pv 0) rfl) (fldk K (pv 0) rfl) (fun _ _ => rfl)) (pe_lst pa_nil) (nomark _)) (pw_or1 (pt_cmpR op_ge (fldk K (pv 0) rfl) (fldk K (pv 0) rfl) (nomark _))))) (pss_cons (ps_asg (pe_tup (pa_cons (pv 3) (pa_cons pe_int pa_nil))) (tupk K (n := 2) rfl (pgs_cons (pg_at (pv 0)) (pgs_cons (pg_at (pv 0)) pgs_nil))))
    (pss_one (ps_expr (by exact (pe_bm PySem.F.plainAttrs_list PySem.F.slot_list_append PySem.F.type_list_append mt_append (pv 2) (pa_cons (pe_tup (pa_cons (pv 1) (pa_cons pe_str (pa_cons (pv 3) pa_nil)))) pa_nil)))))) pss_nil)))), ?_⟩
  try dsimp only [cxOf]
  rw [show start ["self", "minute", "events", "other"] [v0, v1, v2] = [some v0, some v1, some v2, none] from rfl]
  obtain ⟨D, s, H0, m, rfl, rfl, rfl, st, nk, hev, ⟨ca, cs, ns, fs, qs, td, es, S, hd, he⟩, k⟩ := h
  have few := len_few nk
  have lev := Paired.length he
  have same : s.turnOver D.W m = s → ∀ H1, SH H0 (ours K D s ca cs ns fs qs td [(D.ev, .lst es)]) H1 → Q .non H1 := fun e H1 S1 => by
    have := k H0 H1 (Same.refl _)
    rw [e] at this
    exact this ⟨ca, cs, ns, fs, qs, td, es, S1, hd, he⟩
  walk_at "go"
  refine ⟨_, rfl, s.whose, rfl, g_retV S fun H1 S1 => ?_⟩
  walk_at "go"
  refine g_new S1 fun b H2 S2 => ?_
  walk_at "go"
  refine g_neE (SqL.of S2.g1) (SqL.of S2.g0) ((hd.same S2.same).layC nk) ?_
  have S3 := S2.tail
  walk_at "go"
  refine w_nd (fun hc => ?_) (fun hc => ?_)
  · walk_at "go"
    refine same ?_ _ S3
    rw [St.turnOver, if_pos (.inl fun z => hc ((pair_nil hd.carts).mpr z))]
  walk_at "go"
  refine g_lines (st.same S3.same).lines ?_
  walk_at "go"
  refine g_new S3 fun b2 H4 S4 => ?_
  walk_at "go"
  refine g_eqE (SqL.of (ln_get S4.g3 S4.g4 _)) (SqL.of S4.g0) ((hd.same S4.same).layL nk _) ?_
  have S5 := S4.tail
  walk_at "go"
  refine w_d (fun hl => ?_) (fun hl => ?_)
  · walk_at "go"
    refine same ?_ _ S5
    rw [St.turnOver, if_pos (.inr ((nil_iff hd).mp hl))]
  walk_at "go"
  have hno : ¬ (s.carts ≠ [] ∨ s.line (!s.whose) = []) := fun z => z.elim (fun z => z ((pair_nil hd.carts).mp hc)) fun z => hl ((nil_iff hd).mpr z)
  refine g_lines (st.same S5.same).lines ?_
  walk_at "go"
  refine g_new S5 fun b3 H6 S6 => ?_
  walk_at "go"
  refine g_eqE (SqL.of (ln_get S6.g3 S6.g4 _)) (SqL.of S6.g0) ((hd.same S6.same).layL nk _) ?_
  have S7 := S6.tail
  refine g_bl (w_d (fun h1 => ?_) (fun h1 => ?_))
  · have hT : s.line s.whose = [] ∨ D.W.turn ≤ s.gone := .inl ((nil_iff hd).mp h1)
    walk_at "go"
    refine g_new S7 fun p H8 S8 => ?_
    obtain ⟨S9, s9, e9⟩ := S8.keepT
    walk_at "go"
    refine SH.u1 S9 fun H10 S10 => ?_
    walk_at "go"
    refine SH.u1 S10 fun H11 S11 => ?_
    walk_at "go"
    refine g_new S11 fun q H12 S12 => ?_
    obtain ⟨S13, s13, e13⟩ := S12.keepT
    walk_at "go"
    refine SH.u7 S13 fun H14 S14 => ?_
    walk_at "go"
    have := k _ H14 (s9.trans s13)
    rw [St.turnOver, if_neg hno, if_pos hT] at this
    have h := hd.same (s9.trans s13)
    exact this ⟨ca, cs, ns, fs, qs, td, es ++ [V.ref q], S14, ⟨h.carts, h.on, h.near, h.far, h.queue, h.told, h.nm⟩, pair_snoc (evs_same (s9.trans s13) he) ⟨q, rfl, SqT.of e13⟩⟩
  · walk_at "go"
    refine w_d (fun h2 => ?_) (fun h2 => ?_)
    · have hT : s.line s.whose = [] ∨ D.W.turn ≤ s.gone := .inr h2
      walk_at "go"
      refine g_new S7 fun p H8 S8 => ?_
      obtain ⟨S9, s9, e9⟩ := S8.keepT
      walk_at "go"
      refine SH.u1 S9 fun H10 S10 => ?_
      walk_at "go"
      refine SH.u1 S10 fun H11 S11 => ?_
      walk_at "go"
      refine g_new S11 fun q H12 S12 => ?_
      obtain ⟨S13, s13, e13⟩ := S12.keepT
      walk_at "go"
      refine SH.u7 S13 fun H14 S14 => ?_
      walk_at "go"
      have := k _ H14 (s9.trans s13)
      rw [St.turnOver, if_neg hno, if_pos hT] at this
      have h := hd.same (s9.trans s13)
      exact this ⟨ca, cs, ns, fs, qs, td, es ++ [V.ref q], S14, ⟨h.carts, h.on, h.near, h.far, h.queue, h.told, h.nm⟩, pair_snoc (evs_same (s9.trans s13) he) ⟨q, rfl, SqT.of e13⟩⟩
    · walk_at "go"
      refine same ?_ _ S7
      rw [St.turnOver, if_neg hno, if_neg fun z => z.elim (fun z => h1 ((nil_iff hd).mpr z)) h2]
end
end

/-! ## B12 -/
section
set_option maxHeartbeats 4000000
open PySem PySem.Spec PyProof.Rows L2






section
variable {P : Program} {w : World} {K : PySem.W.Frag} {mg : Str → Option Value} {base : Heap}
theorem fa_gone (T : Top K mg) {f : DF} {a dx : Addr} {H : Hp} {g j : Int} {σ : L2.St} {nx bk ct : L2.St → Hp → Prop} {rt : VK} (h : H a = some (.ins (He.ga K "Deck") dx (fl_Deck f))) (hg : f.gone_on = .int g) (e : σ[0]? = some (some (.ref a)))
    (q : Upd H a (.ins (He.ga K "Deck") dx (fl_Deck { f with gone_on := .int (g + j) })) fun H1 => nx σ H1) : sFldAug K (tVar 0) (tC (.int j)) rAdd "gone_on" ⟨nx, rt, bk, ct⟩ σ H :=
  ⟨_, e, a, _, dx, _, _, rfl, h, c_Deck T, n_Deck_gone_on T, lk_at (i := 12) nd_Deck rfl, g, j, hg, rfl, dx, _, h, (by show 19 < 1000; decide), up_as (put_at (fs := fl_Deck f) (i := 12) nd_Deck rfl) q⟩
theorem inV_ints (p : Int) : ∀ l : List Int, inV (.int p) (l.map V.int) = l.any fun q => decide (q = p)
  | [] => rfl
  | q :: r => by
    show (eqV (.int q) (.int p) || inV (.int p) (r.map V.int)) = _
    rw [inV_ints p r, List.any_cons]
    congr 1
/-- the gate of go_on: the turn is over, the other line not empty -/
theorem gate (T : Top K mg) {D : DA} {s : St} {H0 H : Hp} {ca : Addr} {cs ns fs qs : List V} {td : List (Key × V)} {l : List (Addr × HO)} {σ : L2.St} {B : Bool → Hp → Prop} (st : Stat P w K mg base D H0) (nk : Nk s) (hd : Held K H0 D s cs ns fs qs td) (S : SH H0 (ours K D s ca cs ns fs qs td l) H)
    (e : σ[0]? = some (some (.ref D.deck))) (k : ∀ H1, SH H0 (ours K D s ca cs ns fs qs td l) H1 → B (decide (D.W.turn ≤ s.gone ∧ s.line (!s.whose) ≠ [])) H1) :
    tAnd (tTest (tOp (rI0 fun i j => V.bl (decide (j ≤ i))) (tFld K (tVar 0) "gone_on") (tFld K (tVar 0) "turn_most"))) (tTest (tOp (rNeD K) (tDGet (tFld K (tVar 0) "lines") (tCall sp_other_bank [] E0 (tCons (tFld K (tVar 0) "whose") tNil))) (tLst tNil))) σ H B := by
  have gv : ∀ {H Q}, Q (.ref D.deck) H → tVar 0 σ H Q := fun q => g_var e q
  refine g_and (g_test (g_op (g_fld (gv ?_))))
  walk_at "go"
  refine g_fld (gv ?_)
  walk_at "go"
  refine w_d (fun h1 => ?_) (fun h1 => ?_)
  · refine g_test (g_op (g_dget (g_fld (gv ?_))))
    walk_at "go"
    refine g_fld (gv ?_)
    walk_at "go"
    refine ⟨_, rfl, s.whose, rfl, g_retV S fun H1 S1 => ?_⟩
    walk_at "go"
    refine g_lines (st.same S1.same).lines ?_
    walk_at "go"
    refine g_new S1 fun b H2 S2 => ?_
    walk_at "go"
    refine g_neE (SqL.of (ln_get S2.g3 S2.g4 _)) (SqL.of S2.g0) ((hd.same S2.same).layL nk _) ?_
    have S3 := S2.tail
    walk_at "go"
    have := k _ S3
    by_cases hl : lnV (!s.whose) ns fs = []
    · rw [decide_eq_true hl]
      rw [decide_eq_false (fun z => z.2 ((nil_iff hd).mp hl))] at this
      exact this
    · rw [decide_eq_false hl]
      rw [decide_eq_true ⟨h1, fun z => hl ((nil_iff hd).mpr z)⟩] at this
      exact this
  · have := k _ S
    rw [decide_eq_false (fun z => h1 z.1)] at this
    exact this
def sp_Deck_go_on (P : Program) (w : World) (K : PySem.W.Frag) (mg : Str → Option Value) (base : Heap) : Sp := sp3 fun x y z H Q _ => ∃ D s H0 m, x = .ref D.deck ∧ y = .int m ∧ z = .ref D.ev ∧ Stat P w K mg base D H0 ∧ Nk s ∧ s.evs.length ≤ 94000 ∧ DAt K D s H0 H ∧ ∀ b H0' H', Same H0 H0' → DAt K D (s.goOn D.W b m) H0' H' → Q .non H'
theorem ok_Deck_go_on (T : Top K mg) : Met P w K mg base 8 (He.ga K "Deck") "go_on" (sp_Deck_go_on P w K mg base) [] := by
  obtain ⟨fd, F⟩ := F_Deck_go_on T
  refine met_of F (c_Deck T) (m_Deck_go_on T) (fun _ _ _ _ _ _ us hl => match us, hl with | [_, _, _], _ => rfl) sc_Deck_go_on len3 (k := 7) ?_
  rintro cdv A outer s H vs Q E hr ⟨v0, v1, v2, rfl, h⟩
  refine ⟨_, (pss_cons (ps_set (i := 3) sc_Deck_go_on.nd rfl (by first | exact Or.inl rfl | exact Or.inr rfl) (pe_dget (hu_of hr) (fldk K (pv 0) rfl) (fldk K (pv 0) rfl) (fun _ _ => rfl)))
    (pss_cons (ps_if (PW.pt (pw_or (pt_cmpR (op_eqD hr.units) (pv 3) (pe_lst pa_nil) (nomark _)) (pw_or1 (PW.pt (pw_and (pt_cmpR op_ge (fldk K (pv 0) rfl) (fldk K (pv 0) rfl) (nomark _)) (pw_and1 (pt_cmpR (op_neD hr.units) (pe_dget (hu_of hr) (fldk K (pv 0) rfl) (pe_f (ok_other_bank T) hr (by decide) rfl (pa_cons (fldk K (pv 0) rfl) pa_nil)) (fun _ _ => rfl)) (pe_lst pa_nil) (nomark _)))))))) (pss_one ps_retN) pss_nil)
    (pss_cons (ps_set (i := 4) sc_Deck_go_on.nd rfl (by first | exact Or.inl rfl | exact Or.inr rfl) (pe_f (ok_bank_span T) hr (by decide) rfl (pa_cons (fldk K (pv 0) rfl) (pa_cons (fldk K (pv 0) rfl) pa_nil))))
    (pss_cons (ps_set (i := 5) sc_Deck_go_on.nd rfl (by first | exact Or.inl rfl | exact Or.inr rfl) (pe_tup (pa_cons (pe_ix (ixTk K) (pe_ix (ixLk K) (pv 3) pe_int (fun _ _ => rfl)) pe_int (fun _ _ => rfl)) (pa_cons (fldk K (pv 0) rfl) (pa_cons (pe_ix (ixTk K) (pe_ix (ixLk K) (pv 3) pe_int (fun _ _ => rfl)) pe_int (fun _ _ => rfl)) (pa_cons (pv 4) pa_nil))))))
    (pss_one (ps_if (PW.pt (pw_and (pt_cmpR (nink K) (pv 4) (pe_lc (own := [("one", 6)]) (g := gName 6) (by rfl) sc_Deck_go_on.nd (pi_list (fldk K (pv 0) rfl)) (blkOk_by (own := [("one", 6)]) (N := ["self", "minute", "events", "row", "place", "cart", "one"]) (sc := defScope s_Deck_go_on) (by decide +kernel)) (fun _ _ _ _ _ => (pg_name (i := 6) sc_Deck_go_on.nd rfl (by first | exact Or.inl rfl | exact Or.inr rfl))) (fun _ _ _ _ _ => pts_nil) (fun _ _ _ _ _ => (pe_ix (ixTk K) (pv 6) pe_int (fun _ _ => rfl)))) rfl) (pw_and1 (pt_val (pe_f (ok_is_borne_on T) hr (by decide) rfl (pa_cons (fldk K (pv 0) rfl) (pa_cons (fldk K (pv 0) rfl) (pa_cons (pv 5) pa_nil)))))))) (pss_cons (ps_expr (by exact (pe_bm PySem.F.plainAttrs_list PySem.F.slot_list_pop PySem.F.type_list_pop mt_popAt (pv 3) (pa_cons pe_int pa_nil))))
    (pss_cons (ps_expr (by exact (pe_bm PySem.F.plainAttrs_list PySem.F.slot_list_append PySem.F.type_list_append mt_append (fldk K (pv 0) rfl) (pa_cons (pv 5) pa_nil))))
    (pss_cons (ps_fldaug (pv 0) pe_int in_add)
    (pss_one (ps_expr (by exact (pe_bm PySem.F.plainAttrs_list PySem.F.slot_list_append PySem.F.type_list_append mt_append (pv 2) (pa_cons (pe_tup (pa_cons (pv 1) (pa_cons pe_str (pa_cons (pe_ix (ixTk K) (pv 5) pe_int (fun _ _ => rfl)) (pa_cons (fldk K (pv 0) rfl) pa_nil))))) pa_nil)))))))) pss_nil)))))), ?_⟩
  try dsimp only [cxOf]
  rw [show start ["self", "minute", "events", "row", "place", "cart", "one"] [v0, v1, v2] = [some v0, some v1, some v2, none, none, none, none] from rfl]
  obtain ⟨D, s, H0, m, rfl, rfl, rfl, st, nk, hev, ⟨ca, cs, ns, fs, qs, td, es, S, hd, he⟩, k⟩ := h
  have few := len_few nk
  have lev := Paired.length he
  have same : ∀ b, s.goOn D.W b m = s → ∀ H1, SH H0 (ours K D s ca cs ns fs qs td [(D.ev, .lst es)]) H1 → Q .non H1 := fun b e H1 S1 => by
    have := k b H0 H1 (Same.refl _)
    rw [e] at this
    exact this ⟨ca, cs, ns, fs, qs, td, es, S1, hd, he⟩
  walk_at "go"
  refine g_lines (st.same S.same).lines ?_
  walk_at "go"
  refine g_new S fun b1 H1 S1 => ?_
  walk_at "go"
  refine g_eqE (SqL.of (ln_get S1.g3 S1.g4 _)) (SqL.of S1.g0) ((hd.same S1.same).layL nk _) ?_
  have S2 := S1.tail
  walk_at "go"
  refine w_d (fun hl => ?_) (fun hl => ?_)
  · walk_at "go"
    refine same false ?_ _ S2
    rw [St.goOn, (nil_iff hd).mp hl]
  refine gate T st nk hd S2 ?_ fun H3 S3 => ?_
  · rfl
  refine w_d (fun hg => ?_) (fun hg => ?_)
  · walk_at "go"
    refine same false ?_ _ S3
    unfold St.goOn
    split
    · rfl
    · rw [if_pos hg]
  obtain ⟨hP, r, x, xr, n, wt, hline, hlv, hx, hr⟩ : ∃ (hP : True) (r : List (Str × Int)) (x : V) (xr : List V) (n : Str) (wt : Int), s.line s.whose = (n, wt) :: r ∧ lnV s.whose ns fs = x :: xr ∧ PairAt K H0 x (n, wt) ∧ Paired (PairAt K H0) xr r := by
    have h1 := hd.line s.whose
    generalize lnV s.whose ns fs = a at h1 hl
    generalize s.line s.whose = c at h1
    cases h1 with
    | nil => exact absurd rfl hl
    | cons a b => exact ⟨trivial, _, _, _, _, _, rfl, rfl, a, b⟩
  obtain ⟨xa, rfl, hxa⟩ := hx
  walk_at "go"
  refine ⟨_, _, rfl, _, _, _, _, s.whose, rfl, rfl, st.br.same S3.same, g_retV S3 fun H4 S4 => ?_⟩
  have hL := ln_get S4.g2 S4.g3 s.whose
  rw [hlv] at hL
  walk_at "go"
  have hp : (if s.whose = true then (0 : Int) else (D.ws.length : Int)) = startP D.W s.whose := by
    unfold startP; rw [st.n]
  rw [hp]
  have goS : ∀ b, (s.carts.any (fun c => decide (c.p = startP D.W s.whose)) || !b) = true → s.goOn D.W b m = s := fun b h => by rw [St.goOn, hline]; dsimp only; rw [if_neg hg, if_pos h]
  refine g_new S4 fun cp H5 S5 => ?_
  obtain ⟨S6, s6, e6⟩ := S5.keepT
  have hcrt : CrtAt K _ (.ref cp) ⟨n, s.whose, wt, startP D.W s.whose⟩ := CrtAt.of (c := ⟨n, s.whose, wt, startP D.W s.whose⟩) e6
  have hof : (⟨n, s.whose, wt, startP D.W s.whose⟩ : Crt).off D.W.n = false := by
    unfold Crt.off startP
    cases s.whose <;> simp
  have lc := Paired.length hd.carts
  walk_at "go"
  refine lc_L (xs := cs) (fun i acc H6 l => H6 = _ ∧ l = ours K D s ca cs ns fs qs td [(D.ev, .lst es)] ∧ acc = ((s.carts.take i).map (·.p)).map V.int) S6 ⟨rfl, rfl, rfl⟩ (fun i acc L H1 l H2 ⟨_, e, _⟩ S2 => by subst e; exact SqL.of S2.g1) (SqL.of S6.g0) ?_ ?_
  · rintro i x acc L H1 l H2 hx ⟨rfl, rfl, rfl⟩ S2 hz
    obtain ⟨c, hci, hxc⟩ := hd.carts.get hx
    obtain ⟨q, rfl, hq⟩ := (hxc.same s6).same S2.same
    have hi := (List.getElem?_eq_some_iff.mp hx).1
    walk_at "lct"
    walk_at "go"
    refine yes S2 hz (by omega) ⟨rfl, rfl, ?_⟩
    rw [List.take_add_one, hci, List.map_append, List.map_append] <;> rfl
  · rintro L acc H1 l H2 ⟨rfl, rfl, rfl⟩ hz S7
    rw [lc, List.take_length] at S7
    walk_at "go"
    refine g_niL (SqL.of S7.g0) rfl (List.all_eq_true.mpr fun y hy => by obtain ⟨q, _, rfl⟩ := List.mem_map.mp hy; rfl) ?_
    have S8 := S7.tail
    rw [inV_ints, List.any_map]
    walk_at "go"
    have hany : ((fun q => decide (q = startP D.W s.whose)) ∘ fun x : Crt => x.p) = fun c => decide (c.p = startP D.W s.whose) := rfl
    rw [hany]
    have hd6 := hd.same s6
    have st6 := st.same s6
    have same6 : ∀ b, s.goOn D.W b m = s → ∀ H1, SH _ (ours K D s ca cs ns fs qs td [(D.ev, .lst es)]) H1 → Q .non H1 := fun b e H1 S1 => by
      have := k b _ H1 s6
      rw [e] at this
      exact this ⟨ca, cs, ns, fs, qs, td, es, S1, hd6, evs_same s6 he⟩
    cases hA : s.carts.any (fun c => decide (c.p = startP D.W s.whose)) with
    | true =>
      walk_at "go"
      exact same6 false (goS _ (by rw [hA]; rfl)) _ S8
    | false =>
      walk_at "go"
      refine ⟨_, _, _, rfl, D.bridge, D.xs, D.ws, D.ss, ca, cs, s.carts, ⟨n, s.whose, wt, startP D.W s.whose⟩, rfl, rfl, st6.br.same S8.same, SqL.of S8.g0, CrtsAt.same S8.same hd6.carts, fun c hc => by rw [← st.n]; exact hd.on c hc, by omega, hcrt.same S8.same, by rw [← st.n]; exact hof, fun b => g_retV S8 fun H9 S9 => ?_⟩
      cases b with
      | false =>
        walk_at "go"
        exact same6 false (goS _ (by rw [hA]; rfl)) _ S9
      | true =>
        have hL := ln_get S9.g2 S9.g3 s.whose
        rw [hlv] at hL
        walk_at "go"
        refine SH.uLine S9 s.whose fun H10 S10 => ?_
        walk_at "go"
        refine SH.u0 S10 fun H11 S11 => ?_
        walk_at "go"
        refine fa_gone T S11.g1 (g := s.gone) rfl rfl (SH.u1 S11 fun H12 S12 => ?_)
        walk_at "go"
        refine g_new S12 fun q H13 S13 => ?_
        obtain ⟨S14, s14, e14⟩ := S13.keepT
        walk_at "go"
        refine SH.u7 S14 fun H15 S15 => ?_
        walk_at "go"
        have := k true _ H15 (s6.trans s14)
        have e1 : s.goOn D.W true m = ({ s with near := (s.setLine s.whose r).near, far := (s.setLine s.whose r).far, carts := s.carts ++ [(⟨n, s.whose, wt, startP D.W s.whose⟩ : Crt)], gone := s.gone + 1 } : St).ev (.on m n s.whose) := by
          rw [St.goOn, hline]; dsimp only; rw [if_neg hg, if_neg (by rw [hA]; decide), setLine_eq]
        rw [e1] at this
        have h := hd6.same s14
        refine this ⟨ca, cs ++ [V.ref cp], (if s.whose then xr else ns), (if s.whose then fs else xr), qs, td, es ++ [V.ref q], S15, ⟨h.carts.snoc (hcrt.same s14), fun c hc => ?_, pair_near s.whose h.near (pair_mono (fun _ _ => PairAt.same (s6.trans s14)) hr), pair_far s.whose h.far (pair_mono (fun _ _ => PairAt.same (s6.trans s14)) hr), h.queue, h.told, h.nm⟩, pair_snoc (evs_same (s6.trans s14) he) ⟨q, rfl, SqT.of e14⟩⟩
        rcases List.mem_append.mp hc with hc | hc
        · exact hd.on c hc
        · rw [List.mem_singleton.mp hc]; exact hof
end
end

/-! ## B13 -/
section
set_option maxHeartbeats 4000000
open PySem PySem.Spec PyProof.Rows L2






section
variable {P : Program} {w : World} {K : PySem.W.Frag} {mg : Str → Option Value} {base : Heap}
def sp_Deck_awake_from (P : Program) (w : World) (K : PySem.W.Frag) (mg : Str → Option Value) (base : Heap) : Sp := sp2 fun x y H Q _ => ∃ D s H0 m, x = .ref D.deck ∧ y = .int m ∧ Stat P w K mg base D H0 ∧ DAt K D s H0 H ∧ Ret (.int m) H Q
theorem ok_Deck_awake_from (T : Top K mg) : Met P w K mg base 2 (He.ga K "Deck") "awake_from" (sp_Deck_awake_from P w K mg base) [] := by
  obtain ⟨fd, F⟩ := F_Deck_awake_from T
  refine met_of F (c_Deck T) (m_Deck_awake_from T) (fun _ _ _ _ _ _ us hl => match us, hl with | [_, _], _ => rfl) sc_Deck_awake_from len2 (k := 1) ?_
  rintro cdv A outer s H vs Q E hr ⟨v0, v1, rfl, h⟩
  refine ⟨_, (pss_cons (ps_for PassesOwn.never rfl (pi_list (fldk K (pv 0) rfl)) (pg_name (i := 2) sc_Deck_awake_from.nd rfl (by first | exact Or.inl rfl | exact Or.inr rfl)) (pss_one (ps_if (pt_chain op_le op_lt (fldk K (pv 2) rfl) (pv 1) (fldk K (pv 2) rfl)) (pss_one (ps_set (i := 1) sc_Deck_awake_from.nd rfl (by first | exact Or.inl rfl | exact Or.inr rfl) (fldk K (pv 2) rfl))) pss_nil)))
    (pss_one (ps_ret (pv 1)))), ?_⟩
  try dsimp only [cxOf]
  rw [show start ["self", "minute", "stretch"] [v0, v1] = [some v0, some v1, none] from rfl]
  obtain ⟨D, s, H0, m, rfl, rfl, st, dat, k⟩ := h
  obtain ⟨ca, cs, ns, fs, qs, td, es, h0, h1, h2, h3, h4, h5, h6, h7, hd, he, st⟩ := dat.facts st
  have S := SH.rfl' (H := H)
  walk_at "go"
  refine for_L (xs := []) (fun i σ H1 l => σ = [some (.ref D.deck), some (.int m), none] ∧ H1 = H ∧ l = []) S ⟨rfl, rfl, rfl⟩ (fun i σ H1 l H2 ⟨_, e, _⟩ S2 => by subst e; exact SqL.of (S2.rd st.hours)) ?_ ?_
  · rintro i x σ H1 l H2 hx
    simp at hx
  · rintro σ H1 l H2 ⟨rfl, rfl, rfl⟩ S2
    walk_at "go"
    exact k _ S2.same
def sp_Deck_work (P : Program) (w : World) (K : PySem.W.Frag) (mg : Str → Option Value) (base : Heap) : Sp := sp3 fun x y z H Q _ => ∃ D s H0 m, x = .ref D.deck ∧ y = .int m ∧ z = .ref D.ev ∧ Stat P w K mg base D H0 ∧ Nk s ∧ s.evs.length ≤ 89000 ∧ DAt K D s H0 H ∧
  ∀ called borne H0' H', (called = true → (((s.come m).roll D.W m).swingOn D.W m).mayCall D.W m) → Same H0 H0' → DAt K D (s.work D.W called borne m) H0' H' → Q .non H'
theorem DAt.deck {D : DA} {s : St} {H0 H : Hp} (h : DAt K D s H0 H) : ∃ ca, H D.deck = some (.ins (He.ga K "Deck") D.dx (fl_Deck (dfOf D s ca))) := let ⟨ca, _, _, _, _, _, _, S, _⟩ := h; ⟨ca, S.g1⟩
theorem DAt.call {D : DA} {s : St} {H0 H H1 : Hp} (h : DAt K D s H0 H) (k : Same H H1) : DAt K D s H0 H1 := let ⟨ca, cs, ns, fs, qs, td, es, S, a, b⟩ := h; ⟨ca, cs, ns, fs, qs, td, es, S.call k, a, b⟩
theorem ok_Deck_work (T : Top K mg) : Met P w K mg base 9 (He.ga K "Deck") "work" (sp_Deck_work P w K mg base) [] := by
  obtain ⟨fd, F⟩ := F_Deck_work T
  refine met_of F (c_Deck T) (m_Deck_work T) (fun _ _ _ _ _ _ us hl => match us, hl with | [_, _, _], _ => rfl) sc_Deck_work len3 (k := 8) ?_
  rintro cdv A outer s H vs Q E hr ⟨v0, v1, v2, rfl, h⟩
  refine ⟨_, (pss_cons (ps_expr (by exact (pe_m (ok_Deck_come T) hr (by decide) (pv 0) (pa_cons (pv 1) pa_nil))))
    (pss_cons (ps_expr (by exact (pe_m (ok_Deck_roll T) hr (by decide) (pv 0) (pa_cons (pv 1) (pa_cons (pv 2) pa_nil)))))
    (pss_cons (ps_expr (by exact (pe_m (ok_Deck_swing_on T) hr (by decide) (pv 0) (pa_cons (pv 1) (pa_cons (pv 2) pa_nil)))))
    (pss_cons (ps_set (i := 3) sc_Deck_work.nd rfl (by first | exact Or.inl rfl | exact Or.inr rfl) (pe_m (ok_Deck_is_called T) hr (by decide) (pv 0) (pa_cons (pv 1) pa_nil)))
    (pss_one (ps_if (PW.pt (pw_and (pt_cmpR op_eq (fldk K (pv 0) rfl) pe_str (nomark _)) (pw_and1 (pt_val (pv 3))))) (pss_one (ps_expr (by exact (pe_m (ok_Deck_swing_out T) hr (by decide) (pv 0) (pa_cons (pv 1) (pa_cons (pv 2) pa_nil)))))) (pss_one (ps_if (PW.pt (pw_and (pt_cmpR op_eq (fldk K (pv 0) rfl) pe_str (nomark _)) (pw_and1 (pt_cmpR op_eq (pe_m (ok_Deck_awake_from T) hr (by decide) (pv 0) (pa_cons (pv 1) pa_nil)) (pv 1) (nomark _))))) (pss_cons (ps_expr (by exact (pe_m (ok_Deck_turn_over T) hr (by decide) (pv 0) (pa_cons (pv 1) (pa_cons (pv 2) pa_nil)))))
    (pss_one (ps_expr (by exact (pe_m (ok_Deck_go_on T) hr (by decide) (pv 0) (pa_cons (pv 1) (pa_cons (pv 2) pa_nil))))))) pss_nil)))))))), ?_⟩
  try dsimp only [cxOf]
  rw [show start ["self", "minute", "events", "called"] [v0, v1, v2] = [some v0, some v1, some v2, none] from rfl]
  obtain ⟨D, s, H0, m, rfl, rfl, rfl, st, nk, hev, dat, k⟩ := h
  walk_at "go"
  obtain ⟨c1, d1⟩ := dat.deck
  refine g_mp d1 rfl ?_
  walk_at "go"
  refine ⟨_, _, rfl, D, s, H0, m, rfl, rfl, st, nk, dat, fun H1 H2 s1 dat1 => ?_⟩
  walk_at "go"
  obtain ⟨c2, d2⟩ := dat1.deck
  refine g_mp d2 rfl ?_
  walk_at "go"
  have nk1 := nk.come m
  have ev1 := come_evs m s
  have ev2 := roll_evs nk1 D.W m
  rw [ev1] at ev2
  refine ⟨_, _, _, rfl, D, _, H1, m, rfl, rfl, rfl, st.same s1, nk1, by rw [ev1]; omega, dat1, fun H3 H4 s3 dat3 => ?_⟩
  walk_at "go"
  obtain ⟨c3, d3⟩ := dat3.deck
  refine g_mp d3 rfl ?_
  walk_at "go"
  have nk2 := nk1.roll D.W m
  refine ⟨_, _, _, rfl, D, _, H3, m, rfl, rfl, rfl, st.same (s1.trans s3), nk2, by omega, dat3, fun H5 H6 s5 dat5 => ?_⟩
  walk_at "go"
  have nk3 := nk2.swingOn D.W m
  have ev3 := swingOn_evs D.W m ((s.come m).roll D.W m)
  obtain ⟨c4, d4⟩ := dat5.deck
  refine g_mp d4 rfl ?_
  walk_at "go"
  have sm := s1.trans (s3.trans s5)
  have st5 := st.same sm
  refine ⟨_, _, rfl, D, _, H5, m, rfl, rfl, st5, nk3, dat5, fun called hc H7 s7 => ?_⟩
  have dat7 := dat5.call s7
  walk_at "go"
  obtain ⟨t, et⟩ : ∃ t, t = ((s.come m).roll D.W m).swingOn D.W m := ⟨_, rfl⟩
  rw [← et] at hc dat7 nk3 ev3 dat5
  have kw : ∀ borne, s.work D.W called borne m = if t.ph = .down then (if called then t.swingOut D.W m else (t.turnOver D.W m).goOn D.W borne m) else t := fun borne => by rw [et]; rfl
  obtain ⟨c5, d5⟩ := dat7.deck
  walk_at "go"
  refine g_eq (by show scal (phS t.ph) _ = true; cases t.ph <;> rfl) ?_
  walk_at "go"
  by_cases hp : t.ph = .down
  · have ep : phS t.ph = .str "down" := by rw [hp]; rfl
    refine w_dT ep ?_
    walk_at "go"
    cases called with
    | true =>
      walk_at "go"
      refine g_mp d5 rfl ?_
      walk_at "go"
      refine ⟨_, _, _, rfl, D, t, H5, m, rfl, rfl, rfl, st5, nk3, by omega, dat7, fun H8 H9 s8 dat9 => ?_⟩
      walk_at "go"
      have := k true false H8 H9 (by rw [← et]; exact hc) (sm.trans s8)
      rw [kw, if_pos hp, if_pos rfl] at this
      exact this dat9
    | false =>
      walk_at "go"
      refine g_eq (by show scal (phS t.ph) _ = true; cases t.ph <;> rfl) ?_
      walk_at "go"
      refine g_mp d5 rfl ?_
      walk_at "go"
      refine ⟨_, _, rfl, D, t, H5, m, rfl, rfl, st5, dat7, fun H8 s8 => ?_⟩
      have dat8 := dat7.call s8
      obtain ⟨c6, d6⟩ := dat8.deck
      walk_at "go"
      refine g_mp d6 rfl ?_
      walk_at "go"
      refine ⟨_, _, _, rfl, D, t, H5, m, rfl, rfl, rfl, st5, nk3, by omega, dat8, fun H9 H10 s9 dat10 => ?_⟩
      have ev4 := turnOver_evs D.W m t
      obtain ⟨c7, d7⟩ := dat10.deck
      walk_at "go"
      refine g_mp d7 rfl ?_
      walk_at "go"
      refine ⟨_, _, _, rfl, D, _, H9, m, rfl, rfl, rfl, st5.same s9, nk3.turnOver D.W m, by omega, dat10, fun b H11 H12 s11 dat12 => ?_⟩
      walk_at "go"
      have := k false b H11 H12 nofun (sm.trans (s9.trans s11))
      rw [kw, if_pos hp, if_neg (by decide)] at this
      exact this dat12
  · have ep : ¬ phS t.ph = .str "down" := fun z => hp (phS_inj (b := .down) z)
    refine w_dF ep ?_
    walk_at "go"
    refine g_eq (by show scal (phS t.ph) _ = true; cases t.ph <;> rfl) ?_
    walk_at "go"
    have := k called false H5 H7 (by rw [← et]; exact hc) sm
    rw [kw, if_neg hp] at this
    exact this dat7
end
end

/-! ## B14 -/
section
set_option maxHeartbeats 4000000
open PySem PySem.Spec PyProof.Rows L2






section
variable {P : Program} {w : World} {K : PySem.W.Frag} {mg : Str → Option Value} {base : Heap}
def sp_Week_first_from (K : PySem.W.Frag) : Sp := sp3 fun x y z H Q _ => ∃ m l, WeekAt K H x ∧ y = .int m ∧ z = .int l ∧ ∀ o : Option Int, (∀ v, o = some v → m ≤ v) → Ret (optV o) H Q
theorem ok_Week_first_from (T : Top K mg) : Met P w K mg base 2 (He.ga K "Week") "first_from" (sp_Week_first_from K) [] := by
  obtain ⟨fd, F⟩ := F_Week_first_from T
  refine met_of F (c_Week T) (m_Week_first_from T) (fun _ _ _ _ _ _ us hl => match us, hl with | [_, _, _], _ => rfl) sc_Week_first_from len3 (k := 1) ?_
  rintro cdv A outer s H vs Q E hr ⟨v0, v1, v2, rfl, h⟩
  refine ⟨_, (pss_cons (ps_asg (pe_callB cr_dm rfl (fr_divmod T) PyProof.Rows.boot_divmod (pa_cons (pv 1) (pa_cons (C8.pe_gc rfl (i_WEEK T)) pa_nil))) (tupk K (n := 2) rfl (pgs_cons (pg_name (i := 3) sc_Week_first_from.nd rfl (by first | exact Or.inl rfl | exact Or.inr rfl)) (pgs_cons (pg_name (i := 4) sc_Week_first_from.nd rfl (by first | exact Or.inl rfl | exact Or.inr rfl)) pgs_nil))))
    (pss_cons (ps_for PassesOwn.never rfl (pi_list (fldk K (pv 0) rfl)) (pg_name (i := 5) sc_Week_first_from.nd rfl (by first | exact Or.inl rfl | exact Or.inr rfl)) (pss_cons (ps_set (i := 6) sc_Week_first_from.nd rfl (by first | exact Or.inl rfl | exact Or.inr rfl) (pe_callB (cr_mx rfl) rfl (fr_max T) PyProof.Rows.boot_max (pa_cons (fldk K (pv 5) rfl) (pa_cons (pv 4) pa_nil))))
    (pss_one (ps_if (pt_cmpR op_ge (pe_op op_sub (fldk K (pv 5) rfl) (pv 6)) (pv 2) (nomark _)) (pss_one (ps_ret (pe_op op_add (pe_op op_mul (pv 3) (C8.pe_gc rfl (i_WEEK T))) (pv 6)))) pss_nil))))
    (pss_one (ps_ret pe_non)))), ?_⟩
  try dsimp only [cxOf]
  rw [show start ["self", "minute", "long", "weeks", "here", "run", "first"] [v0, v1, v2] = [some v0, some v1, some v2, none, none, none, none] from rfl]
  obtain ⟨m, l, ⟨a, dx, r, rs, rfl, h1, h2, h3⟩, rfl, rfl, k⟩ := h
  have S := SH.rfl' (H := H)
  walk_at "go"
  refine g_new S fun p H1 S1 => ?_
  walk_at "go"
  refine for_L (xs := rs) (fun i σ H0 l' => (∃ o1 o2, σ = [some (.ref a), some (.int m), some (.int l), some (.int (m / 10080)), some (.int (m % 10080)), o1, o2]) ∧ H0 = H ∧ l' = [(p, .tup [.int (m / 10080), .int (m % 10080)])]) S1 ⟨⟨_, _, rfl⟩, rfl, rfl⟩ (fun i σ H1 l H2 ⟨_, e, _⟩ S2 => by subst e; exact SqL.of (S2.rd h2)) ?_ ?_
  · rintro i x σ H0 l' H' hx ⟨⟨o1, o2, rfl⟩, rfl, rfl⟩ S2
    obtain ⟨f, b, sa, sdx, rfl, hs⟩ := h3 x (List.mem_of_getElem? hx)
    walk_at "go"
    refine w_d (fun hl => ?_) (fun hl => ?_)
    · walk_at "go"
      refine k (some _) (fun v hv => ?_) _ S2.same
      have := Option.some.inj hv
      split at this <;> omega
    · walk_at "go"
      exact ⟨_, _, S2, ⟨_, _, rfl⟩, rfl, rfl⟩
  · rintro σ H0 l' H' ⟨⟨o1, o2, rfl⟩, rfl, rfl⟩ S2
    walk_at "go"
    exact k none nofun _ S2.same
def sp_Deck_called_from (P : Program) (w : World) (K : PySem.W.Frag) (mg : Str → Option Value) (base : Heap) : Sp := sp2 fun x y H Q _ => ∃ D s H0 m, x = .ref D.deck ∧ y = .int m ∧ Stat P w K mg base D H0 ∧ DAt K D s H0 H ∧ ∀ o : Option Int, (∀ v, o = some v → m ≤ v) → Ret (optV o) H Q
theorem ok_Deck_called_from (T : Top K mg) : Met P w K mg base 3 (He.ga K "Deck") "called_from" (sp_Deck_called_from P w K mg base) [] := by
  obtain ⟨fd, F⟩ := F_Deck_called_from T
  refine met_of F (c_Deck T) (m_Deck_called_from T) (fun _ _ _ _ _ _ us hl => match us, hl with | [_, _], _ => rfl) sc_Deck_called_from len2 (k := 2) ?_
  rintro cdv A outer s H vs Q E hr ⟨v0, v1, rfl, h⟩
  refine ⟨_, (pss_cons (ps_if (pt_cmpR op_notN1 (fldk K (pv 0) rfl) pe_non (nomark _)) (pss_one (ps_set (i := 1) sc_Deck_called_from.nd rfl (by first | exact Or.inl rfl | exact Or.inr rfl) (pe_callB (cr_mx rfl) rfl (fr_max T) PyProof.Rows.boot_max (pa_cons (pv 1) (pa_cons (pe_op op_add (fldk K (pv 0) rfl) (fldk K (pv 0) rfl)) pa_nil))))) pss_nil)
    (pss_one (ps_ret (pe_m (ok_Week_first_from T) hr (by decide) (fldk K (pv 0) rfl) (pa_cons (pv 1) (pa_cons pe_int pa_nil)))))), ?_⟩
  try dsimp only [cxOf]
  rw [show start ["self", "minute"] [v0, v1] = [some v0, some v1] from rfl]
  obtain ⟨D, s, H0, m, rfl, rfl, st, dat, k⟩ := h
  obtain ⟨ca, cs, ns, fs, qs, td, es, h0, h1, h2, h3, h4, h5, h6, h7, hd, he, st⟩ := dat.facts st
  have S := SH.rfl' (H := H)
  have wk := st.week
  obtain ⟨wa, wdx, wr, wrs, ew, hw, _⟩ := id wk
  have ew := V.ref.inj ew
  subst ew
  walk_at "go"
  cases hda : s.da with
  | none =>
    refine w_ndF (by show optV s.da = .non; rw [hda]; rfl) ?_
    walk_at "go"
    refine g_mp hw rfl ?_
    walk_at "go"
    exact ⟨_, _, _, rfl, m, 1, wk, rfl, rfl, k⟩
  | some d =>
    have e1 : (dfOf D s ca).down_at = .int d := by show optV s.da = .int d; rw [hda]; rfl
    refine w_ndT (by rw [e1]; nofun) ?_
    walk_at "go"
    rw [e1]
    walk_at "go"
    refine g_mp hw rfl ?_
    walk_at "go"
    exact ⟨_, _, _, rfl, _, 1, wk, rfl, rfl, fun o ho => k o fun v hv => by
      have := ho v hv
      split at this <;> omega⟩
end
end

/-! ## B15 -/
section
set_option maxHeartbeats 4000000
open PySem PySem.Spec PyProof.Rows L2






section
variable {P : Program} {w : World} {K : PySem.W.Frag} {mg : Str → Option Value} {base : Heap}
structure Fd (s : St) (C E : Prop) (L : List (Option Int)) : Prop where
  lo : ∀ v, some v ∈ L → s.here ≤ v
  told : ∀ p ∈ s.told, some p.1 ∈ L
  c : C → s.carts ≠ [] → some s.here ∈ L
  e : E → ∀ e, s.ends = some e → some e ∈ L
theorem Fd.more {s : St} {C E C' E' : Prop} {L : List (Option Int)} (h : Fd s C E L) (o : Option Int) (lo : ∀ v, o = some v → s.here ≤ v) (c : C' → C ∨ (s.carts ≠ [] → o = some s.here)) (e : E' → E ∨ ∀ e, s.ends = some e → o = some e) : Fd s C' E' (L ++ [o]) where
  lo := fun v hv => by
    rcases List.mem_append.mp hv with hv | hv
    · exact h.lo v hv
    · exact lo v (List.mem_singleton.mp hv).symm
  told := fun p hp => List.mem_append_left _ (h.told p hp)
  c := fun hc hn => by
    rcases c hc with q | q
    · exact List.mem_append_left _ (h.c q hn)
    · exact List.mem_append_right _ (List.mem_singleton.mpr (q hn).symm)
  e := fun he x hx => by
    rcases e he with q | q
    · exact List.mem_append_left _ (h.e q x hx)
    · exact List.mem_append_right _ (List.mem_singleton.mpr (q x hx).symm)
theorem Fd.as {s : St} {C E C' E' : Prop} {L : List (Option Int)} (h : Fd s C E L) (c : C' → C ∨ s.carts = []) (e : E' → E ∨ s.ends = none) : Fd s C' E' L :=
  ⟨h.lo, h.told, fun hc hn => (c hc).elim (fun q => h.c q hn) fun q => absurd q hn, fun he x hx => (e he).elim (fun q => h.e q x hx) fun q => by rw [q] at hx; cases hx⟩
theorem td_keys {H : Hp} : ∀ {td : List (Key × V)} {t : List (Int × List Thing)}, Paired (ToldAt K H) td t → (td.map fun kv => kV kv.1) = (t.map fun p => some p.1).map optV
  | _, _, .nil => rfl
  | _, _, .cons h r => by
    rw [List.map_cons, List.map_cons, List.map_cons, td_keys r, h.1] <;> rfl
section
variable {D : DA} {s : St} {H0 H H1 : Hp} {f : Addr} {L : List (Option Int)} {nx bk ct : L2.St → Hp → Prop} {rt : VK}
abbrev sgm (D : DA) (f : Addr) : L2.St := [some (.ref D.deck), some (.ref f), none]
abbrev oL (L : List (Option Int)) : HO := .lst (L.map optV)
theorem snocL {L : List (Option Int)} {o : Option Int} : oL (L ++ [o]) = .lst (L.map optV ++ [optV o]) := by rw [oL, List.map_append] <;> rfl
theorem wf1 (T : Top K mg) (st : Stat P w K mg base D H0) (nk : Nk s) (dat : DAt K D s H0 H) (S1 : SH H [(f, oL L)] H1) (fd : Fd s False False L) (hl : L.length ≤ 105) (k : ∀ L' H2, SH H [(f, oL L')] H2 → Fd s True False L' → L'.length ≤ 106 → nx (sgm D f) H2) :
    tIfS (tTest (tOp (rNeD K) (tFld K (tVar 0) "carts") (tLst tNil))) (tDrop (tBM K "list" rAppend (tVar 1) (tCons (tFld K (tVar 0) "here") tNil))) tNext ⟨nx, rt, bk, ct⟩ (sgm D f) H1 := by
  obtain ⟨ca, cs, ns, fs, qs, td, es, h0, h1, h2, h3, h4, h5, h6, h7, hd, he, st⟩ := dat.facts st
  have lm : (L.map optV).length ≤ 105 := by rw [List.length_map]; exact hl
  walk_at "go"
  refine g_new S1 fun b H2 S2 => ?_
  walk_at "go"
  refine g_neE (SqL.of (S2.rd h0)) (SqL.of S2.g0) ((hd.same S2.same).layC nk) ?_
  have S3 := S2.tail
  walk_at "go"
  refine w_nd (fun hc => ?_) (fun hc => ?_)
  · walk_at "go"
    refine S3.u0 fun H4 S4 => ?_
    have S4 : SH H [(f, oL (L ++ [some s.here]))] H4 := by rw [snocL]; exact S4
    walk_at "go"
    exact k _ _ S4 (fd.more _ (fun v hv => by cases hv; exact Int.le_refl _) (fun _ => .inr fun _ => rfl) nofun) (by rw [List.length_append]; exact Nat.succ_le_succ hl)
  · walk_at "go"
    exact k _ _ S3 (fd.as (fun _ => .inr ((pair_nil hd.carts).mp hc)) nofun) (by omega)
theorem wf2 (T : Top K mg) (st : Stat P w K mg base D H0) (nk : Nk s) (dat : DAt K D s H0 H) (hen : ∀ e, s.ends = some e → s.here ≤ e) (S1 : SH H [(f, oL L)] H1) (fd : Fd s True False L) (hl : L.length ≤ 106) (k : ∀ L' H2, SH H [(f, oL L')] H2 → Fd s True True L' → L'.length ≤ 107 → nx (sgm D f) H2) :
    tIfS (tTest (tOp rNotN (tFld K (tVar 0) "ends") (tC V.non))) (tDrop (tBM K "list" rAppend (tVar 1) (tCons (tFld K (tVar 0) "ends") tNil)))
      (tIfS (tTest (tOp (rNeD K) (tFld K (tVar 0) "queue") (tLst tNil))) (tDrop (tBM K "list" rAppend (tVar 1) (tCons (tMeth (He.ga K "Deck") "called_from" (sp_Deck_called_from P w K mg base) [] E0 (tVar 0) (tCons (tFld K (tVar 0) "here") tNil)) tNil))) tNext) ⟨nx, rt, bk, ct⟩ (sgm D f) H1 := by
  have st0 := st
  obtain ⟨ca, cs, ns, fs, qs, td, es, h0, h1, h2, h3, h4, h5, h6, h7, hd, he, st⟩ := dat.facts st
  have lm : (L.map optV).length ≤ 106 := by rw [List.length_map]; exact hl
  walk_at "go"
  cases hE : s.ends with
  | some e =>
    have e1 : (dfOf D s ca).ends = .int e := by show optV s.ends = .int e; rw [hE]; rfl
    refine w_ndT (by rw [e1]; nofun) ?_
    walk_at "go"
    refine S1.u0 fun H4 S4 => ?_
    rw [e1] at S4
    have S4 : SH H [(f, oL (L ++ [some e]))] H4 := by rw [snocL]; exact S4
    walk_at "go"
    exact k _ _ S4 (fd.more _ (fun v hv => by cases hv; exact hen _ hE) (fun h => .inl h) fun _ => .inr fun x hx => by rw [hE] at hx; exact hx) (by rw [List.length_append]; exact Nat.succ_le_succ hl)
  | none =>
    have e1 : (dfOf D s ca).ends = .non := by show optV s.ends = .non; rw [hE]; rfl
    refine w_ndF e1 ?_
    walk_at "go"
    refine g_new S1 fun b H2 S2 => ?_
    walk_at "go"
    refine g_neE (SqL.of (S2.rd h4)) (SqL.of S2.g0) ((hd.same S2.same).layQ nk) ?_
    have S3 := S2.tail
    walk_at "go"
    refine w_nd (fun hc => ?_) (fun hc => ?_)
    · walk_at "go"
      refine g_mp (S3.rd h1) rfl ?_
      walk_at "go"
      refine ⟨_, _, rfl, D, s, H0, s.here, rfl, rfl, st0, dat.call S3.same, fun o ho => g_retV S3 fun H5 S5 => ?_⟩
      walk_at "go"
      refine S5.u0 fun H6 S6 => ?_
      have S6 : SH H [(f, oL (L ++ [o]))] H6 := by rw [snocL]; exact S6
      walk_at "go"
      exact k _ _ S6 (fd.more _ ho (fun h => .inl h) fun _ => .inr fun x hx => by rw [hE] at hx; cases hx) (by rw [List.length_append]; exact Nat.succ_le_succ hl)
    · walk_at "go"
      exact k _ _ S3 (fd.as (fun h => .inl h) fun _ => .inr hE) (by omega)
theorem wf3 (T : Top K mg) (st : Stat P w K mg base D H0) (nk : Nk s) (dat : DAt K D s H0 H) (S1 : SH H [(f, oL L)] H1) (fd : Fd s True True L) (hl : L.length ≤ 107) (k : ∀ L' H2, SH H [(f, oL L')] H2 → Fd s True True L' → L'.length ≤ 108 → nx (sgm D f) H2) :
    tIfS (tAnd (tTest (tOp rEq (tFld K (tVar 0) "phase") (tC (V.str "down")))) (tOr (tTest (tOp (rNeD K) (tDGet (tFld K (tVar 0) "lines") (tC (V.str "near"))) (tLst tNil))) (tTest (tOp (rNeD K) (tDGet (tFld K (tVar 0) "lines") (tC (V.str "far"))) (tLst tNil)))))
      (tDrop (tBM K "list" rAppend (tVar 1) (tCons (tMeth (He.ga K "Deck") "awake_from" (sp_Deck_awake_from P w K mg base) [] E0 (tVar 0) (tCons (tFld K (tVar 0) "here") tNil)) tNil))) tNext ⟨nx, rt, bk, ct⟩ (sgm D f) H1 := by
  have st0 := st
  obtain ⟨ca, cs, ns, fs, qs, td, es, h0, h1, h2, h3, h4, h5, h6, h7, hd, he, st⟩ := dat.facts st
  have lm : (L.map optV).length ≤ 107 := by rw [List.length_map]; exact hl
  have yes : ∀ H3, SH H [(f, oL L)] H3 → tDrop (tBM K "list" rAppend (tVar 1) (tCons (tMeth (He.ga K "Deck") "awake_from" (sp_Deck_awake_from P w K mg base) [] E0 (tVar 0) (tCons (tFld K (tVar 0) "here") tNil)) tNil)) ⟨nx, rt, bk, ct⟩ (sgm D f) H3 := fun H3 S3 => by
    walk_at "go"
    refine g_mp (S3.rd h1) rfl ?_
    walk_at "go"
    refine ⟨_, _, rfl, D, s, H0, s.here, rfl, rfl, st0, dat.call S3.same, g_retV S3 fun H5 S5 => ?_⟩
    walk_at "go"
    refine S5.u0 fun H6 S6 => ?_
    have S6 : SH H [(f, oL (L ++ [some s.here]))] H6 := by rw [snocL]; exact S6
    walk_at "go"
    exact k _ _ S6 (fd.more _ (fun v hv => by cases hv; exact Int.le_refl _) (fun h => .inl h) fun h => .inl h) (by rw [List.length_append]; exact Nat.succ_le_succ hl)
  have no : ∀ H3, SH H [(f, oL L)] H3 → nx (sgm D f) H3 := fun H3 S3 => k _ _ S3 fd (by omega)
  walk_at "go"
  refine g_eq (by show scal (phS s.ph) _ = true; cases s.ph <;> rfl) ?_
  walk_at "go"
  refine w_d (fun hp => ?_) (fun hp => ?_)
  · refine g_or (g_test (g_op (g_dget ?_)))
    walk_at "go"
    refine g_lines (b := true) (S1.rd st.lines) ?_
    walk_at "go"
    refine g_new S1 fun b H2 S2 => ?_
    walk_at "go"
    refine g_neE (SqL.of (S2.rd h2)) (SqL.of S2.g0) ((hd.same S2.same).layN nk) ?_
    have S3 := S2.tail
    walk_at "go"
    refine w_nd (fun hc => ?_) (fun hc => ?_)
    · exact yes _ S3
    · walk_at "go"
      refine g_lines (b := false) (S3.rd st.lines) ?_
      walk_at "go"
      refine g_new S3 fun b H4 S4 => ?_
      walk_at "go"
      refine g_neE (SqL.of (S4.rd h3)) (SqL.of S4.g0) ((hd.same S4.same).layF nk) ?_
      have S5 := S4.tail
      walk_at "go"
      refine w_nd (fun hc => ?_) (fun hc => ?_)
      · exact yes _ S5
      · walk_at "go"
        exact no _ S5
  · walk_at "go"
    exact no _ S1
end
theorem fm_take {L : List (Option Int)} {i : Nat} {o : Option Int} (h : L[i]? = some o) : (L.take (i + 1)).filterMap id = (L.take i).filterMap id ++ o.toList := by
  rw [List.take_add_one, h, List.filterMap_append]
  cases o <;> rfl
def sp_Deck_work_from (P : Program) (w : World) (K : PySem.W.Frag) (mg : Str → Option Value) (base : Heap) : Sp := sp1 fun x H Q _ => ∃ D s H0, x = .ref D.deck ∧ Stat P w K mg base D H0 ∧ Nk s ∧ DAt K D s H0 H ∧ s.told.length ≤ 100 ∧ (∀ p ∈ s.told, s.here ≤ p.1) ∧ (∀ e, s.ends = some e → s.here ≤ e) ∧ ∀ o, WfOk s o → Ret (optV o) H Q
theorem ok_Deck_work_from (T : Top K mg) : Met P w K mg base 4 (He.ga K "Deck") "work_from" (sp_Deck_work_from P w K mg base) [] := by
  obtain ⟨fd, F⟩ := F_Deck_work_from T
  refine met_of F (c_Deck T) (m_Deck_work_from T) (fun _ _ _ _ _ _ us hl => match us, hl with | [_], _ => rfl) sc_Deck_work_from len1 (k := 3) ?_
  rintro cdv A outer s H vs Q E hr ⟨v0, rfl, h⟩
  refine ⟨_, (pss_cons (ps_set (i := 1) sc_Deck_work_from.nd rfl (by first | exact Or.inl rfl | exact Or.inr rfl) (pe_listKeys rfl (fldk K (pv 0) rfl) rfl (fr_list T)))
    (pss_cons (ps_if (pt_cmpR (op_neD hr.units) (fldk K (pv 0) rfl) (pe_lst pa_nil) (nomark _)) (pss_one (ps_expr (by exact (pe_bm PySem.F.plainAttrs_list PySem.F.slot_list_append PySem.F.type_list_append mt_append (pv 1) (pa_cons (fldk K (pv 0) rfl) pa_nil))))) pss_nil)
    (pss_cons (ps_if (pt_cmpR op_notN1 (fldk K (pv 0) rfl) pe_non (nomark _)) (pss_one (ps_expr (by exact (pe_bm PySem.F.plainAttrs_list PySem.F.slot_list_append PySem.F.type_list_append mt_append (pv 1) (pa_cons (fldk K (pv 0) rfl) pa_nil))))) (pss_one (ps_if (pt_cmpR (op_neD hr.units) (fldk K (pv 0) rfl) (pe_lst pa_nil) (nomark _)) (pss_one (ps_expr (by exact (pe_bm PySem.F.plainAttrs_list PySem.F.slot_list_append PySem.F.type_list_append mt_append (pv 1) (pa_cons (pe_m (ok_Deck_called_from T) hr (by decide) (pv 0) (pa_cons (fldk K (pv 0) rfl) pa_nil)) pa_nil))))) pss_nil)))
    (pss_cons (ps_if (PW.pt (pw_and (pt_cmpR op_eq (fldk K (pv 0) rfl) pe_str (nomark _)) (pw_and1 (PW.pt (pw_or (pt_cmpR (op_neD hr.units) (pe_dget (hu_of hr) (fldk K (pv 0) rfl) pe_str (fun _ _ => rfl)) (pe_lst pa_nil) (nomark _)) (pw_or1 (pt_cmpR (op_neD hr.units) (pe_dget (hu_of hr) (fldk K (pv 0) rfl) pe_str (fun _ _ => rfl)) (pe_lst pa_nil) (nomark _)))))))) (pss_one (ps_expr (by exact (pe_bm PySem.F.plainAttrs_list PySem.F.slot_list_append PySem.F.type_list_append mt_append (pv 1) (pa_cons (pe_m (ok_Deck_awake_from T) hr (by decide) (pv 0) (pa_cons (fldk K (pv 0) rfl) pa_nil)) pa_nil))))) pss_nil)
    (pss_one (ps_ret (pe_callBK (cr_minD rfl) rfl (fr_min T) PyProof.Rows.boot_min (pa_cons (pe_lc (own := [("minute", 2)]) (g := gName 2) (by rfl) sc_Deck_work_from.nd (pi_list (pv 1)) (blkOk_by (own := [("minute", 2)]) (N := ["self", "found", "minute"]) (sc := defScope s_Deck_work_from) (by decide +kernel)) (fun _ _ _ _ _ => (pg_name (i := 2) sc_Deck_work_from.nd rfl (by first | exact Or.inl rfl | exact Or.inr rfl))) (fun _ _ _ _ _ => (pts_one (pt_cmpR op_notN1 (pv 2) pe_non (nomark _)))) (fun _ _ _ _ _ => (pv 2))) pa_nil) (pk_cons pe_non pk_nil)))))))), ?_⟩
  try dsimp only [cxOf]
  rw [show start ["self", "found", "minute"] [v0] = [some v0, none, none] from rfl]
  obtain ⟨D, s, H0, rfl, st, nk, dat, lt, ht, hen, k⟩ := h
  have st0 := st
  obtain ⟨ca, cs, ns, fs, qs, td, es, h0, h1, h2, h3, h4, h5, h6, h7, hd, he, st⟩ := dat.facts st
  have S := SH.rfl' (H := H)
  walk_at "go"
  refine g_new S fun f H1 S1 => ?_
  refine g_n1 (g_seq ?_)
  have e0 := td_keys hd.told
  rw [e0] at S1
  have few := len_few nk
  refine wf1 T st0 nk dat S1 ⟨fun v hv => ?_, fun p hp => List.mem_map.mpr ⟨p, hp, rfl⟩, nofun, nofun⟩ (by rw [List.length_map]; omega) fun L2 H2 S2 fd2 l2 => ?_
  · obtain ⟨p, hp, e⟩ := List.mem_map.mp hv
    rw [← Option.some.inj e]; exact ht p hp
  refine g_seq ?_
  refine wf2 T st0 nk dat hen S2 fd2 l2 fun L3 H3 S3 fd3 l3 => ?_
  refine g_seq ?_
  refine wf3 T st0 nk dat S3 fd3 l3 fun L4 H4 S4 fd4 l4 => ?_
  walk_at "go"
  refine lc_L (xs := L4.map optV) (fun i acc H5 l => H5 = H ∧ l = [(f, oL L4)] ∧ acc = ((L4.take i).filterMap id).map V.int) S4 ⟨rfl, rfl, rfl⟩ (fun i acc L H1 l H2 ⟨_, e, _⟩ S2 => by subst e; exact SqL.of S2.g1) (SqL.of S4.g0) ?_ ?_
  · rintro i x acc L H5 l H6 hx ⟨rfl, rfl, rfl⟩ S5 hz
    rw [List.getElem?_map] at hx
    obtain ⟨o, ho, rfl⟩ := Option.map_eq_some_iff.mp hx
    have hi := (List.getElem?_eq_some_iff.mp ho).1
    have e1 := fm_take ho
    walk_at "lct"
    walk_at "go"
    cases o with
    | none =>
      refine w_ndF rfl ?_
      refine no S5 hz ⟨rfl, rfl, ?_⟩
      rw [e1]; exact congrArg (List.map V.int) (List.append_nil _).symm
    | some v =>
      refine w_ndT nofun ?_
      walk_at "go"
      refine yes S5 hz (by omega) ⟨rfl, rfl, ?_⟩
      rw [e1, List.map_append] <;> rfl
  · rintro D2 acc H5 l H6 ⟨rfl, rfl, rfl⟩ hz S5
    rw [List.length_map, List.take_length] at S5
    walk_at "go"
    have mem : ∀ v, v ∈ L4.filterMap id ↔ some v ∈ L4 := fun v => by rw [List.mem_filterMap]; exact ⟨fun ⟨a, h1, h2⟩ => by rw [← show a = some v from h2]; exact h1, fun h => ⟨some v, h, rfl⟩⟩
    refine ⟨D2, L4.filterMap id, rfl, rfl, SqL.of S5.g0, fun e => ?_, fun v hv hle => ?_⟩
    · have none_ : ∀ v, some v ∈ L4 → False := fun v hv => by have := (mem v).mpr hv; rw [e] at this; cases this
      exact k none ⟨nofun, fun hc => (none_ _ (fd4.c trivial hc)).elim, nofun, nofun⟩ _ S5.same
    · refine k (some v) ⟨fun m e => ?_, fun hc => ⟨v, rfl, hle _ ((mem _).mpr (fd4.c trivial hc))⟩, fun m e h1 h2 => ?_, fun m p h1 h2 => ?_⟩ _ S5.same
      · cases e; exact fd4.lo v ((mem v).mp hv)
      · cases h1; exact hle _ ((mem _).mpr (fd4.e trivial e h2))
      · cases h1; exact hle _ ((mem _).mpr (fd4.told p h2))
end
end

/-! ## B16 -/
section
set_option maxHeartbeats 4000000
open PySem PySem.Spec PyProof.Rows L2






section
variable {P : Program} {w : World} {K : PySem.W.Frag} {mg : Str → Option Value} {base : Heap}
theorem swingOn_told (W : Wl) (m : Int) (s : St) : (s.swingOn W m).told = s.told := by
  unfold St.swingOn
  split
  · split
    · rfl
    · split <;> rfl
  · rfl
theorem swingOut_told (W : Wl) (m : Int) (s : St) : (s.swingOut W m).told = s.told := by
  unfold St.swingOut
  split <;> rfl
theorem turnOver_told (W : Wl) (m : Int) (s : St) : (s.turnOver W m).told = s.told := by
  unfold St.turnOver
  split
  · rfl
  · split <;> rfl
theorem goOn_told (W : Wl) (b : Bool) (m : Int) (s : St) : (s.goOn W b m).told = s.told := by
  unfold St.goOn
  split
  · rfl
  · split
    · rfl
    · split
      · rfl
      · cases s.whose <;> rfl
theorem work_told (W : Wl) (c b : Bool) (m : Int) (s : St) : (s.work W c b m).told.length ≤ s.told.length := by
  have h3 : (((s.come m).roll W m).swingOn W m).told.length ≤ s.told.length := by
    rw [swingOn_told, roll_eq, come_eq]
    exact List.length_filter_le _ _
  unfold St.work
  dsimp only
  split
  · cases c with
    | true => simp only [if_true]; rw [swingOut_told]; exact h3
    | false => simp only [Bool.false_eq_true, if_false]; rw [goOn_told, turnOver_told]; exact h3
  · exact h3
def sp_Deck_go_to (P : Program) (w : World) (K : PySem.W.Frag) (mg : Str → Option Value) (base : Heap) : Sp := sp2 fun x y H Q _ => ∃ D s H0 u ships ca cs ns fs qs td, x = .ref D.deck ∧ y = .int u ∧ Stat P w K mg base D H0 ∧ Nk s ∧ s.told.length ≤ 100 ∧ s.evs = [] ∧ Iv D.W ships s ∧ s.here ≤ u ∧ u ≤ 800 ∧
  SH H0 (ours K D s ca cs ns fs qs td []) H ∧ Held K H0 D s cs ns fs qs td ∧ ∀ ev es t H', Run D.W u s t → Same H0 H' → H' ev = some (.lst es) → Paired (EvAt K H') es t.evs → Q (.ref ev) H'
theorem ok_Deck_go_to (T : Top K mg) : Met P w K mg base 10 (He.ga K "Deck") "go_to" (sp_Deck_go_to P w K mg base) [] := by
  obtain ⟨fd, F⟩ := F_Deck_go_to T
  refine met_of F (c_Deck T) (m_Deck_go_to T) (fun _ _ _ _ _ _ us hl => match us, hl with | [_, _], _ => rfl) sc_Deck_go_to len2 (k := 9) ?_
  rintro cdv A outer s H vs Q E hr ⟨v0, v1, rfl, h⟩
  refine ⟨_, (pss_cons (ps_if (pt_cmpR op_lt (pv 1) (fldk K (pv 0) rfl) (nomark _)) (pss_one ps_never) pss_nil)
    (pss_cons (ps_set (i := 2) sc_Deck_go_to.nd rfl (by first | exact Or.inl rfl | exact Or.inr rfl) (pe_lst pa_nil))
    (pss_cons (ps_set (i := 3) sc_Deck_go_to.nd rfl (by first | exact Or.inl rfl | exact Or.inr rfl) (pe_m0 (ok_Deck_work_from T) hr (by decide) (pv 0)))
    (pss_cons (ps_while PassesOwn.never (PW.pt (pw_and (pt_cmpR op_notN1 (pv 3) pe_non (nomark _)) (pw_and1 (pt_cmpR op_lt (pv 3) (pv 1) (nomark _))))) (pss_cons (ps_expr (by exact (pe_m (ok_Deck_work T) hr (by decide) (pv 0) (pa_cons (pv 3) (pa_cons (pv 2) pa_nil)))))
    (pss_cons (ps_fld (pv 0) (pe_op op_add (pv 3) pe_int) rfl)
    (pss_one (ps_set (i := 3) sc_Deck_go_to.nd rfl (by first | exact Or.inl rfl | exact Or.inr rfl) (pe_m0 (ok_Deck_work_from T) hr (by decide) (pv 0)))))))
    (pss_cons (ps_fld (pv 0) (pv 1) rfl)
    (pss_one (ps_ret (pv 2)))))))), ?_⟩
  try dsimp only [cxOf]
  rw [show start ["self", "minute", "events", "moment"] [v0, v1] = [some v0, some v1, none, none] from rfl]
  obtain ⟨D, s, H0, u, ships, ca, cs, ns, fs, qs, td, rfl, rfl, st, nk, lt, ev0, iv, hu, hu8, S, hd, k⟩ := h
  walk_at "go"
  refine w_dF (by omega) ?_
  walk_at "go"
  refine g_new S fun ev H1 S1 => ?_
  have S2 : SH H0 (ours K { D with ev := ev } s ca cs ns fs qs td [(ev, .lst [])]) H1 := S1.perm (List.perm_append_comm (l₁ := ours K D s ca cs ns fs qs td []) (l₂ := [(ev, .lst [])]))
  obtain ⟨D2, hD2⟩ : ∃ D2 : DA, D2 = { D with ev := ev } := ⟨_, rfl⟩
  have eW : D2.W = D.W := by rw [hD2]
  have eD : D2.deck = D.deck := by rw [hD2]
  have eV : D2.ev = ev := by rw [hD2]
  have st2 : Stat P w K mg base D2 H0 := by rw [hD2]; exact ⟨st.br, st.n, st.part, st.lines, st.hours, st.rul, st.week⟩
  have hd2 : Held K H0 D2 s cs ns fs qs td := by rw [hD2]; exact ⟨hd.carts, hd.on, hd.near, hd.far, hd.queue, hd.told, hd.nm⟩
  rw [← hD2, ← eV] at S2
  rw [← eW] at iv k
  rw [← eD, ← eV]
  have dat : DAt K D2 s H0 H1 := ⟨ca, cs, ns, fs, qs, td, [], S2, hd2, by rw [ev0]; exact .nil⟩
  walk_at "go"
  obtain ⟨c1, d1⟩ := dat.deck
  refine g_mp d1 rfl ?_
  walk_at "go"
  refine ⟨_, rfl, D2, s, H0, rfl, st2, nk, dat, lt, fun p hp => (iv.told p hp).1, iv.ends, fun o ho H2 s2 => ?_⟩
  have dat2 := dat.call s2
  walk_at "go"
  obtain ⟨ca2, cs2, ns2, fs2, qs2, td2, es2, S3, hd3, he3⟩ := dat2
  have here0 := iv.h0
  refine while_I (m := (u - s.here).toNat) (fun σ H0' l m => ∃ s' o ca cs ns fs qs td es, σ = [some (.ref D2.deck), some (.int u), some (.ref D2.ev), some (optV o)] ∧ Same H0 H0' ∧ l = ours K D2 s' ca cs ns fs qs td [(D2.ev, .lst es)] ∧ Held K H0' D2 s' cs ns fs qs td ∧ Paired (EvAt K H0') es s'.evs ∧ Nk s' ∧ s'.told.length ≤ 100 ∧ Iv D2.W ships s' ∧ WfOk s' o ∧
    (s'.evs.length : Int) ≤ 110 * s'.here ∧ s'.here ≤ u ∧ (∀ t, Run D2.W u s' t → Run D2.W u s t) ∧ m = (u - s'.here).toNat) S3 ⟨s, o, ca2, cs2, ns2, fs2, qs2, td2, es2, rfl, Same.refl _, rfl, hd3, he3, nk, lt, iv, ho, by rw [ev0]; simp; omega, hu, fun _ h => h, rfl⟩ ?_ ?_
  · rintro σ H0' l m H' ⟨s', o, ca, cs, ns, fs, qs, td, es, rfl, s0, rfl, hd, he, nk, lt, iv, wf, hl, hu, run, rfl⟩ S'
    have here0 := iv.h0
    have fin : (∀ m, o = some m → u ≤ m) → ∀ H1, SH H0' (ours K D2 s' ca cs ns fs qs td [(D2.ev, .lst es)]) H1 → tSeq (sFld K (tVar 0) (tVar 1) "here") (tRet (tVar 2)) { nx := fun _ H' => Q .non H', rt := Q } [some (.ref D2.deck), some (.int u), some (.ref D2.ev), some (optV o)] H1 := fun hm H1 S1 => by
      walk_at "go"
      refine S1.u1 fun H2 S2 => ?_
      walk_at "go"
      exact k D2.ev es { s' with here := u } H2 (run _ (.stop s' o wf hm)) (s0.trans S2.same) S2.g7 (evs_same S2.same he)
    cases o with
    | none =>
      walk_at "go"
      refine S'.u1 fun H2 S2 => ?_
      walk_at "go"
      exact k D2.ev es { s' with here := u } H2 (run _ (.stop s' none wf nofun)) (s0.trans S2.same) S2.g7 (evs_same S2.same he)
    | some m =>
      walk_at "go"
      refine w_ndT nofun ?_
      walk_at "go"
      refine g_I0 ?_
      walk_at "go"
      refine w_d (fun hm => ?_) (fun hm => ?_)
      · have dat4 : DAt K D2 s' H0' H' := ⟨ca, cs, ns, fs, qs, td, es, S', hd, he⟩
        obtain ⟨c1, d1⟩ := dat4.deck
        walk_at "go"
        refine g_mp d1 rfl ?_
        walk_at "go"
        refine ⟨_, _, _, rfl, D2, s', H0', m, rfl, rfl, rfl, st2.same s0, nk, by omega, dat4, fun called borne H5 H6 hc s5 dat6 => ?_⟩
        have lo := wf.lo m rfl
        have iv6 := iv.work (called := called) (borne := borne) wf hc
        have nk6 := nk.work D2.W called borne m
        have lt6 := Nat.le_trans (work_told D2.W called borne m s') lt
        have hl6 := work_evs nk D2.W called borne m
        obtain ⟨ca6, cs6, ns6, fs6, qs6, td6, es6, S6, hd6, he6⟩ := dat6
        walk_at "go"
        refine g_I0 ?_
        walk_at "go"
        refine S6.u1 fun H7 S7 => ?_
        have hd7 : Held K H5 D2 { s'.work D2.W called borne m with here := m + 1 } cs6 ns6 fs6 qs6 td6 := ⟨hd6.carts, hd6.on, hd6.near, hd6.far, hd6.queue, hd6.told, hd6.nm⟩
        have nk7 : Nk { s'.work D2.W called borne m with here := m + 1 } := ⟨nk6.nd, nk6.kn, nk6.few, nk6.keys⟩
        have dat7 : DAt K D2 { s'.work D2.W called borne m with here := m + 1 } H5 H7 := ⟨ca6, cs6, ns6, fs6, qs6, td6, es6, S7, hd7, he6⟩
        obtain ⟨c7, d7⟩ := dat7.deck
        walk_at "go"
        refine g_mp d7 rfl ?_
        walk_at "go"
        refine ⟨_, rfl, D2, _, H5, rfl, st2.same (s0.trans s5), nk7, dat7, lt6, fun p hp => (iv6.told p hp).1, iv6.ends, fun o2 ho2 H8 s8 => ?_⟩
        obtain ⟨ca8, cs8, ns8, fs8, qs8, td8, es8, S8, hd8, he8⟩ := dat7.call s8
        walk_at "go"
        exact ⟨_, _, (u - (m + 1)).toNat, by omega, S8, _, o2, ca8, cs8, ns8, fs8, qs8, td8, es8, rfl, s0.trans s5, rfl, hd8, he8, nk7, lt6, iv6, ho2, by show ((s'.work D2.W called borne m).evs.length : Int) ≤ 110 * (m + 1); omega, by show m + 1 ≤ u; omega, fun t r => run t (.step s' t m called borne wf hm hc r), rfl⟩
      · exact fin (fun m' e => by cases e; omega) _ S'
  · rintro σ H Q Q' hm ⟨x, h1, h2, q⟩
    obtain ⟨kb, hk, q⟩ := q
    refine ⟨x, h1, h2, kb, hk, ?_⟩
    cases kb with
    | true =>
      obtain ⟨v, hv, w', hw, i, j, e1, e2, b, eb, q2⟩ := q
      exact ⟨v, hv, w', hw, i, j, e1, e2, b, eb, hm _ _ q2⟩
    | false => exact hm _ _ q
end
end

/-! ## B18 -/
section
set_option maxHeartbeats 4000000
open PySem PySem.Spec PyProof.Rows L2






section
variable {P : Program} {w : World} {K : PySem.W.Frag} {mg : Str → Option Value} {base : Heap}
def sp_need_things (K : PySem.W.Frag) : Sp := sp1 fun x H Q _ => ∃ a xs, x = .ref a ∧ SqL K H a xs ∧ (∀ y ∈ xs, ∃ p z, y = .ref p ∧ SqT K H p [z, .bl true]) ∧ Ret .non H Q
theorem ok_need_things (T : Top K mg) : Cal P w K mg base 2 "need_things" (sp_need_things K) [] := by
  obtain ⟨fd, F⟩ := F_need_things T
  refine cal_of F (g_need_things T) (fun _ _ _ _ _ _ us hl => match us, hl with | [_], _ => rfl) sc_need_things len1 (k := 1) ?_
  rintro cdv A outer s H vs Q E hr ⟨v0, rfl, h⟩
  refine ⟨_, (pss_one (ps_for PassesOwn.never rfl (pi_list (pv 0)) (tupk K (n := 2) rfl (pgs_cons (pg_name (i := 1) sc_need_things.nd rfl (by first | exact Or.inl rfl | exact Or.inr rfl)) (pgs_cons (pg_name (i := 2) sc_need_things.nd rfl (by first | exact Or.inl rfl | exact Or.inr rfl)) pgs_nil))) (pss_one (ps_if (pt_not (pt_val (pv 2))) (pss_one ps_never) pss_nil)))), ?_⟩
  try dsimp only [cxOf]
  rw [show start ["pairs", "thing", "good"] [v0] = [some v0, none, none] from rfl]
  obtain ⟨a, xs, rfl, hx, hy, k⟩ := h
  have S := SH.rfl' (H := H)
  walk_at "go"
  refine for_L (xs := xs) (fun i σ H0 l => (∃ o1 o2, σ = [some (.ref a), o1, o2]) ∧ H = H0 ∧ l = []) S ⟨⟨_, _, rfl⟩, rfl, rfl⟩ (fun i σ H1 l H2 ⟨_, e, _⟩ S2 => by subst e; exact Same.seq S2.same hx) ?_ ?_
  · rintro i x σ H0 l H' hxi ⟨⟨o1, o2, rfl⟩, rfl, rfl⟩ S2
    obtain ⟨p, z, rfl, hp⟩ := hy x (List.mem_of_getElem? hxi)
    walk_at "go"
    exact ⟨_, _, S2, ⟨_, _, rfl⟩, rfl, rfl⟩
  · rintro σ H0 l H' ⟨⟨o1, o2, rfl⟩, rfl, rfl⟩ S2
    exact k _ S2.same
def sp_is_time : Sp := sp1 fun x H Q _ => ∃ i, x = .int i ∧ 0 ≤ i ∧ Ret (.bl true) H Q
theorem ok_is_time (T : Top K mg) : Cal P w K mg base 3 "is_time" sp_is_time [] := by
  obtain ⟨fd, F⟩ := F_is_time T
  refine cal_of F (g_is_time T) (fun _ _ _ _ _ _ us hl => match us, hl with | [_], _ => rfl) sc_is_time len1 (k := 2) ?_
  rintro cdv A outer s H vs Q E hr ⟨v0, rfl, h⟩
  refine ⟨_, (pss_one (ps_ret (pe_or (pe_cmpR op_isN1 (pv 0) pe_non (nomark _)) (pe_one (pe_and (pe_f (ok_is_whole T) hr (by decide) rfl (pa_cons (pv 0) pa_nil)) (pe_one (pe_cmpR op_ge (pv 0) pe_int (nomark _)))))))), ?_⟩
  try dsimp only [cxOf]
  rw [show start ["thing"] [v0] = [some v0] from rfl]
  obtain ⟨i, rfl, hi, k⟩ := h
  have S := SH.rfl' (H := H)
  walk_at "go"
  refine w_dF nofun ?_
  walk_at "go"
  refine ⟨_, rfl, ⟨_, rfl⟩, g_retV S fun H1 S1 => ?_⟩
  walk_at "go"
  rw [decide_eq_true hi]
  exact k _ S1.same
def sp_is_bank : Sp := sp1 fun x H Q _ => ∃ b, x = bk b ∧ Ret (.bl true) H Q
theorem ok_is_bank (T : Top K mg) : Cal P w K mg base 2 "is_bank" sp_is_bank [] := by
  obtain ⟨fd, F⟩ := F_is_bank T
  refine cal_of F (g_is_bank T) (fun _ _ _ _ _ _ us hl => match us, hl with | [_], _ => rfl) sc_is_bank len1 (k := 1) ?_
  rintro cdv A outer s H vs Q E hr ⟨v0, rfl, h⟩
  refine ⟨_, (pss_one (ps_ret (pe_and (pe_callB (isik K) rfl (fr_isinstance T) PyProof.Rows.boot_isinstance (pa_cons (pv 0) (pa_cons (pe_bltn (v := .ty "str") rfl (fr_str T) PyProof.Rows.boot_str rfl) pa_nil))) (pe_one (pe_cmpR (ink K) (pv 0) (pe_glob (v := V.ref _) rfl (g_BANKS T) rfl) rfl))))), ?_⟩
  try dsimp only [cxOf]
  rw [show start ["thing"] [v0] = [some v0] from rfl]
  obtain ⟨b, rfl, k⟩ := h
  have S := SH.rfl' (H := H)
  have tB := t_BANKS T H
  walk_at "go"
  have e : inV (bk b) [V.str "near", V.str "far"] = true := by cases b <;> decide +kernel
  rw [e]
  exact k _ S.same
/-! ### telling -/
structure TEn where
  m : Int
  a : Addr
  xs : List V
  ts : List Thing
abbrev tdE (E : List TEn) : List (Key × V) := E.map fun e => (Sum.inl e.m, .ref e.a)
abbrev tlE (E : List TEn) : List (Addr × HO) := E.map fun e => (e.a, .lst e.xs)
def toE (E : List TEn) : List (Int × List Thing) := E.map fun e => (e.m, e.ts)
def Told1 (E : List TEn) (m : Int) (t : Thing) (x : V) (E' : List TEn) : Prop :=
  (∃ j e, E[j]? = some e ∧ e.m = m ∧ E' = E.set j { e with xs := e.xs ++ [x], ts := e.ts ++ [t] }) ∨ ((∀ e ∈ E, e.m ≠ m) ∧ ∃ b, E' = E ++ [⟨m, b, [x], [t]⟩])
theorem tdE_get {m : Int} : ∀ {E : List TEn} {v : V}, valV (tdE E) (Sum.inl m) = some v → ∃ (j : Nat) (e : TEn), E[j]? = some e ∧ e.m = m ∧ v = .ref e.a
  | [], _, h => by cases h
  | e :: r, v, h => by
    have h : valV (((Sum.inl e.m : Key), V.ref e.a) :: tdE r) (Sum.inl m) = some v := h
    by_cases z : e.m = m
    · rw [valV_pos (show (Sum.inl e.m : Key) = Sum.inl m by rw [z])] at h
      exact ⟨0, e, rfl, z, (Option.some.inj h).symm⟩
    · rw [valV_neg (show ¬ (Sum.inl e.m : Key) = Sum.inl m from fun q => z (Sum.inl.inj q))] at h
      obtain ⟨j, e', h1, h2, h3⟩ := tdE_get h
      exact ⟨j + 1, e', h1, h2, h3⟩
theorem tdE_none {m : Int} : ∀ {E : List TEn}, valV (tdE E) (Sum.inl m) = none → ∀ e ∈ E, e.m ≠ m
  | [], _, _, h => nomatch h
  | e :: r, h, x, hx => by
    have h : valV (((Sum.inl e.m : Key), V.ref e.a) :: tdE r) (Sum.inl m) = none := h
    have z : ¬ e.m = m := fun z => by rw [valV_pos (show (Sum.inl e.m : Key) = Sum.inl m by rw [z])] at h; cases h
    rw [valV_neg (show ¬ (Sum.inl e.m : Key) = Sum.inl m from fun q => z (Sum.inl.inj q))] at h
    rcases List.mem_cons.mp hx with e1 | hx
    · rw [e1]; exact z
    · exact tdE_none h x hx
theorem knd_none {n : Str} : ∀ {l : List Str}, n ∉ l → valV (l.map fun n => ((Sum.inr n : Key), V.bl true)) (Sum.inr n) = none
  | [], _ => rfl
  | x :: r, h => (valV_neg (p := ((Sum.inr x : Key), V.bl true)) fun z => h (by rw [Sum.inr.inj z]; exact List.mem_cons_self ..)).trans (knd_none fun z => h (List.mem_cons_of_mem _ z))
theorem SH.ui {H0 H : Hp} {l : List (Addr × HO)} {i : Nat} {a : Addr} {o o' : HO} {z : Hp → Prop} (S : SH H0 l H) (e : l[i]? = some (a, o')) (k : ∀ H1, SH H0 (l.set i (a, o)) H1 → z H1) : Upd H a o z := k _ (S.set e o)
theorem tdE_set {E : List TEn} {j : Nat} {e e' : TEn} (h : E[j]? = some e) (h1 : e'.m = e.m) (h2 : e'.a = e.a) : tdE (E.set j e') = tdE E := by
  show (E.set j e').map _ = E.map _
  rw [List.map_set]
  refine List.ext_getElem? fun i => ?_
  by_cases q : j = i
  · subst q
    rw [List.getElem?_set_self (by rw [List.length_map]; exact (List.getElem?_eq_some_iff.mp h).1), List.getElem?_map, h, h1, h2] <;> rfl
  · rw [List.getElem?_set_ne q]
def sp_Deck_tell (K : PySem.W.Frag) : Sp := sp4 fun x y z v H Q _ => ∃ D s H0 E ca n m t, x = .ref D.deck ∧ y = .str n ∧ z = .int m ∧ ThAt K H0 v t ∧ n ∉ s.known ∧ s.known.length ≤ 1000 ∧ E.length ≤ 1000 ∧ (∀ e ∈ E, e.xs.length ≤ 1000) ∧ s.here ≤ m ∧ SH H0 (ours K D s ca [] [] [] [] (tdE E) (tlE E)) H ∧
  ∀ E' H', Told1 E m t v E' → SH H0 (ours K D { s with known := s.known ++ [n] } ca [] [] [] [] (tdE E') (tlE E')) H' → Q .non H'
theorem ok_Deck_tell (T : Top K mg) : Met P w K mg base 2 (He.ga K "Deck") "tell" (sp_Deck_tell K) [] := by
  obtain ⟨fd, F⟩ := F_Deck_tell T
  refine met_of F (c_Deck T) (m_Deck_tell T) (fun _ _ _ _ _ _ us hl => match us, hl with | [_, _, _, _], _ => rfl) sc_Deck_tell len4 (k := 1) ?_
  rintro cdv A outer s H vs Q E hr ⟨v0, v1, v2, v3, rfl, h⟩
  refine ⟨_, (pss_cons (ps_set (i := 4) sc_Deck_tell.nd rfl (by first | exact Or.inl rfl | exact Or.inr rfl) (pe_ifExp (pt_cmpR op_isN1 (pv 2) pe_non (nomark _)) (fldk K (pv 0) rfl) (pv 2)))
    (pss_cons (ps_if (pt_cmpR op_lt (pv 4) (fldk K (pv 0) rfl) (nomark _)) (pss_one ps_never) pss_nil)
    (pss_cons (ps_expr (by exact (pe_bm PySem.F.plainAttrs_list PySem.F.slot_list_append PySem.F.type_list_append mt_append (pe_dsetd (fldk K (pv 0) rfl) (pv 4) (pe_lst pa_nil) ⟨rfl, rfl, rfl, rfl⟩) (pa_cons (pv 3) pa_nil))))
    (pss_one (ps_dput (hu_of hr) (fldk K (pv 0) rfl) (pv 1) pe_bl rfl))))), ?_⟩
  try dsimp only [cxOf]
  rw [show start ["self", "name", "at", "thing", "minute"] [v0, v1, v2, v3] = [some v0, some v1, some v2, some v3, none] from rfl]
  obtain ⟨D, s, H0, E, ca, n, m, t, rfl, rfl, rfl, hv, hn, hk, hE, hx, hm, S, k⟩ := h
  walk_at "go"
  refine w_dF nofun ?_
  walk_at "go"
  refine w_dF (by omega) ?_
  walk_at "go"
  refine g_new S fun b H1 S1 => ?_
  have kn : ∀ {td tl} H2, SH H0 (ours K D s ca [] [] [] [] td tl) H2 → (∀ H3, SH H0 (ours K D { s with known := s.known ++ [n] } ca [] [] [] [] td tl) H3 → Q .non H3) → DwP (.str n) (.bl true) (.ref D.known) H2 fun H4 => Q .non H4 := fun H2 S2 k2 => by
    refine g_dwS (S2.get (i := 6) rfl) (by rw [List.length_map]; omega) ?_
    rw [putK_new _ (knd_none hn)]
    refine S2.u6 fun H3 S3 => k2 H3 ?_
    have e : knd { s with known := s.known ++ [n] } = knd s ++ [(Sum.inr n, .bl true)] := List.map_append ..
    show SH H0 ((ca, .lst []) :: (D.deck, _) :: (D.near, _) :: (D.far, _) :: (D.queue, _) :: (D.told, _) :: (D.known, .dK (knd { s with known := s.known ++ [n] })) :: _) H3
    rw [e]
    exact S3
  refine g_ds2I S1.g6 (by rw [List.length_map]; omega) (fun v e1 => ?_) (fun e1 => ?_)
  · obtain ⟨j, e, h1, h2, rfl⟩ := tdE_get e1
    have S2 := S1.tail
    have hj : (ours K D s ca [] [] [] [] (tdE E) (tlE E))[7 + j]? = some (e.a, .lst e.xs) := by
      rw [Nat.add_comm]
      show (tlE E)[j]? = _
      rw [List.getElem?_map, h1] <;> rfl
    have ga := S2.get hj
    have lx := hx e (List.mem_of_getElem? h1)
    walk_at "go"
    refine S2.ui hj fun H3 S3 => ?_
    have e2 : (ours K D s ca [] [] [] [] (tdE E) (tlE E)).set (7 + j) (e.a, .lst (e.xs ++ [v3])) = ours K D s ca [] [] [] [] (tdE (E.set j { e with xs := e.xs ++ [v3], ts := e.ts ++ [t] })) (tlE (E.set j { e with xs := e.xs ++ [v3], ts := e.ts ++ [t] })) := by
      rw [tdE_set (e' := { e with xs := e.xs ++ [v3], ts := e.ts ++ [t] }) h1 rfl rfl, Nat.add_comm 7 j]
      show ours K D s ca [] [] [] [] (tdE E) ((tlE E).set j _) = _
      rw [show tlE (E.set j { e with xs := e.xs ++ [v3], ts := e.ts ++ [t] }) = (tlE E).set j (e.a, .lst (e.xs ++ [v3])) from List.map_set ..]
    rw [e2] at S3
    walk_at "go"
    exact kn _ S3 fun H4 S4 => k _ _ (.inl ⟨j, e, h1, h2, rfl⟩) S4
  · refine S1.u6 fun H2 S2 => ?_
    rw [putK_new _ e1] at S2
    walk_at "go"
    refine S2.u0 fun H3 S3 => ?_
    have S4 : SH H0 (ours K D s ca [] [] [] [] (tdE (E ++ [⟨m, b, [v3], [t]⟩])) (tlE (E ++ [⟨m, b, [v3], [t]⟩]))) H3 := by
      rw [show tdE (E ++ [⟨m, b, [v3], [t]⟩]) = tdE E ++ [(Sum.inl m, V.ref b)] from List.map_append .., show tlE (E ++ [⟨m, b, [v3], [t]⟩]) = tlE E ++ [(b, .lst [v3])] from List.map_append ..]
      exact S3.perm (List.perm_append_singleton (b, HO.lst [v3]) (ours K D s ca [] [] [] [] (tdE E ++ [(Sum.inl m, V.ref b)]) (tlE E)))
    walk_at "go"
    exact kn _ S4 fun H5 S5 => k _ _ (.inr ⟨tdE_none e1, b, rfl⟩) S5
end
end

/-! ## B19 -/
section
set_option maxHeartbeats 4000000
open PySem PySem.Spec PyProof.Rows L2






section
variable {P : Program} {w : World} {K : PySem.W.Frag} {mg : Str → Option Value} {base : Heap}
def sp_Deck_need_free (K : PySem.W.Frag) : Sp := sp2 fun x y H Q _ => ∃ D s ca n, x = .ref D.deck ∧ y = .str n ∧ H D.deck = some (.ins (He.ga K "Deck") D.dx (fl_Deck (dfOf D s ca))) ∧ H D.known = some (.dK (knd s)) ∧ n ∉ s.known ∧ Ret .non H Q
theorem ok_Deck_need_free (T : Top K mg) : Met P w K mg base 2 (He.ga K "Deck") "need_free" (sp_Deck_need_free K) [] := by
  obtain ⟨fd, F⟩ := F_Deck_need_free T
  refine met_of F (c_Deck T) (m_Deck_need_free T) (fun _ _ _ _ _ _ us hl => match us, hl with | [_, _], _ => rfl) sc_Deck_need_free len2 (k := 1) ?_
  rintro cdv A outer s H vs Q E hr ⟨v0, v1, rfl, h⟩
  refine ⟨_, (pss_one (ps_if (pt_cmp (pc_din (hu_of hr) (pv 1) (fldk K (pv 0) rfl))) (pss_one ps_never) pss_nil)), ?_⟩
  try dsimp only [cxOf]
  rw [show start ["self", "name"] [v0, v1] = [some v0, some v1] from rfl]
  obtain ⟨D, s, ca, n, rfl, rfl, h1, h2, h3, k⟩ := h
  have S := SH.rfl' (H := H)
  walk_at "go"
  refine g_dinS h2 ?_
  rw [knd_none h3]
  walk_at "go"
  exact k _ S.same
/-- the part of telling that ship and cart share: what they ask, what they leave -/
def TelP (K : PySem.W.Frag) (D : DA) (s : St) (H0 H : Hp) (E : List TEn) (ca : Addr) (n : Str) (m : Int) (t : Thing) (Q : VK) : Prop :=
  IsNm n ∧ n ∉ s.known ∧ s.known.length ≤ 1000 ∧ E.length ≤ 1000 ∧ (∀ e ∈ E, e.xs.length ≤ 1000) ∧ s.here ≤ m ∧ 0 ≤ m ∧ SH H0 (ours K D s ca [] [] [] [] (tdE E) (tlE E)) H ∧
  ∀ v E' H0' H', Same H0 H0' → ThAt K H0' v t → Told1 E m t v E' → SH H0' (ours K D { s with known := s.known ++ [n] } ca [] [] [] [] (tdE E') (tlE E')) H' → Q .non H'
def sp_Deck_ship (K : PySem.W.Frag) : Sp := sp4 fun x y z v H Q _ => ∃ D s H0 E ca n l m, x = .ref D.deck ∧ y = .str n ∧ z = .int l ∧ v = .int m ∧ 1 ≤ l ∧ l ≤ 60 ∧ TelP K D s H0 H E ca n m (.ship n l) Q
theorem fn_Deck_ship (T : Top K mg) : ∃ fd, FunD K "ship" "Deck.ship" (defArgs s_Deck_ship) (defBody s_Deck_ship) (defScope s_Deck_ship) [.int 10, .non] [] (He.ma K (He.ga K "Deck") "ship") fd ∧ FnOk P w K mg base CX0 4 (He.ma K (He.ga K "Deck") "ship") fd ["self", "name", "long", "at"] (sp_Deck_ship K) := by
  obtain ⟨fd, F⟩ := F_Deck_ship T
  refine ⟨fd, F, ?_⟩
  refine fn_body F sc_Deck_ship len4 (k := 3) ?_
  rintro cdv A outer s H vs Q E hr ⟨v0, v1, v2, v3, rfl, h⟩
  refine ⟨_, (pss_cons (ps_expr (by exact (pe_f (ok_need_things T) hr (by decide) rfl (pa_cons (pe_lst (pa_cons (pe_tup (pa_cons (pv 1) (pa_cons (pe_f (ok_is_name T) hr (by decide) rfl (pa_cons (pv 1) pa_nil)) pa_nil))) (pa_cons (pe_tup (pa_cons (pv 2) (pa_cons (pe_f (ok_is_from_to T) hr (by decide) rfl (pa_cons (pv 2) (pa_cons pe_int (pa_cons (C8.pe_gc rfl (i_LONGEST T)) pa_nil)))) pa_nil))) (pa_cons (pe_tup (pa_cons (pv 3) (pa_cons (pe_f (ok_is_time T) hr (by decide) rfl (pa_cons (pv 3) pa_nil)) pa_nil))) pa_nil)))) pa_nil))))
    (pss_cons (ps_expr (by exact (pe_m (ok_Deck_need_free T) hr (by decide) (pv 0) (pa_cons (pv 1) pa_nil))))
    (pss_one (ps_expr (by exact (pe_m (ok_Deck_tell T) hr (by decide) (pv 0) (pa_cons (pv 1) (pa_cons (pv 3) (pa_cons (pe_tup (pa_cons pe_str (pa_cons (pv 1) (pa_cons (pv 2) pa_nil)))) pa_nil))))))))), ?_⟩
  try dsimp only [cxOf]
  rw [show start ["self", "name", "long", "at"] [v0, v1, v2, v3] = [some v0, some v1, some v2, some v3] from rfl]
  obtain ⟨D, s, H0, E, ca, n, l, m, rfl, rfl, rfl, rfl, l1, l2, hn, hf, hk, hE, hx, hh, hm, S, k⟩ := h
  walk_at "go"
  refine ⟨_, rfl, n, rfl, hn, g_retV S fun H1 S1 => ?_⟩
  walk_at "go"
  refine g_new S1 fun p1 H2 S2 => ?_
  walk_at "go"
  refine ⟨_, _, _, rfl, l, 1, 60, rfl, rfl, rfl, g_retV S2 fun H3 S3 => ?_⟩
  rw [decide_eq_true l1, decide_eq_true l2]
  walk_at "go"
  refine g_new S3 fun p2 H4 S4 => ?_
  walk_at "go"
  refine ⟨_, rfl, m, rfl, hm, g_retV S4 fun H5 S5 => ?_⟩
  walk_at "go"
  refine g_new S5 fun p3 H6 S6 => ?_
  walk_at "go"
  refine g_new S6 fun ls H7 S7 => ?_
  walk_at "go"
  refine ⟨_, rfl, ls, _, rfl, SqL.of S7.g0, fun y hy => ?_, g_retV S7 fun H8 S8 => ?_⟩
  · simp only [List.mem_cons, List.not_mem_nil, or_false] at hy
    rcases hy with e | e | e
    · exact ⟨p1, _, e, SqT.of S7.g3⟩
    · exact ⟨p2, _, e, SqT.of S7.g2⟩
    · exact ⟨p3, _, e, SqT.of S7.g1⟩
  have S9 := S8.tail.tail.tail.tail
  walk_at "go"
  refine g_mp S9.g1 rfl ?_
  walk_at "go"
  refine ⟨_, _, rfl, D, s, ca, n, rfl, rfl, S9.g1, S9.g6, hf, g_retV S9 fun H10 S10 => ?_⟩
  walk_at "go"
  refine g_mp S10.g1 rfl ?_
  walk_at "go"
  refine g_new S10 fun q H11 S11 => ?_
  obtain ⟨S12, s12, e12⟩ := S11.keepT
  walk_at "go"
  have ht : ThAt K _ (.ref q) (.ship n l) := ⟨q, rfl, SqT.of e12⟩
  exact ⟨_, _, _, _, rfl, D, s, _, E, ca, n, m, .ship n l, rfl, rfl, rfl, ht, hf, hk, hE, hx, hh, S12, fun E' H' t1 S' => k _ _ _ H' s12 ht t1 S'⟩
def sp_Deck_cart (K : PySem.W.Frag) : Sp := fun vs H Q _ => ∃ x y z v u, vs = [x, y, z, v, u] ∧ ∃ D s H0 E ca n b wt m, x = .ref D.deck ∧ y = .str n ∧ z = bk b ∧ v = .int wt ∧ u = .int m ∧ 1 ≤ wt ∧ wt ≤ 1000000 ∧ BrAt K H0 D.bridge D.xs D.ws D.ss ∧ AloneOk wt D.ws D.ss ∧ TelP K D s H0 H E ca n m (.cart n b wt) Q
theorem lenC {K : PySem.W.Frag} : Len 5 (sp_Deck_cart K) := fun _ _ _ _ ⟨_, _, _, _, _, e, _⟩ => by rw [e] <;> rfl
theorem fn_Deck_cart (T : Top K mg) : ∃ fd, FunD K "cart" "Deck.cart" (defArgs s_Deck_cart) (defBody s_Deck_cart) (defScope s_Deck_cart) [.non] [] (He.ma K (He.ga K "Deck") "cart") fd ∧ FnOk P w K mg base CX0 7 (He.ma K (He.ga K "Deck") "cart") fd ["self", "name", "bank", "weight", "at"] (sp_Deck_cart K) := by
  obtain ⟨fd, F⟩ := F_Deck_cart T
  refine ⟨fd, F, ?_⟩
  refine fn_body F sc_Deck_cart lenC (k := 6) ?_
  rintro cdv A outer s H vs Q E hr ⟨v0, v1, v2, v3, v4, rfl, h⟩
  refine ⟨_, (pss_cons (ps_expr (by exact (pe_f (ok_need_things T) hr (by decide) rfl (pa_cons (pe_lst (pa_cons (pe_tup (pa_cons (pv 1) (pa_cons (pe_f (ok_is_name T) hr (by decide) rfl (pa_cons (pv 1) pa_nil)) pa_nil))) (pa_cons (pe_tup (pa_cons (pv 2) (pa_cons (pe_f (ok_is_bank T) hr (by decide) rfl (pa_cons (pv 2) pa_nil)) pa_nil))) (pa_cons (pe_tup (pa_cons (pv 3) (pa_cons (pe_f (ok_is_from_to T) hr (by decide) rfl (pa_cons (pv 3) (pa_cons pe_int (pa_cons (C8.pe_gc rfl (i_MOST_BORNE T)) pa_nil)))) pa_nil))) (pa_cons (pe_tup (pa_cons (pv 4) (pa_cons (pe_f (ok_is_time T) hr (by decide) rfl (pa_cons (pv 4) pa_nil)) pa_nil))) pa_nil))))) pa_nil))))
    (pss_cons (ps_expr (by exact (pe_m (ok_Deck_need_free T) hr (by decide) (pv 0) (pa_cons (pv 1) pa_nil))))
    (pss_cons (ps_expr (by exact (pe_f (ok_need_alone T) hr (by decide) rfl (pa_cons (fldk K (pv 0) rfl) (pa_cons (pv 3) pa_nil)))))
    (pss_one (ps_expr (by exact (pe_m (ok_Deck_tell T) hr (by decide) (pv 0) (pa_cons (pv 1) (pa_cons (pv 4) (pa_cons (pe_tup (pa_cons pe_str (pa_cons (pv 1) (pa_cons (pv 2) (pa_cons (pv 3) pa_nil))))) pa_nil)))))))))), ?_⟩
  try dsimp only [cxOf]
  rw [show start ["self", "name", "bank", "weight", "at"] [v0, v1, v2, v3, v4] = [some v0, some v1, some v2, some v3, some v4] from rfl]
  obtain ⟨D, s, H0, E, ca, n, b, wt, m, rfl, rfl, rfl, rfl, rfl, l1, l2, hb, ha, hn, hf, hk, hE, hx, hh, hm, S, k⟩ := h
  walk_at "go"
  refine ⟨_, rfl, n, rfl, hn, g_retV S fun H1 S1 => ?_⟩
  walk_at "go"
  refine g_new S1 fun p1 H2 S2 => ?_
  walk_at "go"
  refine ⟨_, rfl, b, rfl, g_retV S2 fun H3 S3 => ?_⟩
  walk_at "go"
  refine g_new S3 fun p2 H4 S4 => ?_
  walk_at "go"
  refine ⟨_, _, _, rfl, wt, 1, 1000000, rfl, rfl, rfl, g_retV S4 fun H5 S5 => ?_⟩
  rw [decide_eq_true l1, decide_eq_true l2]
  walk_at "go"
  refine g_new S5 fun p3 H6 S6 => ?_
  walk_at "go"
  refine ⟨_, rfl, m, rfl, hm, g_retV S6 fun H7 S7 => ?_⟩
  walk_at "go"
  refine g_new S7 fun p4 H8 S8 => ?_
  walk_at "go"
  refine g_new S8 fun ls H9 S9 => ?_
  walk_at "go"
  refine ⟨_, rfl, ls, _, rfl, SqL.of S9.g0, fun y hy => ?_, g_retV S9 fun H10 S10 => ?_⟩
  · simp only [List.mem_cons, List.not_mem_nil, or_false] at hy
    rcases hy with e | e | e | e
    · exact ⟨p1, _, e, SqT.of S9.g4⟩
    · exact ⟨p2, _, e, SqT.of S9.g3⟩
    · exact ⟨p3, _, e, SqT.of S9.g2⟩
    · exact ⟨p4, _, e, SqT.of S9.g1⟩
  have S11 := S10.tail.tail.tail.tail.tail
  walk_at "go"
  refine g_mp S11.g1 rfl ?_
  walk_at "go"
  refine ⟨_, _, rfl, D, s, ca, n, rfl, rfl, S11.g1, S11.g6, hf, g_retV S11 fun H12 S12 => ?_⟩
  walk_at "go"
  refine ⟨_, _, rfl, _, _, _, _, wt, rfl, rfl, hb.same S12.same, ha, by omega, g_retV S12 fun H13 S13 => ?_⟩
  walk_at "go"
  refine g_mp S13.g1 rfl ?_
  walk_at "go"
  refine g_new S13 fun q H14 S14 => ?_
  obtain ⟨S15, s15, e15⟩ := S14.keepT
  walk_at "go"
  have ht : ThAt K _ (.ref q) (.cart n b wt) := ⟨q, rfl, SqT.of e15⟩
  exact ⟨_, _, _, _, rfl, D, s, _, E, ca, n, m, .cart n b wt, rfl, rfl, rfl, ht, hf, hk, hE, hx, hh, S15, fun E' H' t1 S' => k _ _ _ H' s15 ht t1 S'⟩
end
end

/-! ## B20 -/
section
set_option maxHeartbeats 4000000
open PySem PySem.Spec PyProof.Rows L2






/-! ### making objects -/
theorem SH.join {H0 H1 B H' : Hp} {l l' : List (Addr × HO)} (S : SH H0 l H1) (s : Same H1 B) (S' : SH B l' H') : SH H0 (l' ++ l) H' where
  same := S.same.trans (s.trans S'.same)
  at_ := fun p m => by
    rcases List.mem_append.mp m with m | m
    · exact S'.at_ p m
    · exact S'.same _ _ (s _ _ (S.at_ p m))
  nd := by
    rw [List.map_append]
    refine List.nodup_append.mpr ⟨S'.nd, S.nd, fun a ha b hb e => ?_⟩
    obtain ⟨p, hp, rfl⟩ := List.mem_map.mp ha
    obtain ⟨q, hq, rfl⟩ := List.mem_map.mp hb
    have h1 := S'.out p hp
    rw [e, s _ _ (S.at_ q hq)] at h1
    cases h1
  out := fun p m => by
    rcases List.mem_append.mp m with m | m
    · exact (S.same.trans s).free (S'.out p m)
    · exact S.out p m
section
variable {K : PySem.W.Frag} {C : Addr} {sp : Sp} {dvs : List V} {E : XK} {tA tk : TA} {σ : L2.St} {H H0 : Hp} {Q : VK} {l : List (Addr × HO)}
/-- what a making asks of its __init__ -/
def MkP (C : Addr) (sp : Sp) (vs : List V → List V) (H : Hp) (Q : VK) (E : XK) (ws : List V) : Prop := ∀ x dx, H x = none → H dx = none → dx ≠ x → sp (.ref x :: vs ws) (upd (upd H dx (.own x)) x (.ins C dx [])) (fun v H2 => v = .non ∧ Q (.ref x) H2) E
theorem g_mk {vs : List V → List V} {ws : List V} (k : ∀ p dx B H1, Same H B → SH B [(p, .ins C dx [])] H1 → sp (.ref p :: vs ws) H1 (fun v H2 => v = .non ∧ Q (.ref p) H2) E) : MkP C sp vs H Q E ws := fun x dx h1 h2 ne => by
  refine k x dx (upd H dx (.own x)) _ (Same.new h2) ?_
  refine ⟨?_, fun p m => ?_, ?_, fun p m => ?_⟩
  · exact Same.new (by rw [upd_ne (Ne.symm ne)]; exact h1)
  · rw [List.mem_singleton.mp m]; exact upd_same
  · exact List.nodup_cons.mpr ⟨List.not_mem_nil, .nil⟩
  · rw [List.mem_singleton.mp m, upd_ne (Ne.symm ne)]; exact h1
theorem g_make (q : tA σ H fun ws H1 => MkP C sp (fun ws => ws ++ dvs) H1 Q E ws) : tMake C sp dvs E tA σ H Q := q
theorem g_makeK {n m : Nat} {gV : List V → List V → List V} (q : tA σ H fun vs H1 => tk σ H1 fun zs H2 => vs.length = n ∧ zs.length = m ∧ ∀ x dx, H2 x = none → H2 dx = none → dx ≠ x → sp (gV (.ref x :: vs) zs) (upd (upd H2 dx (.own x)) x (.ins C dx [])) (fun v H3 => v = .non ∧ Q (.ref x) H3) E) : tMakeK C n m sp gV E tA tk σ H Q := q
end
section
variable {P : Program} {w : World} {K : PySem.W.Frag} {mg : Str → Option Value} {base : Heap}
def sp_Stretch_init (K : PySem.W.Frag) : Sp := sp3 fun x y z H Q _ => ∃ p dx B i j, x = .ref p ∧ y = .int i ∧ z = .int j ∧ i ≤ j ∧ SH B [(p, .ins (He.ga K "Stretch") dx [])] H ∧ ∀ H', SH B [(p, .ins (He.ga K "Stretch") dx (fl_Stretch (.int i) (.int j)))] H' → Q .non H'
theorem fn_Stretch_init (T : Top K mg) : ∃ fd, FunD K "__init__" "Stretch.__init__" (defArgs s_Stretch_init) (defBody s_Stretch_init) (defScope s_Stretch_init) [.non] [] (He.ma K (He.ga K "Stretch") "__init__") fd ∧ FnOk P w K mg base CX0 2 (He.ma K (He.ga K "Stretch") "__init__") fd ["self", "first", "behind"] (sp_Stretch_init K) := by
  obtain ⟨fd, F⟩ := F_Stretch_init T
  refine ⟨fd, F, ?_⟩
  refine fn_body F sc_Stretch_init len3 (k := 1) ?_
  rintro cdv A outer s H vs Q E hr ⟨v0, v1, v2, rfl, h⟩
  refine ⟨_, (pss_cons (ps_if (pt_cmpR op_isN1 (pv 2) pe_non (nomark _)) (pss_one (ps_set (i := 2) sc_Stretch_init.nd rfl (by first | exact Or.inl rfl | exact Or.inr rfl) (pe_op op_add (pv 1) pe_int))) pss_nil)
    (pss_cons (ps_if (pt_cmpR op_lt (pv 2) (pv 1) (nomark _)) (pss_one ps_never) pss_nil)
    (pss_cons (ps_fld (pv 0) (pv 1) rfl)
    (pss_one (ps_fld (pv 0) (pv 2) rfl))))), ?_⟩
  try dsimp only [cxOf]
  rw [show start ["self", "first", "behind"] [v0, v1, v2] = [some v0, some v1, some v2] from rfl]
  obtain ⟨p, dx, B, i, j, rfl, rfl, rfl, hij, S, k⟩ := h
  walk_at "go"
  refine w_dF nofun ?_
  walk_at "go"
  refine w_dF (by omega) ?_
  walk_at "go"
  refine S.u0 fun H1 S1 => ?_
  walk_at "go"
  refine S1.u0 fun H2 S2 => ?_
  walk_at "go"
  exact k _ S2
theorem ok_Stretch_init (T : Top K mg) : Mak P w K mg base 2 "Stretch" (sp_Stretch_init K) [] := by
  obtain ⟨fd, F, k⟩ := fn_Stretch_init (P := P) (w := w) (base := base) T
  obtain ⟨ds, hv, hb⟩ := F.binds1 (ps := ["self", "first", "behind"]) 3 1 (by decide) (by rfl) fun Td doc pm kV an cdv ct us its hl hi => by
    match us, hl, its, hi with
    | [_, _, _], _, [_], _ => exact ⟨_, rfl, rfl⟩
  exact ⟨_, _, _, ds, k, g_Stretch T, mk_Stretch T, hb, hv⟩
def sp_Stretch_len (K : PySem.W.Frag) : Sp := sp1 fun x H Q _ => ∃ i j, StrAt K H x i j ∧ -100000 ≤ i ∧ j ≤ 100000 ∧ Ret (.int ((j - i).toNat : Nat)) H Q
end
end

/-! ## Rg -/
section
set_option maxHeartbeats 4000000
open PySem PySem.Spec PyProof.Rows L2
section
variable {X : Cx} {H H0 : Hp} {Q : VK} {a : Addr} {lo hi : Int}
/-! ### len(range(a, b)) -/
def rRgO : List V → Hp → VK → Prop := fun vs H Q => ∃ i j, vs = [V.int i, V.int j] ∧ New (.rng i j) H Q
theorem cr_rgO : CallR X (.type "range") rRgO := cr_range2
theorem g_rgO {i j : Int} (q : New (.rng i j) H Q) : rRgO [V.int i, V.int j] H Q := ⟨i, j, rfl, q⟩
def rLnR : List V → Hp → VK → Prop := fun vs H Q => ∃ a lo hi, vs = [V.ref a] ∧ H a = some (.rng lo hi) ∧ (hi - lo).toNat ≤ 1000000000 ∧ Q (.int ((hi - lo).toNat : Nat)) H
theorem cr_lnR : CallR X (.builtin "len") rLnR := by
  intro pins s σ H xs us Q I r h
  obtain ⟨a, lo, hi, rfl, e, hz, q⟩ := h
  obtain ⟨u, rfl, ru⟩ := r.one
  cases (show u = Value.ref a from ru)
  obtain ⟨t, u, v, e2⟩ := I.hok a _ e
  have hn : Builtin.Range.rangeSize lo hi 1 = ((hi - lo).toNat : Nat) := by
    unfold Builtin.Range.rangeSize
    simp
    try omega
  exact call_len_range (n := (hi - lo).toNat) e2 hn (by omega) ⟨.int _, H, I.tok _, ⟨_, rfl⟩, q⟩
theorem g_lnR (h : H a = some (.rng lo hi)) (z : (hi - lo).toNat ≤ 1000000000) (q : Q (.int ((hi - lo).toNat : Nat)) H) : rLnR [V.ref a] H Q := ⟨a, lo, hi, rfl, h, z, q⟩
end
end

/-! ## Zp -/
section
set_option maxHeartbeats 4000000
open PySem PySem.Spec PyProof.Rows L2
/-! ### comprehensions over zip(a, b) -/
section
variable {K : PySem.W.Frag} {H H0 : Hp} {Q : VK} {a b : Addr} {xs ys : List V} {l : List (Addr × HO)} {g : TG} {tt : TT} {te : TE} {vs : List Nat} {σ : L2.St} {tA : TA}
def LcZ (K : PySem.W.Frag) (v : List V) (g : TG) (tt : TT) (te : TE) (vs : List Nat) (σ : L2.St) (H : Hp) (Q : VK) : Prop := ∃ a b xs ys, v = [V.ref a, V.ref b] ∧ SqL K H a xs ∧ SqL K H b ys ∧ LcP (Itz K a b) g tt te vs σ H Q
theorem g_lcZ (q : tA σ H fun v H1 => LcZ K v g tt te vs σ H1 Q) : tLc (iZip K tA) g tt te vs σ H Q := q
theorem lc_Z (I : Cd) (S : SH H0 l H) (i0 : I 0 [] H0 l) (hx : ∀ i acc D H0' l' H', I i acc H0' l' → SH H0' ((D, .lst acc) :: l') H' → SqL K H' a xs ∧ SqL K H' b ys) (hx0 : SqL K H a xs) (hy0 : SqL K H b ys)
    (turn : ∀ i x y T acc D H0' l' H', xs[i]? = some x → ys[i]? = some y → I i acc H0' l' → SH H0' ((T, .tup [x, y]) :: (D, .lst acc) :: l') H' → acc.length ≤ i → LcT I g tt te vs σ D i (.ref T) H')
    (done : ∀ D acc H0' l' H', I (min xs.length ys.length) acc H0' l' → acc.length ≤ min xs.length ys.length → SH H0' ((D, .lst acc) :: l') H' → Q (.ref D) H') : LcZ K [.ref a, .ref b] g tt te vs σ H Q :=
  ⟨a, b, xs, ys, rfl, hx0, hy0, lc_core (y := fun i v H H2 => ∃ T x y, v = .ref T ∧ H T = none ∧ H2 = upd H T (.tup [x, y]) ∧ xs[i]? = some x ∧ ys[i]? = some y) I S i0
    (fun i acc D H0' l' H' hi p S' => by
      obtain ⟨q1, q2⟩ := hx _ _ _ _ _ _ p S'
      refine ⟨fun hlt => ⟨⟨xs, ys, xs[i]'(by omega), ys[i]'(by omega), q1, q2, by simp, by simp⟩, fun v H2 ⟨T, x, y, e1, e2, e3, e4, e5⟩ => ⟨T, x, y, e1, e2, e3, e4 xs q1, e5 ys q2⟩⟩, fun e => ⟨xs, ys, q1, q2, by omega⟩⟩)
    (fun i v acc D H0' l' H' H2 hi p S' q yl => by
      obtain ⟨T, x, y, rfl, e2, rfl, e4, e5⟩ := yl
      exact turn i x y T acc D H0' l' _ e4 e5 p (S'.new e2) q) done⟩
end
end

/-! ## Mk -/
section
set_option maxHeartbeats 4000000
open PySem PySem.Spec PyProof.Rows L2
/-! ### makings and methods with keywords, by their promises -/
section
variable (P : Program) (w : World) (K : PySem.W.Frag) (mg : Str → Option Value) (base : Heap)
structure MakK (k : Nat) (x : Str) (n : Nat) (ks : List Str) (sp : Sp) (gV : List V → List V → List V) : Prop where
  ex : ∃ f fd ps g, FnOk P w K mg base CX0 k f fd ps sp ∧ mg x = some (.ref (He.ga K x)) ∧ Mk K (He.ga K x) f ∧ KBn K fd ps n ks g gV
structure MetK (k : Nat) (C : Addr) (m : Str) (n : Nat) (ks : List Str) (sp : Sp) (gV : List V → List V → List V) : Prop where
  ex : ∃ f fd ps g, FnOk P w K mg base CX0 k f fd ps sp ∧ Cls K C ∧ Meth K C m f ∧ KBn K fd ps n ks g gV
end
section
variable {X : Cx} {k j n : Nat} {C : Addr} {x m : Str} {sp : Sp} {dvs : List V} {p pos apos : Pos} {e o : Expr} {es : List Expr} {ta : TE} {t tk : TA} {kws : List Keyword} {ks : List Str} {gV : List V → List V → List V} (K : PySem.W.Frag)
theorem makk (h : X.K = K) (c : Mak X.prog X.w X.K X.mg X.base k x sp dvs) (hr : Room j X.A) (hk : k + 1 ≤ j) (hg : Gl X x) (ha : PA X (e :: es) t) (hdb : (x == ("__debug__" : Str)) = false := by decide)
    (he : starEach (e :: es) X.env = (false, eval e X.env) :: starEach es X.env := by rfl) (hpl : (backTo pos (starEach es X.env)).any (·.1) = false := by rfl) : PE X (.Call (.Name x p) (e :: es) [] pos) (tMake (He.ga K x) sp dvs E0 t) := by
  subst h; exact pe_k c hr hk hg ha hdb he hpl
theorem makk0 (h : X.K = K) (c : MakK X.prog X.w X.K X.mg X.base k x 1 ks sp gV) (hr : Room j X.A) (hk : k + 1 ≤ j) (hg : Gl X x) (hkw : PK X kws tk)
    (hall : (backToKw pos (keywordEach kws X.env)).all (·.1.isSome) = true := by rfl) (hks : (backToKw pos (keywordEach kws X.env)).filterMap (·.1) = ks := by rfl) (hdb : (x == ("__debug__" : Str)) = false := by decide)
    (hpl : ((backTo pos (starEach [] X.env)).any (·.1) || (backToKw pos (keywordEach kws X.env)).any (·.1.isNone)) = false := by rfl) : PE X (.Call (.Name x p) [] kws pos) (tMakeK (He.ga K x) 0 ks.length sp gV E0 tNil tk) := by
  subst h
  obtain ⟨f, fd, ps, g, F, h1, h2, h3⟩ := c.ex
  exact pe_makeK0 h2 F (hr.mono hk) hg h1 h3 pass0 hkw hall hks hdb hpl
theorem makkN (h : X.K = K) (c : MakK X.prog X.w X.K X.mg X.base k x (n + 1) ks sp gV) (hr : Room j X.A) (hk : k + 1 ≤ j) (hg : Gl X x) (ha : PA X (e :: es) t) (hkw : PK X kws tk)
    (hall : (backToKw pos (keywordEach kws X.env)).all (·.1.isSome) = true := by rfl) (hks : (backToKw pos (keywordEach kws X.env)).filterMap (·.1) = ks := by rfl) (hdb : (x == ("__debug__" : Str)) = false := by decide)
    (he : starEach (e :: es) X.env = (false, eval e X.env) :: starEach es X.env := by rfl) (hpl : ((backTo pos (starEach (e :: es) X.env)).any (·.1) || (backToKw pos (keywordEach kws X.env)).any (·.1.isNone)) = false := by rfl) : PE X (.Call (.Name x p) (e :: es) kws pos) (tMakeK (He.ga K x) n ks.length sp gV E0 t tk) := by
  subst h
  obtain ⟨f, fd, ps, g, F, h1, h2, h3⟩ := c.ex
  exact pe_makeK h2 F (hr.mono hk) hg h1 h3 pass0 ha hkw hall hks hdb he hpl
theorem methk {pl : Sem Bool} (c : MetK X.prog X.w X.K X.mg X.base k C m (n + 1) ks sp gV) (hr : Room j X.A) (hk : k ≤ j) (he : PE X o ta) (ha : PA X (e :: es) t) (hkw : PK X kws tk)
    (hall : (backToKw pos (keywordEach kws X.env)).all (·.1.isSome) = true := by rfl) (hks : (backToKw pos (keywordEach kws X.env)).filterMap (·.1) = ks := by rfl)
    (hst : starEach (e :: es) X.env = (false, eval e X.env) :: starEach es X.env := by rfl) (hpl : ((backTo pos (starEach (e :: es) X.env)).any (·.1) || (backToKw pos (keywordEach kws X.env)).any (·.1.isNone)) = false := by rfl)
    (ht : eval (.Call (.Attribute o m apos) (e :: es) kws pos) X.env = (do let ov ← eval o X.env; standAt apos.atName; let (f, first) ← holding [ov] (getMethod ov m pl); callWith pos f first (backTo pos (starEach (e :: es) X.env)) (backToKw pos (keywordEach kws X.env))) := by rfl) :
    PE X (.Call (.Attribute o m apos) (e :: es) kws pos) (tMethN C m n ks.length sp gV E0 ta t tk) := by
  obtain ⟨f, fd, ps, g, F, h1, h2, h3⟩ := c.ex
  exact pe_mN (pl := pl) he h1 h2 F (hr.mono hk) h3 pass0 ha hkw hall hks hst hpl ht
end
end

/-! ## B21 -/
section
set_option maxHeartbeats 4000000
open PySem PySem.Spec PyProof.Rows L2






local macro_rules | `(tactic| walk_at "go1") => `(tactic| with_reducible refine g_rgO ?_)
local macro_rules | `(tactic| walk_at "go1") => `(tactic| with_reducible refine g_make ?_)
local macro_rules | `(tactic| walk_at "go1") => `(tactic| with_reducible refine g_makeK ?_)
local macro_rules | `(tactic| walk_at "go1") => `(tactic| with_reducible refine g_lcZ ?_)

section
variable {P : Program} {w : World} {K : PySem.W.Frag} {mg : Str → Option Value} {base : Heap}
theorem ok_Stretch_0_first_behind (T : Top K mg) : MakK P w K mg base 2 "Stretch" 1 ["first", "behind"] (sp_Stretch_init K) fun vs zs => vs ++ zs := by
  obtain ⟨fd, F, k⟩ := fn_Stretch_init (P := P) (w := w) (base := base) T
  obtain ⟨its, hb⟩ := F.kbindsD (ps := ["self", "first", "behind"]) 1 ["first", "behind"] (fun us its ws => us ++ ws) (by decide) (fun h1 _ h3 => h1.append h3) fun Td kV doc pm an cdv ct us its ws hl hi hw => by
    match us, hl, its, hi, ws, hw with
    | [_], _, [_], _, [_, _], _ => exact ⟨_, rfl, rfl⟩
  exact ⟨_, _, _, _, k, g_Stretch T, mk_Stretch T, hb⟩
theorem ok_Stretch_len (T : Top K mg) : Met P w K mg base 2 (He.ga K "Stretch") "__len__" (sp_Stretch_len K) [] := by
  obtain ⟨fd, F⟩ := F_Stretch_len T
  refine met_of F (c_Stretch T) (m_Stretch_len T) (fun _ _ _ _ _ _ us hl => match us, hl with | [_], _ => rfl) sc_Stretch_len len1 (k := 1) ?_
  rintro cdv A outer s H vs Q E hr ⟨v0, rfl, h⟩
  refine ⟨_, (pss_one (ps_ret (pe_callB cr_lnR rfl (fr_len T) PySem.boot_len (pa_cons (pe_callTy cr_rgO rfl (fr_range T) PyProof.Rows.boot_range (pa_cons (fldk K (pv 0) rfl) (pa_cons (fldk K (pv 0) rfl) pa_nil))) pa_nil)))), ?_⟩
  try dsimp only [cxOf]
  rw [show start ["self"] [v0] = [some v0] from rfl]
  obtain ⟨i, j, ⟨a, dx, rfl, h1⟩, h2, h3, k⟩ := h
  have S := SH.rfl' (H := H)
  walk_at "go"
  refine g_new S fun p H1 S1 => ?_
  walk_at "go"
  exact g_lnR S1.g0 (by omega) (k _ S1.same)
theorem g_lnS {a : Addr} {i j : Int} {H0 H : Hp} {Q : VK} {l : List (Addr × HO)} (hb : StrAt K H (.ref a) i j) (h1 : -100000 ≤ i) (h2 : j ≤ 100000) (S : SH H0 l H) (k : ∀ H1, SH H0 l H1 → Q (.int ((j - i).toNat : Nat)) H1) : rLnO (He.ga K "Stretch") (sp_Stretch_len K) [V.ref a] H Q := by
  obtain ⟨_, dx, e, h⟩ := id hb
  cases e
  exact ⟨a, dx, _, rfl, h, _, rfl, i, j, hb, h1, h2, fun H1 s => ⟨_, rfl, by omega, k H1 (S.call s)⟩⟩
end
end

/-! ## B22 -/
local macro_rules | `(tactic| walk_at "go1") => `(tactic| with_reducible refine g_rgO ?_)
local macro_rules | `(tactic| walk_at "go1") => `(tactic| with_reducible refine g_make ?_)
local macro_rules | `(tactic| walk_at "go1") => `(tactic| with_reducible refine g_makeK ?_)
local macro_rules | `(tactic| walk_at "go1") => `(tactic| with_reducible refine g_lcZ ?_)
section
set_option maxHeartbeats 4000000
open PySem PySem.Spec PyProof.Rows L2








section
variable {K : PySem.W.Frag} {H : Hp} {Q : VK} {a : Addr} {ini : List V} {v y : V} {σ : L2.St}
theorem g_ixLast (h : SqL K H a (ini ++ [v])) (k : Q v H) : rIxL K (.ref a) (.int (-1)) H Q := by
  refine ⟨a, ini ++ [v], -1, v, rfl, rfl, h, ?_, k⟩
  have e : ixN (ini ++ [v]).length (-1) = some ini.length := by
    unfold ixN
    simp
    try omega
  unfold atI
  rw [e]
  simp
theorem g_setLast {z : Hp → Prop} (h : H a = some (.lst (ini ++ [v]))) (q : Upd H a (.lst (ini ++ [y])) z) : rSetL (.ref a) (.int (-1)) y H z := by
  refine ⟨a, ini ++ [v], -1, ini.length, rfl, rfl, h, ?_, ?_⟩
  · unfold ixN
    simp
    try omega
  · rw [show (ini ++ [v]).set ini.length y = ini ++ [y] by simp]
    exact q
theorem g_gsub {to ti : TE} {t : TSet} {k : L2.St → Hp → Prop} (q : to σ H fun o H1 => ti σ H1 fun i H2 => t o i v H2 fun H3 => k σ H3) : gSub to ti t v σ H k := q
end
local macro_rules | `(tactic| walk_at "go1") => `(tactic| with_reducible refine g_gsub ?_)
local macro_rules | `(tactic| walk_at "go1") => `(tactic| ((with_reducible refine' g_ixLast ?h ?_); (case h => walk_at "lst")))
section
variable {P : Program} {w : World} {K : PySem.W.Frag} {mg : Str → Option Value} {base : Heap}
/-- a pair of ints, the first not behind the second -/
def PrAt (H : Hp) (x : V) : Prop := ∃ t i j, x = .ref t ∧ H t = some (.tup [.int i, .int j]) ∧ i ≤ j ∧ -100000 ≤ i ∧ j ≤ 100000
theorem PrAt.same {H H' : Hp} {x : V} (s : Same H H') (h : PrAt H x) : PrAt H' x := let ⟨t, i, j, e, q, r⟩ := h; ⟨t, i, j, e, s _ _ q, r⟩
theorem PrAt.lay {H : Hp} {x : V} (h : PrAt H x) : Lay K H x := by
  obtain ⟨t, i, j, rfl, q, _⟩ := h
  exact Lay.tup (SqT.of q) fun y hy => by
    simp only [List.mem_cons, List.not_mem_nil, or_false] at hy
    rcases hy with e | e <;> rw [e] <;> rfl
/-- a stretch within bounds -/
def SbAt (K : PySem.W.Frag) (H : Hp) (x : V) : Prop := ∃ i j, StrAt K H x i j ∧ -100000 ≤ i ∧ j ≤ 100000
theorem SbAt.same {H H' : Hp} {x : V} (s : Same H H') (h : SbAt K H x) : SbAt K H' x := let ⟨i, j, q, r⟩ := h; ⟨i, j, q.same s, r⟩
def sp_joined (K : PySem.W.Frag) : Sp := sp2 fun x y H Q _ => ∃ a xs, x = .ref a ∧ y = .int 0 ∧ SqL K H a xs ∧ xs.length ≤ 1000 ∧ (∀ y ∈ xs, SbAt K H y) ∧ ∀ p rs H1, Same H H1 → H1 p = some (.lst rs) → (∀ y ∈ rs, SbAt K H1 y) → Q (.ref p) H1
theorem fn_joined (T : Top K mg) : ∃ fd, FunD K "joined" "joined" (defArgs s_joined) (defBody s_joined) (defScope s_joined) [.int 0] [] (He.ga K "joined") fd ∧ FnOk P w K mg base CX0 4 (He.ga K "joined") fd ["some", "apart"] (sp_joined K) := by
  obtain ⟨fd, F⟩ := F_joined T
  refine ⟨fd, F, ?_⟩
  refine fn_body F sc_joined len2 (k := 3) ?_
  rintro cdv A outer s H vs Q E hr ⟨v0, v1, rfl, h⟩
  refine ⟨_, (pss_cons (ps_set (i := 2) sc_joined.nd rfl (by first | exact Or.inl rfl | exact Or.inr rfl) (pe_lst pa_nil))
    (pss_cons (ps_for PassesOwn.never rfl (pi_list (pe_callB cr_sortedP rfl (fr_sorted T) PyProof.Rows.boot_sorted (pa_cons (pe_lc (own := [("one", 5)]) (g := gName 5) (by rfl) sc_joined.nd (pi_list (pv 0)) (blkOk_by (own := [("one", 5)]) (N := ["some", "apart", "found", "first", "behind", "one"]) (sc := defScope s_joined) (by decide +kernel)) (fun _ _ _ _ _ => (pg_name (i := 5) sc_joined.nd rfl (by first | exact Or.inl rfl | exact Or.inr rfl))) (fun _ _ _ _ _ => (pts_one (pt_cmpR op_gt (pe_callB (cr_lnO (ok_Stretch_len T) hr (by decide)) rfl (fr_len T) PySem.boot_len (pa_cons (pv 5) pa_nil)) pe_int (nomark _)))) (fun _ _ _ _ _ => (pe_tup (pa_cons (fldk K (pv 5) rfl) (pa_cons (fldk K (pv 5) rfl) pa_nil))))) pa_nil))) (tupk K (n := 2) rfl (pgs_cons (pg_name (i := 3) sc_joined.nd rfl (by first | exact Or.inl rfl | exact Or.inr rfl)) (pgs_cons (pg_name (i := 4) sc_joined.nd rfl (by first | exact Or.inl rfl | exact Or.inr rfl)) pgs_nil))) (pss_one (ps_if (PW.pt (pw_and (pt_cmpR (op_neD hr.units) (pv 2) (pe_lst pa_nil) (nomark _)) (pw_and1 (pt_cmpR op_le (pe_op op_sub (pv 3) (pe_ix (ixTk K) (pe_ix (ixLk K) (pv 2) (pe_un un_neg pe_int) (fun _ _ => rfl)) pe_int (fun _ _ => rfl))) (pv 1) (nomark _))))) (pss_one (ps_asg (pe_tup (pa_cons (pe_ix (ixTk K) (pe_ix (ixLk K) (pv 2) (pe_un un_neg pe_int) (fun _ _ => rfl)) pe_int (fun _ _ => rfl)) (pa_cons (pe_callB (cr_mx rfl) rfl (fr_max T) PyProof.Rows.boot_max (pa_cons (pe_ix (ixTk K) (pe_ix (ixLk K) (pv 2) (pe_un un_neg pe_int) (fun _ _ => rfl)) pe_int (fun _ _ => rfl)) (pa_cons (pv 4) pa_nil))) pa_nil))) (pg_sub (pv 2) (pe_un un_neg pe_int) set_list))) (pss_one (ps_expr (by exact (pe_bm PySem.F.plainAttrs_list PySem.F.slot_list_append PySem.F.type_list_append mt_append (pv 2) (pa_cons (pe_tup (pa_cons (pv 3) (pa_cons (pv 4) pa_nil))) pa_nil))))))))
    (pss_one (ps_ret (pe_lc (own := [("first", 3), ("behind", 4)]) (by rfl) sc_joined.nd (pi_list (pv 2)) (blkOk_by (own := [("first", 3), ("behind", 4)]) (N := ["some", "apart", "found", "first", "behind", "one"]) (sc := defScope s_joined) (by decide +kernel)) (fun _ _ _ _ _ => (tupk K (n := 2) rfl (pgs_cons (pg_name (i := 3) sc_joined.nd rfl (by first | exact Or.inl rfl | exact Or.inr rfl)) (pgs_cons (pg_name (i := 4) sc_joined.nd rfl (by first | exact Or.inl rfl | exact Or.inr rfl)) pgs_nil)))) (fun _ _ _ _ _ => pts_nil) (fun _ _ _ _ _ => (makk0 K rfl (ok_Stretch_0_first_behind T) hr (by decide) rfl (pk_cons (pv 3) (pk_cons (pv 4) pk_nil))))))))), ?_⟩
  try dsimp only [cxOf]
  rw [show start ["some", "apart", "found", "first", "behind", "one"] [v0, v1] = [some v0, some v1, none, none, none, none] from rfl]
  obtain ⟨a, xs, rfl, rfl, hx, hl, hs, k⟩ := h
  have S := SH.rfl' (H := H)
  walk_at "go"
  refine g_new S fun fo H1 S1 => ?_
  walk_at "go"
  refine lc_L (xs := xs) (fun i acc H2 l => Same H H2 ∧ l = [(fo, .lst [])] ∧ ∀ y ∈ acc, PrAt H2 y) S1 ⟨Same.refl _, rfl, nofun⟩ (fun i acc L H2 l H3 ⟨s, _⟩ S3 => Same.seq (s.trans S3.same) hx) (Same.seq S1.same hx) ?_ ?_
  · rintro i x acc L H2 l H3 hxi ⟨s2, rfl, hacc⟩ S3 hz
    obtain ⟨f, b, hb, h1, h2⟩ := (hs x (List.mem_of_getElem? hxi)).same s2
    obtain ⟨sa, sdx, rfl, hsa⟩ := id hb
    have hi := (List.getElem?_eq_some_iff.mp hxi).1
    walk_at "lct"
    walk_at "go"
    refine g_lnS (hb.same S3.same) h1 h2 S3 fun H4 S4 => ?_
    walk_at "go"
    refine w_d (fun hlt => ?_) (fun _ => ?_)
    · walk_at "go"
      refine g_new S4 fun t H5 S5 => ?_
      obtain ⟨S6, s6, e6⟩ := S5.keepT
      refine yes S6 hz (by omega) ⟨s2.trans s6, rfl, fun y hy => ?_⟩
      rcases List.mem_append.mp hy with hy | hy
      · exact (hacc y hy).same s6
      · rw [List.mem_singleton.mp hy]
        exact ⟨t, f, b, rfl, e6, by omega, h1, h2⟩
    · exact no S4 hz ⟨s2, rfl, hacc⟩
  · rintro L acc H2 l H3 ⟨s2, rfl, hacc⟩ hz S3
    walk_at "go"
    refine ⟨L, acc, rfl, SqL.of S3.g0, fun x hx => let ⟨t, i, j, e, q, _⟩ := (hacc x hx).same S3.same; ⟨t, i, j, e, q⟩, fun ys p perm hp => ?_⟩
    obtain ⟨S5, s5, e5⟩ := (S3.new (o := .lst ys) hp).keepT
    have S6 := S5.tail
    have hys : ∀ y ∈ ys, PrAt (upd H2 p (.lst ys)) y := fun y hy => (hacc y (perm.mem_iff.mp hy)).same s5
    have ly : ys.length ≤ 1000 := by rw [perm.length_eq]; omega
    refine for_L (xs := ys) (fun i σ H0 l => (∃ o3 o4 o5, σ = [some (.ref a), some (.int 0), some (.ref fo), o3, o4, o5]) ∧ Same (upd H2 p (.lst ys)) H0 ∧ ∃ fs, l = [(fo, .lst fs)] ∧ fs.length ≤ i ∧ ∀ y ∈ fs, PrAt H0 y) S6 ⟨⟨_, _, _, rfl⟩, Same.refl _, [], rfl, Nat.le_refl _, nofun⟩ (fun i σ H0 l H' ⟨_, s, _⟩ S' => SqL.of (S'.rd (s _ _ e5))) ?_ ?_
    · rintro i x σ H0 l H' hxi ⟨⟨o3, o4, o5, rfl⟩, s7, fs, rfl, hfl, hfs⟩ S'
      obtain ⟨t, f, b, rfl, ht, hfb, h1, h2⟩ := (hys x (List.mem_of_getElem? hxi)).same s7
      have hi := (List.getElem?_eq_some_iff.mp hxi).1
      have app : ∀ (bk ct : L2.St → Hp → Prop) H1, SH H0 [(fo, .lst fs)] H1 → tDrop (tBM K "list" rAppend (tVar 2) (tCons (tTup (tCons (tVar 3) (tCons (tVar 4) tNil))) tNil)) ⟨At (fun i σ H0 l => (∃ o3 o4 o5, σ = [some (.ref a), some (.int 0), some (.ref fo), o3, o4, o5]) ∧ Same (upd H2 p (.lst ys)) H0 ∧ ∃ fs, l = [(fo, .lst fs)] ∧ fs.length ≤ i ∧ ∀ y ∈ fs, PrAt H0 y) (i + 1), Q, bk, ct⟩ [some (.ref a), some (.int 0), some (.ref fo), some (.int f), some (.int b), o5] H1 := fun bk ct H1 S1 => by
        walk_at "go"
        refine g_new S1 fun q H4 S4 => ?_
        obtain ⟨S8, s8, e8⟩ := S4.keepT
        walk_at "go"
        refine S8.u0 fun H9 S9 => ?_
        refine ⟨_, _, S9, ⟨_, _, _, rfl⟩, s7.trans s8, fs ++ [V.ref q], rfl, by rw [List.length_append]; exact Nat.succ_le_succ hfl, fun y hy => ?_⟩
        rcases List.mem_append.mp hy with hy | hy
        · exact (hfs y hy).same s8
        · rw [List.mem_singleton.mp hy]
          exact ⟨q, f, b, rfl, e8, hfb, h1, h2⟩
      walk_at "go"
      refine g_new S' fun b1 H4 S4 => ?_
      walk_at "go"
      refine g_neE (SqL.of S4.g1) (SqL.of S4.g0) (fun y hy => ((hfs y hy).same S4.same).lay) ?_
      have S5 := S4.tail
      walk_at "go"
      refine w_nd (fun hne => ?_) (fun he => ?_)
      · rcases List.eq_nil_or_concat fs with e | ⟨ini, z, e⟩
        · exact absurd e hne
        rw [List.concat_eq_append] at e
        subst e
        obtain ⟨t2, f2, b2, rfl, ht2, hfb2, h3, h4⟩ := hfs z (List.mem_append_right _ (List.mem_singleton.mpr rfl))
        walk_at "go"
        refine w_d (fun hle => ?_) (fun hle => ?_)
        · walk_at "go"
          refine g_new S5 fun q H6 S6 => ?_
          obtain ⟨S8, s8, e8⟩ := S6.keepT
          walk_at "go"
          refine g_setLast S8.g0 (S8.u0 fun H9 S9 => ?_)
          refine ⟨_, _, S9, ⟨_, _, _, rfl⟩, s7.trans s8, ini ++ [V.ref q], rfl, by rw [List.length_append] at hfl ⊢; exact Nat.le_succ_of_le hfl, fun y hy => ?_⟩
          rcases List.mem_append.mp hy with hy | hy
          · exact (hfs y (List.mem_append_left _ hy)).same s8
          · rw [List.mem_singleton.mp hy]
            exact ⟨q, f2, _, rfl, e8, by split <;> omega, h3, by split <;> omega⟩
        · exact app _ _ _ S5
      · first
          | exact app _ _ _ S5
          | exact iteF (app _ _ _ S5)
    · rintro σ H0 l H' ⟨⟨o3, o4, o5, rfl⟩, s7, fs, rfl, hfl, hfs⟩ S'
      obtain ⟨S8, s8, e8⟩ := S'.keepT
      walk_at "go"
      refine lc_L (xs := fs) (fun i acc H1 l => Same (upd H0 fo (.lst fs)) H1 ∧ l = [] ∧ ∀ y ∈ acc, SbAt K H1 y) S8 ⟨Same.refl _, rfl, nofun⟩ (fun i acc L H1 l H2 ⟨s, _⟩ S2 => SqL.of (S2.rd (s _ _ e8))) (SqL.of (S8.rd e8)) ?_ ?_
      · rintro i x acc L H1 l H2 hxi ⟨s9, rfl, hacc⟩ S9 hz
        obtain ⟨t, f, b, rfl, ht, hfb, h1, h2⟩ := (hfs x (List.mem_of_getElem? hxi)).same (s8.trans s9)
        have hi := (List.getElem?_eq_some_iff.mp hxi).1
        walk_at "lct"
        walk_at "go"
        refine ⟨rfl, rfl, g_mk (vs := fun ws => ws) (ws := [.int f, .int b]) fun q dx B H3 sB SB => ?_⟩
        refine ⟨_, _, _, rfl, q, dx, B, f, b, rfl, rfl, rfl, hfb, SB, fun H4 S4 => ⟨rfl, ?_⟩⟩
        obtain ⟨S5, s5', e5'⟩ := (S9.join sB S4).keepT
        refine yes S5 hz (by omega) ⟨s9.trans s5', rfl, fun y hy => ?_⟩
        rcases List.mem_append.mp hy with hy | hy
        · exact (hacc y hy).same s5'
        · rw [List.mem_singleton.mp hy]
          exact ⟨f, b, ⟨q, dx, rfl, e5'⟩, h1, h2⟩
      · rintro L acc H1 l H2 ⟨s9, rfl, hacc⟩ hz S9
        walk_at "go"
        exact k L acc H2 (s2.trans (s5.trans (s7.trans (s8.trans (s9.trans S9.same))))) S9.g0 fun y hy => (hacc y hy).same S9.same
end
end

/-! ## B23 -/
section
set_option maxHeartbeats 4000000
open PySem PySem.Spec PyProof.Rows L2








section
variable {P : Program} {w : World} {K : PySem.W.Frag} {mg : Str → Option Value} {base : Heap}
theorem DynOk.mono {k k' : Nat} {m : Str} {H : Hp} {x : V} {G : List V → Hp → VK → Prop} (h : DynOk P w K mg base k m H x G) (e : k ≤ k') : DynOk P w K mg base k' m H x G :=
  let ⟨a, C, dx, fs, f, fd, ps, sp, h1, h2, h3, h4, h5, h6, h7, h8⟩ := h
  ⟨a, C, dx, fs, f, fd, ps, sp, h1, h2, h3, h4, h5, h6.mono e, h7, h8⟩
theorem Met.dyn {k : Nat} {C : Addr} {m : Str} {sp : Sp} {H : Hp} {a dx : Addr} {fs : List (Str × V)} {G : List V → Hp → VK → Prop} (c : Met P w K mg base k C m sp []) (h : H a = some (.ins C dx fs)) (n : fs.lookup m = none) (g : ∀ H' vs Q E, Same H H' → G vs H' Q → sp (.ref a :: vs) H' Q E) : DynOk P w K mg base k m H (.ref a) G := by
  obtain ⟨f, fd, ps, ds, F, cl, mt, hb, hd⟩ := c.ex
  cases hd
  exact ⟨a, C, dx, fs, f, fd, ps, sp, rfl, h, n, cl, mt, F, hb, g⟩
abbrev gAl : List V → Hp → VK → Prop := fun vs H Q => ∃ m : Int, vs = [.int m] ∧ ∀ b, Ret (.bl b) H Q
def gCl (B : Nat) : List V → Hp → VK → Prop := fun vs H Q => vs = [] ∧ ∀ p H1, ∀ cs : List Int, Same H H1 → H p = none → H1 p = some (.lst (cs.map V.int)) → cs.length ≤ B → Q (.ref p) H1
abbrev AlK (P : Program) (w : World) (K : PySem.W.Frag) (mg : Str → Option Value) (base : Heap) (k : Nat) (H : Hp) (x : V) : Prop := DynOk P w K mg base k "allows" H x gAl
abbrev ClK (P : Program) (w : World) (K : PySem.W.Frag) (mg : Str → Option Value) (base : Heap) (k B : Nat) (H : Hp) (x : V) : Prop := DynOk P w K mg base k "clocks" H x (gCl B)
/-! hours -/
def sp_Hours_allows (K : PySem.W.Frag) : Sp := sp2 fun x y H Q _ => ∃ a dx m, ∃ f b : Int, x = .ref a ∧ H a = some (.ins (He.ga K "Hours") dx (fl_Hours (.int f) (.int b))) ∧ y = .int m ∧ ∀ r, Ret (.bl r) H Q
theorem ok_Hours_allows (T : Top K mg) : Met P w K mg base 2 (He.ga K "Hours") "allows" (sp_Hours_allows K) [] := by
  obtain ⟨fd, F⟩ := F_Hours_allows T
  refine met_of F (c_Hours T) (m_Hours_allows T) (fun _ _ _ _ _ _ us hl => match us, hl with | [_, _], _ => rfl) sc_Hours_allows len2 (k := 1) ?_
  rintro cdv A outer s H vs Q E hr ⟨v0, v1, rfl, h⟩
  refine ⟨_, (pss_cons (ps_set (i := 2) sc_Hours_allows.nd rfl (by first | exact Or.inl rfl | exact Or.inr rfl) (pv 1))
    (pss_cons (ps_aug (i := 2) sc_Hours_allows.nd rfl (by first | exact Or.inl rfl | exact Or.inr rfl) (C8.pe_gc rfl (i_DAY T)) ip_mod_)
    (pss_cons (ps_if (pt_cmpR op_lt (fldk K (pv 0) rfl) (fldk K (pv 0) rfl) (nomark _)) (pss_one (ps_ret (pe_chain op_le op_lt (fldk K (pv 0) rfl) (pv 2) (fldk K (pv 0) rfl)))) pss_nil)
    (pss_one (ps_ret (pe_or (pe_cmpR op_ge (pv 2) (fldk K (pv 0) rfl) (nomark _)) (pe_one (pe_cmpR op_lt (pv 2) (fldk K (pv 0) rfl) (nomark _))))))))), ?_⟩
  try dsimp only [cxOf]
  rw [show start ["self", "minute", "clock"] [v0, v1] = [some v0, some v1, none] from rfl]
  obtain ⟨a, dx, m, f, b, rfl, h1, rfl, k⟩ := h
  have S := SH.rfl' (H := H)
  walk_at "go"
  refine w_d (fun _ => ?_) (fun _ => ?_)
  · walk_at "go"
    refine w_d (fun _ => ?_) (fun _ => ?_)
    · walk_at "go"
      exact k _ _ S.same
    · exact k _ _ S.same
  · walk_at "go"
    refine w_d (fun _ => ?_) (fun _ => ?_)
    · exact k _ _ S.same
    · walk_at "go"
      exact k _ _ S.same
def sp_Hours_clocks (K : PySem.W.Frag) : Sp := sp1 fun x H Q _ => ∃ a dx, ∃ f b : Int, x = .ref a ∧ H a = some (.ins (He.ga K "Hours") dx (fl_Hours (.int f) (.int b))) ∧ RetN (.lst [.int f, .int b]) H Q
theorem ok_Hours_clocks (T : Top K mg) : Met P w K mg base 2 (He.ga K "Hours") "clocks" (sp_Hours_clocks K) [] := by
  obtain ⟨fd, F⟩ := F_Hours_clocks T
  refine met_of F (c_Hours T) (m_Hours_clocks T) (fun _ _ _ _ _ _ us hl => match us, hl with | [_], _ => rfl) sc_Hours_clocks len1 (k := 1) ?_
  rintro cdv A outer s H vs Q E hr ⟨v0, rfl, h⟩
  refine ⟨_, (pss_one (ps_ret (pe_lst (pa_cons (fldk K (pv 0) rfl) (pa_cons (fldk K (pv 0) rfl) pa_nil))))), ?_⟩
  try dsimp only [cxOf]
  rw [show start ["self"] [v0] = [some v0] from rfl]
  obtain ⟨a, dx, f, b, rfl, h1, k⟩ := h
  have S := SH.rfl' (H := H)
  walk_at "go"
  refine g_new S fun p H1 S1 => ?_
  walk_at "go"
  exact k.go0 S1
theorem al_Hours (T : Top K mg) {H : Hp} {a dx : Addr} {f b : Int} (h : H a = some (.ins (He.ga K "Hours") dx (fl_Hours (.int f) (.int b)))) : AlK P w K mg base 2 H (.ref a) :=
  (ok_Hours_allows T).dyn h rfl fun H' vs Q E s ⟨m, e, k⟩ => by subst e; exact ⟨_, _, rfl, a, dx, m, f, b, rfl, s _ _ h, rfl, k⟩
theorem cl_Hours (T : Top K mg) {H : Hp} {a dx : Addr} {f b : Int} (h : H a = some (.ins (He.ga K "Hours") dx (fl_Hours (.int f) (.int b)))) : ClK P w K mg base 2 2 H (.ref a) :=
  (ok_Hours_clocks T).dyn h rfl fun H' vs Q E s ⟨e, k⟩ => by subst e; exact ⟨_, rfl, a, dx, f, b, rfl, s _ _ h, fun p H1 s1 n1 h1 => k p H1 [f, b] s1 n1 h1 (Nat.le_refl _)⟩
/-! days -/
def sp_Days_allows (K : PySem.W.Frag) : Sp := sp2 fun x y H Q _ => ∃ a dx m t, ∃ ds : List Int, x = .ref a ∧ H a = some (.ins (He.ga K "Days") dx (fl_Days (.ref t))) ∧ SqT K H t (ds.map V.int) ∧ y = .int m ∧ ∀ r, Ret (.bl r) H Q
theorem ok_Days_allows (T : Top K mg) : Met P w K mg base 2 (He.ga K "Days") "allows" (sp_Days_allows K) [] := by
  obtain ⟨fd, F⟩ := F_Days_allows T
  refine met_of F (c_Days T) (m_Days_allows T) (fun _ _ _ _ _ _ us hl => match us, hl with | [_, _], _ => rfl) sc_Days_allows len2 (k := 1) ?_
  rintro cdv A outer s H vs Q E hr ⟨v0, v1, rfl, h⟩
  refine ⟨_, (pss_cons (ps_set (i := 2) sc_Days_allows.nd rfl (by first | exact Or.inl rfl | exact Or.inr rfl) (pv 1))
    (pss_cons (ps_aug (i := 2) sc_Days_allows.nd rfl (by first | exact Or.inl rfl | exact Or.inr rfl) (C8.pe_gc rfl (i_DAY T)) ip_fdiv_)
    (pss_one (ps_ret (pe_cmpR (ink K) (pe_op op_mod (pv 2) (C8.pe_gc rfl (i_DAYS T))) (fldk K (pv 0) rfl) rfl))))), ?_⟩
  try dsimp only [cxOf]
  rw [show start ["self", "minute", "day"] [v0, v1] = [some v0, some v1, none] from rfl]
  obtain ⟨a, dx, m, t, ds, rfl, h1, h2, rfl, k⟩ := h
  have S := SH.rfl' (H := H)
  walk_at "go"
  refine g_inT h2 rfl (List.all_eq_true.mpr fun y hy => by obtain ⟨q, _, rfl⟩ := List.mem_map.mp hy; rfl) ?_
  exact k _ _ S.same
def sp_Rule_clocks : Sp := sp1 fun x H Q _ => RetN (.lst []) H Q
theorem fn_Rule_clocks (T : Top K mg) : ∃ fd, FnOk P w K mg base CX0 2 (He.ma K (He.ga K "Rule") "clocks") fd ["self"] sp_Rule_clocks ∧ Binds K fd ["self"] [] := by
  obtain ⟨fd, F⟩ := F_Rule_clocks T
  refine ⟨fd, ?_, F.bindsN (fun _ _ _ _ _ _ us hl => match us, hl with | [_], _ => rfl)⟩
  refine fn_body F sc_Rule_clocks len1 (k := 1) ?_
  rintro cdv A outer s H vs Q E hr ⟨v0, rfl, h⟩
  refine ⟨_, (pss_one (ps_ret (pe_lst pa_nil))), ?_⟩
  try dsimp only [cxOf]
  rw [show start ["self"] [v0] = [some v0] from rfl]
  have S := SH.rfl' (H := H)
  walk_at "go"
  refine g_new S fun p H1 S1 => ?_
  walk_at "go"
  exact h.go0 S1
theorem al_Days (T : Top K mg) {H : Hp} {a dx t : Addr} {ds : List Int} (h : H a = some (.ins (He.ga K "Days") dx (fl_Days (.ref t)))) (h2 : SqT K H t (ds.map V.int)) : AlK P w K mg base 2 H (.ref a) :=
  (ok_Days_allows T).dyn h rfl fun H' vs Q E s ⟨m, e, k⟩ => by subst e; exact ⟨_, _, rfl, a, dx, m, t, ds, rfl, s _ _ h, Same.tup s h2, rfl, k⟩
theorem cl_Days (T : Top K mg) {H : Hp} {a dx t : Addr} (h : H a = some (.ins (He.ga K "Days") dx (fl_Days (.ref t)))) : ClK P w K mg base 2 0 H (.ref a) := by
  obtain ⟨fd, F, hb⟩ := fn_Rule_clocks (P := P) (w := w) (base := base) T
  have mt := m_Days_clocks T
  rw [(exs T).2] at mt
  exact ⟨a, _, dx, _, _, fd, _, _, rfl, h, rfl, c_Days T, mt, F, hb, fun H' vs Q E s ⟨e, k⟩ => by subst e; exact ⟨_, rfl, fun p H1 s1 n1 h1 => k p H1 [] s1 n1 h1 (Nat.le_refl _)⟩⟩
/-! unless -/
def sp_Unless_allows (P : Program) (w : World) (K : PySem.W.Frag) (mg : Str → Option Value) (base : Heap) : Sp := sp2 fun x y H Q _ => ∃ a dx v m, x = .ref a ∧ H a = some (.ins (He.ga K "Unless") dx (fl_Unless v)) ∧ AlK P w K mg base 2 H v ∧ y = .int m ∧ ∀ r, Ret (.bl r) H Q
theorem ok_Unless_allows (T : Top K mg) : Met P w K mg base 3 (He.ga K "Unless") "allows" (sp_Unless_allows P w K mg base) [] := by
  obtain ⟨fd, F⟩ := F_Unless_allows T
  refine met_of F (c_Unless T) (m_Unless_allows T) (fun _ _ _ _ _ _ us hl => match us, hl with | [_, _], _ => rfl) sc_Unless_allows len2 (k := 2) ?_
  rintro cdv A outer s H vs Q E hr ⟨v0, v1, rfl, h⟩
  refine ⟨_, (pss_one (ps_ret (pe_not (dynk P w K mg base rfl rfl rfl rfl rfl hr (fldk K (pv 0) rfl) (pa_cons (pv 1) pa_nil))))), ?_⟩
  try dsimp only [cxOf]
  rw [show start ["self", "minute"] [v0, v1] = [some v0, some v1] from rfl]
  obtain ⟨a, dx, v, m, rfl, h1, h2, rfl, k⟩ := h
  have S := SH.rfl' (H := H)
  walk_at "go"
  refine ⟨2, _, Nat.le_refl _, h2, ?_⟩
  walk_at "go"
  refine ⟨Same.refl _, m, rfl, fun b => g_retV S fun H1 S1 => ?_⟩
  walk_at "go"
  exact k _ _ S1.same
def sp_Unless_clocks (P : Program) (w : World) (K : PySem.W.Frag) (mg : Str → Option Value) (base : Heap) (B : Nat) : Sp := sp1 fun x H Q _ => ∃ a dx v, x = .ref a ∧ H a = some (.ins (He.ga K "Unless") dx (fl_Unless v)) ∧ ClK P w K mg base 2 B H v ∧ gCl B [] H Q
theorem ok_Unless_clocks (T : Top K mg) (B : Nat) : Met P w K mg base 3 (He.ga K "Unless") "clocks" (sp_Unless_clocks P w K mg base B) [] := by
  obtain ⟨fd, F⟩ := F_Unless_clocks T
  refine met_of F (c_Unless T) (m_Unless_clocks T) (fun _ _ _ _ _ _ us hl => match us, hl with | [_], _ => rfl) sc_Unless_clocks len1 (k := 2) ?_
  rintro cdv A outer s H vs Q E hr ⟨v0, rfl, h⟩
  refine ⟨_, (pss_one (ps_ret (dynk0 P w K mg base rfl rfl rfl rfl rfl hr (fldk K (pv 0) rfl)))), ?_⟩
  try dsimp only [cxOf]
  rw [show start ["self"] [v0] = [some v0] from rfl]
  obtain ⟨a, dx, v, rfl, h1, h2, _, k⟩ := h
  have S := SH.rfl' (H := H)
  walk_at "go"
  refine ⟨2, _, Nat.le_refl _, h2, ?_⟩
  walk_at "go"
  exact ⟨Same.refl _, rfl, k⟩
theorem al_Unless (T : Top K mg) {H : Hp} {a dx : Addr} {v : V} (h : H a = some (.ins (He.ga K "Unless") dx (fl_Unless v))) (h2 : AlK P w K mg base 2 H v) : AlK P w K mg base 3 H (.ref a) :=
  (ok_Unless_allows T).dyn h rfl fun H' vs Q E s ⟨m, e, k⟩ => by subst e; exact ⟨_, _, rfl, a, dx, v, m, rfl, s _ _ h, h2.same s, rfl, k⟩
theorem cl_Unless (T : Top K mg) {H : Hp} {a dx : Addr} {v : V} {B : Nat} (h : H a = some (.ins (He.ga K "Unless") dx (fl_Unless v))) (h2 : ClK P w K mg base 2 B H v) : ClK P w K mg base 3 B H (.ref a) :=
  (ok_Unless_clocks T B).dyn h rfl fun H' vs Q E s ⟨e, k⟩ => by subst e; exact ⟨_, rfl, a, dx, v, rfl, s _ _ h, h2.same s, rfl, k⟩
end
end

/-! ## B24 -/
section
set_option maxHeartbeats 4000000
open PySem PySem.Spec PyProof.Rows L2








section
variable {P : Program} {w : World} {K : PySem.W.Frag} {mg : Str → Option Value} {base : Heap}
theorem LsAt.same {H H' : Hp} {rs : List V} {xss : List (List V)} (s : Same H H') (h : LsAt H rs xss) : LsAt H' rs xss := ⟨h.1, fun i r xs e1 e2 => let ⟨b, e, q⟩ := h.2 i r xs e1 e2; ⟨b, e, s _ _ q⟩⟩
theorem LsAt.snoc {H : Hp} {rs : List V} {xss : List (List V)} {b : Addr} {xs : List V} (h : LsAt H rs xss) (e : H b = some (.lst xs)) : LsAt H (rs ++ [.ref b]) (xss ++ [xs]) := by
  refine ⟨by rw [List.length_append, List.length_append, h.1] <;> rfl, fun i r ys e1 e2 => ?_⟩
  by_cases hi : i < rs.length
  · rw [List.getElem?_append_left hi] at e1
    rw [List.getElem?_append_left (by rw [← h.1]; exact hi)] at e2
    exact h.2 i r ys e1 e2
  · rw [List.getElem?_append_right (by omega)] at e1
    rw [List.getElem?_append_right (by rw [← h.1]; omega), ← h.1] at e2
    have h1 := List.mem_singleton.mp (List.mem_of_getElem? e1)
    have h2 := List.mem_singleton.mp (List.mem_of_getElem? e2)
    subst h1 h2
    exact ⟨b, rfl, e⟩
def sp_clocks_of (P : Program) (w : World) (K : PySem.W.Frag) (mg : Str → Option Value) (base : Heap) : Sp := sp1 fun x H Q _ => ∃ t rs, x = .ref t ∧ SqT K H t rs ∧ rs.length ≤ 10 ∧ (∀ r ∈ rs, ClK P w K mg base 3 2 H r) ∧ gCl 20 [] H Q
theorem ok_clocks_of (T : Top K mg) : Cal P w K mg base 4 "clocks_of" (sp_clocks_of P w K mg base) [] := by
  obtain ⟨fd, F⟩ := F_clocks_of T
  refine cal_of F (g_clocks_of T) (fun _ _ _ _ _ _ us hl => match us, hl with | [_], _ => rfl) sc_clocks_of len1 (k := 3) ?_
  rintro cdv A outer s H vs Q E hr ⟨v0, rfl, h⟩
  refine ⟨_, (pss_one (ps_ret (pe_callBK (cr_sumL rfl) rfl (fr_sum T) PyProof.Rows.boot_sum (pa_cons (pe_lc (own := [("rule", 1)]) (g := gName 1) (by rfl) sc_clocks_of.nd (pi_tup (pv 0)) (blkOk_by (own := [("rule", 1)]) (N := ["rules", "rule"]) (sc := defScope s_clocks_of) (by decide +kernel)) (fun _ _ _ _ _ => (pg_name (i := 1) sc_clocks_of.nd rfl (by first | exact Or.inl rfl | exact Or.inr rfl))) (fun _ _ _ _ _ => pts_nil) (fun _ _ _ _ _ => (dynk0 P w K mg base rfl rfl rfl rfl rfl hr (pv 1)))) pa_nil) (pk_cons (pe_lst pa_nil) pk_nil)))), ?_⟩
  try dsimp only [cxOf]
  rw [show start ["rules", "rule"] [v0] = [some v0, none] from rfl]
  obtain ⟨t, rs, rfl, h2, hl, hr2, _, k⟩ := h
  have S := SH.rfl' (H := H)
  walk_at "go"
  refine lc_U (xs := rs) (fun i acc H1 l => Same H H1 ∧ l = [] ∧ ∃ css : List (List Int), LsAt H1 acc (css.map (·.map V.int)) ∧ css.flatten.length ≤ 2 * i) S ⟨Same.refl _, rfl, [], ⟨rfl, fun i r xs h => by cases h⟩, Nat.le_refl _⟩ (fun i acc L H1 l H2 ⟨s, _⟩ S2 => Same.tup (s.trans S2.same) h2) (Same.tup S.same h2) ?_ ?_
  · rintro i x acc L H1 l H2 hxi ⟨s1, rfl, css, hls, hlc⟩ S2 hz
    have hi := (List.getElem?_eq_some_iff.mp hxi).1
    walk_at "lct"
    walk_at "go"
    refine ⟨3, _, by decide, (hr2 x (List.mem_of_getElem? hxi)).same (s1.trans S2.same), ?_⟩
    walk_at "go"
    refine ⟨Same.refl _, rfl, fun p H3 cs s3 n3 e3 l3 => ?_⟩
    obtain ⟨S4, s4, e4⟩ := (S2.add s3 n3 e3).keepT
    refine yes S4 hz (by omega) ⟨s1.trans s4, rfl, css ++ [cs], ?_, ?_⟩
    · rw [List.map_append]
      exact (hls.same s4).snoc e4
    · rw [List.flatten_append, List.length_append]
      have : [cs].flatten.length = cs.length := by simp
      omega
  · rintro L acc H1 l H2 ⟨s1, rfl, css, hls, hlc⟩ hz S2
    walk_at "go"
    refine g_new S2 fun b H3 S3 => ?_
    walk_at "go"
    have e1 : (css.map (·.map V.int)).flatten = css.flatten.map V.int := List.map_flatten.symm
    refine ⟨L, b, acc, css.map (·.map V.int), rfl, rfl, S3.g1, S3.g0, hls.same S3.same, by rw [e1, List.length_map]; omega, fun p H4 s4 n4 e4 => ?_⟩
    rw [e1] at e4
    have all := s1.trans (S3.same.trans s4)
    refine k p H4 css.flatten all ?_ e4 (by omega)
    rcases n4 with e | n4
    · rw [e]; exact s1.free S3.out0
    · exact (s1.trans S3.same).free n4

def sp_Both_allows (P : Program) (w : World) (K : PySem.W.Frag) (mg : Str → Option Value) (base : Heap) : Sp := sp2 fun x y H Q _ => ∃ a dx t rs m, x = .ref a ∧ H a = some (.ins (He.ga K "Both") dx (fl_Both (.ref t))) ∧ SqT K H t rs ∧ rs.length ≤ 1000 ∧ (∀ r ∈ rs, AlK P w K mg base 3 H r) ∧ y = .int m ∧ ∀ r, Ret (.bl r) H Q
theorem ok_Both_allows (T : Top K mg) : Met P w K mg base 4 (He.ga K "Both") "allows" (sp_Both_allows P w K mg base) [] := by
  obtain ⟨fd, F⟩ := F_Both_allows T
  refine met_of F (c_Both T) (m_Both_allows T) (fun _ _ _ _ _ _ us hl => match us, hl with | [_, _], _ => rfl) sc_Both_allows len2 (k := 3) ?_
  rintro cdv A outer s H vs Q E hr ⟨v0, v1, rfl, h⟩
  refine ⟨_, (pss_one (ps_ret (pe_callB (allk K rfl) rfl (fr_all T) PyProof.Rows.boot_all (pa_cons (pe_lc (own := [("rule", 2)]) (g := gName 2) (by rfl) sc_Both_allows.nd (pi_tup (fldk K (pv 0) rfl)) (blkOk_by (own := [("rule", 2)]) (N := ["self", "minute", "rule"]) (sc := defScope s_Both_allows) (by decide +kernel)) (fun _ _ _ _ _ => (pg_name (i := 2) sc_Both_allows.nd rfl (by first | exact Or.inl rfl | exact Or.inr rfl))) (fun _ _ _ _ _ => pts_nil) (fun _ _ _ _ _ => (dynk P w K mg base rfl rfl rfl rfl rfl hr (pv 2) (pa_cons (pv 1) pa_nil)))) pa_nil)))), ?_⟩
  try dsimp only [cxOf]
  rw [show start ["self", "minute", "rule"] [v0, v1] = [some v0, some v1, none] from rfl]
  obtain ⟨a, dx, t, rs, m, rfl, h1, h2, hl, hr2, rfl, k⟩ := h
  have S := SH.rfl' (H := H)
  walk_at "go"
  refine lc_U (xs := rs) (fun i acc H1 l => H1 = H ∧ l = [] ∧ ∃ bs : List Bool, acc = bs.map V.bl) S ⟨rfl, rfl, [], rfl⟩ (fun i acc L H1 l H2 ⟨e, _⟩ S2 => by subst e; exact Same.tup S2.same h2) (Same.tup S.same h2) ?_ ?_
  · rintro i x acc L H1 l H2 hxi ⟨rfl, rfl, bs, rfl⟩ S2 hz
    have hi := (List.getElem?_eq_some_iff.mp hxi).1
    walk_at "lct"
    walk_at "go"
    refine ⟨3, _, Nat.le_refl _, (hr2 x (List.mem_of_getElem? hxi)).same S2.same, ?_⟩
    walk_at "go"
    refine ⟨Same.refl _, m, rfl, fun b => g_retV S2 fun H3 S3 => ?_⟩
    exact yes S3 hz (by omega) ⟨rfl, rfl, bs ++ [b], by rw [List.map_append] <;> rfl⟩
  · rintro L acc H1 l H2 ⟨rfl, rfl, bs, rfl⟩ hz S2
    walk_at "go"
    exact ⟨L, bs, rfl, SqL.of S2.g0, k _ _ S2.same⟩
theorem al_Both (T : Top K mg) {H : Hp} {a dx t : Addr} {rs : List V} (h : H a = some (.ins (He.ga K "Both") dx (fl_Both (.ref t)))) (h2 : SqT K H t rs) (hl : rs.length ≤ 1000) (h3 : ∀ r ∈ rs, AlK P w K mg base 3 H r) : AlK P w K mg base 4 H (.ref a) :=
  (ok_Both_allows T).dyn h rfl fun H' vs Q E s ⟨m, e, k⟩ => by subst e; exact ⟨_, _, rfl, a, dx, t, rs, m, rfl, s _ _ h, Same.tup s h2, hl, fun r hr => (h3 r hr).same s, rfl, k⟩
def sp_Both_clocks (P : Program) (w : World) (K : PySem.W.Frag) (mg : Str → Option Value) (base : Heap) : Sp := sp1 fun x H Q _ => ∃ a dx t rs, x = .ref a ∧ H a = some (.ins (He.ga K "Both") dx (fl_Both (.ref t))) ∧ SqT K H t rs ∧ rs.length ≤ 10 ∧ (∀ r ∈ rs, ClK P w K mg base 3 2 H r) ∧ gCl 20 [] H Q
theorem ok_Both_clocks (T : Top K mg) : Met P w K mg base 5 (He.ga K "Both") "clocks" (sp_Both_clocks P w K mg base) [] := by
  obtain ⟨fd, F⟩ := F_Both_clocks T
  refine met_of F (c_Both T) (m_Both_clocks T) (fun _ _ _ _ _ _ us hl => match us, hl with | [_], _ => rfl) sc_Both_clocks len1 (k := 4) ?_
  rintro cdv A outer s H vs Q E hr ⟨v0, rfl, h⟩
  refine ⟨_, (pss_one (ps_ret (pe_f (ok_clocks_of T) hr (by decide) rfl (pa_cons (fldk K (pv 0) rfl) pa_nil)))), ?_⟩
  try dsimp only [cxOf]
  rw [show start ["self"] [v0] = [some v0] from rfl]
  obtain ⟨a, dx, t, rs, rfl, h1, h2, hl, hr2, _, k⟩ := h
  have S := SH.rfl' (H := H)
  walk_at "go"
  exact ⟨_, rfl, t, rs, rfl, h2, hl, hr2, rfl, k⟩
theorem cl_Both (T : Top K mg) {H : Hp} {a dx t : Addr} {rs : List V} (h : H a = some (.ins (He.ga K "Both") dx (fl_Both (.ref t)))) (h2 : SqT K H t rs) (hl : rs.length ≤ 10) (h3 : ∀ r ∈ rs, ClK P w K mg base 3 2 H r) : ClK P w K mg base 5 20 H (.ref a) :=
  (ok_Both_clocks T).dyn h rfl fun H' vs Q E s ⟨e, k⟩ => by subst e; exact ⟨_, rfl, a, dx, t, rs, rfl, s _ _ h, Same.tup s h2, hl, fun r hr => (h3 r hr).same s, rfl, k⟩

def sp_Either_allows (P : Program) (w : World) (K : PySem.W.Frag) (mg : Str → Option Value) (base : Heap) : Sp := sp2 fun x y H Q _ => ∃ a dx t rs m, x = .ref a ∧ H a = some (.ins (He.ga K "Either") dx (fl_Either (.ref t))) ∧ SqT K H t rs ∧ rs.length ≤ 1000 ∧ (∀ r ∈ rs, AlK P w K mg base 3 H r) ∧ y = .int m ∧ ∀ r, Ret (.bl r) H Q
theorem ok_Either_allows (T : Top K mg) : Met P w K mg base 4 (He.ga K "Either") "allows" (sp_Either_allows P w K mg base) [] := by
  obtain ⟨fd, F⟩ := F_Either_allows T
  refine met_of F (c_Either T) (m_Either_allows T) (fun _ _ _ _ _ _ us hl => match us, hl with | [_, _], _ => rfl) sc_Either_allows len2 (k := 3) ?_
  rintro cdv A outer s H vs Q E hr ⟨v0, v1, rfl, h⟩
  refine ⟨_, (pss_one (ps_ret (pe_callB (anyk K rfl) rfl (fr_any T) PyProof.Rows.boot_any (pa_cons (pe_lc (own := [("rule", 2)]) (g := gName 2) (by rfl) sc_Either_allows.nd (pi_tup (fldk K (pv 0) rfl)) (blkOk_by (own := [("rule", 2)]) (N := ["self", "minute", "rule"]) (sc := defScope s_Either_allows) (by decide +kernel)) (fun _ _ _ _ _ => (pg_name (i := 2) sc_Either_allows.nd rfl (by first | exact Or.inl rfl | exact Or.inr rfl))) (fun _ _ _ _ _ => pts_nil) (fun _ _ _ _ _ => (dynk P w K mg base rfl rfl rfl rfl rfl hr (pv 2) (pa_cons (pv 1) pa_nil)))) pa_nil)))), ?_⟩
  try dsimp only [cxOf]
  rw [show start ["self", "minute", "rule"] [v0, v1] = [some v0, some v1, none] from rfl]
  obtain ⟨a, dx, t, rs, m, rfl, h1, h2, hl, hr2, rfl, k⟩ := h
  have S := SH.rfl' (H := H)
  walk_at "go"
  refine lc_U (xs := rs) (fun i acc H1 l => H1 = H ∧ l = [] ∧ ∃ bs : List Bool, acc = bs.map V.bl) S ⟨rfl, rfl, [], rfl⟩ (fun i acc L H1 l H2 ⟨e, _⟩ S2 => by subst e; exact Same.tup S2.same h2) (Same.tup S.same h2) ?_ ?_
  · rintro i x acc L H1 l H2 hxi ⟨rfl, rfl, bs, rfl⟩ S2 hz
    have hi := (List.getElem?_eq_some_iff.mp hxi).1
    walk_at "lct"
    walk_at "go"
    refine ⟨3, _, Nat.le_refl _, (hr2 x (List.mem_of_getElem? hxi)).same S2.same, ?_⟩
    walk_at "go"
    refine ⟨Same.refl _, m, rfl, fun b => g_retV S2 fun H3 S3 => ?_⟩
    exact yes S3 hz (by omega) ⟨rfl, rfl, bs ++ [b], by rw [List.map_append] <;> rfl⟩
  · rintro L acc H1 l H2 ⟨rfl, rfl, bs, rfl⟩ hz S2
    walk_at "go"
    exact ⟨L, bs, rfl, SqL.of S2.g0, k _ _ S2.same⟩
theorem al_Either (T : Top K mg) {H : Hp} {a dx t : Addr} {rs : List V} (h : H a = some (.ins (He.ga K "Either") dx (fl_Either (.ref t)))) (h2 : SqT K H t rs) (hl : rs.length ≤ 1000) (h3 : ∀ r ∈ rs, AlK P w K mg base 3 H r) : AlK P w K mg base 4 H (.ref a) :=
  (ok_Either_allows T).dyn h rfl fun H' vs Q E s ⟨m, e, k⟩ => by subst e; exact ⟨_, _, rfl, a, dx, t, rs, m, rfl, s _ _ h, Same.tup s h2, hl, fun r hr => (h3 r hr).same s, rfl, k⟩
def sp_Either_clocks (P : Program) (w : World) (K : PySem.W.Frag) (mg : Str → Option Value) (base : Heap) : Sp := sp1 fun x H Q _ => ∃ a dx t rs, x = .ref a ∧ H a = some (.ins (He.ga K "Either") dx (fl_Either (.ref t))) ∧ SqT K H t rs ∧ rs.length ≤ 10 ∧ (∀ r ∈ rs, ClK P w K mg base 3 2 H r) ∧ gCl 20 [] H Q
theorem ok_Either_clocks (T : Top K mg) : Met P w K mg base 5 (He.ga K "Either") "clocks" (sp_Either_clocks P w K mg base) [] := by
  obtain ⟨fd, F⟩ := F_Either_clocks T
  refine met_of F (c_Either T) (m_Either_clocks T) (fun _ _ _ _ _ _ us hl => match us, hl with | [_], _ => rfl) sc_Either_clocks len1 (k := 4) ?_
  rintro cdv A outer s H vs Q E hr ⟨v0, rfl, h⟩
  refine ⟨_, (pss_one (ps_ret (pe_f (ok_clocks_of T) hr (by decide) rfl (pa_cons (fldk K (pv 0) rfl) pa_nil)))), ?_⟩
  try dsimp only [cxOf]
  rw [show start ["self"] [v0] = [some v0] from rfl]
  obtain ⟨a, dx, t, rs, rfl, h1, h2, hl, hr2, _, k⟩ := h
  have S := SH.rfl' (H := H)
  walk_at "go"
  exact ⟨_, rfl, t, rs, rfl, h2, hl, hr2, rfl, k⟩
theorem cl_Either (T : Top K mg) {H : Hp} {a dx t : Addr} {rs : List V} (h : H a = some (.ins (He.ga K "Either") dx (fl_Either (.ref t)))) (h2 : SqT K H t rs) (hl : rs.length ≤ 10) (h3 : ∀ r ∈ rs, ClK P w K mg base 3 2 H r) : ClK P w K mg base 5 20 H (.ref a) :=
  (ok_Either_clocks T).dyn h rfl fun H' vs Q E s ⟨e, k⟩ => by subst e; exact ⟨_, rfl, a, dx, t, rs, rfl, s _ _ h, Same.tup s h2, hl, fun r hr => (h3 r hr).same s, rfl, k⟩
end
end

/-! ## B25 -/
section
set_option maxHeartbeats 4000000
open PySem PySem.Spec PyProof.Rows L2








section
variable {K : PySem.W.Frag} {H : Hp} {Q : VK} {a : Addr} {x0 : V} {r : List V}
theorem g_slL1 (h : SqL K H a (x0 :: r)) (q : New (.lst r) H Q) : rSlL K (.ref a) (some 1) none H Q := by
  refine ⟨a, x0 :: r, rfl, h, ?_⟩
  have : cutV (x0 :: r) (some 1) none = r := by
    simp [cutV, HT.sIx]
  rw [this]
  exact q
end
section
variable {P : Program} {w : World} {K : PySem.W.Frag} {mg : Str → Option Value} {base : Heap}
def sp_edges_in (P : Program) (w : World) (K : PySem.W.Frag) (mg : Str → Option Value) (base : Heap) : Sp := sp2 fun x y H Q _ => ClK P w K mg base 5 20 H x ∧ StrAt K H y 0 30240 ∧
  ∀ p H1, ∀ es : List Int, Same H H1 → H p = none → H1 p = some (.lst (es.map V.int)) → es.Pairwise (· ≤ ·) → (∀ e ∈ es, 0 ≤ e ∧ e ≤ 30240) → es.length ≤ 900 → es ≠ [] → Q (.ref p) H1
theorem ok_edges_in (T : Top K mg) : Cal P w K mg base 6 "edges_in" (sp_edges_in P w K mg base) [] := by
  obtain ⟨fd, F⟩ := F_edges_in T
  refine cal_of F (g_edges_in T) (fun _ _ _ _ _ _ us hl => match us, hl with | [_, _], _ => rfl) sc_edges_in len2 (k := 5) ?_
  rintro cdv A outer s H vs Q E hr ⟨v0, v1, rfl, h⟩
  refine ⟨_, (pss_cons (ps_set (i := 2) sc_edges_in.nd rfl (by first | exact Or.inl rfl | exact Or.inr rfl) (pe_callB (L2.cr_sortedSet rfl) rfl (fr_sorted T) PyProof.Rows.boot_sorted (pa_cons (pe_callTy (cr_setL rfl) rfl (fr_set T) PyProof.Rows.boot_set (pa_cons (pe_op op_cat (pe_lst (pa_cons pe_int pa_nil)) (dynk0 P w K mg base rfl rfl rfl rfl rfl hr (pv 0))) pa_nil)) pa_nil)))
    (pss_cons (ps_set (i := 3) sc_edges_in.nd rfl (by first | exact Or.inl rfl | exact Or.inr rfl) (pe_lst (pa_cons (fldk K (pv 1) rfl) (pa_cons (fldk K (pv 1) rfl) pa_nil))))
    (pss_cons (ps_for PassesOwn.never rfl (pi_range2 rfl (fr_range T) (pa_cons (pe_op op_fdiv (fldk K (pv 1) rfl) (C8.pe_gc rfl (i_DAY T))) (pa_cons (pe_op op_add (pe_op op_fdiv (fldk K (pv 1) rfl) (C8.pe_gc rfl (i_DAY T))) pe_int) pa_nil))) (pg_name (i := 4) sc_edges_in.nd rfl (by first | exact Or.inl rfl | exact Or.inr rfl)) (pss_one (ps_for PassesOwn.never rfl (pi_list (pv 2)) (pg_name (i := 5) sc_edges_in.nd rfl (by first | exact Or.inl rfl | exact Or.inr rfl)) (pss_one (ps_if (pt_chain op_lt op_lt (fldk K (pv 1) rfl) (pe_op op_add (pe_op op_mul (pv 4) (C8.pe_gc rfl (i_DAY T))) (pv 5)) (fldk K (pv 1) rfl)) (pss_one (ps_expr (by exact (pe_bm PySem.F.plainAttrs_list PySem.F.slot_list_append PySem.F.type_list_append mt_append (pv 3) (pa_cons (pe_op op_add (pe_op op_mul (pv 4) (C8.pe_gc rfl (i_DAY T))) (pv 5)) pa_nil))))) pss_nil)))))
    (pss_one (ps_ret (pe_callB cr_sortedI rfl (fr_sorted T) PyProof.Rows.boot_sorted (pa_cons (pv 3) pa_nil))))))), ?_⟩
  try dsimp only [cxOf]
  rw [show start ["rule", "within", "clocks", "found", "day", "clock"] [v0, v1] = [some v0, some v1, none, none, none, none] from rfl]
  obtain ⟨hc, ⟨wa, wdx, rfl, hw⟩, k⟩ := h
  have S := SH.rfl' (H := H)
  walk_at "go"
  refine g_new S fun a1 H1 S1 => ?_
  walk_at "go"
  refine ⟨5, _, by decide, hc.same S1.same, ?_⟩
  walk_at "go"
  refine ⟨Same.refl _, rfl, fun p H2 cs s2 n2 e2 l2 => ?_⟩
  have S2 := S1.add s2 n2 e2
  walk_at "go"
  refine g_cat S2.g1 S2.g0 (by rw [List.length_map]; show 1 + cs.length ≤ sizeLine; exact Nat.le_trans (show 1 + cs.length ≤ 100 by omega) (by decide)) (g_new S2 fun a2 H3 S3 => ?_)
  have e3 : ([V.int 0] ++ cs.map V.int) = (0 :: cs).map V.int := rfl
  rw [e3] at S3
  walk_at "go"
  refine ⟨a2, 0 :: cs, rfl, SqL.of S3.g0, by rw [List.length_cons]; omega, fun q c hq hcq => ?_⟩
  have S4 := S3.new (o := SetO w q (fun j => decide (j ∈ 0 :: cs)) c) hq
  walk_at "go"
  refine ⟨q, _, c, rfl, S4.g0, by rw [List.length_cons] at hcq; omega, fun cl b h1 h2 h3 hb => ?_⟩
  have S5 := ((S4.new (o := .lst (cl.map V.int)) hb))
  obtain ⟨S6, s6, e6⟩ := S5.keepT
  have S7 := S6.tail.tail.tail.tail
  have lcl : cl.length ≤ 21 := by rw [h3]; rw [List.length_cons] at hcq; omega
  have hw7 := s6 _ _ hw
  walk_at "go"
  refine g_new S7 fun fo H8 S8 => ?_
  walk_at "go"
  obtain ⟨B0, hB0⟩ : ∃ B0, B0 = upd H b (.lst (cl.map V.int)) := ⟨_, rfl⟩
  rw [← hB0] at S8 hw7 s6 e6
  refine for_R2 (lo := 0 / 1440) (hi := 30240 / 1440 + 1) (fun i σ H0 l => (∃ o4 o5, σ = [some v0, some (.ref wa), some (.ref b), some (.ref fo), o4, o5]) ∧ H0 = B0 ∧ ∃ es : List Int, l = [(fo, .lst (es.map V.int))] ∧ (∀ e ∈ es, 0 ≤ e ∧ e ≤ 30240) ∧ es.length ≤ 2 + 21 * i ∧ es ≠ []) S8 (by omega) ⟨⟨_, _, rfl⟩, rfl, [0, 30240], rfl, fun e he => by
      simp only [List.mem_cons, List.not_mem_nil, or_false] at he
      rcases he with e1 | e1 <;> omega, by show 2 ≤ _; omega, List.cons_ne_nil _ _⟩ ?_ ?_
  · rintro i σ H0 l H' hi ⟨⟨o4, o5, rfl⟩, rfl, es, rfl, hes, hel, hne⟩ S'
    have hi22 : i < 22 := by omega
    walk_at "go"
    refine for_L (xs := cl.map V.int) (fun j σ H1 l => (∃ o5, σ = [some v0, some (.ref wa), some (.ref b), some (.ref fo), some (.int (0 / 1440 + (i : Int))), o5]) ∧ H1 = H0 ∧ ∃ es : List Int, l = [(fo, .lst (es.map V.int))] ∧ (∀ e ∈ es, 0 ≤ e ∧ e ≤ 30240) ∧ es.length ≤ 2 + 21 * i + j ∧ es ≠ []) S' ⟨⟨_, rfl⟩, rfl, es, rfl, hes, hel, hne⟩ (fun j σ H1 l H2 ⟨_, e, _⟩ S2 => by subst e; exact SqL.of (S2.rd e6)) ?_ ?_
    · rintro j x σ H1 l H2 hxj ⟨⟨o5, rfl⟩, rfl, es, rfl, hes, hel, hne⟩ S2
      rw [List.getElem?_map] at hxj
      obtain ⟨c2, hcj, rfl⟩ := Option.map_eq_some_iff.mp hxj
      have hj := (List.getElem?_eq_some_iff.mp hcj).1
      have lm : (es.map V.int).length ≤ 900 := by rw [List.length_map]; omega
      walk_at "go"
      refine w_d (fun h3 => ?_) (fun h3 => ?_)
      · walk_at "go"
        refine w_d (fun h4 => ?_) (fun h4 => ?_)
        · walk_at "go"
          refine S2.u0 fun H3 S3 => ?_
          refine ⟨_, _, S3, ⟨_, rfl⟩, rfl, es ++ [(0 / 1440 + (i : Int)) * 1440 + c2], by rw [List.map_append] <;> rfl, fun e he => ?_, by rw [List.length_append]; exact Nat.succ_le_succ hel, by simp⟩
          rcases List.mem_append.mp he with he | he
          · exact hes e he
          · rw [List.mem_singleton.mp he]; omega
        · walk_at "go"
          exact ⟨_, _, S2, ⟨_, rfl⟩, rfl, es, rfl, hes, by omega, hne⟩
      · walk_at "go"
        exact ⟨_, _, S2, ⟨_, rfl⟩, rfl, es, rfl, hes, by omega, hne⟩
    · rintro σ H1 l H2 ⟨⟨o5, rfl⟩, rfl, es, rfl, hes, hel, hne⟩ S2
      rw [List.length_map] at hel
      exact ⟨_, _, S2, ⟨_, _, rfl⟩, rfl, es, rfl, hes, by omega, hne⟩
  · rintro σ H0 l H' ⟨⟨o4, o5, rfl⟩, rfl, es, rfl, hes, hel, hne⟩ S'
    walk_at "go"
    refine ⟨fo, es, rfl, SqL.of S'.g0, fun ns p2 perm pw hp => ?_⟩
    have hel2 : es.length ≤ 2 + 21 * 22 := hel
    exact k p2 _ ns ((s6.trans S'.same).trans (Same.new hp)) ((s6.trans S'.same).free hp) upd_same pw (fun e he => hes e (perm.mem_iff.mp he)) (by rw [perm.length_eq]; omega) (fun z => by rw [z] at perm; exact hne (List.nil_perm.mp perm))
end
end

/-! ## B26 -/
section
set_option maxHeartbeats 4000000
open PySem PySem.Spec PyProof.Rows L2








section
variable {P : Program} {w : World} {K : PySem.W.Frag} {mg : Str → Option Value} {base : Heap}
theorem ok_joined (T : Top K mg) : Cal P w K mg base 4 "joined" (sp_joined K) [.int 0] := by
  obtain ⟨fd, F, k⟩ := fn_joined (P := P) (w := w) (base := base) T
  obtain ⟨ds, hv, hb⟩ := F.binds1 (ps := ["some", "apart"]) 1 0 (by decide) (by rfl) fun Td kV doc pm an cdv ct us its hl hi => by
    match us, hl, its, hi with
    | [_], _, [_], _ => exact ⟨_, rfl, rfl⟩
  exact ⟨_, _, _, ds, k, g_joined T, F.kp, hb, hv⟩
def sp_allowed_in (P : Program) (w : World) (K : PySem.W.Frag) (mg : Str → Option Value) (base : Heap) : Sp := sp2 fun x y H Q _ => AlK P w K mg base 4 H x ∧ ClK P w K mg base 5 20 H x ∧ StrAt K H y 0 30240 ∧ ∀ p rs H1, Same H H1 → H1 p = some (.lst rs) → (∀ y ∈ rs, SbAt K H1 y) → Q (.ref p) H1
theorem ok_allowed_in (T : Top K mg) : Cal P w K mg base 7 "allowed_in" (sp_allowed_in P w K mg base) [] := by
  obtain ⟨fd, F⟩ := F_allowed_in T
  refine cal_of F (g_allowed_in T) (fun _ _ _ _ _ _ us hl => match us, hl with | [_, _], _ => rfl) sc_allowed_in len2 (k := 6) ?_
  rintro cdv A outer s H vs Q E hr ⟨v0, v1, rfl, h⟩
  refine ⟨_, (pss_cons (ps_set (i := 2) sc_allowed_in.nd rfl (by first | exact Or.inl rfl | exact Or.inr rfl) (pe_f (ok_edges_in T) hr (by decide) rfl (pa_cons (pv 0) (pa_cons (pv 1) pa_nil))))
    (pss_cons (ps_setLc (i := 3) (own := [("first", 4), ("behind", 5)]) (by rfl) sc_allowed_in.nd rfl rfl (sw_true rfl rfl rfl (by decide +kernel)) (pi_zip rfl (fr_zip T) (pa_cons (pv 2) (pa_cons (pe_slice sl_list (pv 2) (po_some pe_int) po_none) pa_nil))) (blkOk_by (own := [("first", 4), ("behind", 5)]) (N := ["rule", "within", "edges", "found", "first", "behind"]) (sc := defScope s_allowed_in) (by decide +kernel)) (fun _ _ _ _ _ => (tupk K (n := 2) rfl (pgs_cons (pg_name (i := 4) sc_allowed_in.nd rfl (by first | exact Or.inl rfl | exact Or.inr rfl)) (pgs_cons (pg_name (i := 5) sc_allowed_in.nd rfl (by first | exact Or.inl rfl | exact Or.inr rfl)) pgs_nil)))) (fun _ _ _ _ _ => (pts_one (pt_val (dynk P w K mg base rfl rfl rfl rfl rfl hr (pv 0) (pa_cons (pv 4) pa_nil))))) (fun _ _ _ _ _ => (makk K rfl (ok_Stretch_init T) hr (by decide) rfl (pa_cons (pv 4) (pa_cons (pv 5) pa_nil)))))
    (pss_one (ps_ret (pe_f (ok_joined T) hr (by decide) rfl (pa_cons (pv 3) pa_nil)))))), ?_⟩
  try dsimp only [cxOf]
  rw [show start ["rule", "within", "edges", "found", "first", "behind"] [v0, v1] = [some v0, some v1, none, none, none, none] from rfl]
  obtain ⟨ha, hc, hw, k⟩ := h
  have S := SH.rfl' (H := H)
  walk_at "go"
  refine ⟨_, _, rfl, hc, hw, fun p H1 es s1 n1 e1 pw hes hel hne => ?_⟩
  obtain ⟨S1, s1', e1'⟩ := (S.add s1 n1 e1).keepT
  obtain ⟨x0, r, rfl⟩ : ∃ x0 r, es = x0 :: r := by
    cases es with
    | nil => exact absurd rfl hne
    | cons a b => exact ⟨a, b, rfl⟩
  walk_at "go"
  refine g_slL1 (SqL.of (S1.rd e1')) (g_new S1 fun q H2 S2 => ?_)
  obtain ⟨S3, s3, e3⟩ := S2.keepT
  walk_at "go"
  refine lc_Z (xs := (x0 :: r).map V.int) (ys := r.map V.int) (fun i acc H4 l => Same (upd (upd H p (.lst ((x0 :: r).map V.int))) q (.lst (r.map V.int))) H4 ∧ l = [] ∧ ∀ y ∈ acc, SbAt K H4 y) S3 ⟨Same.refl _, rfl, nofun⟩ (fun i acc L H1 l H2 ⟨s, _⟩ S2 => ⟨SqL.of (S2.rd (s _ _ (s3 _ _ e1'))), SqL.of (S2.rd (s _ _ e3))⟩) (SqL.of (S3.rd (s3 _ _ e1'))) (SqL.of (S3.rd e3)) ?_ ?_
  · rintro i x y Tq acc L H4 l H5 hx hy ⟨s4, rfl, hacc⟩ S4 hz
    rw [List.getElem?_map] at hx hy
    obtain ⟨f, hf, rfl⟩ := Option.map_eq_some_iff.mp hx
    obtain ⟨b, hb, rfl⟩ := Option.map_eq_some_iff.mp hy
    have hi := (List.getElem?_eq_some_iff.mp hf).1
    have hb' : (x0 :: r)[i + 1]? = some b := hb
    have hfb : f ≤ b := by
      obtain ⟨i1, rfl⟩ := List.getElem?_eq_some_iff.mp hf
      obtain ⟨i2, rfl⟩ := List.getElem?_eq_some_iff.mp hb'
      exact List.pairwise_iff_getElem.mp pw i (i + 1) i1 i2 (by omega)
    have f1 := hes f (List.mem_of_getElem? hf)
    have b1 := hes b (List.mem_of_getElem? hb')
    obtain ⟨S5, s5, e5⟩ := S4.keepT
    have all := s1'.trans (s3.trans (s4.trans (s5.trans S5.same)))
    walk_at "lct"
    walk_at "go"
    refine ⟨4, _, by decide, ha.same all, ?_⟩
    walk_at "go"
    refine ⟨Same.refl _, f, rfl, fun bb => g_retV S5 fun H6 S6 => ?_⟩
    cases bb with
    | false =>
      walk_at "go"
      exact no S6 hz ⟨s4.trans s5, rfl, fun y hy => (hacc y hy).same s5⟩
    | true =>
      walk_at "go"
      refine g_mk (vs := fun ws => ws ++ []) (ws := [.int f, .int b]) fun q2 dx B H7 sB SB => ?_
      refine ⟨_, _, _, rfl, q2, dx, B, f, b, rfl, rfl, rfl, hfb, SB, fun H8 S8 => ⟨rfl, ?_⟩⟩
      obtain ⟨S9, s9, e9⟩ := (S6.join sB S8).keepT
      refine yes S9 hz (by omega) ⟨s4.trans (s5.trans s9), rfl, fun y hy => ?_⟩
      rcases List.mem_append.mp hy with hy | hy
      · exact (hacc y hy).same (s5.trans s9)
      · rw [List.mem_singleton.mp hy]
        exact ⟨f, b, ⟨q2, dx, rfl, e9⟩, by omega, by omega⟩
  · rintro L acc H4 l H5 ⟨s4, rfl, hacc⟩ hz S4
    have lacc : acc.length ≤ 1000 := by
      rw [List.length_map, List.length_map] at hz
      have := Nat.min_le_left (x0 :: r).length r.length
      omega
    walk_at "go"
    exact ⟨_, _, rfl, L, acc, rfl, rfl, SqL.of S4.g0, lacc, fun y hy => (hacc y hy).same S4.same, fun p2 rs H6 s6 e6 hrs => k p2 rs H6 (s1'.trans (s3.trans (s4.trans (S4.same.trans s6)))) e6 hrs⟩
end
end

/-! ## B27 -/
section
set_option maxHeartbeats 4000000
open PySem PySem.Spec PyProof.Rows L2








section
variable {P : Program} {w : World} {K : PySem.W.Frag} {mg : Str → Option Value} {base : Heap}
theorem mk_base {B B1 H1 : Hp} {p : Addr} {o : HO} {l : List (Addr × HO)} (S : SH B ((p, o) :: l) H1) : SH (del H1 p) [(p, o)] H1 ∧ Same B (del H1 p) :=
  ⟨⟨fun b u e => by
      by_cases q : b = p
      · rw [q, del_same] at e; cases e
      · rw [del_ne q] at e; exact e, fun q m => by rw [List.mem_singleton.mp m]; exact S.g0, List.nodup_cons.mpr ⟨List.not_mem_nil, .nil⟩, fun q m => by rw [List.mem_singleton.mp m]; exact del_same⟩,
    fun b u e => by
      have : b ≠ p := fun q => by rw [q, S.out0] at e; cases e
      rw [del_ne this]; exact S.same _ _ e⟩
theorem g_mkR {C : Addr} {sp : Sp} {H : Hp} {R : Addr → Hp → Prop} {E : XK} {ws : List V} (k : ∀ p dx B H1, Same H B → SH B [(p, .ins C dx [])] H1 → sp (.ref p :: ws) H1 (fun v H2 => v = .non ∧ R p H2) E) :
    ∀ x dx, H x = none → H dx = none → dx ≠ x → sp (.ref x :: ws) (upd (upd H dx (.own x)) x (.ins C dx [])) (fun v H2 => v = .non ∧ R x H2) E := fun x dx h1 h2 ne => by
  refine k x dx (upd H dx (.own x)) _ (Same.new h2) ⟨?_, fun p m => ?_, ?_, fun p m => ?_⟩
  · exact Same.new (by rw [upd_ne (Ne.symm ne)]; exact h1)
  · rw [List.mem_singleton.mp m]; exact upd_same
  · exact List.nodup_cons.mpr ⟨List.not_mem_nil, .nil⟩
  · rw [List.mem_singleton.mp m, upd_ne (Ne.symm ne)]; exact h1
def sp_Week_init (P : Program) (w : World) (K : PySem.W.Frag) (mg : Str → Option Value) (base : Heap) : Sp := sp2 fun x y H Q _ => ∃ p dx B, x = .ref p ∧ SH B [(p, .ins (He.ga K "Week") dx [])] H ∧ (y = .non ∨ (AlK P w K mg base 4 B y ∧ ClK P w K mg base 5 20 B y)) ∧
  ∀ B' H' r rs, Same B B' → SH B' [(p, .ins (He.ga K "Week") dx (fl_Week (.ref r)))] H' → B' r = some (.lst rs) → (∀ y ∈ rs, SbAt K B' y) → Q .non H'
theorem ok_Week_init (T : Top K mg) : Mak P w K mg base 8 "Week" (sp_Week_init P w K mg base) [] := by
  obtain ⟨fd, F⟩ := F_Week_init T
  refine mak_of F (g_Week T) (mk_Week T) (fun _ _ _ _ _ _ us hl => match us, hl with | [_, _], _ => rfl) sc_Week_init len2 (k := 7) ?_
  rintro cdv A outer s H vs Q E hr ⟨v0, v1, rfl, h⟩
  refine ⟨_, (pss_cons (ps_set (i := 2) sc_Week_init.nd rfl (by first | exact Or.inl rfl | exact Or.inr rfl) (makk0 K rfl (ok_Stretch_0_first_behind T) hr (by decide) rfl (pk_cons pe_int (pk_cons (pe_op op_mul (C8.pe_gc rfl (i_WEEKS_LOOKED T)) (C8.pe_gc rfl (i_WEEK T))) pk_nil))))
    (pss_one (ps_fld (pv 0) (pe_ifExp (pt_cmpR op_isN1 (pv 1) pe_non (nomark _)) (pe_lst (pa_cons (pv 2) pa_nil)) (pe_f (ok_allowed_in T) hr (by decide) rfl (pa_cons (pv 1) (pa_cons (pv 2) pa_nil)))) rfl))), ?_⟩
  try dsimp only [cxOf]
  rw [show start ["self", "rule", "whole"] [v0, v1] = [some v0, some v1, none] from rfl]
  obtain ⟨p, dx, B, rfl, S, hv, k⟩ := h
  walk_at "go"
  refine ⟨rfl, rfl, g_mkR (ws := [.int 0, .int (3 * 10080)]) fun q dq B1 H1 sB SB => ?_⟩
  refine ⟨_, _, _, rfl, q, dq, B1, 0, 30240, rfl, rfl, rfl, by decide, SB, fun H2 S2 => ⟨rfl, ?_⟩⟩
  obtain ⟨S3, s3, e3⟩ := (S.join sB S2).keepT
  have hsb : SbAt K (upd B q (.ins (He.ga K "Stretch") dq (fl_Stretch (.int 0) (.int 30240)))) (.ref q) := ⟨0, 30240, ⟨q, dq, rfl, e3⟩, by decide, by decide⟩
  walk_at "go"
  by_cases hn : v1 = .non
  · subst hn
    walk_at "go"
    refine g_new S3 fun r H4 S4 => ?_
    obtain ⟨S5, s5, e5⟩ := S4.keepT
    walk_at "go"
    refine S5.u0 fun H6 S6 => ?_
    walk_at "go"
    exact k _ _ r [.ref q] (s3.trans s5) S6 e5 fun y hy => by rw [List.mem_singleton.mp hy]; exact hsb.same s5
  · obtain ⟨ha, hc⟩ := hv.resolve_left hn
    refine w_dF hn ?_
    walk_at "go"
    have all := s3.trans S3.same
    refine ⟨_, _, rfl, ha.same all, hc.same all, ⟨q, dq, rfl, S3.rd e3⟩, fun r rs H4 s4 e4 hrs => ?_⟩
    have S5 := S3.call s4
    obtain ⟨S6, s6⟩ := mk_base (B1 := B) S5
    have hrp : r ≠ p := fun z => by rw [z, S5.g0] at e4; cases e4
    have e6 : (del H4 p) r = some (.lst rs) := by rw [del_ne hrp]; exact e4
    have hrs6 : ∀ y ∈ rs, SbAt K (del H4 p) y := fun y hy => by
      obtain ⟨i, j, ⟨a, dx2, e, h⟩, b1, b2⟩ := hrs y hy
      refine ⟨i, j, ⟨a, dx2, e, ?_⟩, b1, b2⟩
      have : a ≠ p := fun z => by
        rw [z, S5.g0] at h
        have h := Option.some.inj h
        injection h with h1 h2 h3
        cases h3
      rw [del_ne this]; exact h
    walk_at "go"
    refine S6.u0 fun H7 S7 => ?_
    walk_at "go"
    exact k _ _ r rs (s3.trans s6) S7 e6 hrs6
end
end

/-! ## B28 -/
section
set_option maxHeartbeats 4000000
open PySem PySem.Spec PyProof.Rows L2








section
variable {P : Program} {w : World} {K : PySem.W.Frag} {mg : Str → Option Value} {base : Heap}

def sp_Hours_init (K : PySem.W.Frag) : Sp := sp3 fun x y z H Q _ => ∃ p dx B, x = .ref p ∧ SH B [(p, .ins (He.ga K "Hours") dx [])] H ∧ ∀ H', SH B [(p, .ins (He.ga K "Hours") dx (fl_Hours y z))] H' → Q .non H'
theorem ok_Hours_init (T : Top K mg) : Mak P w K mg base 2 "Hours" (sp_Hours_init K) [] := by
  obtain ⟨fd, F⟩ := F_Hours_init T
  refine mak_of F (g_Hours T) (mk_Hours T) (fun _ _ _ _ _ _ us hl => match us, hl with | [_, _, _], _ => rfl) sc_Hours_init len3 (k := 1) ?_
  rintro cdv A outer s H vs Q E hr ⟨v0, v1, v2, rfl, h⟩
  refine ⟨_, (pss_cons (ps_fld (pv 0) (pv 1) rfl)
    (pss_one (ps_fld (pv 0) (pv 2) rfl))), ?_⟩
  try dsimp only [cxOf]
  rw [show start ["self", "first", "behind"] [v0, v1, v2] = [some v0, some v1, some v2] from rfl]
  obtain ⟨p, dx, B, rfl, S, k⟩ := h
  walk_at "go"
  refine S.u0 fun H1 S1 => ?_
  walk_at "go"
  refine S1.u0 fun H2 S2 => ?_
  walk_at "go"
  exact k _ S2

def sp_Boat_init (K : PySem.W.Frag) : Sp := sp3 fun x y z H Q _ => ∃ p dx B, x = .ref p ∧ SH B [(p, .ins (He.ga K "Boat") dx [])] H ∧ ∀ H', SH B [(p, .ins (He.ga K "Boat") dx (fl_Boat y z))] H' → Q .non H'
theorem ok_Boat_init (T : Top K mg) : Mak P w K mg base 2 "Boat" (sp_Boat_init K) [] := by
  obtain ⟨fd, F⟩ := F_Boat_init T
  refine mak_of F (g_Boat T) (mk_Boat T) (fun _ _ _ _ _ _ us hl => match us, hl with | [_, _, _], _ => rfl) sc_Boat_init len3 (k := 1) ?_
  rintro cdv A outer s H vs Q E hr ⟨v0, v1, v2, rfl, h⟩
  refine ⟨_, (pss_cons (ps_fld (pv 0) (pv 1) rfl)
    (pss_one (ps_fld (pv 0) (pv 2) rfl))), ?_⟩
  try dsimp only [cxOf]
  rw [show start ["self", "name", "bears"] [v0, v1, v2] = [some v0, some v1, some v2] from rfl]
  obtain ⟨p, dx, B, rfl, S, k⟩ := h
  walk_at "go"
  refine S.u0 fun H1 S1 => ?_
  walk_at "go"
  refine S1.u0 fun H2 S2 => ?_
  walk_at "go"
  exact k _ S2

def sp_Unless_init (K : PySem.W.Frag) : Sp := sp2 fun x y H Q _ => ∃ p dx B, x = .ref p ∧ SH B [(p, .ins (He.ga K "Unless") dx [])] H ∧ ∀ H', SH B [(p, .ins (He.ga K "Unless") dx (fl_Unless y))] H' → Q .non H'
theorem ok_Unless_init (T : Top K mg) : Mak P w K mg base 2 "Unless" (sp_Unless_init K) [] := by
  obtain ⟨fd, F⟩ := F_Unless_init T
  refine mak_of F (g_Unless T) (mk_Unless T) (fun _ _ _ _ _ _ us hl => match us, hl with | [_, _], _ => rfl) sc_Unless_init len2 (k := 1) ?_
  rintro cdv A outer s H vs Q E hr ⟨v0, v1, rfl, h⟩
  refine ⟨_, (pss_one (ps_fld (pv 0) (pv 1) rfl)), ?_⟩
  try dsimp only [cxOf]
  rw [show start ["self", "rule"] [v0, v1] = [some v0, some v1] from rfl]
  obtain ⟨p, dx, B, rfl, S, k⟩ := h
  walk_at "go"
  refine S.u0 fun H1 S1 => ?_
  walk_at "go"
  exact k _ S1

def sp_Days_init (K : PySem.W.Frag) : Sp := sp2 fun x y H Q _ => ∃ p dx B t rs, x = .ref p ∧ y = .ref t ∧ SqT K B t rs ∧ SH B [(p, .ins (He.ga K "Days") dx [])] H ∧ ∀ H', SH B [(p, .ins (He.ga K "Days") dx (fl_Days (.ref t)))] H' → Q .non H'
theorem ok_Days_init (T : Top K mg) : Mak P w K mg base 2 "Days" (sp_Days_init K) [] := by
  obtain ⟨fd, F⟩ := F_Days_init T
  refine mak_of F (g_Days T) (mk_Days T) (fun _ _ _ _ _ _ us hl => match us, hl with | [_, _], _ => rfl) sc_Days_init len2 (k := 1) ?_
  rintro cdv A outer s H vs Q E hr ⟨v0, v1, rfl, h⟩
  refine ⟨_, (pss_one (ps_fld (pv 0) (pe_callTy (tplk K) rfl (fr_tuple T) PyProof.Rows.boot_tuple (pa_cons (pv 1) pa_nil)) rfl)), ?_⟩
  try dsimp only [cxOf]
  rw [show start ["self", "days"] [v0, v1] = [some v0, some v1] from rfl]
  obtain ⟨p, dx, B, t, rs, rfl, rfl, ht, S, k⟩ := h
  walk_at "go"
  refine S.u0 fun H1 S1 => ?_
  walk_at "go"
  exact k _ S1

def sp_Both_init (K : PySem.W.Frag) : Sp := sp2 fun x y H Q _ => ∃ p dx B t rs, x = .ref p ∧ y = .ref t ∧ SqT K B t rs ∧ SH B [(p, .ins (He.ga K "Both") dx [])] H ∧ ∀ H', SH B [(p, .ins (He.ga K "Both") dx (fl_Both (.ref t)))] H' → Q .non H'
theorem ok_Both_init (T : Top K mg) : Mak P w K mg base 2 "Both" (sp_Both_init K) [] := by
  obtain ⟨fd, F⟩ := F_Both_init T
  refine mak_of F (g_Both T) (mk_Both T) (fun _ _ _ _ _ _ us hl => match us, hl with | [_, _], _ => rfl) sc_Both_init len2 (k := 1) ?_
  rintro cdv A outer s H vs Q E hr ⟨v0, v1, rfl, h⟩
  refine ⟨_, (pss_one (ps_fld (pv 0) (pe_callTy (tplk K) rfl (fr_tuple T) PyProof.Rows.boot_tuple (pa_cons (pv 1) pa_nil)) rfl)), ?_⟩
  try dsimp only [cxOf]
  rw [show start ["self", "rules"] [v0, v1] = [some v0, some v1] from rfl]
  obtain ⟨p, dx, B, t, rs, rfl, rfl, ht, S, k⟩ := h
  walk_at "go"
  refine S.u0 fun H1 S1 => ?_
  walk_at "go"
  exact k _ S1

def sp_Either_init (K : PySem.W.Frag) : Sp := sp2 fun x y H Q _ => ∃ p dx B t rs, x = .ref p ∧ y = .ref t ∧ SqT K B t rs ∧ SH B [(p, .ins (He.ga K "Either") dx [])] H ∧ ∀ H', SH B [(p, .ins (He.ga K "Either") dx (fl_Either (.ref t)))] H' → Q .non H'
theorem ok_Either_init (T : Top K mg) : Mak P w K mg base 2 "Either" (sp_Either_init K) [] := by
  obtain ⟨fd, F⟩ := F_Either_init T
  refine mak_of F (g_Either T) (mk_Either T) (fun _ _ _ _ _ _ us hl => match us, hl with | [_, _], _ => rfl) sc_Either_init len2 (k := 1) ?_
  rintro cdv A outer s H vs Q E hr ⟨v0, v1, rfl, h⟩
  refine ⟨_, (pss_one (ps_fld (pv 0) (pe_callTy (tplk K) rfl (fr_tuple T) PyProof.Rows.boot_tuple (pa_cons (pv 1) pa_nil)) rfl)), ?_⟩
  try dsimp only [cxOf]
  rw [show start ["self", "rules"] [v0, v1] = [some v0, some v1] from rfl]
  obtain ⟨p, dx, B, t, rs, rfl, rfl, ht, S, k⟩ := h
  walk_at "go"
  refine S.u0 fun H1 S1 => ?_
  walk_at "go"
  exact k _ S1
end
end

/-! ## B29 -/
section
set_option maxHeartbeats 4000000
open PySem PySem.Spec PyProof.Rows L2








section
variable {P : Program} {w : World} {K : PySem.W.Frag} {mg : Str → Option Value} {base : Heap}
theorem g_isiBoat (T : Top K mg) {H : Hp} {a dx : Addr} {fs : List (Str × V)} {Q : VK} (h : H a = some (.ins (He.ga K "Boat") dx fs)) (q : Q (.bl true) H) : rIsi K [.ref a, .ref (He.ga K "Boat")] H Q := by
  have e := (exs T).1.2
  unfold isiB at e
  simp only [Bool.and_eq_true, decide_eq_true_eq] at e
  exact g_isi (.own _) (.base (.ins h (c_Boat T) e.1.1.1.1 e.1.1.1.2 e.1.1.2 e.1.2)) e.2 q
def BtAt (K : PySem.W.Frag) (H : Hp) (x : V) (p : Str × Int) : Prop := ∃ a dx, x = .ref a ∧ H a = some (.ins (He.ga K "Boat") dx (fl_Boat (.str p.1) (.int p.2)))
theorem BtAt.same {H H' : Hp} {x : V} {p : Str × Int} (s : Same H H') (h : BtAt K H x p) : BtAt K H' x p := let ⟨a, dx, e, q⟩ := h; ⟨a, dx, e, s _ _ q⟩
def sp_are_boats (K : PySem.W.Frag) : Sp := sp1 fun x H Q _ => ∃ a xs, ∃ ps : List (Str × Int), x = .ref a ∧ H a = some (.lst xs) ∧ Paired (BtAt K H) xs ps ∧ 1 ≤ ps.length ∧ ps.length ≤ 10 ∧ (ps.map (·.1)).Nodup ∧ Ret (.bl true) H Q
theorem ok_are_boats (T : Top K mg) : Cal P w K mg base 2 "are_boats" (sp_are_boats K) [] := by
  obtain ⟨fd, F⟩ := F_are_boats T
  refine cal_of F (g_are_boats T) (fun _ _ _ _ _ _ us hl => match us, hl with | [_], _ => rfl) sc_are_boats len1 (k := 1) ?_
  rintro cdv A outer s H vs Q E hr ⟨v0, rfl, h⟩
  refine ⟨_, (pss_cons (ps_if (PW.pt (pw_or (pt_not (pt_val (pe_callB (isik K) rfl (fr_isinstance T) PyProof.Rows.boot_isinstance (pa_cons (pv 0) (pa_cons (pe_bltn (v := .ty "list") rfl (fr_list T) PyProof.Rows.boot_list rfl) pa_nil))))) (pw_or1 (pt_not (pt_chain op_le op_le pe_int (pe_callB (lenk K) rfl (fr_len T) PySem.boot_len (pa_cons (pv 0) pa_nil)) (C8.pe_gc rfl (i_MOST_BOATS T))))))) (pss_one (ps_ret pe_bl)) pss_nil)
    (pss_cons (ps_if (pt_not (pt_val (pe_callB (allk K rfl) rfl (fr_all T) PyProof.Rows.boot_all (pa_cons (pe_lc (own := [("one", 1)]) (g := gName 1) (by rfl) sc_are_boats.nd (pi_list (pv 0)) (blkOk_by (own := [("one", 1)]) (N := ["thing", "one", "boat"]) (sc := defScope s_are_boats) (by decide +kernel)) (fun _ _ _ _ _ => (pg_name (i := 1) sc_are_boats.nd rfl (by first | exact Or.inl rfl | exact Or.inr rfl))) (fun _ _ _ _ _ => pts_nil) (fun _ _ _ _ _ => (pe_callB (isik K) rfl (fr_isinstance T) PyProof.Rows.boot_isinstance (pa_cons (pv 1) (pa_cons (pe_glob (v := V.ref (He.ga K "Boat")) rfl (g_Boat T) rfl) pa_nil))))) pa_nil)))) (pss_one (ps_ret pe_bl)) pss_nil)
    (pss_one (ps_ret (pe_cmpR op_eq (pe_lenFs rfl (fr_len T) rfl (fr_frozenset T) (pe_lc (own := [("boat", 2)]) (g := gName 2) (by rfl) sc_are_boats.nd (pi_list (pv 0)) (blkOk_by (own := [("boat", 2)]) (N := ["thing", "one", "boat"]) (sc := defScope s_are_boats) (by decide +kernel)) (fun _ _ _ _ _ => (pg_name (i := 2) sc_are_boats.nd rfl (by first | exact Or.inl rfl | exact Or.inr rfl))) (fun _ _ _ _ _ => pts_nil) (fun _ _ _ _ _ => (fldk K (pv 2) rfl)))) (pe_callB (lenk K) rfl (fr_len T) PySem.boot_len (pa_cons (pv 0) pa_nil)) (nomark _)))))), ?_⟩
  try dsimp only [cxOf]
  rw [show start ["thing", "one", "boat"] [v0] = [some v0, none, none] from rfl]
  obtain ⟨a, xs, ps, rfl, hx, hp, l1, l2, nd, k⟩ := h
  have S := SH.rfl' (H := H)
  have le := Paired.length hp
  walk_at "go"
  refine w_dT (by omega) ?_
  walk_at "go"
  refine w_ndF (by omega) ?_
  walk_at "go"
  refine lc_L (xs := xs) (fun i acc H1 l => H1 = H ∧ l = [] ∧ acc = List.replicate i (V.bl true)) S ⟨rfl, rfl, rfl⟩ (fun i acc L H1 l H2 ⟨e, _⟩ S2 => by subst e; exact SqL.of (S2.rd hx)) (SqL.of hx) ?_ ?_
  · rintro i x acc L H1 l H2 hxi ⟨rfl, rfl, rfl⟩ S2 hz
    obtain ⟨p, hpi, ⟨b, dx, rfl, hb⟩⟩ := LiI.paired_get hp hxi
    have hi := (List.getElem?_eq_some_iff.mp hxi).1
    walk_at "lct"
    walk_at "go"
    refine g_isiBoat T (S2.rd hb) ?_
    exact yes S2 hz (by omega) ⟨rfl, rfl, List.replicate_succ'.symm⟩
  · rintro L acc H1 l H2 ⟨rfl, rfl, rfl⟩ hz S2
    walk_at "go"
    refine ⟨L, List.replicate xs.length true, rfl, SqL.of (by rw [List.map_replicate]; exact S2.g0), ?_⟩
    rw [all_rep]
    have S3 := S2.tail
    walk_at "go"
    refine lc_L (xs := xs) (fun i acc H3 l => H3 = H1 ∧ l = [] ∧ acc = ((ps.take i).map (·.1)).map V.str) S3 ⟨rfl, rfl, rfl⟩ (fun i acc L H8 l H9 ⟨e, _⟩ S9 => SqL.of (S9.rd (by rw [e]; exact hx))) (SqL.of (S3.rd hx)) ?_ ?_
    · rintro i x acc L H3 l H4 hxi ⟨rfl, rfl, rfl⟩ S4 hz
      obtain ⟨p, hpi, ⟨b, dx, rfl, hb⟩⟩ := LiI.paired_get hp hxi
      have hi := (List.getElem?_eq_some_iff.mp hxi).1
      walk_at "lct"
      walk_at "go"
      refine yes S4 hz (by omega) ⟨rfl, rfl, ?_⟩
      rw [List.take_add_one, hpi, List.map_append, List.map_append] <;> rfl
    · rintro L2 acc H3 l H4 ⟨rfl, rfl, rfl⟩ hz S4
      rw [le, List.take_length] at S4
      walk_at "go"
      refine ⟨L2, ps.map (·.1), rfl, SqL.of S4.g0, nd, by rw [List.length_map]; omega, ?_⟩
      walk_at "go"
      have e9 : decide (V.int ((ps.map (·.1)).length : Nat) = V.int (xs.length : Nat)) = true := decide_eq_true (by rw [List.length_map, le])
      rw [e9]
      exact k _ S4.same
def sp_are_spans (K : PySem.W.Frag) : Sp := sp2 fun x y H Q _ => ∃ a, ∃ ss : List Int, x = .ref a ∧ H a = some (.lst (ss.map V.int)) ∧ y = .int ss.length ∧ ss.length ≤ 100 ∧ (∀ s ∈ ss, 1 ≤ s ∧ s ≤ 1000000) ∧ Ret (.bl true) H Q
theorem ok_are_spans (T : Top K mg) : Cal P w K mg base 4 "are_spans" (sp_are_spans K) [] := by
  obtain ⟨fd, F⟩ := F_are_spans T
  refine cal_of F (g_are_spans T) (fun _ _ _ _ _ _ us hl => match us, hl with | [_, _], _ => rfl) sc_are_spans len2 (k := 3) ?_
  rintro cdv A outer s H vs Q E hr ⟨v0, v1, rfl, h⟩
  refine ⟨_, (pss_cons (ps_if (PW.pt (pw_or (pt_not (pt_val (pe_callB (isik K) rfl (fr_isinstance T) PyProof.Rows.boot_isinstance (pa_cons (pv 0) (pa_cons (pe_bltn (v := .ty "list") rfl (fr_list T) PyProof.Rows.boot_list rfl) pa_nil))))) (pw_or1 (pt_cmpR op_ne (pe_callB (lenk K) rfl (fr_len T) PySem.boot_len (pa_cons (pv 0) pa_nil)) (pv 1) (nomark _))))) (pss_one (ps_ret pe_bl)) pss_nil)
    (pss_one (ps_ret (pe_callB (allk K rfl) rfl (fr_all T) PyProof.Rows.boot_all (pa_cons (pe_lc (own := [("one", 2)]) (g := gName 2) (by rfl) sc_are_spans.nd (pi_list (pv 0)) (blkOk_by (own := [("one", 2)]) (N := ["thing", "many", "one"]) (sc := defScope s_are_spans) (by decide +kernel)) (fun _ _ _ _ _ => (pg_name (i := 2) sc_are_spans.nd rfl (by first | exact Or.inl rfl | exact Or.inr rfl))) (fun _ _ _ _ _ => pts_nil) (fun _ _ _ _ _ => (pe_f (ok_is_from_to T) hr (by decide) rfl (pa_cons (pv 2) (pa_cons pe_int (pa_cons (C8.pe_gc rfl (i_MOST_BORNE T)) pa_nil)))))) pa_nil))))), ?_⟩
  try dsimp only [cxOf]
  rw [show start ["thing", "many", "one"] [v0, v1] = [some v0, some v1, none] from rfl]
  obtain ⟨a, ss, rfl, hx, rfl, l1, hs, k⟩ := h
  have S := SH.rfl' (H := H)
  walk_at "go"
  refine w_ndF (by rw [List.length_map]) ?_
  walk_at "go"
  refine lc_L (xs := ss.map V.int) (fun i acc H1 l => H1 = H ∧ l = [] ∧ acc = List.replicate i (V.bl true)) S ⟨rfl, rfl, rfl⟩ (fun i acc L H1 l H2 ⟨e, _⟩ S2 => by subst e; exact SqL.of (S2.rd hx)) (SqL.of hx) ?_ ?_
  · rintro i x acc L H1 l H2 hxi ⟨rfl, rfl, rfl⟩ S2 hz
    rw [List.getElem?_map] at hxi
    obtain ⟨z, hzi, rfl⟩ := Option.map_eq_some_iff.mp hxi
    have hi := (List.getElem?_eq_some_iff.mp hzi).1
    obtain ⟨b1, b2⟩ := hs z (List.mem_of_getElem? hzi)
    walk_at "lct"
    walk_at "go"
    refine ⟨_, _, _, rfl, z, 1, 1000000, rfl, rfl, rfl, g_retV S2 fun H3 S3 => ?_⟩
    rw [decide_eq_true b1, decide_eq_true b2]
    exact yes S3 hz (by omega) ⟨rfl, rfl, List.replicate_succ'.symm⟩
  · rintro L acc H1 l H2 ⟨rfl, rfl, rfl⟩ hz S2
    walk_at "go"
    refine ⟨L, List.replicate (ss.map V.int).length true, rfl, SqL.of (by rw [List.map_replicate]; exact S2.g0), ?_⟩
    rw [all_rep]
    exact k _ S2.same
end
end

/-! ## B30 -/
section
set_option maxHeartbeats 4000000
open PySem PySem.Spec PyProof.Rows L2








section
variable {P : Program} {w : World} {K : PySem.W.Frag} {mg : Str → Option Value} {base : Heap}
/-- boats and spans a bridge may be made of -/
structure BrIn (K : PySem.W.Frag) (B : Hp) (bl sl : Addr) (xs : List V) (ps : List (Str × Int)) (ss : List Int) : Prop where
  bl : B bl = some (.lst xs)
  sl : B sl = some (.lst (ss.map V.int))
  bt : Paired (BtAt K B) xs ps
  l1 : 1 ≤ ps.length
  l2 : ps.length ≤ 10
  nd : (ps.map (·.1)).Nodup
  ls : ss.length = ps.length + 1
  ok : ∀ s ∈ ss, 1 ≤ s ∧ s ≤ 1000000
def sp_Bridge_init (K : PySem.W.Frag) : Sp := sp3 fun x y z H Q _ => ∃ p dx B bl sl xs ps ss, x = .ref p ∧ y = .ref bl ∧ z = .ref sl ∧ BrIn K B bl sl xs ps ss ∧ SH B [(p, .ins (He.ga K "Bridge") dx [])] H ∧
  ∀ B' H' lu be, Same B B' → SH B' [(p, .ins (He.ga K "Bridge") dx (fl_Bridge (.ref lu) (.ref be)))] H' → B' lu = some (.tup xs) → B' be = some (.tup (ss.map V.int)) → Q .non H'
theorem ok_Bridge_init (T : Top K mg) : Mak P w K mg base 5 "Bridge" (sp_Bridge_init K) [] := by
  obtain ⟨fd, F⟩ := F_Bridge_init T
  refine mak_of F (g_Bridge T) (mk_Bridge T) (fun _ _ _ _ _ _ us hl => match us, hl with | [_, _, _], _ => rfl) sc_Bridge_init len3 (k := 4) ?_
  rintro cdv A outer s H vs Q E hr ⟨v0, v1, v2, rfl, h⟩
  refine ⟨_, (pss_cons (ps_if (PW.pt (pw_or (pt_not (pt_val (pe_f (ok_are_boats T) hr (by decide) rfl (pa_cons (pv 1) pa_nil)))) (pw_or1 (pt_not (pt_val (pe_f (ok_are_spans T) hr (by decide) rfl (pa_cons (pv 2) (pa_cons (pe_op op_add (pe_callB (lenk K) rfl (fr_len T) PySem.boot_len (pa_cons (pv 1) pa_nil)) pe_int) pa_nil)))))))) (pss_one ps_never) pss_nil)
    (pss_cons (ps_fld (pv 0) (pe_callTy (tplk K) rfl (fr_tuple T) PyProof.Rows.boot_tuple (pa_cons (pv 1) pa_nil)) rfl)
    (pss_one (ps_fld (pv 0) (pe_callTy (tplk K) rfl (fr_tuple T) PyProof.Rows.boot_tuple (pa_cons (pv 2) pa_nil)) rfl)))), ?_⟩
  try dsimp only [cxOf]
  rw [show start ["self", "boats", "spans"] [v0, v1, v2] = [some v0, some v1, some v2] from rfl]
  obtain ⟨p, dx, B, bl, sl, xs, ps, ss, rfl, rfl, rfl, I, S, k⟩ := h
  have le := Paired.length I.bt
  have hbl := I.bl
  have hsl := I.sl
  walk_at "go"
  refine ⟨_, rfl, bl, xs, ps, rfl, S.rd I.bl, pair_mono (fun _ _ => BtAt.same S.same) I.bt, I.l1, I.l2, I.nd, g_retV S fun H1 S1 => ?_⟩
  walk_at "go"
  refine ⟨_, _, rfl, sl, ss, rfl, S1.rd I.sl, by rw [I.ls, le] <;> rfl, by have := I.ls; have := I.l2; omega, I.ok, g_retV S1 fun H2 S2 => ?_⟩
  walk_at "go"
  refine g_new S2 fun lu H3 S3 => ?_
  obtain ⟨S4, s4, e4⟩ := S3.keepT
  walk_at "go"
  refine S4.u0 fun H5 S5 => ?_
  have hsl5 := s4 _ _ I.sl
  walk_at "go"
  refine g_new S5 fun be H6 S6 => ?_
  obtain ⟨S7, s7, e7⟩ := S6.keepT
  walk_at "go"
  refine S7.u0 fun H8 S8 => ?_
  walk_at "go"
  exact k _ _ lu be (s4.trans s7) S8 (s7 _ _ e4) e7
end
end

/-! ## Ru4 -/
section
set_option maxHeartbeats 4000000
open PySem PySem.Spec PyProof.Rows L2
section
variable {X : Cx} {K : PySem.W.Frag} {σ r : L2.St} {H H0 : Hp} {Q rt : VK} {a p F : Addr} {l : List (Addr × HO)} {td te ty tx tk tv : TE} {tA : TA} {x y v w u : V} {i j m : Nat} {nx bk ct : L2.St → Hp → Prop} {z : Str} {ps : List (V × V)} {kvs : List (Key × V)}
  {y0 y1 y2 y3 y4 y5 y6 y7 y8 y9 y10 y11 y12 y13 y14 : Option V}
/-! two, three names at once -/
def ParP (i j : Nat) (vs : List V) (σ : L2.St) (H : Hp) (nx : L2.St → Hp → Prop) : Prop := ∃ v w, vs = [v, w] ∧ nx ((σ.set i (some v)).set j (some w)) H
theorem g_par (q : tA σ H fun vs H1 => ParP i j vs σ H1 nx) : tPar i j tA ⟨nx, rt, bk, ct⟩ σ H := q
theorem g_pp (q : gName i v σ H fun s1 H1 => gName j w s1 H1 nx) : ParP i j [v, w] σ H nx := ⟨v, w, rfl, q⟩
def Par3 (i j m : Nat) (vs : List V) (σ : L2.St) (H : Hp) (nx : L2.St → Hp → Prop) : Prop := ∃ u v w, vs = [u, v, w] ∧ nx (((σ.set i (some u)).set j (some v)).set m (some w)) H
theorem g_par3 (q : tA σ H fun vs H1 => Par3 i j m vs σ H1 nx) : tPar3 i j m tA ⟨nx, rt, bk, ct⟩ σ H := q
theorem g_pp3 (q : gName i u σ H fun s1 H1 => gName j v s1 H1 fun s2 H2 => gName m w s2 H2 nx) : Par3 i j m [u, v, w] σ H nx := ⟨u, v, w, rfl, q⟩
theorem g_n13 {n : L2.St → Hp → Prop} (q : n (y0 :: y1 :: y2 :: y3 :: y4 :: y5 :: y6 :: y7 :: y8 :: y9 :: y10 :: y11 :: y12 :: some v :: r) H) : gName 13 v (y0 :: y1 :: y2 :: y3 :: y4 :: y5 :: y6 :: y7 :: y8 :: y9 :: y10 :: y11 :: y12 :: y13 :: r) H n := q
theorem g_n14 {n : L2.St → Hp → Prop} (q : n (y0 :: y1 :: y2 :: y3 :: y4 :: y5 :: y6 :: y7 :: y8 :: y9 :: y10 :: y11 :: y12 :: y13 :: some v :: r) H) : gName 14 v (y0 :: y1 :: y2 :: y3 :: y4 :: y5 :: y6 :: y7 :: y8 :: y9 :: y10 :: y11 :: y12 :: y13 :: y14 :: r) H n := q
/-! displays of dicts -/
theorem merge_new : ∀ {ps acc : List (Key × V)}, (∀ q ∈ ps, valV acc q.1 = none) → (ps.map (·.1)).Nodup → mergeK acc ps = acc ++ ps
  | [], acc, _, _ => (List.append_nil _).symm
  | q :: r, acc, h, n => by
    obtain ⟨n1, n2⟩ := List.nodup_cons.mp (show (q.1 :: r.map (·.1)).Nodup from n)
    show mergeK (putK acc q.1 q.2) r = _
    rw [putK_new _ (h q (List.mem_cons_self ..)), merge_new (fun t ht => ?_) n2, List.append_assoc]
    · rfl
    · rw [valV_snoc q.1 t.1 q.2 acc (h q (List.mem_cons_self ..)), if_neg (fun z => n1 (by rw [← z]; exact List.mem_map.mpr ⟨t, ht, rfl⟩))]
      exact h t (List.mem_cons_of_mem _ ht)
def DiE (p : Addr) (ps : List (V × V)) (H : Hp) (Q : VK) : Prop := H p = some (.dK []) ∧ ∃ kvs : List (Key × V), ps = kvs.map (fun kv => (kV kv.1, kv.2)) ∧ kvs.length ≤ 15 ∧ Q (.ref p) (upd H p (.dK (mergeK [] kvs)))
def DispP (trs : List (TE × TE)) (σ : L2.St) (H : Hp) (Q : VK) : Prop := ∀ p, H p = none → tPairs trs σ (upd H p (.dK [])) fun ps H2 => DiE p ps H2 Q
theorem g_dsp {trs : List (TE × TE)} (q : DispP trs σ H Q) : tDisp trs σ H Q := q
theorem g_dsp_ {trs : List (TE × TE)} (S : SH H0 l H) (k : ∀ p H1, SH H0 ((p, .dK []) :: l) H1 → tPairs trs σ H1 fun ps H2 => DiE p ps H2 Q) : DispP trs σ H Q := fun p hp => k p _ (S.new hp)
theorem g_pnil {R : List (V × V) → Hp → Prop} (q : R [] H) : tPairs [] σ H R := q
theorem g_pcons {trs : List (TE × TE)} {R : List (V × V) → Hp → Prop} (q : tk σ H fun x H1 => tv σ H1 fun y H2 => tPairs trs σ H2 fun ps H3 => R ((x, y) :: ps) H3) : tPairs ((tk, tv) :: trs) σ H R := q
theorem g_die {kvs : List (Key × V)} (h : H p = some (.dK [])) (e : ps = kvs.map fun kv => (kV kv.1, kv.2)) (n : (kvs.map (·.1)).Nodup) (z : kvs.length ≤ 15) (q : Upd H p (.dK kvs) (Q (.ref p))) : DiE p ps H Q :=
  ⟨h, kvs, e, z, by rw [merge_new (fun _ _ => rfl) n]; exact q⟩
/-! d.get(k, x); dict(pairs) -/
def Dg2 (a : Addr) (y w : V) (H : Hp) (Q : VK) : Prop := ∃ o, DGet H a y o ∧ Q (o.getD w) H
theorem g_dget2 (q : td σ H fun x H1 => OnD x H1 fun a => ty σ H1 fun y H2 => tx σ H2 fun w H3 => Dg2 a y w H3 Q) : tDGet2 td ty tx σ H Q := q
theorem g_dg2S (h : H a = some (.dK kvs)) (q : Q ((valV kvs (Sum.inr z)).getD w) H) : Dg2 a (.str z) w H Q := ⟨_, .k (k := Sum.inr z) h, q⟩
def rDiP (K : PySem.W.Frag) : List V → Hp → VK → Prop := fun xs H Q => ∃ (a : Addr) (ps : List Addr) (kvs : List (Key × V)), xs = [.ref a] ∧ SqL K H a (ps.map V.ref) ∧ Paired (fun p kv => SqT K H p [kV kv.1, kv.2]) ps kvs ∧ New (.dK (mergeK [] kvs)) H Q
theorem cr_dictP (hc : X.calm = true) : CallR X (.type "dict") (rDiP X.K) := call_dictP hc
end
/-! slices, stores in lists -/
section
variable {K : PySem.W.Frag} {σ : L2.St} {H : Hp} {Q : VK} {a : Addr} {xs : List V} {lo hi : Option Int} {to ti : TE} {v : V} {z : Str} {ts : TSet} {n : L2.St → Hp → Prop}
theorem g_slL (h : SqL K H a xs) (q : New (.lst (cutV xs lo hi)) H Q) : rSlL K (.ref a) lo hi H Q := ⟨a, xs, rfl, h, q⟩
theorem g_slS (h : z.length ≤ 1000) (q : Q (.str (cutS z lo hi)) H) : rSlS (.str z) lo hi H Q := ⟨z, rfl, Nat.le_trans h (by decide), q⟩
theorem g_sub (q : to σ H fun o H1 => ti σ H1 fun i H2 => ts o i v H2 fun H3 => n σ H3) : gSub to ti ts v σ H n := q
end
/-! d[k] = v, k in d where k is a tuple -/
section
variable {H : Hp} {Q : VK} {a b : Addr} {kvs : List (List Key × V)} {k : List Key} {v : V} {z : Hp → Prop}
theorem g_dinT (h : H a = some (.dT kvs)) (hb : H b = some (.tup (k.map kV))) (q : Q (.bl (valV kvs k).isSome) H) : DiP (.ref b) (.ref a) H Q := ⟨a, _, rfl, .t h hb, q⟩
theorem g_dwT (h : H a = some (.dT kvs)) (hb : H b = some (.tup (k.map kV))) (n : kvs.length ≤ 1000000) (q : Upd H a (.dT (putK kvs k v)) z) : DwP (.ref b) v (.ref a) H z := ⟨a, _, rfl, .t h hb (Nat.lt_of_le_of_lt n (by decide)), q⟩
end
end

/-! ## B31 -/
section
set_option maxHeartbeats 4000000
open PySem PySem.Spec PyProof.Rows L2








def minus (H : Hp) (l : List (Addr × HO)) : Hp := fun b => if b ∈ l.map (·.1) then none else H b
theorem minus_ne {H : Hp} {l : List (Addr × HO)} {b : Addr} (h : b ∉ l.map (·.1)) : minus H l b = H b := if_neg h
theorem SH.minus {B H : Hp} {l : List (Addr × HO)} (S : SH B l H) : SH (minus H l) l H ∧ Same B (BB.minus H l) :=
  ⟨⟨fun b u e => by
      by_cases q : b ∈ l.map (·.1)
      · rw [BB.minus, if_pos q] at e; cases e
      · rw [minus_ne q] at e; exact e, S.at_, S.nd, fun p m => if_pos (List.mem_map.mpr ⟨p, m, rfl⟩)⟩,
    fun b u e => by
      have : b ∉ l.map (·.1) := fun q => by
        obtain ⟨p, hp, rfl⟩ := List.mem_map.mp q
        rw [S.out p hp] at e; cases e
      rw [minus_ne this]; exact S.same _ _ e⟩
section
variable {P : Program} {w : World} {K : PySem.W.Frag} {mg : Str → Option Value} {base : Heap}
theorem g_disp2 {H0 H : Hp} {l : List (Addr × HO)} {σ : L2.St} {Q : VK} (S : SH H0 l H) (k : ∀ p a b H1, SH H0 ((p, .dK [(Sum.inr "near", .ref a), (Sum.inr "far", .ref b)]) :: (b, .lst []) :: (a, .lst []) :: l) H1 → Q (.ref p) H1) :
    tDisp [(tC (.str "near"), tLst tNil), (tC (.str "far"), tLst tNil)] σ H Q := fun p hp => by
  have S1 := S.new (o := .dK []) hp
  refine ⟨by decide, fun a ha => ?_⟩
  have S2 := S1.new (o := .lst []) ha
  refine ⟨by decide, fun b hb => ?_⟩
  have S3 := S2.new (o := .lst []) hb
  refine ⟨S3.g2, [(Sum.inr "near", .ref a), (Sum.inr "far", .ref b)], rfl, Nat.le_of_ble_eq_true rfl, ?_⟩
  have e : mergeK [] [((Sum.inr "near" : Key), V.ref a), (Sum.inr "far", V.ref b)] = [((Sum.inr "near" : Key), V.ref a), (Sum.inr "far", V.ref b)] :=
    merge_new (fun _ _ => rfl) (show [(Sum.inr "near" : Key), Sum.inr "far"].Nodup by decide +kernel)
  rw [e]
  have S4 := S3.set (i := 2) rfl (.dK [(Sum.inr "near", .ref a), (Sum.inr "far", .ref b)])
  exact k p a b _ (S4.perm (l' := (p, .dK [(Sum.inr "near", .ref a), (Sum.inr "far", .ref b)]) :: (b, .lst []) :: (a, .lst []) :: l) (((List.Perm.swap ..).trans (List.Perm.cons _ (List.Perm.swap ..)))))
abbrev st0 : St := ⟨0, .down, none, none, true, 0, [], [], [], [], [], [], []⟩
def sp_Deck_init (P : Program) (w : World) (K : PySem.W.Frag) (mg : Str → Option Value) (base : Heap) : Sp := sp7 fun x0 x1 x2 x3 x4 x5 x6 H Q _ => ∃ p dx B, ∃ D0 : DA, x0 = .ref p ∧ x1 = .ref D0.bridge ∧ x2 = .ref D0.part ∧ x3 = .int D0.W.out ∧ x4 = .int D0.W.rest ∧ x5 = .int D0.W.turn ∧ x6 = D0.rul ∧ SH B [(p, .ins (He.ga K "Deck") dx [])] H ∧
  (D0.rul = .non ∨ (AlK P w K mg base 4 B D0.rul ∧ ClK P w K mg base 5 20 B D0.rul)) ∧
  ∀ (D : DA) ca B' H', D.bridge = D0.bridge → D.part = D0.part → D.W = D0.W → D.rul = D0.rul → D.xs = D0.xs → D.ws = D0.ws → D.ss = D0.ss → D.deck = p → Same B B' → SH B' (ours K D st0 ca [] [] [] [] [] []) H' →
    B' D.lines = some (.dK [(Sum.inr "near", .ref D.near), (Sum.inr "far", .ref D.far)]) → B' D.hours = some (.lst []) → WeekAt K B' (.ref D.week) → Q .non H'
theorem fn_Deck_init (T : Top K mg) : ∃ fd, FunD K "__init__" "Deck.__init__" (defArgs s_Deck_init) (defBody s_Deck_init) (defScope s_Deck_init) [.int 5, .int 30, .int 3, .non] [] (He.ma K (He.ga K "Deck") "__init__") fd ∧ FnOk P w K mg base CX0 10 (He.ma K (He.ga K "Deck") "__init__") fd ["self", "bridge", "part", "out", "rest", "turn", "rule"] (sp_Deck_init P w K mg base) := by
  obtain ⟨fd, F⟩ := F_Deck_init T
  refine ⟨fd, F, ?_⟩
  refine fn_body F sc_Deck_init len7 (k := 9) ?_
  rintro cdv A outer s H vs Q E hr ⟨v0, v1, v2, v3, v4, v5, v6, rfl, h⟩
  refine ⟨_, (pss_cons (ps_fld (pv 0) (pv 1) rfl)
    (pss_cons (ps_fld (pv 0) (pv 2) rfl)
    (pss_cons (ps_fld (pv 0) (pv 3) rfl)
    (pss_cons (ps_fld (pv 0) (pv 4) rfl)
    (pss_cons (ps_fld (pv 0) (pv 5) rfl)
    (pss_cons (ps_fld (pv 0) (pv 6) rfl)
    (pss_cons (ps_fld (pv 0) (makk K rfl (ok_Week_init T) hr (by decide) rfl (pa_cons (pv 6) pa_nil)) rfl)
    (pss_cons (ps_fld (pv 0) pe_int rfl)
    (pss_cons (ps_fld (pv 0) pe_str rfl)
    (pss_cons (ps_fld (pv 0) pe_non rfl)
    (pss_cons (ps_fld (pv 0) pe_non rfl)
    (pss_cons (ps_fld (pv 0) (pe_ix (ixTk K) (pe_glob (v := V.ref _) rfl (g_BANKS T) rfl) pe_int (fun _ _ => rfl)) rfl)
    (pss_cons (ps_fld (pv 0) pe_int rfl)
    (pss_cons (ps_fld (pv 0) (pe_lst pa_nil) rfl)
    (pss_cons (ps_fld (pv 0) (pe_disp (pps_cons pe_str (pe_lst pa_nil) (pps_cons pe_str (pe_lst pa_nil) pps_nil)) rfl rfl (fun z => by cases z) (by decide)) rfl)
    (pss_cons (ps_fld (pv 0) (pe_lst pa_nil) rfl)
    (pss_cons (ps_fld (pv 0) pe_dnewK rfl)
    (pss_cons (ps_fld (pv 0) pe_dnewK rfl)
    (pss_one (ps_fld (pv 0) (pe_lst pa_nil) rfl)))))))))))))))))))), ?_⟩
  try dsimp only [cxOf]
  rw [show start ["self", "bridge", "part", "out", "rest", "turn", "rule"] [v0, v1, v2, v3, v4, v5, v6] = [some v0, some v1, some v2, some v3, some v4, some v5, some v6] from rfl]
  obtain ⟨p, dx, B, D0, rfl, rfl, rfl, rfl, rfl, rfl, rfl, S, hv, k⟩ := h
  walk_at "go"
  refine S.u0 fun H1 S1 => ?_
  walk_at "go"
  refine S1.u0 fun H2 S2 => ?_
  walk_at "go"
  refine S2.u0 fun H3 S3 => ?_
  walk_at "go"
  refine S3.u0 fun H4 S4 => ?_
  walk_at "go"
  refine S4.u0 fun H5 S5 => ?_
  walk_at "go"
  refine S5.u0 fun H6 S6 => ?_
  walk_at "go"
  refine g_mk (vs := fun ws => ws ++ []) (ws := [D0.rul]) fun q dq B1 H7 sB SB => ?_
  have sB1 := S6.same.trans sB
  refine ⟨_, _, rfl, q, dq, B1, rfl, SB, hv.imp_right fun ⟨a, b⟩ => ⟨a.same sB1, b.same sB1⟩, fun B2 H8 r rs s2 S8 hr2 hrs => ⟨rfl, ?_⟩⟩
  have S9 := S6.join (sB.trans s2) S8
  obtain ⟨S10, sm⟩ := S9.minus
  obtain ⟨S11, s11, e11⟩ := S10.keepT
  have hp2 : B2 p = some (.ins (He.ga K "Deck") dx [("bridge", .ref D0.bridge), ("part", .ref D0.part), ("out", .int D0.W.out), ("pause", .int D0.W.rest), ("turn_most", .int D0.W.turn), ("rule", D0.rul)]) := s2 _ _ (sB _ _ S6.g0)
  have nin : ∀ {a : Addr} {o : HO}, B2 a = some o → a ≠ p → (BB.minus H8 ([(q, .ins (He.ga K "Week") dq (fl_Week (.ref r)))] ++ [(p, .ins (He.ga K "Deck") dx [("bridge", .ref D0.bridge), ("part", .ref D0.part), ("out", .int D0.W.out), ("pause", .int D0.W.rest), ("turn_most", .int D0.W.turn), ("rule", D0.rul)])])) a = some o := fun {a o} h1 h2 => by
    rw [minus_ne]
    · exact S8.same _ _ h1
    · intro z
      rcases List.mem_cons.mp z with z | z
      · rw [z, S8.out0] at h1; cases h1
      · exact h2 (List.mem_singleton.mp z)
  have hw : WeekAt K _ (.ref q) := ⟨q, dq, r, rs, rfl, e11, s11 _ _ (nin hr2 fun z => by rw [z, hp2] at hr2; cases hr2), fun y hy => by
    obtain ⟨i, j, ⟨a, dx2, e, h⟩, _⟩ := hrs y hy
    refine ⟨i, j, a, dx2, e, s11 _ _ (nin h fun z => ?_)⟩
    rw [z, hp2] at h
    have h := Option.some.inj h
    injection h with h1 h2 h3
    cases h3⟩
  walk_at "go"
  refine S11.u0 fun H9 S12 => ?_
  walk_at "go"
  refine S12.u0 fun H10 S13 => ?_
  walk_at "go"
  refine S13.u0 fun H11 S14 => ?_
  walk_at "go"
  refine S14.u0 fun H12 S15 => ?_
  walk_at "go"
  refine S15.u0 fun H13 S16 => ?_
  have tB := t_BANKS T H13
  walk_at "go"
  refine S16.u0 fun H14 S17 => ?_
  walk_at "go"
  refine S17.u0 fun H15 S18 => ?_
  walk_at "go"
  refine g_new S18 fun ca H16 S19 => ?_
  walk_at "go"
  refine S19.u1 fun H17 S20 => ?_
  walk_at "go"
  refine g_disp2 S20 fun li ne fa H18 S21 => ?_
  obtain ⟨S22, s22, e22⟩ := S21.keepT
  walk_at "go"
  refine S22.u3 fun H19 S23 => ?_
  walk_at "go"
  refine g_new S23 fun qu H20 S24 => ?_
  walk_at "go"
  refine S24.u4 fun H21 S25 => ?_
  walk_at "go"
  refine g_new S25 fun tf H22 S26 => ?_
  walk_at "go"
  refine S26.u5 fun H23 S27 => ?_
  walk_at "go"
  refine g_new S27 fun kn H24 S28 => ?_
  walk_at "go"
  refine S28.u6 fun H25 S29 => ?_
  walk_at "go"
  refine g_new S29 fun ho H26 S30 => ?_
  obtain ⟨S31, s31, e31⟩ := S30.keepT
  walk_at "go"
  refine S31.u6 fun H27 S32 => ?_
  walk_at "go"
  refine k { D0 with deck := p, dx := dx, near := ne, far := fa, queue := qu, told := tf, known := kn, lines := li, hours := ho, week := q } ca _ H27 rfl rfl rfl rfl rfl rfl rfl rfl (sm.trans (s11.trans (s22.trans s31))) ?_ (s31 _ _ e22) e31 (hw.same (s22.trans s31))
  exact S32.perm ((List.Perm.swap _ _ _).trans (List.reverse_perm [(kn, HO.dK []), (tf, HO.dK []), (qu, HO.lst []), (fa, HO.lst []), (ne, HO.lst []), (ca, HO.lst []), (p, HO.ins (He.ga K "Deck") dx (fl_Deck (dfOf { D0 with deck := p, dx := dx, near := ne, far := fa, queue := qu, told := tf, known := kn, lines := li, hours := ho, week := q } st0 ca)))]))
end
end

/-! ## Nm -/
section
set_option maxHeartbeats 4000000
open PySem PySem.Spec PyProof.Rows L2
/-! ### the names that the law makes -/
/-- the signs at places -/
def ltr (xs : List Int) : List Nat := xs.map fun i => 97 + i.toNat
def turnd (some : List Int) (pl : Nat) (k : Nat) : List Int := some.set pl ((some.getD pl 0 + 7 * (k : Int)) % 26)
theorem turnd_ok {xs : List Int} (h : ∀ x ∈ xs, 0 ≤ x ∧ x < 26) (pl k : Nat) : ∀ x ∈ turnd xs pl k, 0 ≤ x ∧ x < 26 := fun x hx => by
  rcases List.mem_or_eq_of_mem_set hx with m | e
  · exact h x m
  · rw [e]; omega
theorem letter_at {i : Int} (h0 : 0 ≤ i) (h1 : i < 26) : atI ("abcdefghijklmnopqrstuvwxyz" : Str).cps.toList i = some (97 + i.toNat) := by
  have e : ("abcdefghijklmnopqrstuvwxyz" : Str).cps.toList = (List.range 26).map (97 + ·) := by decide +kernel
  rw [e]
  obtain ⟨n, rfl⟩ := Int.eq_ofNat_of_zero_le h0
  exact atI_nat (j := n) (by rw [List.getElem?_map, List.getElem?_range (by omega)] <;> rfl)
theorem sjoin_one : ∀ ys : List Nat, (Str.join ("" : Str) (ys.map fun c => (⟨#[c]⟩ : Str))).cps.toList = ys
  | [] => by decide
  | [x] => rfl
  | x :: y :: r => by
    have ih := sjoin_one (y :: r)
    show ((⟨#[x]⟩ : Str) ++ ("" : Str) ++ Str.join ("" : Str) ((y :: r).map fun c => (⟨#[c]⟩ : Str))).cps.toList = _
    have e : ∀ a b : Str, (a ++ b).cps = a.cps ++ b.cps := fun _ _ => rfl
    rw [e, e, Array.toList_append, Array.toList_append, ih]
    rfl
theorem join_one (ys : List Nat) : (Txt.join ("" : Str) (ys.map fun c => (⟨#[c]⟩ : Str))).cps.toList = ys := by rw [show Txt.join ("" : Str) _ = Str.join ("" : Str) _ from PySem.StrLaws.glued_eq_join _ _, sjoin_one]
def nmOf (some : List Int) (pl sh : Nat) (k : Nat) : Str := ⟨((ltr (turnd some pl k)).take (max (pl + 1) (some.length - sh * (k % 3)))).toArray⟩
theorem nmOf_len (xs : List Int) (pl sh k : Nat) : (nmOf xs pl sh k).length = min (max (pl + 1) (xs.length - sh * (k % 3))) xs.length := by
  show (List.toArray _).size = _
  rw [List.size_toArray, List.length_take]
  unfold ltr turnd
  rw [List.length_map, List.length_set]
theorem nmOf_ok {xs : List Int} (h : ∀ x ∈ xs, 0 ≤ x ∧ x < 26) {pl : Nat} (hp : pl < xs.length) (h8 : xs.length ≤ 8) (sh k : Nat) : IsNm (nmOf xs pl sh k) := by
  refine ⟨by rw [nmOf_len]; omega, by rw [nmOf_len]; omega, fun c hc => ?_⟩
  have hc : c ∈ (ltr (turnd xs pl k)).take _ := hc
  obtain ⟨i, hi, rfl⟩ := List.mem_map.mp (List.mem_of_mem_take hc)
  have := turnd_ok h pl k i hi
  omega
theorem nmOf_inj {xs : List Int} {pl : Nat} (hp : pl < xs.length) (sh : Nat) {j k : Nat} (hj : j < 26) (hk : k < 26) (e : nmOf xs pl sh j = nmOf xs pl sh k) : j = k := by
  have at_ : ∀ k, (nmOf xs pl sh k).cps.toList[pl]? = some (97 + ((xs.getD pl 0 + 7 * (k : Int)) % 26).toNat) := fun k => by
    show ((ltr (turnd xs pl k)).take _)[pl]? = _
    rw [List.getElem?_take, if_pos (by omega)]
    unfold ltr turnd
    rw [List.getElem?_map, List.getElem?_set_self hp] <;> rfl
  have h1 := at_ j
  rw [e, at_ k] at h1
  have h2 := Option.some.inj h1
  omega
theorem nms_nodup {xs : List Int} {pl : Nat} (hp : pl < xs.length) (sh : Nat) {n : Nat} (hn : n ≤ 26) : ((List.range n).map (nmOf xs pl sh)).Nodup := by
  refine List.pairwise_map.mpr (List.Pairwise.imp_of_mem (fun {a b} ha hb ne e => ne ?_) List.nodup_range)
  exact nmOf_inj hp sh (by have := List.mem_range.mp ha; omega) (by have := List.mem_range.mp hb; omega) e
theorem IsNm.ok {z : Str} (h : IsNm z) : PyData.strOk z = true := by
  show z.cps.all (fun c => decide (c < 0x110000)) = true
  rw [Array.all_eq_true_iff_forall_mem]
  intro c hc
  have := h.2.2 c (Array.mem_toList_iff.mpr hc)
  exact decide_eq_true (by omega)
end

/-! ## B32 -/
section
set_option maxHeartbeats 4000000
open PySem PySem.Spec PyProof.Rows L2








local macro_rules | `(tactic| walk_at "go1") => `(tactic| with_reducible refine g_par ?_)
local macro_rules | `(tactic| walk_at "go1") => `(tactic| with_reducible refine g_pp ?_)
local macro_rules | `(tactic| walk_at "go1") => `(tactic| with_reducible refine g_par3 ?_)
local macro_rules | `(tactic| walk_at "go1") => `(tactic| with_reducible refine g_pp3 ?_)
local macro_rules | `(tactic| walk_at "go1") => `(tactic| with_reducible refine g_n13 ?_)
local macro_rules | `(tactic| walk_at "go1") => `(tactic| with_reducible refine g_n14 ?_)
local macro_rules | `(tactic| walk_at "go1") => `(tactic| with_reducible refine g_dsp ?_)
local macro_rules | `(tactic| walk_at "go1") => `(tactic| with_reducible refine g_pnil ?_)
local macro_rules | `(tactic| walk_at "go1") => `(tactic| with_reducible refine g_pcons ?_)
local macro_rules | `(tactic| walk_at "go1") => `(tactic| with_reducible refine g_dget2 ?_)
local macro_rules | `(tactic| walk_at "go1") => `(tactic| with_reducible refine g_sub ?_)
local macro_rules | `(tactic| walk_at "go1") => `(tactic| ((with_reducible refine' g_slL ?h ?_); (case h => walk_at "lst")))

/-! ### the feed that the law draws from -/
def FdP (c : Addr) (N : Int) (o : HO) : Prop := ∃ sp re : Int, o = .lst [.ref c, .int sp, .int re] ∧ 0 ≤ sp ∧ sp ≤ N
theorem FdP.mono {c : Addr} {N M : Int} {o : HO} (h : FdP c N o) (k : N ≤ M) : FdP c M o := let ⟨sp, re, e, a, b⟩ := h; ⟨sp, re, e, a, by omega⟩
/-- one object has become another one -/
def Chg (F : Addr) (o : HO) (H H' : Hp) : Prop := H' F = some o ∧ ∀ a u, a ≠ F → H a = some u → H' a = some u
theorem SH.own {H : Hp} {F : Addr} {o : HO} (h : H F = some o) : SH (del H F) [(F, o)] H :=
  ⟨fun b u e => by
      by_cases q : b = F
      · rw [q, del_same] at e; cases e
      · rw [del_ne q] at e; exact e, fun q m => by rw [List.mem_singleton.mp m]; exact h, List.nodup_cons.mpr ⟨List.not_mem_nil, .nil⟩, fun q m => by rw [List.mem_singleton.mp m]; exact del_same⟩
theorem SH.chg0 {H H' : Hp} {F : Addr} {o : HO} (S : SH (del H F) [(F, o)] H') : Chg F o H H' := ⟨S.g0, fun a u ne e => S.same _ _ (by rw [del_ne ne]; exact e)⟩
theorem SH.chg {B H H' : Hp} {l : List (Addr × HO)} {i : Nat} {F : Addr} {o o' : HO} (S : SH B l H) (e : l[i]? = some (F, o)) (c : Chg F o' H H') : SH B (l.set i (F, o')) H' :=
  (S.set e o').call fun b u h => by
    by_cases q : b = F
    · rw [q, upd_same] at h; rw [q, ← h]; exact c.1
    · rw [upd_ne q] at h; exact c.2 _ _ q h
def cutI (is : List Int) : List Int := (is.drop (HT.sIx is.length 0 none)).take (HT.sIx is.length is.length (some 63) - HT.sIx is.length 0 none)
def sp_law_feed (K : PySem.W.Frag) : Sp := sp1 fun x H Q _ => ∃ a, ∃ is : List Int, x = .ref a ∧ SqL K H a (is.map V.int) ∧ ∀ F c, ∀ cs : List Int, ∀ o B H', Same H B → B c = some (.lst (cs.map V.int)) → FdP c 0 o → SH B [(F, o)] H' → Q (.ref F) H'
def sp_law_draw : Sp := sp2 fun x y H Q _ => ∃ F c, ∃ cs : List Int, ∃ o N many, x = .ref F ∧ y = .int many ∧ H F = some o ∧ FdP c N o ∧ H c = some (.lst (cs.map V.int)) ∧ N ≤ 1000000 ∧ 1 ≤ many ∧ many ≤ 1000000 ∧ ∀ d o' H', 0 ≤ d → d < many → FdP c (N + 1) o' → Chg F o' H H' → Q (.int d) H'
section
variable {P : Program} {w : World} {K : PySem.W.Frag} {mg : Str → Option Value} {base : Heap}
theorem ok_law_feed (T : Top K mg) : Cal P w K mg base 2 "_law_feed" (sp_law_feed K) [] := by
  obtain ⟨fd, F⟩ := F_law_feed T
  refine cal_of F (g_law_feed T) (fun _ _ _ _ _ _ us hl => match us, hl with | [_], _ => rfl) sc_law_feed len1 (k := 1) ?_
  rintro cdv A outer s H vs Q E hr ⟨v0, rfl, h⟩
  refine ⟨_, (pss_one (ps_ret (pe_lst (pa_cons (pe_callTy (lstk K) rfl (fr_list T) PyProof.Rows.boot_list (pa_cons (pe_slice sl_list (pv 0) po_none (po_some pe_int)) pa_nil)) (pa_cons pe_int (pa_cons pe_int pa_nil)))))), ?_⟩
  try dsimp only [cxOf]
  rw [show start ["_law_script"] [v0] = [some v0] from rfl]
  obtain ⟨a, is, rfl, hx, k⟩ := h
  have S := SH.rfl' (H := H)
  walk_at "go"
  refine g_new S fun b H1 S1 => ?_
  walk_at "go"
  refine g_new S1 fun c H2 S2 => ?_
  obtain ⟨S3, s3, e3⟩ := S2.keepT
  walk_at "go"
  refine g_new S3 fun F H4 S4 => ?_
  have e : cutV (is.map V.int) none (some 63) = (cutI is).map V.int := by
    unfold cutV cutI
    rw [List.map_take, List.map_drop, List.length_map]
  rw [e] at e3 S4
  exact k F c (cutI is) _ _ H4 (by rw [← e]; exact s3) e3 ⟨0, 0, rfl, by omega, by omega⟩ S4.drop1
theorem ok_law_draw (T : Top K mg) : Cal P w K mg base 2 "_law_draw" sp_law_draw [] := by
  obtain ⟨fd, F⟩ := F_law_draw T
  refine cal_of F (g_law_draw T) (fun _ _ _ _ _ _ us hl => match us, hl with | [_, _], _ => rfl) sc_law_draw len2 (k := 1) ?_
  rintro cdv A outer s H vs Q E hr ⟨v0, v1, rfl, h⟩
  refine ⟨_, (pss_cons (ps_if (pt_cmpR op_gt (pe_ix (ixLk K) (pv 0) pe_int (fun _ _ => rfl)) pe_int (nomark _)) (pss_cons (ps_set (i := 2) sc_law_draw.nd rfl (by first | exact Or.inl rfl | exact Or.inr rfl) (pe_op op_mod (pe_ix (ixLk K) (pv 0) pe_int (fun _ _ => rfl)) (pv 1)))
    (pss_cons (ps_asg (pe_op op_fdiv (pe_ix (ixLk K) (pv 0) pe_int (fun _ _ => rfl)) (pv 1)) (pg_sub (pv 0) pe_int set_list))
    (pss_one (ps_ret (pv 2))))) pss_nil)
    (pss_cons (ps_set (i := 3) sc_law_draw.nd rfl (by first | exact Or.inl rfl | exact Or.inr rfl) (pe_ix (ixLk K) (pv 0) pe_int (fun _ _ => rfl)))
    (pss_cons (ps_asg (pe_op op_add (pv 3) pe_int) (pg_sub (pv 0) pe_int set_list))
    (pss_cons (ps_set (i := 4) sc_law_draw.nd rfl (by first | exact Or.inl rfl | exact Or.inr rfl) (pe_ifExp (pt_cmpR (op_neD hr.units) (pe_ix (ixLk K) (pv 0) pe_int (fun _ _ => rfl)) (pe_lst pa_nil) (nomark _)) (pe_ix (ixLk K) (pe_ix (ixLk K) (pv 0) pe_int (fun _ _ => rfl)) (pe_op op_mod (pv 3) (pe_callB (lenk K) rfl (fr_len T) PySem.boot_len (pa_cons (pe_ix (ixLk K) (pv 0) pe_int (fun _ _ => rfl)) pa_nil))) (fun _ _ => rfl)) (pe_op op_add (pe_op op_mul pe_int (pv 3)) pe_int)))
    (pss_cons (ps_if (PW.pt (pw_and (pt_cmpR op_lt (pv 3) (pe_callB (lenk K) rfl (fr_len T) PySem.boot_len (pa_cons (pe_ix (ixLk K) (pv 0) pe_int (fun _ _ => rfl)) pa_nil)) (nomark _)) (pw_and1 (pt_cmpR op_ge (pv 4) (pe_op op_pow pe_int pe_int) (nomark _))))) (pss_cons (ps_asg (pe_op op_fdiv (pv 4) (pv 1)) (pg_sub (pv 0) pe_int set_list))
    (pss_one (ps_ret (pe_op op_mod (pv 4) (pv 1))))) pss_nil)
    (pss_cons (ps_set (i := 5) sc_law_draw.nd rfl (by first | exact Or.inl rfl | exact Or.inr rfl) (pe_op op_mod (pe_op op_pow (pe_op op_add (pe_op op_add (pe_op op_mod (pv 4) pe_int) (pe_op op_mul pe_int (pv 3))) pe_int) pe_int) pe_int))
    (pss_cons (ps_set (i := 5) sc_law_draw.nd rfl (by first | exact Or.inl rfl | exact Or.inr rfl) (pe_op op_mod (pe_op op_mul (pe_op op_add (pe_op op_fdiv (pv 5) pe_int) pe_int) (pe_op op_add (pe_op op_mod (pe_op op_mul pe_int (pv 3)) pe_int) pe_int)) pe_int))
    (pss_one (ps_ret (pe_op op_mod (pe_op op_fdiv (pv 5) pe_int) (pv 1))))))))))), ?_⟩
  try dsimp only [cxOf]
  rw [show start ["_law_feed_here", "_law_many", "_law_found", "_law_spot", "_law_cell", "_law_mixed"] [v0, v1] = [some v0, some v1, none, none, none, none] from rfl]
  obtain ⟨F, c, cs, o, N, many, rfl, rfl, hF, ⟨sp, re, rfl, s0, s1⟩, hc, hN, m1, m2, k⟩ := h
  have S := SH.own hF
  have ne : c ≠ F := fun z => by
    rw [z, hF] at hc
    have e := HO.lst.inj (Option.some.inj hc)
    cases cs with
    | nil => cases e
    | cons x r => rw [List.map_cons] at e; cases (List.cons.inj e).1
  have hcB : del H F c = some (.lst (cs.map V.int)) := by rw [del_ne ne]; exact hc
  have k : ∀ (d : Int) sp' re' H', 0 ≤ d → d < many → 0 ≤ sp' → sp' ≤ N + 1 → SH (del H F) [(F, .lst [.ref c, .int sp', .int re'])] H' → Q (.int d) H' := fun d sp' re' H' h1 h2 h3 h4 S' => k d _ H' h1 h2 ⟨sp', re', rfl, h3, h4⟩ S'.chg0
  walk_at "go"
  refine w_d (fun h => ?_) (fun h => ?_)
  · walk_at "go"
    refine g_setL S.g0 (j := 2) rfl ?_
    refine S.u0 fun H1 S1 => ?_
    walk_at "go"
    exact k _ _ _ _ (Int.emod_nonneg _ (by omega)) (Int.emod_lt_of_pos _ (by omega)) s0 (by omega) S1
  · walk_at "go"
    refine g_setL S.g0 (j := 1) rfl ?_
    refine S.u0 fun H1 S1 => ?_
    have S1 : SH (del H F) [(F, .lst [.ref c, .int (sp + 1), .int re])] H1 := S1
    walk_at "go"
    refine g_new S1 fun e H2 S2 => ?_
    refine g_neE (SqL.of (S2.rd hcB)) (SqL.of S2.g0) (fun x hx => ?_) ?_
    · obtain ⟨i, _, rfl⟩ := List.mem_map.mp hx
      exact ⟨.int i, .int i, rfl, by simp [PyData.depth]⟩
    have S3 := S2.tail
    walk_at "go"
    by_cases h : cs.map V.int = []
    case' neg =>
      refine w_ndT h ?_
      have hl : 1 ≤ cs.length := by
        cases cs with
        | nil => exact absurd rfl h
        | cons _ _ => simp
      walk_at "go"
      rw [List.length_map]
      refine g_I (by show (0 : Int) < (cs.length : Int); omega) ?_
      have m0 := Int.emod_nonneg sp (show (cs.length : Int) ≠ 0 by omega)
      have m1 := Int.emod_lt_of_pos sp (show (0 : Int) < (cs.length : Int) by omega)
      obtain ⟨j, hj⟩ := Int.eq_ofNat_of_zero_le m0
      rw [hj]
      rw [hj] at m1
      have hjl : j < cs.length := by omega
      refine g_ixL (SqL.of (S3.rd hcB)) (atI_nat (j := j) (by rw [List.getElem?_map, List.getElem?_eq_getElem hjl] <;> rfl)) ?_
      generalize cs[j] = cell
    case' pos =>
      refine w_ndF h ?_
      walk_at "go"
      generalize 7919 * sp + 11 = cell
    all_goals
      walk_at "go"
      by_cases h2 : sp < ((cs.map V.int).length : Int)
      · refine w_dT h2 ?_
        walk_at "go"
        by_cases h3 : 10 ^ Int.toNat 18 ≤ cell
        · refine w_dT h3 ?_
          walk_at "go"
          refine g_setL S3.g0 (j := 2) rfl ?_
          refine S3.u0 fun H4 S4 => ?_
          walk_at "go"
          exact k _ _ _ _ (Int.emod_nonneg _ (by omega)) (Int.emod_lt_of_pos _ (by omega)) (by omega) (by omega) S4
        · refine w_dF h3 ?_
          walk_at "go"
          exact k _ _ _ _ (Int.emod_nonneg _ (by omega)) (Int.emod_lt_of_pos _ (by omega)) (by omega) (by omega) S3
      · refine w_dF h2 ?_
        walk_at "go"
        exact k _ _ _ _ (Int.emod_nonneg _ (by omega)) (Int.emod_lt_of_pos _ (by omega)) (by omega) (by omega) S3
end
end

/-! ## B33 -/
section
set_option maxHeartbeats 4000000
open PySem PySem.Spec PyProof.Rows L2
section
variable {P : Program} {w : World} {K : PySem.W.Frag} {mg : Str → Option Value} {base : Heap}
/-! ### a deck made in the law's ways -/
theorem ok_Deck_init (T : Top K mg) : Mak P w K mg base 10 "Deck" (sp_Deck_init P w K mg base) [] := by
  obtain ⟨fd, F, k⟩ := fn_Deck_init (P := P) (w := w) (base := base) T
  obtain ⟨ds, hv, hb⟩ := F.binds1 (ps := ["self", "bridge", "part", "out", "rest", "turn", "rule"]) 7 4 (by decide) (by rfl) fun Td kV doc pm an cdv ct us its hl hi => by
    match us, hl, its, hi with
    | [_, _, _, _, _, _, _], _, [_, _, _, _], _ => exact ⟨_, rfl, rfl⟩
  exact ⟨_, _, _, ds, k, g_Deck T, mk_Deck T, hb, hv⟩
theorem ok_Deck_2 (T : Top K mg) : Mak P w K mg base 10 "Deck" (sp_Deck_init P w K mg base) [.int 5, .int 30, .int 3, .non] := by
  obtain ⟨fd, F, k⟩ := fn_Deck_init (P := P) (w := w) (base := base) T
  obtain ⟨ds, hv, hb⟩ := F.binds1 (ps := ["self", "bridge", "part", "out", "rest", "turn", "rule"]) 3 0 (by decide) (by rfl) fun Td kV doc pm an cdv ct us its hl hi => by
    match us, hl, its, hi with
    | [_, _, _], _, [_, _, _, _], _ => exact ⟨_, rfl, rfl⟩
  exact ⟨_, _, _, ds, k, g_Deck T, mk_Deck T, hb, hv⟩
def one {α : Type} (i : Nat) (l : List α) : List α := (l.drop i).take 1
theorem vals_one {vs : List V} {us : List Value} (i : Nat) (h : Vals vs us) : Vals (one i vs) (one i us) := (h.drop i).take 1
theorem ok_Deck_2_rule (T : Top K mg) : MakK P w K mg base 10 "Deck" 3 ["rule"] (sp_Deck_init P w K mg base) fun vs zs => vs ++ ([.int 5, .int 30, .int 3] ++ zs) := by
  obtain ⟨fd, F, k⟩ := fn_Deck_init (P := P) (w := w) (base := base) T
  obtain ⟨its, hb⟩ := F.kbindsD (ps := ["self", "bridge", "part", "out", "rest", "turn", "rule"]) 3 ["rule"] (fun us its ws => us ++ (its.take 3 ++ ws)) (by decide) (fun h1 h2 h3 => h1.append ((h2.take 3).append h3)) fun Td kV doc pm an cdv ct us its ws hl hi hw => by
    match us, hl, its, hi, ws, hw with
    | [_, _, _], _, [_, _, _, _], _, [_], _ => exact ⟨_, rfl, rfl⟩
  exact ⟨_, _, _, _, k, g_Deck T, mk_Deck T, hb⟩
theorem ok_Deck_2_out_rule (T : Top K mg) : MakK P w K mg base 10 "Deck" 3 ["out", "rule"] (sp_Deck_init P w K mg base) fun vs zs => vs ++ (one 0 zs ++ ([.int 30, .int 3] ++ one 1 zs)) := by
  obtain ⟨fd, F, k⟩ := fn_Deck_init (P := P) (w := w) (base := base) T
  obtain ⟨its, hb⟩ := F.kbindsD (ps := ["self", "bridge", "part", "out", "rest", "turn", "rule"]) 3 ["out", "rule"] (fun us its ws => us ++ (one 0 ws ++ ((its.drop 1).take 2 ++ one 1 ws))) (by decide) (fun h1 h2 h3 => h1.append ((vals_one 0 h3).append (((h2.drop 1).take 2).append (vals_one 1 h3)))) fun Td kV doc pm an cdv ct us its ws hl hi hw => by
    match us, hl, its, hi, ws, hw with
    | [_, _, _], _, [_, _, _, _], _, [_, _], _ => exact ⟨_, rfl, rfl⟩
  exact ⟨_, _, _, _, k, g_Deck T, mk_Deck T, hb⟩
theorem ok_Deck_2_turn_rule (T : Top K mg) : MakK P w K mg base 10 "Deck" 3 ["turn", "rule"] (sp_Deck_init P w K mg base) fun vs zs => vs ++ ([.int 5, .int 30] ++ zs) := by
  obtain ⟨fd, F, k⟩ := fn_Deck_init (P := P) (w := w) (base := base) T
  obtain ⟨its, hb⟩ := F.kbindsD (ps := ["self", "bridge", "part", "out", "rest", "turn", "rule"]) 3 ["turn", "rule"] (fun us its ws => us ++ (its.take 2 ++ ws)) (by decide) (fun h1 h2 h3 => h1.append ((h2.take 2).append h3)) fun Td kV doc pm an cdv ct us its ws hl hi hw => by
    match us, hl, its, hi, ws, hw with
    | [_, _, _], _, [_, _, _, _], _, [_, _], _ => exact ⟨_, rfl, rfl⟩
  exact ⟨_, _, _, _, k, g_Deck T, mk_Deck T, hb⟩
theorem ok_Deck_0_rest_part_bridge_rule (T : Top K mg) : MakK P w K mg base 10 "Deck" 1 ["rest", "part", "bridge", "rule"] (sp_Deck_init P w K mg base) fun vs zs => vs ++ (one 2 zs ++ (one 1 zs ++ ([.int 5] ++ (one 0 zs ++ ([.int 3] ++ one 3 zs))))) := by
  obtain ⟨fd, F, k⟩ := fn_Deck_init (P := P) (w := w) (base := base) T
  obtain ⟨its, hb⟩ := F.kbindsD (ps := ["self", "bridge", "part", "out", "rest", "turn", "rule"]) 1 ["rest", "part", "bridge", "rule"] (fun us its ws => us ++ (one 2 ws ++ (one 1 ws ++ (one 0 its ++ (one 0 ws ++ (one 2 its ++ one 3 ws)))))) (by decide)
    (fun h1 h2 h3 => h1.append ((vals_one 2 h3).append ((vals_one 1 h3).append ((vals_one 0 h2).append ((vals_one 0 h3).append ((vals_one 2 h2).append (vals_one 3 h3))))))) fun Td kV doc pm an cdv ct us its ws hl hi hw => by
    match us, hl, its, hi, ws, hw with
    | [_], _, [_, _, _, _], _, [_, _, _, _], _ => exact ⟨_, rfl, rfl⟩
  exact ⟨_, _, _, _, k, g_Deck T, mk_Deck T, hb⟩
theorem ok_Deck_0_rule_turn_rest_out_part_bridge (T : Top K mg) : MakK P w K mg base 10 "Deck" 1 ["rule", "turn", "rest", "out", "part", "bridge"] (sp_Deck_init P w K mg base) fun vs zs => vs ++ (one 5 zs ++ (one 4 zs ++ (one 3 zs ++ (one 2 zs ++ (one 1 zs ++ one 0 zs))))) := by
  obtain ⟨fd, F, k⟩ := fn_Deck_init (P := P) (w := w) (base := base) T
  obtain ⟨its, hb⟩ := F.kbindsD (ps := ["self", "bridge", "part", "out", "rest", "turn", "rule"]) 1 ["rule", "turn", "rest", "out", "part", "bridge"] (fun us its ws => us ++ (one 5 ws ++ (one 4 ws ++ (one 3 ws ++ (one 2 ws ++ (one 1 ws ++ one 0 ws)))))) (by decide)
    (fun h1 h2 h3 => h1.append ((vals_one 5 h3).append ((vals_one 4 h3).append ((vals_one 3 h3).append ((vals_one 2 h3).append ((vals_one 1 h3).append (vals_one 0 h3))))))) fun Td kV doc pm an cdv ct us its ws hl hi hw => by
    match us, hl, its, hi, ws, hw with
    | [_], _, [_, _, _, _], _, [_, _, _, _, _, _], _ => exact ⟨_, rfl, rfl⟩
  exact ⟨_, _, _, _, k, g_Deck T, mk_Deck T, hb⟩
/-! ### carts and ships told by keywords -/
theorem ok_Deck_ship_1_long_at (T : Top K mg) : MetK P w K mg base 4 (He.ga K "Deck") "ship" 2 ["long", "at"] (sp_Deck_ship K) fun vs zs => vs ++ zs := by
  obtain ⟨fd, F, k⟩ := fn_Deck_ship (P := P) (w := w) (base := base) T
  obtain ⟨its, hb⟩ := F.kbindsD (ps := ["self", "name", "long", "at"]) 2 ["long", "at"] (fun us its ws => us ++ ws) (by decide) (fun h1 _ h3 => h1.append h3) fun Td kV doc pm an cdv ct us its ws hl hi hw => by
    match us, hl, its, hi, ws, hw with
    | [_, _], _, [_, _], _, [_, _], _ => exact ⟨_, rfl, rfl⟩
  exact ⟨_, _, _, _, k, c_Deck T, m_Deck_ship T, hb⟩
theorem ok_Deck_cart_3_at (T : Top K mg) : MetK P w K mg base 7 (He.ga K "Deck") "cart" 4 ["at"] (sp_Deck_cart K) fun vs zs => vs ++ zs := by
  obtain ⟨fd, F, k⟩ := fn_Deck_cart (P := P) (w := w) (base := base) T
  obtain ⟨its, hb⟩ := F.kbindsD (ps := ["self", "name", "bank", "weight", "at"]) 4 ["at"] (fun us its ws => us ++ ws) (by decide) (fun h1 _ h3 => h1.append h3) fun Td kV doc pm an cdv ct us its ws hl hi hw => by
    match us, hl, its, hi, ws, hw with
    | [_, _, _, _], _, [_], _, [_], _ => exact ⟨_, rfl, rfl⟩
  exact ⟨_, _, _, _, k, c_Deck T, m_Deck_cart T, hb⟩
end
end

/-! ## B34 -/
local macro_rules | `(tactic| walk_at "go1") => `(tactic| with_reducible refine g_par ?_)
local macro_rules | `(tactic| walk_at "go1") => `(tactic| with_reducible refine g_pp ?_)
local macro_rules | `(tactic| walk_at "go1") => `(tactic| with_reducible refine g_par3 ?_)
local macro_rules | `(tactic| walk_at "go1") => `(tactic| with_reducible refine g_pp3 ?_)
local macro_rules | `(tactic| walk_at "go1") => `(tactic| with_reducible refine g_n13 ?_)
local macro_rules | `(tactic| walk_at "go1") => `(tactic| with_reducible refine g_n14 ?_)
local macro_rules | `(tactic| walk_at "go1") => `(tactic| with_reducible refine g_dsp ?_)
local macro_rules | `(tactic| walk_at "go1") => `(tactic| with_reducible refine g_pnil ?_)
local macro_rules | `(tactic| walk_at "go1") => `(tactic| with_reducible refine g_pcons ?_)
local macro_rules | `(tactic| walk_at "go1") => `(tactic| with_reducible refine g_dget2 ?_)
local macro_rules | `(tactic| walk_at "go1") => `(tactic| with_reducible refine g_sub ?_)
local macro_rules | `(tactic| walk_at "go1") => `(tactic| ((with_reducible refine' g_slL ?h ?_); (case h => walk_at "lst")))
section
set_option maxHeartbeats 4000000
open PySem PySem.Spec PyProof.Rows L2










section
variable {X : Cx} (K : PySem.W.Frag)
def rJoi (K : PySem.W.Frag) : V → List V → Hp → VK → Prop := fun x xs H Q => ∃ a p, ∃ ys : List Str, x = .str a ∧ xs = [.ref p] ∧ (SqL K H p (ys.map V.str) ∨ SqT K H p (ys.map V.str)) ∧ (ys.map (·.length)).sum + ys.length * a.length ≤ 16777216 ∧ Q (.str (Txt.join a ys)) H
theorem joink (h : X.K = K := by rfl) : MtR X "str.join" (rJoi K) := by subst h; exact mt_join
end
section
variable {P : Program} {w : World} {K : PySem.W.Frag} {mg : Str → Option Value} {base : Heap}
section
variable {H0 H : Hp} {Q : VK} {E : XK} {l : List (Addr × HO)} {x0 x1 : Addr × HO} {F c : Addr} {cs : List Int} {o : HO} {N m : Int}
theorem g_dr {i : Nat} (S : SH H0 l H) (e : l[i]? = some (F, o)) (f : FdP c N o) (hc : H0 c = some (.lst (cs.map V.int))) (hN : N ≤ 1000000) (m1 : 1 ≤ m) (m2 : m ≤ 1000000)
    (k : ∀ d o' H1, 0 ≤ d → d < m → FdP c (N + 1) o' → SH H0 (l.set i (F, o')) H1 → Q (.int d) H1) : sp_law_draw [.ref F, .int m] H Q E :=
  ⟨_, _, rfl, F, c, cs, o, N, m, rfl, rfl, S.get e, f, S.rd hc, hN, m1, m2, fun d o' H1 h1 h2 h3 h4 => k d o' H1 h1 h2 h3 (S.chg e h4)⟩
theorem g_dr0 (S : SH H0 ((F, o) :: l) H) (f : FdP c N o) (hc : H0 c = some (.lst (cs.map V.int))) (hN : N ≤ 1000000) (m1 : 1 ≤ m) (m2 : m ≤ 1000000)
    (k : ∀ d o' H1, 0 ≤ d → d < m → FdP c (N + 1) o' → SH H0 ((F, o') :: l) H1 → Q (.int d) H1) : sp_law_draw [.ref F, .int m] H Q E := g_dr (i := 0) S rfl f hc hN m1 m2 k
theorem g_dr1 (S : SH H0 (x0 :: (F, o) :: l) H) (f : FdP c N o) (hc : H0 c = some (.lst (cs.map V.int))) (hN : N ≤ 1000000) (m1 : 1 ≤ m) (m2 : m ≤ 1000000)
    (k : ∀ d o' H1, 0 ≤ d → d < m → FdP c (N + 1) o' → SH H0 (x0 :: (F, o') :: l) H1 → Q (.int d) H1) : sp_law_draw [.ref F, .int m] H Q E := g_dr (i := 1) S rfl f hc hN m1 m2 k
theorem g_dr2 (S : SH H0 (x0 :: x1 :: (F, o) :: l) H) (f : FdP c N o) (hc : H0 c = some (.lst (cs.map V.int))) (hN : N ≤ 1000000) (m1 : 1 ≤ m) (m2 : m ≤ 1000000)
    (k : ∀ d o' H1, 0 ≤ d → d < m → FdP c (N + 1) o' → SH H0 (x0 :: x1 :: (F, o') :: l) H1 → Q (.int d) H1) : sp_law_draw [.ref F, .int m] H Q E := g_dr (i := 2) S rfl f hc hN m1 m2 k
end
theorem g_ixS {H : Hp} {Q : VK} {z : Str} {i : Int} {c : Nat} (h : z.length ≤ 1000) (e : atI z.cps.toList i = some c) (q : Q (.str ⟨#[c]⟩) H) : rIxS (.str z) (.int i) H Q := ⟨z, i, c, rfl, rfl, Nat.le_trans h (by decide), e, q⟩
theorem sum_ones : ∀ n : Nat, (List.replicate n 1).sum = n
  | 0 => rfl
  | n + 1 => by rw [List.replicate_succ, List.sum_cons, sum_ones n, Nat.add_comm]
theorem cut_nm {ds : List Int} {p q i : Nat} {z : Str} (hz : z.cps.toList = ltr (turnd ds p i)) (hp : p < ds.length) : cutS z none (some (if (z.length : Int) - q * ((i : Int) % 3) > (p : Int) + 1 then (z.length : Int) - q * ((i : Int) % 3) else (p : Int) + 1)) = nmOf ds p q i := by
  have hl : z.length = ds.length := by
    have := congrArg List.length hz
    rw [Array.length_toList] at this
    unfold ltr turnd at this
    rw [List.length_map, List.length_set] at this
    exact this
  have hw : (q : Int) * ((i : Int) % 3) = ((q * (i % 3) : Nat) : Int) := by rw [Int.natCast_mul]; rfl
  unfold cutS nmOf
  rw [hz, hl, hw]
  generalize q * (i % 3) = w
  have e : (if (ds.length : Int) - (w : Int) > (p : Int) + 1 then (ds.length : Int) - (w : Int) else (p : Int) + 1) = ((max (p + 1) (ds.length - w) : Nat) : Int) := by split <;> omega
  rw [e, HT.sIx_nat]
  show (⟨((ltr (turnd ds p i)).take (min (max (p + 1) (ds.length - w)) ds.length - 0)).toArray⟩ : Str) = _
  have e2 : (ltr (turnd ds p i)).take (min (max (p + 1) (ds.length - w)) ds.length - 0) = (ltr (turnd ds p i)).take (max (p + 1) (ds.length - w)) := by
    rw [Nat.sub_zero]
    by_cases h : max (p + 1) (ds.length - w) ≤ ds.length
    · rw [Nat.min_eq_left h]
    · omega
  rw [e2]
def sp_law_of : Sp := sp2 fun x y H Q _ => ∃ F c, ∃ cs : List Int, ∃ o N s xs, x = .ref F ∧ y = .ref s ∧ H F = some o ∧ FdP c N o ∧ H c = some (.lst (cs.map V.int)) ∧ N ≤ 1000000 ∧ H s = some (.lst xs) ∧ s ≠ F ∧ 1 ≤ xs.length ∧ xs.length ≤ 1000 ∧ ∀ v o' H', v ∈ xs → FdP c (N + 1) o' → Chg F o' H H' → Q v H'
theorem ok_law_of (T : Top K mg) : Cal P w K mg base 3 "_law_of" sp_law_of [] := by
  obtain ⟨fd, F⟩ := F_law_of T
  refine cal_of F (g_law_of T) (fun _ _ _ _ _ _ us hl => match us, hl with | [_, _], _ => rfl) sc_law_of len2 (k := 2) ?_
  rintro cdv A outer s H vs Q E hr ⟨v0, v1, rfl, h⟩
  refine ⟨_, (pss_one (ps_ret (pe_ix (ixLk K) (pv 1) (pe_f (ok_law_draw T) hr (by decide) rfl (pa_cons (pv 0) (pa_cons (pe_callB (lenk K) rfl (fr_len T) PySem.boot_len (pa_cons (pv 1) pa_nil)) pa_nil))) (fun _ _ => rfl)))), ?_⟩
  try dsimp only [cxOf]
  rw [show start ["_law_feed_here", "_law_some"] [v0, v1] = [some v0, some v1] from rfl]
  obtain ⟨F, c, cs, o, N, s, xs, rfl, rfl, hF, f, hc, hN, hs, ne, l1, l2, k⟩ := h
  walk_at "go"
  refine ⟨_, _, rfl, F, c, cs, o, N, xs.length, rfl, rfl, hF, f, hc, hN, by omega, by omega, fun d o' H1 h1 h2 h3 h4 => ?_⟩
  obtain ⟨n, rfl⟩ := Int.eq_ofNat_of_zero_le h1
  have hn : n < xs.length := by omega
  refine g_ixL (SqL.of (h4.2 _ _ ne hs)) (atI_nat (j := n) (List.getElem?_eq_getElem hn)) ?_
  exact k _ _ _ (List.getElem_mem hn) h3 h4
def sp_law_names : Sp := sp2 fun x y H Q _ => ∃ F c, ∃ cs : List Int, ∃ o N, ∃ n : Nat, ∃ B, x = .ref F ∧ y = .int n ∧ n ≤ 26 ∧ FdP c N o ∧ N ≤ 900000 ∧ B c = some (.lst (cs.map V.int)) ∧ SH B [(F, o)] H ∧
  ∀ a, ∀ nms : List Str, ∀ o' B' H', nms.length = n → nms.Nodup → (∀ z ∈ nms, IsNm z) → FdP c (N + 20) o' → Same B B' → SH B' [(F, o')] H' → B' a = some (.lst (nms.map V.str)) → Q (.ref a) H'
theorem ok_law_names (T : Top K mg) : Cal P w K mg base 3 "_law_names" sp_law_names [] := by
  obtain ⟨fd, F⟩ := F_law_names T
  refine cal_of F (g_law_names T) (fun _ _ _ _ _ _ us hl => match us, hl with | [_, _], _ => rfl) sc_law_names len2 (k := 2) ?_
  rintro cdv A outer s H vs Q E hr ⟨v0, v1, rfl, h⟩
  refine ⟨_, (pss_cons (ps_set (i := 2) sc_law_names.nd rfl (by first | exact Or.inl rfl | exact Or.inr rfl) pe_str)
    (pss_cons (ps_setLc (i := 3) (own := [("_law_k", 7)]) (g := gName 7) (by rfl) sc_law_names.nd rfl rfl (sw_true rfl rfl rfl (by decide +kernel)) (pi_range1 rfl (fr_range T) (pa_cons (pe_op op_add pe_int (pe_f (ok_law_draw T) hr (by decide) rfl (pa_cons (pv 0) (pa_cons pe_int pa_nil)))) pa_nil)) (blkOk_by (own := [("_law_k", 7)]) (N := ["_law_feed_here", "_law_many", "_law_letters", "_law_some", "_law_place", "_law_short", "_law_found", "_law_k", "_law_turned", "_law_shown", "_law_one"]) (sc := defScope s_law_names) (by decide +kernel)) (fun _ _ _ _ _ => (pg_name (i := 7) sc_law_names.nd rfl (by first | exact Or.inl rfl | exact Or.inr rfl))) (fun _ _ _ _ _ => pts_nil) (fun _ _ _ _ _ => (pe_f (ok_law_draw T) hr (by decide) rfl (pa_cons (pv 0) (pa_cons pe_int pa_nil)))))
    (pss_cons (ps_par (i := 4) (j := 5) rfl sc_law_names.nd rfl rfl (by decide) rfl rfl (pa_cons (pe_f (ok_law_draw T) hr (by decide) rfl (pa_cons (pv 0) (pa_cons (pe_callB (lenk K) rfl (fr_len T) PySem.boot_len (pa_cons (pv 3) pa_nil)) pa_nil))) (pa_cons (pe_f (ok_law_draw T) hr (by decide) rfl (pa_cons (pv 0) (pa_cons pe_int pa_nil))) pa_nil)) rfl)
    (pss_cons (ps_set (i := 6) sc_law_names.nd rfl (by first | exact Or.inl rfl | exact Or.inr rfl) (pe_lst pa_nil))
    (pss_cons (ps_for PassesOwn.never rfl (pi_range1 rfl (fr_range T) (pa_cons (pv 1) pa_nil)) (pg_name (i := 7) sc_law_names.nd rfl (by first | exact Or.inl rfl | exact Or.inr rfl)) (pss_cons (ps_set (i := 8) sc_law_names.nd rfl (by first | exact Or.inl rfl | exact Or.inr rfl) (pe_callTy (lstk K) rfl (fr_list T) PyProof.Rows.boot_list (pa_cons (pv 3) pa_nil)))
    (pss_cons (ps_asg (pe_op op_mod (pe_op op_add (pe_ix (ixLk K) (pv 3) (pv 4) (fun _ _ => rfl)) (pe_op op_mul pe_int (pv 7))) pe_int) (pg_sub (pv 8) (pv 4) set_list))
    (pss_cons (ps_set (i := 9) sc_law_names.nd rfl (by first | exact Or.inl rfl | exact Or.inr rfl) (pe_bm PySem.F.plainAttrs_str PySem.F.slot_str_join PySem.F.type_str_join (joink K) pe_str (pa_cons (pe_lc (own := [("_law_one", 10)]) (g := gName 10) (by rfl) sc_law_names.nd (pi_list (pv 8)) (blkOk_by (own := [("_law_one", 10)]) (N := ["_law_feed_here", "_law_many", "_law_letters", "_law_some", "_law_place", "_law_short", "_law_found", "_law_k", "_law_turned", "_law_shown", "_law_one"]) (sc := defScope s_law_names) (by decide +kernel)) (fun _ _ _ _ _ => (pg_name (i := 10) sc_law_names.nd rfl (by first | exact Or.inl rfl | exact Or.inr rfl))) (fun _ _ _ _ _ => pts_nil) (fun _ _ _ _ _ => (pe_ix ix_str (pv 2) (pv 10) (fun _ _ => rfl)))) pa_nil)))
    (pss_one (ps_expr (by exact (pe_bm PySem.F.plainAttrs_list PySem.F.slot_list_append PySem.F.type_list_append mt_append (pv 6) (pa_cons (pe_slice sl_str (pv 9) po_none (po_some (pe_callB (cr_mx rfl) rfl (fr_max T) PyProof.Rows.boot_max (pa_cons (pe_op op_add (pv 4) pe_int) (pa_cons (pe_op op_sub (pe_callB cr_lenS rfl (fr_len T) PySem.boot_len (pa_cons (pv 9) pa_nil)) (pe_op op_mul (pv 5) (pe_op op_mod (pv 7) pe_int))) pa_nil))))) pa_nil)))))))))
    (pss_one (ps_ret (pv 6)))))))), ?_⟩
  try dsimp only [cxOf]
  rw [show start ["_law_feed_here", "_law_many", "_law_letters", "_law_some", "_law_place", "_law_short", "_law_found", "_law_k", "_law_turned", "_law_shown", "_law_one"] [v0, v1] = [some v0, some v1, none, none, none, none, none, none, none, none, none] from rfl]
  obtain ⟨F, c, cs, o, N, n, B, rfl, rfl, hn, f, hN, hc, S, k⟩ := h
  walk_at "go"
  refine g_dr0 S f hc (by omega) (by omega) (by omega) fun d o1 H1 d0 d1 f1 S1 => ?_
  walk_at "go"
  refine lc_R (n := 1 + d) (fun i acc H0 l => H0 = B ∧ ∃ o', ∃ ds : List Int, l = [(F, o')] ∧ FdP c (N + 1 + i) o' ∧ acc = ds.map V.int ∧ ds.length = i ∧ ∀ x ∈ ds, 0 ≤ x ∧ x < 26) S1 (by omega) ⟨rfl, o1, [], rfl, f1.mono (by omega), rfl, rfl, nofun⟩ ?_ ?_
  · rintro i acc D H0 l H2 hi ⟨rfl, o2, ds, rfl, f2, rfl, hl, hd⟩ S2 hz
    walk_at "lct"
    walk_at "go"
    refine g_dr1 S2 f2 hc (by omega) (by omega) (by omega) fun d' o3 H3 e0 e1 f3 S3 => ?_
    exact yes S3 hz (by omega) ⟨rfl, o3, ds ++ [d'], rfl, f3.mono (by omega), by rw [List.map_append] <;> rfl, by rw [List.length_append, hl] <;> rfl, fun x hx => by
      rcases List.mem_append.mp hx with hx | hx
      · exact hd x hx
      · rw [List.mem_singleton.mp hx]; exact ⟨e0, e1⟩⟩
  · rintro D acc H0 l H2 ⟨rfl, o2, ds, rfl, f2, rfl, hl, hd⟩ hz S2
    have h1 : 1 ≤ ds.length := by omega
    have h8 : ds.length ≤ 8 := by omega
    obtain ⟨S3, s3, e3⟩ := S2.keepT
    have hc3 := s3 _ _ hc
    obtain ⟨B3, hB3⟩ : ∃ B3, B3 = upd H0 D (.lst (ds.map V.int)) := ⟨_, rfl⟩
    rw [← hB3] at S3 s3 e3 hc3
    walk_at "go"
    refine g_dr0 S3 f2 hc3 (by omega) (by rw [List.length_map]; omega) (by rw [List.length_map]; omega) fun pl o3 H4 p0 p1 f3 S4 => ?_
    rw [List.length_map] at p1
    walk_at "go"
    refine g_dr0 S4 f3 hc3 (by omega) (by omega) (by omega) fun sh o4 H5 q0 q1 f4 S5 => ?_
    walk_at "go"
    refine g_new S5 fun fo H6 S6 => ?_
    obtain ⟨p, rfl⟩ := Int.eq_ofNat_of_zero_le p0
    obtain ⟨q, rfl⟩ := Int.eq_ofNat_of_zero_le q0
    have hp : p < ds.length := by omega
    walk_at "go"
    refine for_R (n := (n : Int)) (fun i σ H7 l1 => H7 = B3 ∧ l1 = [(fo, .lst (((List.range i).map (nmOf ds p q)).map V.str)), (F, o4)] ∧ ∃ o1 o2 o3 o5, σ = [some (.ref F), some (.int n), some (.str "abcdefghijklmnopqrstuvwxyz"), some (.ref D), some (.int p), some (.int q), some (.ref fo), o1, o2, o3, o5]) S6 (by omega) ⟨rfl, rfl, _, _, _, _, rfl⟩ ?_ ?_
    · rintro i σ H7 l1 H8 hi ⟨rfl, rfl, o1, o2, o3, o5, rfl⟩ S8
      walk_at "go"
      have hD := e3
      have ap : atI (ds.map V.int) (p : Int) = some (.int (ds.getD p 0)) := atI_nat (j := p) (by rw [List.getElem?_map, List.getD_eq_getElem?_getD, List.getElem?_eq_getElem hp] <;> rfl)
      refine g_new S8 fun tu H9 S9 => ?_
      walk_at "go"
      refine g_setL S9.g0 (j := p) (ixNn (by rw [List.length_map]; exact hp)) ?_
      refine S9.u0 fun H10 S10 => ?_
      have e10 : (ds.map V.int).set p (.int ((ds.getD p 0 + 7 * (i : Int)) % 26)) = (turnd ds p i).map V.int := by rw [turnd, List.map_set]
      rw [e10] at S10
      walk_at "go"
      refine ⟨rfl, ?_⟩
      walk_at "go"
      refine lc_L (xs := (turnd ds p i).map V.int) (fun j acc H0 l1 => H0 = H7 ∧ l1 = [(tu, .lst ((turnd ds p i).map V.int)), (fo, .lst (((List.range i).map (nmOf ds p q)).map V.str)), (F, o4)] ∧ acc = (((ltr (turnd ds p i)).take j).map fun c => (⟨#[c]⟩ : Str)).map V.str) S10 ⟨rfl, rfl, rfl⟩ (fun j acc L H0 l1 H12 ⟨_, e, _⟩ S12 => by subst e; exact SqL.of S12.g1) (SqL.of S10.g0) ?_ ?_
      · rintro j x acc L H0 l1 H12 hxj ⟨rfl, rfl, rfl⟩ S12 hz2
        rw [List.getElem?_map] at hxj
        obtain ⟨t, htj, rfl⟩ := Option.map_eq_some_iff.mp hxj
        obtain ⟨t0, t1⟩ := turnd_ok hd p i t (List.mem_of_getElem? htj)
        have hjl := (List.getElem?_eq_some_iff.mp htj).1
        have hj8 : j ≤ 1000 := by unfold turnd at hjl; rw [List.length_set] at hjl; omega
        walk_at "lct"
        walk_at "go"
        refine g_ixS (by decide) (letter_at t0 t1) ?_
        refine yes S12 hz2 (by omega) ⟨rfl, rfl, ?_⟩
        rw [List.take_add_one, show (ltr (turnd ds p i))[j]? = some (97 + t.toNat) by unfold ltr; rw [List.getElem?_map, htj] <;> rfl, List.map_append, List.map_append] <;> rfl
      · rintro L acc H0 l1 H12 ⟨rfl, rfl, rfl⟩ hz2 S12
        have lt : (turnd ds p i).length = ds.length := by unfold turnd; rw [List.length_set]
        rw [List.length_map, show (turnd ds p i).length = (ltr (turnd ds p i)).length by unfold ltr; rw [List.length_map], List.take_length] at S12
        walk_at "go"
        obtain ⟨zz, hzz⟩ : ∃ zz, zz = Txt.join ("" : Str) ((ltr (turnd ds p i)).map fun c => (⟨#[c]⟩ : Str)) := ⟨_, rfl⟩
        have jz := join_one (ltr (turnd ds p i))
        rw [← hzz] at jz
        have ll : (ltr (turnd ds p i)).length = ds.length := by unfold ltr; rw [List.length_map, lt]
        have zl : zz.length = ds.length := by
          have := congrArg List.length jz
          rw [Array.length_toList, ll] at this
          exact this
        refine ⟨_, L, _, rfl, rfl, .inl (SqL.of S12.g0), ?_, ?_⟩
        · rw [List.map_map, List.length_map, ll, show ((fun (x : Str) => x.length) ∘ fun c => (⟨#[c]⟩ : Str)) = fun _ => 1 from rfl, List.map_const', sum_ones, ll]
          show ds.length + ds.length * 0 ≤ 16777216
          omega
        rw [← hzz]
        have S13 := S12.tail.tail
        walk_at "go"
        refine g_lenS (by show zz.length ≤ 16777216; omega) ?_
        walk_at "go"
        refine g_slS (by omega) ?_
        rw [cut_nm jz hp]
        walk_at "go"
        refine S13.u0 fun H14 S14 => ?_
        walk_at "go"
        refine ⟨_, _, S14, rfl, ?_, _, _, _, _, rfl⟩
        rw [List.range_succ, List.map_append, List.map_append] <;> rfl
    · rintro σ H7 l1 H8 ⟨rfl, rfl, o1, o2, o3, o5, rfl⟩ S8
      rw [Int.toNat_natCast] at S8
      walk_at "go"
      obtain ⟨S9, s9, e9⟩ := S8.keepT
      exact k fo ((List.range n).map (nmOf ds p q)) _ _ _ (by rw [List.length_map, List.length_range]) (nms_nodup hp q hn) (fun z hz => by
        obtain ⟨i, _, rfl⟩ := List.mem_map.mp hz
        exact nmOf_ok hd hp h8 q i) (f4.mono (by omega)) (s3.trans s9) S9 e9
end
end

/-! ## B35 -/
section
set_option maxHeartbeats 4000000
open PySem PySem.Spec PyProof.Rows L2










local macro_rules | `(tactic| walk_at "vv") => `(tactic| ((try simp only [valV_put]); repeat (first | rw [if_pos trivial] | rw [if_neg (by decide +kernel)])))
/-! ### what the law draws for a deck -/
structure WD where
  n : Nat
  bears : List Int
  spans : List Int
  p0 : Int
  p1 : Int
  out : Int
  rest : Int
  turn : Int
  way : Int
structure WdOk (d : WD) : Prop where
  n1 : 1 ≤ d.n
  n2 : d.n ≤ 10
  bl : d.bears.length = d.n
  sl : d.spans.length = d.n + 1
  b : ∀ x ∈ d.bears, 1 ≤ x ∧ x ≤ 1000
  s : ∀ x ∈ d.spans, 1 ≤ x ∧ x ≤ 1000
  o : 1 ≤ d.out ∧ d.out ≤ 100
  r : 0 ≤ d.rest ∧ d.rest ≤ 2000
  t : 1 ≤ d.turn ∧ d.turn ≤ 100
  wo : d.way = 2 ∨ d.way = 4 ∨ d.way = 5 → d.out = 5
  wr : d.way = 2 ∨ d.way = 3 ∨ d.way = 5 → d.rest = 30
  wt : d.way = 2 ∨ d.way = 3 ∨ d.way = 4 → d.turn = 3
structure WdAt (K : PySem.W.Frag) (H : Hp) (wa : Addr) (d : WD) : Prop where
  ex : ∃ kvs bl sl pt, H wa = some (.dK kvs) ∧ (valV kvs (Sum.inr "bears") = some (.ref bl) ∧ valV kvs (Sum.inr "spans") = some (.ref sl) ∧ valV kvs (Sum.inr "part") = some (.ref pt) ∧ valV kvs (Sum.inr "out") = some (.int d.out) ∧ valV kvs (Sum.inr "rest") = some (.int d.rest) ∧
    valV kvs (Sum.inr "turn") = some (.int d.turn) ∧ valV kvs (Sum.inr "way") = some (.int d.way)) ∧ H bl = some (.lst (d.bears.map V.int)) ∧ H sl = some (.lst (d.spans.map V.int)) ∧ H pt = some (.tup [.int d.p0, .int d.p1])
theorem WdAt.same {K : PySem.W.Frag} {H H' : Hp} {wa : Addr} {d : WD} (s : Same H H') (h : WdAt K H wa d) : WdAt K H' wa d := let ⟨k, bl, sl, pt, h1, h2, h3, h4, h5⟩ := h.ex; ⟨k, bl, sl, pt, s _ _ h1, h2, s _ _ h3, s _ _ h4, s _ _ h5⟩
theorem at_any {xs : List V} {d : Int} (h0 : 0 ≤ d) (h1 : d < xs.length) : ∃ v, atI xs d = some v ∧ v ∈ xs := by
  obtain ⟨n, rfl⟩ := Int.eq_ofNat_of_zero_le h0
  have hn : n < xs.length := by omega
  exact ⟨_, atI_nat (j := n) (List.getElem?_eq_getElem hn), List.getElem_mem hn⟩
theorem beq_sw (a b : Int) : (a == b) = decide (b = a) := by
  by_cases h : a = b
  · subst h; simp
  · have h2 : ¬ b = a := fun z => h z.symm
    simp [h, h2]
theorem in3 {w a b c : Int} : inV (.int w) [.int a, .int b, .int c] = decide (w = a ∨ w = b ∨ w = c) := by
  unfold inV
  simp only [List.any_cons, List.any_nil, eqV, Bool.or_false]
  simp only [Bool.decide_or]
  rw [beq_sw a w, beq_sw b w, beq_sw c w]
theorem putK_few {kvs : List (Key × V)} {k : Key} {x : V} {n : Nat} (h : kvs.length ≤ n) : (putK kvs k x).length ≤ n + 1 := by
  have := length_mergeK [(k, x)] kvs
  have e : mergeK kvs [(k, x)] = putK kvs k x := rfl
  rw [e] at this
  simp only [List.length_cons, List.length_nil] at this
  omega
theorem g_two {b : Bool} {σ : L2.St} {H : Hp} {k : VK} {ta tb : TE} {x y : V} (ha : ∀ q : VK, q x H → ta σ H q) (hb : ∀ q : VK, q y H → tb σ H q) (h : k (if b = true then x else y) H) : if b = true then ta σ H k else tb σ H k := by
  cases b with
  | true => exact iteT (ha _ h)
  | false => exact iteF (hb _ h)
def sp_law_world (K : PySem.W.Frag) : Sp := sp1 fun x H Q _ => ∃ F c, ∃ cs : List Int, ∃ o N B, x = .ref F ∧ FdP c N o ∧ N ≤ 900000 ∧ B c = some (.lst (cs.map V.int)) ∧ SH B [(F, o)] H ∧
  ∀ wa d o' B' H', WdOk d → FdP c (N + 60) o' → Same B B' → SH B' [(F, o')] H' → WdAt K B' wa d → Q (.ref wa) H'
section
variable {P : Program} {w : World} {K : PySem.W.Frag} {mg : Str → Option Value} {base : Heap}
theorem ok_law_world (T : Top K mg) : Cal P w K mg base 3 "_law_world" (sp_law_world K) [] := by
  obtain ⟨fd, F⟩ := F_law_world T
  refine cal_of F (g_law_world T) (fun _ _ _ _ _ _ us hl => match us, hl with | [_], _ => rfl) sc_law_world len1 (k := 2) ?_
  rintro cdv A outer s H vs Q E hr ⟨v0, rfl, h⟩
  refine ⟨_, (pss_cons (ps_set (i := 1) sc_law_world.nd rfl (by first | exact Or.inl rfl | exact Or.inr rfl) (pe_op op_add pe_int (pe_f (ok_law_draw T) hr (by decide) rfl (pa_cons (pv 0) (pa_cons (pe_ix (ixLk K) (pe_lst (pa_cons pe_int (pa_cons pe_int (pa_cons pe_int (pa_cons pe_int pa_nil))))) (pe_f (ok_law_draw T) hr (by decide) rfl (pa_cons (pv 0) (pa_cons pe_int pa_nil))) (fun _ _ => rfl)) pa_nil)))))
    (pss_cons (ps_asg (pe_ix (ixLk K) (pe_lst (pa_cons (pe_tup (pa_cons pe_int (pa_cons pe_int pa_nil))) (pa_cons (pe_tup (pa_cons pe_int (pa_cons pe_int pa_nil))) (pa_cons (pe_tup (pa_cons pe_int (pa_cons pe_int pa_nil))) pa_nil)))) (pe_f (ok_law_draw T) hr (by decide) rfl (pa_cons (pv 0) (pa_cons pe_int pa_nil))) (fun _ _ => rfl)) (tupk K (n := 2) rfl (pgs_cons (pg_name (i := 2) sc_law_world.nd rfl (by first | exact Or.inl rfl | exact Or.inr rfl)) (pgs_cons (pg_name (i := 3) sc_law_world.nd rfl (by first | exact Or.inl rfl | exact Or.inr rfl)) pgs_nil))))
    (pss_cons (ps_set (i := 4) sc_law_world.nd rfl (by first | exact Or.inl rfl | exact Or.inr rfl) (pe_disp (pps_cons pe_str (pe_lc (own := [("_law_k", 7)]) (g := gName 7) (by rfl) sc_law_world.nd (pi_range1 rfl (fr_range T) (pa_cons (pv 1) pa_nil)) (blkOk_by (own := [("_law_k", 7)]) (N := ["_law_feed_here", "_law_many", "_law_base", "_law_more", "_law_world_here", "_law_begin", "_law_way", "_law_k"]) (sc := defScope s_law_world) (by decide +kernel)) (fun _ _ _ _ _ => (pg_name (i := 7) sc_law_world.nd rfl (by first | exact Or.inl rfl | exact Or.inr rfl))) (fun _ _ _ _ _ => pts_nil) (fun _ _ _ _ _ => (pe_op op_add (pv 2) (pe_f (ok_law_draw T) hr (by decide) rfl (pa_cons (pv 0) (pa_cons (pv 3) pa_nil)))))) pps_nil) rfl rfl (fun z => by cases z) (by decide)))
    (pss_cons (ps_dput (hu_of hr) (pv 4) pe_str (pe_lc (own := [("_law_k", 7)]) (g := gName 7) (by rfl) sc_law_world.nd (pi_range1 rfl (fr_range T) (pa_cons (pe_op op_add (pv 1) pe_int) pa_nil)) (blkOk_by (own := [("_law_k", 7)]) (N := ["_law_feed_here", "_law_many", "_law_base", "_law_more", "_law_world_here", "_law_begin", "_law_way", "_law_k"]) (sc := defScope s_law_world) (by decide +kernel)) (fun _ _ _ _ _ => (pg_name (i := 7) sc_law_world.nd rfl (by first | exact Or.inl rfl | exact Or.inr rfl))) (fun _ _ _ _ _ => pts_nil) (fun _ _ _ _ _ => (pe_op op_add (pv 2) (pe_f (ok_law_draw T) hr (by decide) rfl (pa_cons (pv 0) (pa_cons (pe_op op_mul pe_int (pv 3)) pa_nil)))))) rfl)
    (pss_cons (ps_set (i := 5) sc_law_world.nd rfl (by first | exact Or.inl rfl | exact Or.inr rfl) (pe_f (ok_law_draw T) hr (by decide) rfl (pa_cons (pv 0) (pa_cons (pe_op op_add (pv 1) pe_int) pa_nil))))
    (pss_cons (ps_dput (hu_of hr) (pv 4) pe_str (pe_tup (pa_cons (pv 5) (pa_cons (pe_op op_add (pv 5) (pe_f (ok_law_draw T) hr (by decide) rfl (pa_cons (pv 0) (pa_cons (pe_op op_sub (pe_op op_add (pv 1) pe_int) (pv 5)) pa_nil)))) pa_nil))) rfl)
    (pss_cons (ps_dput (hu_of hr) (pv 4) pe_str (pe_op op_add pe_int (pe_f (ok_law_draw T) hr (by decide) rfl (pa_cons (pv 0) (pa_cons (pe_ix (ixLk K) (pe_lst (pa_cons pe_int (pa_cons pe_int (pa_cons pe_int (pa_cons pe_int pa_nil))))) (pe_f (ok_law_draw T) hr (by decide) rfl (pa_cons (pv 0) (pa_cons pe_int pa_nil))) (fun _ _ => rfl)) pa_nil)))) rfl)
    (pss_cons (ps_dput (hu_of hr) (pv 4) pe_str (pe_ix (ixLk K) (pe_lst (pa_cons pe_int (pa_cons (pe_f (ok_law_draw T) hr (by decide) rfl (pa_cons (pv 0) (pa_cons pe_int pa_nil))) (pa_cons pe_int (pa_cons (pe_f (ok_law_draw T) hr (by decide) rfl (pa_cons (pv 0) (pa_cons pe_int pa_nil))) pa_nil))))) (pe_f (ok_law_draw T) hr (by decide) rfl (pa_cons (pv 0) (pa_cons pe_int pa_nil))) (fun _ _ => rfl)) rfl)
    (pss_cons (ps_dput (hu_of hr) (pv 4) pe_str (pe_op op_add pe_int (pe_f (ok_law_draw T) hr (by decide) rfl (pa_cons (pv 0) (pa_cons (pe_ix (ixLk K) (pe_lst (pa_cons pe_int (pa_cons pe_int (pa_cons pe_int (pa_cons pe_int pa_nil))))) (pe_f (ok_law_draw T) hr (by decide) rfl (pa_cons (pv 0) (pa_cons pe_int pa_nil))) (fun _ _ => rfl)) pa_nil)))) rfl)
    (pss_cons (ps_set (i := 6) sc_law_world.nd rfl (by first | exact Or.inl rfl | exact Or.inr rfl) (pe_f (ok_law_draw T) hr (by decide) rfl (pa_cons (pv 0) (pa_cons pe_int pa_nil))))
    (pss_cons (ps_dput (hu_of hr) (pv 4) pe_str (pe_ifExp (pt_cmpR (ink K) (pv 6) (pe_tup (pa_cons pe_int (pa_cons pe_int (pa_cons pe_int pa_nil)))) rfl) pe_int (pe_dget (hu_of hr) (pv 4) pe_str (fun _ _ => rfl))) rfl)
    (pss_cons (ps_dput (hu_of hr) (pv 4) pe_str (pe_ifExp (pt_cmpR (ink K) (pv 6) (pe_tup (pa_cons pe_int (pa_cons pe_int (pa_cons pe_int pa_nil)))) rfl) pe_int (pe_dget (hu_of hr) (pv 4) pe_str (fun _ _ => rfl))) rfl)
    (pss_cons (ps_dput (hu_of hr) (pv 4) pe_str (pe_ifExp (pt_cmpR (ink K) (pv 6) (pe_tup (pa_cons pe_int (pa_cons pe_int (pa_cons pe_int pa_nil)))) rfl) pe_int (pe_dget (hu_of hr) (pv 4) pe_str (fun _ _ => rfl))) rfl)
    (pss_cons (ps_dput (hu_of hr) (pv 4) pe_str (pv 6) rfl)
    (pss_one (ps_ret (pv 4))))))))))))))))), ?_⟩
  try dsimp only [cxOf]
  rw [show start ["_law_feed_here", "_law_many", "_law_base", "_law_more", "_law_world_here", "_law_begin", "_law_way", "_law_k"] [v0] = [some v0, none, none, none, none, none, none, none] from rfl]
  obtain ⟨F, c, cs, o, N, B, rfl, f, hN, hc, S, k⟩ := h
  walk_at "go"
  refine g_new S fun q1 H1 S1 => ?_
  walk_at "go"
  refine g_dr1 S1 f hc (by omega) (by omega) (by omega) fun d1 o2 H2 a0 a1 f2 S2 => ?_
  obtain ⟨v1, e1, m1⟩ := at_any (xs := [V.int 5, .int 5, .int 5, .int 10]) a0 a1
  have m1 : ∃ m : Int, v1 = .int m ∧ 5 ≤ m ∧ m ≤ 10 := by
    simp only [List.mem_cons, List.not_mem_nil, or_false] at m1
    rcases m1 with e | e | e | e <;> exact ⟨_, e, by omega, by omega⟩
  obtain ⟨m, rfl, m5, m10⟩ := m1
  walk_at "go"
  refine g_dr0 S2.tail f2 hc (by omega) (by omega) (by omega) fun n o3 H3 n0 n1 f3 S3 => ?_
  walk_at "go"
  refine g_new S3 fun t1 H4 S4 => ?_
  obtain ⟨S5, s5, e5⟩ := S4.keepT
  walk_at "go"
  refine g_new S5 fun t2 H6 S6 => ?_
  obtain ⟨S7, s7, e7⟩ := S6.keepT
  walk_at "go"
  refine g_new S7 fun t3 H8 S8 => ?_
  obtain ⟨S9, s9, e9⟩ := S8.keepT
  have hc9 := s9 _ _ (s7 _ _ (s5 _ _ hc))
  have sB := s5.trans (s7.trans s9)
  walk_at "go"
  refine g_new S9 fun q2 H10 S10 => ?_
  walk_at "go"
  refine g_dr1 S10 f3 hc9 (by omega) (by omega) (by omega) fun d2 o4 H11 b0 b1 f4 S11 => ?_
  obtain ⟨v2, e2, m2⟩ := at_any (xs := [V.ref t1, .ref t2, .ref t3]) b0 b1
  have m2 : ∃ t, ∃ bs mo : Int, v2 = .ref t ∧ H11 t = some (.tup [.int bs, .int mo]) ∧ 2 ≤ bs ∧ bs ≤ 30 ∧ 5 ≤ mo ∧ mo ≤ 40 := by
    simp only [List.mem_cons, List.not_mem_nil, or_false] at m2
    rcases m2 with e | e | e
    · exact ⟨t1, 30, 40, e, S11.rd (s9 _ _ (s7 _ _ e5)), by omega, by omega, by omega, by omega⟩
    · exact ⟨t2, 4, 14, e, S11.rd (s9 _ _ e7), by omega, by omega, by omega, by omega⟩
    · exact ⟨t3, 2, 5, e, S11.rd e9, by omega, by omega, by omega, by omega⟩
  obtain ⟨t, bs, mo, rfl, ht, b2, b30, mo5, mo40⟩ := m2
  have S12 := S11.tail
  walk_at "go"
  obtain ⟨B9, hB9⟩ : ∃ B9, B9 = upd (upd (upd B t1 (.tup [.int 30, .int 40])) t2 (.tup [.int 4, .int 14])) t3 (.tup [.int 2, .int 5]) := ⟨_, rfl⟩
  rw [← hB9] at S12 hc9 s9
  have sB := s5.trans (s7.trans s9)
  clear hB9 sB S9 S10 S11
  have sB := s5.trans (s7.trans s9)
  refine g_dsp_ S12 fun wa H13 S13 => ?_
  walk_at "go"
  refine lc_R (n := 1 + n) (fun i acc H0 l => H0 = B9 ∧ ∃ o', ∃ bl : List Int, l = [(wa, .dK []), (F, o')] ∧ FdP c (N + 3 + i) o' ∧ acc = bl.map V.int ∧ bl.length = i ∧ ∀ x ∈ bl, 1 ≤ x ∧ x ≤ 1000) S13 (by omega) ⟨rfl, o4, [], rfl, f4.mono (by omega), rfl, rfl, nofun⟩ ?_ ?_
  · rintro i acc D H0 l H2 hi ⟨rfl, o5, bl, rfl, f5, rfl, hl, hd⟩ S2 hz
    walk_at "lct"
    walk_at "go"
    refine g_dr2 S2 f5 hc9 (by omega) (by omega) (by omega) fun d' o6 H3 e0 e1 f6 S3 => ?_
    walk_at "go"
    exact yes S3 hz (by omega) ⟨rfl, o6, bl ++ [bs + d'], rfl, f6.mono (by omega), by rw [List.map_append] <;> rfl, by rw [List.length_append, hl] <;> rfl, fun x hx => by
      rcases List.mem_append.mp hx with hx | hx
      · exact hd x hx
      · rw [List.mem_singleton.mp hx]; omega⟩
  rintro D acc H0 l H14 ⟨rfl, o5, bl, rfl, f5, rfl, hl, hd⟩ hz S14
  obtain ⟨S15, s15, e15⟩ := S14.keepT
  have hc15 := s15 _ _ hc9
  walk_at "go"
  refine g_die (kvs := [(Sum.inr "bears", .ref D)]) S15.g0 rfl (List.nodup_cons.mpr ⟨List.not_mem_nil, .nil⟩) (by simp) (S15.u0 fun H16 S16 => ?_)
  walk_at "go"
  refine lc_R (n := 1 + n + 1) (fun i acc H0' l => H0' = upd H0 D (.lst (bl.map V.int)) ∧ ∃ o', ∃ sl : List Int, l = [(wa, .dK [(Sum.inr "bears", .ref D)]), (F, o')] ∧ FdP c (N + 13 + i) o' ∧ acc = sl.map V.int ∧ sl.length = i ∧ ∀ x ∈ sl, 1 ≤ x ∧ x ≤ 1000) S16 (by omega) ⟨rfl, o5, [], rfl, f5.mono (by omega), rfl, rfl, nofun⟩ ?_ ?_
  · rintro i acc D2 H0' l H2 hi ⟨rfl, o7, sl, rfl, f7, rfl, hl2, hd2⟩ S2 hz
    walk_at "lct"
    walk_at "go"
    refine g_dr2 S2 f7 hc15 (by omega) (by omega) (by omega) fun d' o6 H3 e0 e1 f6 S3 => ?_
    walk_at "go"
    exact yes S3 hz (by omega) ⟨rfl, o6, sl ++ [bs + d'], rfl, f6.mono (by omega), by rw [List.map_append] <;> rfl, by rw [List.length_append, hl2] <;> rfl, fun x hx => by
      rcases List.mem_append.mp hx with hx | hx
      · exact hd2 x hx
      · rw [List.mem_singleton.mp hx]; omega⟩
  rintro D2 acc H0' l H17 ⟨rfl, o7, sl, rfl, f7, rfl, hl2, hd2⟩ hz2 S17
  obtain ⟨S18, s18, e18⟩ := S17.keepT
  have hc18 := s18 _ _ hc15
  walk_at "go"
  refine g_dwS S18.g0 (by simp) (S18.u0 fun H19 S19 => ?_)
  walk_at "go"
  refine g_dr1 S19 f7 hc18 (by omega) (by omega) (by omega) fun p0 o8 H20 g0 g1 f8 S20 => ?_
  walk_at "go"
  refine g_dr1 S20 f8 hc18 (by omega) (by omega) (by omega) fun p1 o9 H21 h0 h1 f9 S21 => ?_
  walk_at "go"
  refine g_new S21 fun pt H22 S22 => ?_
  obtain ⟨S23, s23, e23⟩ := S22.keepT
  have hc23 := s23 _ _ hc18
  walk_at "go"
  refine g_dwS S23.g0 (Nat.le_trans (putK_few (n := 9) (by simp)) (by decide)) (S23.u0 fun H24 S24 => ?_)
  walk_at "go"
  obtain ⟨kv, hkv⟩ : ∃ kv, kv = putK (putK [((Sum.inr "bears" : Key), V.ref D)] (Sum.inr "spans") (.ref D2)) (Sum.inr "part") (.ref pt) := ⟨_, rfl⟩
  have kl : kv.length ≤ 3 := by rw [hkv]; exact putK_few (putK_few (by simp))
  rw [← hkv] at S24
  refine g_new S24 fun q3 H25 S25 => ?_
  walk_at "go"
  refine g_dr2 S25 f9 hc23 (by omega) (by omega) (by omega) fun d3 oA H26 i0 i1 fA S26 => ?_
  obtain ⟨v3, e3, m3⟩ := at_any (xs := [V.int 6, .int 6, .int 6, .int 60]) i0 i1
  have m3 : ∃ m : Int, v3 = .int m ∧ 6 ≤ m ∧ m ≤ 60 := by
    simp only [List.mem_cons, List.not_mem_nil, or_false] at m3
    rcases m3 with e | e | e | e <;> exact ⟨_, e, by omega, by omega⟩
  obtain ⟨mo3, rfl, j0, j1⟩ := m3
  walk_at "go"
  refine g_dr1 S26.tail fA hc23 (by omega) (by omega) (by omega) fun ou oB H27 k0 k1 fB S27 => ?_
  walk_at "go"
  refine g_dwS S27.g0 (by omega) (S27.u0 fun H28 S28 => ?_)
  walk_at "go"
  refine g_dr1 S28 fB hc23 (by omega) (by omega) (by omega) fun r1 oC H29 l0 l1 fC S29 => ?_
  walk_at "go"
  refine g_dr1 S29 fC hc23 (by omega) (by omega) (by omega) fun r2 oD H30 l2 l3 fD S30 => ?_
  walk_at "go"
  refine g_new S30 fun q4 H31 S31 => ?_
  walk_at "go"
  refine g_dr2 S31 fD hc23 (by omega) (by omega) (by omega) fun d4 oE H32 l4 l5 fE S32 => ?_
  obtain ⟨v4, e4, m4⟩ := at_any (xs := [V.int 0, .int r1, .int 30, .int r2]) l4 l5
  have m4 : ∃ m : Int, v4 = .int m ∧ 0 ≤ m ∧ m ≤ 1000 := by
    simp only [List.mem_cons, List.not_mem_nil, or_false] at m4
    rcases m4 with e | e | e | e <;> exact ⟨_, e, by omega, by omega⟩
  obtain ⟨re, rfl, l6, l7⟩ := m4
  have S33 := S32.tail
  walk_at "go"
  refine g_dwS S33.g0 (Nat.le_trans (putK_few kl) (by decide)) (S33.u0 fun H34 S34 => ?_)
  walk_at "go"
  refine g_new S34 fun q5 H35 S35 => ?_
  walk_at "go"
  refine g_dr2 S35 fE hc23 (by omega) (by omega) (by omega) fun d5 oG H36 p2 p3 fG S36 => ?_
  obtain ⟨v5, e5', m5'⟩ := at_any (xs := [V.int 4, .int 4, .int 4, .int 20]) p2 p3
  have m5' : ∃ m : Int, v5 = .int m ∧ 4 ≤ m ∧ m ≤ 20 := by
    simp only [List.mem_cons, List.not_mem_nil, or_false] at m5'
    rcases m5' with e | e | e | e <;> exact ⟨_, e, by omega, by omega⟩
  obtain ⟨mo5', rfl, p4, p5⟩ := m5'
  walk_at "go"
  refine g_dr1 S36.tail fG hc23 (by omega) (by omega) (by omega) fun tu oH H37 p6 p7 fH S37 => ?_
  walk_at "go"
  refine g_dwS S37.g0 (Nat.le_trans (putK_few (putK_few kl)) (by decide)) (S37.u0 fun H38 S38 => ?_)
  obtain ⟨kw, hkw⟩ : ∃ kw, kw = putK (putK (putK kv (Sum.inr "out") (.int (1 + ou))) (Sum.inr "rest") (.int re)) (Sum.inr "turn") (.int (1 + tu)) := ⟨_, rfl⟩
  have kl2 : kw.length ≤ 6 := by rw [hkw]; exact putK_few (putK_few (putK_few kl))
  rw [← hkw] at S38
  have w1 : valV kw (Sum.inr "out") = some (.int (1 + ou)) := by
    rw [hkw]; walk_at "vv"
  have w2 : valV kw (Sum.inr "rest") = some (.int re) := by
    rw [hkw]; walk_at "vv"
  have w3 : valV kw (Sum.inr "turn") = some (.int (1 + tu)) := by
    rw [hkw]; walk_at "vv"
  walk_at "go"
  refine g_dr1 S38 fH hc23 (by omega) (by omega) (by omega) fun wy oI H39 r0 r3 fI S39 => ?_
  walk_at "go"
  refine g_new S39 fun q6 H40 S40 => ?_
  walk_at "go"
  rw [in3]
  refine g_two (x := .int 5) (y := .int (1 + ou)) (fun q h => h) (fun q h => ?_) ?_
  · walk_at "go"
    exact g_dgS S40.g1 w1 h
  obtain ⟨ot, ho, ho1, ho2⟩ : ∃ ot : Int, (if decide (wy = 2 ∨ wy = 4 ∨ wy = 5) = true then V.int 5 else .int (1 + ou)) = .int ot ∧ (wy = 2 ∨ wy = 4 ∨ wy = 5 → ot = 5) ∧ 1 ≤ ot ∧ ot ≤ 100 := by
    by_cases h : wy = 2 ∨ wy = 4 ∨ wy = 5
    · exact ⟨5, by rw [decide_eq_true h, if_pos rfl], fun _ => rfl, by omega, by omega⟩
    · exact ⟨1 + ou, by rw [decide_eq_false h, if_neg Bool.false_ne_true], fun z => absurd z h, by omega, by omega⟩
  rw [ho]
  have S41 := S40.tail
  walk_at "go"
  refine g_dwS S41.g0 (by omega) (S41.u0 fun H42 S42 => ?_)
  walk_at "go"
  refine g_new S42 fun q7 H43 S43 => ?_
  walk_at "go"
  rw [in3]
  refine g_two (x := .int 30) (y := .int re) (fun q h => h) (fun q h => ?_) ?_
  · walk_at "go"
    exact g_dgS S43.g1 (by walk_at "vv"; exact w2) h
  obtain ⟨rt, hr', hr1, hr2⟩ : ∃ rt : Int, (if decide (wy = 2 ∨ wy = 3 ∨ wy = 5) = true then V.int 30 else .int re) = .int rt ∧ (wy = 2 ∨ wy = 3 ∨ wy = 5 → rt = 30) ∧ 0 ≤ rt ∧ rt ≤ 2000 := by
    by_cases h : wy = 2 ∨ wy = 3 ∨ wy = 5
    · exact ⟨30, by rw [decide_eq_true h, if_pos rfl], fun _ => rfl, by omega, by omega⟩
    · exact ⟨re, by rw [decide_eq_false h, if_neg Bool.false_ne_true], fun z => absurd z h, by omega, by omega⟩
  rw [hr']
  have S44 := S43.tail
  walk_at "go"
  refine g_dwS S44.g0 (Nat.le_trans (putK_few kl2) (by decide)) (S44.u0 fun H45 S45 => ?_)
  walk_at "go"
  refine g_new S45 fun q8 H46 S46 => ?_
  walk_at "go"
  rw [in3]
  refine g_two (x := .int 3) (y := .int (1 + tu)) (fun q h => h) (fun q h => ?_) ?_
  · walk_at "go"
    exact g_dgS S46.g1 (by walk_at "vv"; exact w3) h
  obtain ⟨tt, ht', ht1, ht2⟩ : ∃ tt : Int, (if decide (wy = 2 ∨ wy = 3 ∨ wy = 4) = true then V.int 3 else .int (1 + tu)) = .int tt ∧ (wy = 2 ∨ wy = 3 ∨ wy = 4 → tt = 3) ∧ 1 ≤ tt ∧ tt ≤ 100 := by
    by_cases h : wy = 2 ∨ wy = 3 ∨ wy = 4
    · exact ⟨3, by rw [decide_eq_true h, if_pos rfl], fun _ => rfl, by omega, by omega⟩
    · exact ⟨1 + tu, by rw [decide_eq_false h, if_neg Bool.false_ne_true], fun z => absurd z h, by omega, by omega⟩
  rw [ht']
  have S47 := S46.tail
  walk_at "go"
  refine g_dwS S47.g0 (Nat.le_trans (putK_few (putK_few kl2)) (by decide)) (S47.u0 fun H48 S48 => ?_)
  walk_at "go"
  refine g_dwS S48.g0 (Nat.le_trans (putK_few (putK_few (putK_few kl2))) (by decide)) (S48.u0 fun H49 S49 => ?_)
  walk_at "go"
  obtain ⟨S50, s50, e50⟩ := S49.keepT
  have sall := sB.trans (s15.trans (s18.trans (s23.trans s50)))
  refine k wa ⟨(1 + n).toNat, bl, sl, p0, p0 + p1, ot, rt, tt, wy⟩ oI _ _ ⟨by show 1 ≤ (1 + n).toNat; omega, by show (1 + n).toNat ≤ 10; omega, hl, by show sl.length = (1 + n).toNat + 1; rw [hl2]; omega, hd, hd2, ⟨ho1 |> fun _ => ho2.1, ho2.2⟩, hr2, ht2, ho1, hr1, ht1⟩ (fI.mono (by omega)) sall S50 ⟨_, D, D2, pt, e50, ?_, s50 _ _ (s23 _ _ (s18 _ _ e15)), s50 _ _ (s23 _ _ e18), s50 _ _ e23⟩
  refine ⟨?_, ?_, ?_, ?_, ?_, ?_, ?_⟩ <;> rw [hkw, hkv] <;> walk_at "vv"
  exact valV_pos rfl
end
end

/-! ## B36 -/
section
set_option maxHeartbeats 4000000
open PySem PySem.Spec PyProof.Rows L2










/-- a rule that a week may be made of, or None -/
def HrOk (P : Program) (w : World) (K : PySem.W.Frag) (mg : Str → Option Value) (base : Heap) (B : Hp) (v : V) : Prop := v = .non ∨ (AlK P w K mg base 4 B v ∧ ClK P w K mg base 5 20 B v)
def sp_law_hours (P : Program) (w : World) (K : PySem.W.Frag) (mg : Str → Option Value) (base : Heap) : Sp := sp1 fun x H Q _ => ∃ F c, ∃ cs : List Int, ∃ o N B, x = .ref F ∧ FdP c N o ∧ N ≤ 900000 ∧ B c = some (.lst (cs.map V.int)) ∧ SH B [(F, o)] H ∧
  ∀ v o' B' H', HrOk P w K mg base B' v → FdP c (N + 10) o' → Same B B' → SH B' [(F, o')] H' → Q v H'
section
variable {P : Program} {w : World} {K : PySem.W.Frag} {mg : Str → Option Value} {base : Heap}
theorem DynOk.weak {k : Nat} {m : Str} {H : Hp} {x : V} {G G' : List V → Hp → VK → Prop} (h : DynOk P w K mg base k m H x G) (e : ∀ vs H' Q, G' vs H' Q → G vs H' Q) : DynOk P w K mg base k m H x G' :=
  let ⟨a, C, dx, fs, f, fd, ps, sp, h1, h2, h3, h4, h5, h6, h7, h8⟩ := h
  ⟨a, C, dx, fs, f, fd, ps, sp, h1, h2, h3, h4, h5, h6, h7, fun H' vs Q E s g => h8 H' vs Q E s (e _ _ _ g)⟩
theorem gCl_weak {b b' : Nat} (e : b ≤ b') (vs : List V) (H : Hp) (Q : VK) (h : gCl b' vs H Q) : gCl b vs H Q := ⟨h.1, fun p H1 cs s n e1 l => h.2 p H1 cs s n e1 (Nat.le_trans l e)⟩
/-- a rule inside another -/
def Rl (P : Program) (w : World) (K : PySem.W.Frag) (mg : Str → Option Value) (base : Heap) (k : Nat) (B : Hp) (v : V) : Prop := AlK P w K mg base k B v ∧ ClK P w K mg base k 2 B v
theorem Rl.same {k : Nat} {B B' : Hp} {v : V} (h : Rl P w K mg base k B v) (s : Same B B') : Rl P w K mg base k B' v := ⟨h.1.same s, h.2.same s⟩
theorem Rl.up {k k' : Nat} {B : Hp} {v : V} (h : Rl P w K mg base k B v) (e : k ≤ k') : Rl P w K mg base k' B v := ⟨h.1.mono e, h.2.mono e⟩
theorem Rl.hr {B : Hp} {v : V} (h : Rl P w K mg base 3 B v) : HrOk P w K mg base B v := .inr ⟨h.1.mono (by decide), (h.2.mono (by decide)).weak (gCl_weak (by decide))⟩
section
variable {B H : Hp} {l : List (Addr × HO)} {Q : VK} {E : XK} {x y v : V} {t : Addr} {rs : List V}
theorem g_mkHours (S : SH B l H) (k : ∀ p dx H', SH B ((p, .ins (He.ga K "Hours") dx (fl_Hours x y)) :: l) H' → Q (.ref p) H') : MkP (He.ga K "Hours") (sp_Hours_init K) (fun ws => ws ++ []) H Q E [x, y] :=
  g_mk fun p dx B1 H1 s S1 => ⟨_, _, _, rfl, p, dx, B1, rfl, S1, fun H' S' => ⟨rfl, k p dx H' (S.join s S')⟩⟩
theorem g_mkUnless (S : SH B l H) (k : ∀ p dx H', SH B ((p, .ins (He.ga K "Unless") dx (fl_Unless v)) :: l) H' → Q (.ref p) H') : MkP (He.ga K "Unless") (sp_Unless_init K) (fun ws => ws ++ []) H Q E [v] :=
  g_mk fun p dx B1 H1 s S1 => ⟨_, _, rfl, p, dx, B1, rfl, S1, fun H' S' => ⟨rfl, k p dx H' (S.join s S')⟩⟩
theorem g_mkDays (S : SH B l H) (h : SqT K H t rs) (k : ∀ p dx H', SH B ((p, .ins (He.ga K "Days") dx (fl_Days (.ref t))) :: l) H' → Q (.ref p) H') : MkP (He.ga K "Days") (sp_Days_init K) (fun ws => ws ++ []) H Q E [.ref t] :=
  g_mk fun p dx B1 H1 s S1 => ⟨_, _, rfl, p, dx, B1, t, rs, rfl, rfl, Same.tup s h, S1, fun H' S' => ⟨rfl, k p dx H' (S.join s S')⟩⟩
theorem g_mkBoth (S : SH B l H) (h : SqT K H t rs) (k : ∀ p dx H', SH B ((p, .ins (He.ga K "Both") dx (fl_Both (.ref t))) :: l) H' → Q (.ref p) H') : MkP (He.ga K "Both") (sp_Both_init K) (fun ws => ws ++ []) H Q E [.ref t] :=
  g_mk fun p dx B1 H1 s S1 => ⟨_, _, rfl, p, dx, B1, t, rs, rfl, rfl, Same.tup s h, S1, fun H' S' => ⟨rfl, k p dx H' (S.join s S')⟩⟩
theorem g_mkEither (S : SH B l H) (h : SqT K H t rs) (k : ∀ p dx H', SH B ((p, .ins (He.ga K "Either") dx (fl_Either (.ref t))) :: l) H' → Q (.ref p) H') : MkP (He.ga K "Either") (sp_Either_init K) (fun ws => ws ++ []) H Q E [.ref t] :=
  g_mk fun p dx B1 H1 s S1 => ⟨_, _, rfl, p, dx, B1, t, rs, rfl, rfl, Same.tup s h, S1, fun H' S' => ⟨rfl, k p dx H' (S.join s S')⟩⟩
theorem rl_Both (T : Top K mg) {a dx : Addr} (h : B a = some (.ins (He.ga K "Both") dx (fl_Both (.ref t)))) (h2 : SqT K B t rs) (hl : rs.length ≤ 10) (h3 : ∀ r ∈ rs, Rl P w K mg base 3 B r) : HrOk P w K mg base B (.ref a) :=
  .inr ⟨al_Both T h h2 (by omega) fun r hr => (h3 r hr).1, cl_Both T h h2 hl fun r hr => (h3 r hr).2⟩
theorem rl_Either (T : Top K mg) {a dx : Addr} (h : B a = some (.ins (He.ga K "Either") dx (fl_Either (.ref t)))) (h2 : SqT K B t rs) (hl : rs.length ≤ 10) (h3 : ∀ r ∈ rs, Rl P w K mg base 3 B r) : HrOk P w K mg base B (.ref a) :=
  .inr ⟨al_Either T h h2 (by omega) fun r hr => (h3 r hr).1, cl_Either T h h2 hl fun r hr => (h3 r hr).2⟩
end
theorem SH.kx {B H : Hp} {a : Addr} {o : HO} {l : List (Addr × HO)} (S : SH B ((a, o) :: l) H) : ∃ B', SH B' l H ∧ Same B B' ∧ B' a = some o := ⟨_, S.keepT⟩
theorem two_in {Pr : V → Prop} {x y : V} (hx : Pr x) (hy : Pr y) : ∀ r ∈ [x, y], Pr r := fun r hr => by
  rcases List.mem_cons.mp hr with e | hr
  · rw [e]; exact hx
  · rw [List.mem_singleton.mp hr]; exact hy
theorem HrOk.same {B B' : Hp} {v : V} (h : HrOk P w K mg base B v) (s : Same B B') : HrOk P w K mg base B' v := h.imp_right fun ⟨a, b⟩ => ⟨a.same s, b.same s⟩
theorem ok_law_hours (T : Top K mg) : Cal P w K mg base 4 "_law_hours" (sp_law_hours P w K mg base) [] := by
  obtain ⟨fd, F⟩ := F_law_hours T
  refine cal_of F (g_law_hours T) (fun _ _ _ _ _ _ us hl => match us, hl with | [_], _ => rfl) sc_law_hours len1 (k := 3) ?_
  rintro cdv A outer s H vs Q E hr ⟨v0, rfl, h⟩
  refine ⟨_, (pss_cons (ps_set (i := 1) sc_law_hours.nd rfl (by first | exact Or.inl rfl | exact Or.inr rfl) (pe_f (ok_law_draw T) hr (by decide) rfl (pa_cons (pv 0) (pa_cons pe_int pa_nil))))
    (pss_cons (ps_set (i := 2) sc_law_hours.nd rfl (by first | exact Or.inl rfl | exact Or.inr rfl) (makk K rfl (ok_Hours_init T) hr (by decide) rfl (pa_cons (pv 1) (pa_cons (pe_op op_mod (pe_op op_add (pe_op op_add (pv 1) pe_int) (pe_f (ok_law_draw T) hr (by decide) rfl (pa_cons (pv 0) (pa_cons pe_int pa_nil)))) pe_int) pa_nil))))
    (pss_cons (ps_set (i := 3) sc_law_hours.nd rfl (by first | exact Or.inl rfl | exact Or.inr rfl) (makk K rfl (ok_Hours_init T) hr (by decide) rfl (pa_cons (pe_op op_mul pe_int (pe_f (ok_law_draw T) hr (by decide) rfl (pa_cons (pv 0) (pa_cons pe_int pa_nil)))) (pa_cons (pe_op op_add (pe_op op_mul pe_int (pe_f (ok_law_draw T) hr (by decide) rfl (pa_cons (pv 0) (pa_cons pe_int pa_nil)))) pe_int) pa_nil))))
    (pss_cons (ps_set (i := 4) sc_law_hours.nd rfl (by first | exact Or.inl rfl | exact Or.inr rfl) (pe_lst (pa_cons pe_non (pa_cons (pv 2) (pa_cons (makk K rfl (ok_Unless_init T) hr (by decide) rfl (pa_cons (pv 2) pa_nil)) (pa_cons (makk K rfl (ok_Either_init T) hr (by decide) rfl (pa_cons (pe_tup (pa_cons (pv 2) (pa_cons (pv 3) pa_nil))) pa_nil)) (pa_cons (makk K rfl (ok_Unless_init T) hr (by decide) rfl (pa_cons (pv 3) pa_nil)) (pa_cons (makk K rfl (ok_Either_init T) hr (by decide) rfl (pa_cons (pe_tup pa_nil) pa_nil)) pa_nil))))))))
    (pss_one (ps_ret (pe_f (ok_law_of T) hr (by decide) rfl (pa_cons (pv 0) (pa_cons (pe_op op_cat (pv 4) (pe_lst (pa_cons (makk K rfl (ok_Both_init T) hr (by decide) rfl (pa_cons (pe_tup (pa_cons (makk K rfl (ok_Unless_init T) hr (by decide) rfl (pa_cons (pv 3) pa_nil)) (pa_cons (makk K rfl (ok_Unless_init T) hr (by decide) rfl (pa_cons (pv 2) pa_nil)) pa_nil))) pa_nil)) (pa_cons (makk K rfl (ok_Both_init T) hr (by decide) rfl (pa_cons (pe_tup (pa_cons (makk K rfl (ok_Days_init T) hr (by decide) rfl (pa_cons (pe_tup (pa_cons pe_int (pa_cons pe_int (pa_cons pe_int pa_nil)))) pa_nil)) (pa_cons (pv 2) pa_nil))) pa_nil)) pa_nil)))) pa_nil))))))))), ?_⟩
  try dsimp only [cxOf]
  rw [show start ["_law_feed_here", "_law_begin", "_law_some", "_law_few", "_law_more"] [v0] = [some v0, none, none, none, none] from rfl]
  obtain ⟨F, c, cs, o, N, B, rfl, f, hN, hc, S, k⟩ := h
  walk_at "go"
  refine g_dr0 S f hc (by omega) (by omega) (by omega) fun d1 o2 H2 a0 a1 f2 S2 => ?_
  walk_at "go"
  refine g_dr0 S2 f2 hc (by omega) (by omega) (by omega) fun d2 o3 H3 b0 b1 f3 S3 => ?_
  walk_at "go"
  refine g_mkHours S3 fun hs dx1 H4 S4 => ?_
  obtain ⟨_, S5, s5, e5⟩ := S4.kx
  have hc5 := s5 _ _ hc
  have r1 : Rl P w K mg base 2 _ (.ref hs) := ⟨al_Hours T e5, cl_Hours T e5⟩
  walk_at "go"
  refine g_dr0 S5 f3 hc5 (by omega) (by omega) (by omega) fun d3 o6 H6 _ _ f6 S6 => ?_
  walk_at "go"
  refine g_dr0 S6 f6 hc5 (by omega) (by omega) (by omega) fun d4 o7 H7 _ _ f7 S7 => ?_
  walk_at "go"
  refine g_mkHours S7 fun hf dx2 H8 S8 => ?_
  obtain ⟨_, S9, s9, e9⟩ := S8.kx
  have hc9 := s9 _ _ hc5
  have r2 : Rl P w K mg base 2 _ (.ref hf) := ⟨al_Hours T e9, cl_Hours T e9⟩
  have r1 := r1.same s9
  walk_at "go"
  refine g_mkUnless S9 fun u1 dx3 H10 S10 => ?_
  obtain ⟨_, S11, s11, e11⟩ := S10.kx
  have r3 : Rl P w K mg base 3 _ (.ref u1) := ⟨al_Unless T e11 (r1.same s11).1, cl_Unless T e11 (r1.same s11).2⟩
  walk_at "go"
  refine g_new S11 fun t1 H12 S12 => ?_
  obtain ⟨_, S13, s13, e13⟩ := S12.kx
  walk_at "go"
  refine g_mkEither S13 (SqT.of (S13.rd e13)) fun i1 dx4 H14 S14 => ?_
  obtain ⟨_, S15, s15, e15⟩ := S14.kx
  have a2 := s11.trans (s13.trans s15)
  walk_at "go"
  refine g_mkUnless S15 fun u2 dx5 H16 S16 => ?_
  obtain ⟨_, S17, s17, e17⟩ := S16.kx
  have r4 : Rl P w K mg base 3 _ (.ref u2) := ⟨al_Unless T e17 (r2.same (a2.trans s17)).1, cl_Unless T e17 (r2.same (a2.trans s17)).2⟩
  walk_at "go"
  refine g_new S17 fun t2 H18 S18 => ?_
  obtain ⟨_, S19, s19, e19⟩ := S18.kx
  walk_at "go"
  refine g_mkEither S19 (SqT.of (S19.rd e19)) fun i2 dx6 H20 S20 => ?_
  obtain ⟨_, S21, s21, e21⟩ := S20.kx
  walk_at "go"
  refine g_new S21 fun q1 H22 S22 => ?_
  obtain ⟨_, S23, s23, e23⟩ := S22.kx
  walk_at "go"
  refine g_mkUnless S23 fun u3 dx7 H24 S24 => ?_
  obtain ⟨_, S25, s25, e25⟩ := S24.kx
  have a3 := a2.trans (s17.trans (s19.trans (s21.trans (s23.trans s25))))
  have r5 : Rl P w K mg base 3 _ (.ref u3) := ⟨al_Unless T e25 (r2.same a3).1, cl_Unless T e25 (r2.same a3).2⟩
  walk_at "go"
  refine g_mkUnless S25 fun u4 dx8 H26 S26 => ?_
  obtain ⟨_, S27, s27, e27⟩ := S26.kx
  have r6 : Rl P w K mg base 3 _ (.ref u4) := ⟨al_Unless T e27 (r1.same (a3.trans s27)).1, cl_Unless T e27 (r1.same (a3.trans s27)).2⟩
  walk_at "go"
  refine g_new S27 fun t3 H28 S28 => ?_
  obtain ⟨_, S29, s29, e29⟩ := S28.kx
  walk_at "go"
  refine g_mkBoth S29 (SqT.of (S29.rd e29)) fun b1 dx9 H30 S30 => ?_
  obtain ⟨_, S31, s31, e31⟩ := S30.kx
  walk_at "go"
  refine g_new S31 fun t4 H32 S32 => ?_
  obtain ⟨_, S33, s33, e33⟩ := S32.kx
  walk_at "go"
  refine g_mkDays S33 (SqT.of (S33.rd e33)) fun dd dxA H34 S34 => ?_
  obtain ⟨_, S35, s35, e35⟩ := S34.kx
  have a4 := a3.trans (s27.trans (s29.trans (s31.trans (s33.trans s35))))
  have r7 : Rl P w K mg base 2 _ (.ref dd) := ⟨al_Days (ds := [0, 2, 5]) T e35 (SqT.of (s35 _ _ e33)), (cl_Days T e35).weak (gCl_weak (by decide))⟩
  walk_at "go"
  refine g_new S35 fun t5 H36 S36 => ?_
  obtain ⟨_, S37, s37, e37⟩ := S36.kx
  walk_at "go"
  refine g_mkBoth S37 (SqT.of (S37.rd e37)) fun b2 dxB H38 S38 => ?_
  obtain ⟨_, S39, s39, e39⟩ := S38.kx
  walk_at "go"
  refine g_new S39 fun q2 H40 S40 => ?_
  obtain ⟨_, S41, s41, e41⟩ := S40.kx
  have f39 := s41
  have f37 := s39.trans f39
  have f35 := s37.trans f37
  have f33 := s35.trans f35
  have f31 := s33.trans f33
  have f29 := s31.trans f31
  have f27 := s29.trans f29
  have f25 := s27.trans f27
  have f23 := s25.trans f25
  have f21 := s23.trans f23
  have f19 := s21.trans f21
  have f17 := s19.trans f19
  have f15 := s17.trans f17
  have f13 := s15.trans f15
  have f11 := s13.trans f13
  have f9 := s11.trans f11
  have cq := f23 _ _ e23
  have r1' := (r1.same f9).up (show 2 ≤ 3 by decide)
  have r2' := (r2.same f9).up (show 2 ≤ 3 by decide)
  have r3' := r3.same f11
  have r4' := r4.same f17
  have r5' := r5.same f25
  have r6' := r6.same f27
  have r7' := (r7.same f35).up (show 2 ≤ 3 by decide)
  have i1' : HrOk P w K mg base _ (.ref i1) := rl_Either T (f15 _ _ e15) (SqT.of (f13 _ _ e13)) (by simp) (two_in r1' r2')
  have i2' : HrOk P w K mg base _ (.ref i2) := rl_Either T (f21 _ _ e21) (SqT.of (f19 _ _ e19)) (by simp) nofun
  have b1' : HrOk P w K mg base _ (.ref b1) := rl_Both T (f31 _ _ e31) (SqT.of (f29 _ _ e29)) (by simp) (two_in r5' r6')
  have b2' : HrOk P w K mg base _ (.ref b2) := rl_Both T (f39 _ _ e39) (SqT.of (f37 _ _ e37)) (by simp) (two_in r7' r1')
  walk_at "go"
  refine g_cat (S41.rd cq) (S41.rd e41) (Nat.le_of_ble_eq_true rfl) ?_
  refine g_new S41 fun q3 H42 S42 => ?_
  walk_at "go"
  refine ⟨_, _, rfl, F, c, cs, o7, N + 4, q3, _, rfl, rfl, S42.g1, f7.mono (by omega), S42.rd (f9 _ _ hc9), by omega, S42.g0, fun z => ?_, by simp, by simp, fun v o' H' hv f' ch => ?_⟩
  · have h1 := S42.nd
    rw [z] at h1
    exact (List.nodup_cons.mp h1).1 (List.mem_cons_self ..)
  · have S43 := (S42.chg (i := 1) rfl ch).tail
    refine k v o' _ H' ?_ (f'.mono (by omega)) (s5.trans (s9.trans f9)) S43
    simp only [List.cons_append, List.nil_append, List.mem_cons, List.not_mem_nil, or_false] at hv
    rcases hv with e | e | e | e | e | e | e | e <;> rw [e]
    · exact .inl rfl
    · exact r1'.hr
    · exact r3'.hr
    · exact i1'
    · exact r4'.hr
    · exact i2'
    · exact b1'
    · exact b2'
end
end

/-! ## B37 -/
section
set_option maxHeartbeats 4000000
open PySem PySem.Spec PyProof.Rows L2










/-! ### the carts and ships that the law draws -/
structure Tg where
  m : Int
  n : Str
  side : Option Bool
  h : Int
def sideV : Option Bool → V
  | none => .non
  | some b => bk b
def TgAt (K : PySem.W.Frag) (H : Hp) (x : V) (t : Tg) : Prop := ∃ a, x = .ref a ∧ SqT K H a [.int t.m, .str t.n, sideV t.side, .int t.h]
theorem TgAt.same {K : PySem.W.Frag} {H H' : Hp} {x : V} {t : Tg} (h : TgAt K H x t) (s : Same H H') : TgAt K H' x t := let ⟨a, e, q⟩ := h; ⟨a, e, Same.tup s q⟩
structure TgOk (d : WD) (t : Tg) : Prop where
  m : 0 ≤ t.m ∧ t.m ≤ 90
  n : IsNm t.n
  h : 1 ≤ t.h ∧ t.h ≤ 10000
  c : ∀ b, t.side = some b → AloneOk t.h d.bears d.spans
  s : t.side = none → t.h ≤ 60
def sp_law_most (K : PySem.W.Frag) : Sp := sp1 fun x H Q _ => ∃ wa d, x = .ref wa ∧ WdAt K H wa d ∧ WdOk d ∧ ∀ m, 1 ≤ m → m ≤ 2000 → (∀ s ∈ d.spans, m ≤ s) → (∀ b ∈ d.bears, m ≤ 2 * b) → Ret (.int m) H Q
section
variable {P : Program} {w : World} {K : PySem.W.Frag} {mg : Str → Option Value} {base : Heap}
theorem ok_law_most (T : Top K mg) : Cal P w K mg base 2 "_law_most" (sp_law_most K) [] := by
  obtain ⟨fd, F⟩ := F_law_most T
  refine cal_of F (g_law_most T) (fun _ _ _ _ _ _ us hl => match us, hl with | [_], _ => rfl) sc_law_most len1 (k := 1) ?_
  rintro cdv A outer s H vs Q E hr ⟨v0, rfl, h⟩
  refine ⟨_, (pss_one (ps_ret (pe_callB (cr_min rfl) rfl (fr_min T) PyProof.Rows.boot_min (pa_cons (pe_op op_cat (pe_dget (hu_of hr) (pv 0) pe_str (fun _ _ => rfl)) (pe_lc (own := [("_law_one", 1)]) (g := gName 1) (by rfl) sc_law_most.nd (pi_list (pe_dget (hu_of hr) (pv 0) pe_str (fun _ _ => rfl))) (blkOk_by (own := [("_law_one", 1)]) (N := ["_law_world_here", "_law_one"]) (sc := defScope s_law_most) (by decide +kernel)) (fun _ _ _ _ _ => (pg_name (i := 1) sc_law_most.nd rfl (by first | exact Or.inl rfl | exact Or.inr rfl))) (fun _ _ _ _ _ => pts_nil) (fun _ _ _ _ _ => (pe_op op_mul pe_int (pv 1))))) pa_nil)))), ?_⟩
  try dsimp only [cxOf]
  rw [show start ["_law_world_here", "_law_one"] [v0] = [some v0, none] from rfl]
  obtain ⟨wa, d, rfl, ⟨kvs, bl, sl, pt, h1, ⟨k1, k2, k3, k4, k5, k6, k7⟩, h2, h3, h4⟩, ok, k⟩ := h
  have S := SH.rfl' (H := H)
  walk_at "go"
  refine g_dgS h1 k2 ?_
  walk_at "go"
  refine g_dgS h1 k1 ?_
  walk_at "go"
  refine lc_L (xs := d.bears.map V.int) (fun i acc H0 l => H0 = H ∧ l = [] ∧ acc = ((d.bears.take i).map (2 * ·)).map V.int) S ⟨rfl, rfl, rfl⟩ (fun i acc L H0 l H2 ⟨e, _⟩ S2 => by subst e; exact SqL.of (S2.rd h2)) (SqL.of h2) ?_ ?_
  · rintro i x acc L H0 l H2 hxi ⟨rfl, rfl, rfl⟩ S2 hz
    rw [List.getElem?_map] at hxi
    obtain ⟨y, hy, rfl⟩ := Option.map_eq_some_iff.mp hxi
    have hi := (List.getElem?_eq_some_iff.mp hy).1
    have bl := ok.bl
    have n2 := ok.n2
    walk_at "lct"
    walk_at "go"
    refine yes S2 hz (by omega) ⟨rfl, rfl, ?_⟩
    rw [List.take_add_one, hy, List.map_append, List.map_append] <;> rfl
  · rintro L acc H0 l H2 ⟨rfl, rfl, rfl⟩ hz S2
    rw [List.length_map, List.take_length] at S2
    have bl := ok.bl
    have sl := ok.sl
    have n2 := ok.n2
    walk_at "go"
    refine g_cat (S2.rd h3) S2.g0 (by rw [List.length_map, List.length_map, List.length_map]; exact Nat.le_trans (show _ ≤ 100 by omega) (by decide)) ?_
    rw [← List.map_append]
    refine g_new S2 fun q H3 S3 => ?_
    walk_at "go"
    refine ⟨q, d.spans ++ d.bears.map (2 * ·), rfl, SqL.of S3.g0, by rw [List.length_append]; omega, fun m hm hall => ?_⟩
    · walk_at "go"
      have hs : ∀ s ∈ d.spans, m ≤ s := fun s hs => hall s (List.mem_append_left _ hs)
      have hb : ∀ b ∈ d.bears, m ≤ 2 * b := fun b hb => hall _ (List.mem_append_right _ (List.mem_map.mpr ⟨b, hb, rfl⟩))
      have h01 : 1 ≤ m ∧ m ≤ 2000 := by
        rcases List.mem_append.mp hm with h | h
        · have := ok.s m h; omega
        · obtain ⟨b, h9, rfl⟩ := List.mem_map.mp h
          have := ok.b b h9
          omega
      exact k m h01.1 h01.2 hs hb _ S3.same
theorem pair_drop {α β : Type} {F : α → β → Prop} : ∀ {xs : List α} {ys : List β} (i : Nat), Paired F xs ys → Paired F (xs.drop i) (ys.drop i)
  | _, _, 0, h => h
  | _, _, i + 1, .nil => .nil
  | _, _, i + 1, .cons h t => pair_drop i t
def sp_law_things (K : PySem.W.Frag) : Sp := sp5 fun x0 x1 x2 x3 x4 H Q _ => ∃ F c, ∃ cs : List Int, ∃ o N B wa d, ∃ nc ns : Nat, x0 = .ref F ∧ x1 = .ref wa ∧ x2 = .int nc ∧ x3 = .int ns ∧ x4 = .int 90 ∧ nc ≤ 9 ∧ ns ≤ 5 ∧ FdP c N o ∧ N ≤ 900000 ∧ B c = some (.lst (cs.map V.int)) ∧ SH B [(F, o)] H ∧ WdAt K B wa d ∧ WdOk d ∧
  ∀ a xs, ∀ ts : List Tg, ∀ o' B' H', ts.length = nc + ns → (ts.map (·.n)).Nodup → (∀ t ∈ ts, TgOk d t) → FdP c (N + 300) o' → Same B B' → SH B' [(F, o')] H' → B' a = some (.lst xs) → Paired (TgAt K B') xs ts → Q (.ref a) H'
theorem ok_law_things (T : Top K mg) : Cal P w K mg base 4 "_law_things" (sp_law_things K) [] := by
  obtain ⟨fd, F⟩ := F_law_things T
  refine cal_of F (g_law_things T) (fun _ _ _ _ _ _ us hl => match us, hl with | [_, _, _, _, _], _ => rfl) sc_law_things len5 (k := 3) ?_
  rintro cdv A outer s H vs Q E hr ⟨v0, v1, v2, v3, v4, rfl, h⟩
  refine ⟨_, (pss_cons (ps_set (i := 5) sc_law_things.nd rfl (by first | exact Or.inl rfl | exact Or.inr rfl) (pe_f (ok_law_names T) hr (by decide) rfl (pa_cons (pv 0) (pa_cons (pe_op op_add (pv 2) (pv 3)) pa_nil))))
    (pss_cons (ps_set (i := 6) sc_law_things.nd rfl (by first | exact Or.inl rfl | exact Or.inr rfl) (pe_lst pa_nil))
    (pss_cons (ps_for PassesOwn.never rfl (pi_range1 rfl (fr_range T) (pa_cons (pe_op op_add (pv 2) (pv 3)) pa_nil)) (pg_name (i := 7) sc_law_things.nd rfl (by first | exact Or.inl rfl | exact Or.inr rfl)) (pss_cons (ps_set (i := 8) sc_law_things.nd rfl (by first | exact Or.inl rfl | exact Or.inr rfl) (pe_f (ok_law_of T) hr (by decide) rfl (pa_cons (pv 0) (pa_cons (pe_lst (pa_cons pe_int (pa_cons (pe_f (ok_law_draw T) hr (by decide) rfl (pa_cons (pv 0) (pa_cons pe_int pa_nil))) (pa_cons (pe_f (ok_law_draw T) hr (by decide) rfl (pa_cons (pv 0) (pa_cons (pv 4) pa_nil))) (pa_cons (pe_f (ok_law_draw T) hr (by decide) rfl (pa_cons (pv 0) (pa_cons (pv 4) pa_nil))) pa_nil))))) pa_nil))))
    (pss_one (ps_if (pt_cmpR op_lt (pv 7) (pv 2) (nomark _)) (pss_one (ps_expr (by exact (pe_bm PySem.F.plainAttrs_list PySem.F.slot_list_append PySem.F.type_list_append mt_append (pv 6) (pa_cons (pe_tup (pa_cons (pv 8) (pa_cons (pe_ix (ixLk K) (pv 5) (pv 7) (fun _ _ => rfl)) (pa_cons (pe_ix (ixLk K) (pe_lst (pa_cons pe_str (pa_cons pe_str pa_nil))) (pe_f (ok_law_draw T) hr (by decide) rfl (pa_cons (pv 0) (pa_cons pe_int pa_nil))) (fun _ _ => rfl)) (pa_cons (pe_op op_add pe_int (pe_f (ok_law_draw T) hr (by decide) rfl (pa_cons (pv 0) (pa_cons (pe_f (ok_law_most T) hr (by decide) rfl (pa_cons (pv 1) pa_nil)) pa_nil)))) pa_nil))))) pa_nil))))) (pss_cons (ps_set (i := 9) sc_law_things.nd rfl (by first | exact Or.inl rfl | exact Or.inr rfl) (pe_op op_add pe_int (pe_f (ok_law_draw T) hr (by decide) rfl (pa_cons (pv 0) (pa_cons (pe_ix (ixLk K) (pe_lst (pa_cons pe_int (pa_cons pe_int (pa_cons pe_int pa_nil)))) (pe_f (ok_law_draw T) hr (by decide) rfl (pa_cons (pv 0) (pa_cons pe_int pa_nil))) (fun _ _ => rfl)) pa_nil)))))
    (pss_one (ps_expr (by exact (pe_bm PySem.F.plainAttrs_list PySem.F.slot_list_insert PySem.F.type_list_insert mt_insert (pv 6) (pa_cons (pe_f (ok_law_draw T) hr (by decide) rfl (pa_cons (pv 0) (pa_cons (pe_op op_add (pe_callB (lenk K) rfl (fr_len T) PySem.boot_len (pa_cons (pv 6) pa_nil)) pe_int) pa_nil))) (pa_cons (pe_tup (pa_cons (pv 8) (pa_cons (pe_ix (ixLk K) (pv 5) (pv 7) (fun _ _ => rfl)) (pa_cons pe_non (pa_cons (pv 9) pa_nil))))) pa_nil)))))))))))
    (pss_one (ps_ret (pv 6)))))), ?_⟩
  try dsimp only [cxOf]
  rw [show start ["_law_feed_here", "_law_world_here", "_law_carts", "_law_ships", "_law_wide", "_law_names_here", "_law_found", "_law_k", "_law_minute", "_law_lasts"] [v0, v1, v2, v3, v4] = [some v0, some v1, some v2, some v3, some v4, none, none, none, none, none] from rfl]
  obtain ⟨F, c, cs, o, N, B, wa, d, nc, ns, rfl, rfl, rfl, rfl, rfl, hnc, hns, f, hN, hc, S, hw, ok, k⟩ := h
  walk_at "go"
  refine ⟨_, _, rfl, F, c, cs, o, N, nc + ns, B, rfl, rfl, by omega, f, by omega, hc, S, fun na nms o1 B1 H1 nl nd nk f1 s1 S1 e1 => ?_⟩
  have hc1 := s1 _ _ hc
  have hw1 := hw.same s1
  walk_at "go"
  refine g_new S1 fun fo H2 S2 => ?_
  walk_at "go"
  refine for_R (n := (nc : Int) + ns) (fun i σ H0 l => Same B1 H0 ∧ ∃ o' xs, ∃ ts : List Tg, l = [(fo, .lst xs), (F, o')] ∧ FdP c (N + 20 + 8 * i) o' ∧ ts.length = i ∧ (ts.map (·.n)).Perm (nms.take i) ∧ (∀ t ∈ ts, TgOk d t) ∧ Paired (TgAt K H0) xs ts ∧
    ∃ o1 o2 o3, σ = [some (.ref F), some (.ref wa), some (.int nc), some (.int ns), some (.int 90), some (.ref na), some (.ref fo), o1, o2, o3]) S2 (by omega) ⟨Same.refl _, o1, [], [], rfl, f1.mono (by omega), rfl, .nil, nofun, .nil, _, _, _, rfl⟩ ?_ ?_
  · rintro i σ H0 l H3 hi ⟨s0, o2, xs, ts, rfl, f2, tl, pm, tok, pt, u1, u2, u3, rfl⟩ S3
    have hc3 := s0 _ _ hc1
    have hi2 : i < nms.length := by omega
    obtain ⟨nm, hnm⟩ : ∃ nm, nms[i]? = some nm := ⟨_, List.getElem?_eq_getElem hi2⟩
    have hna := s0 _ _ e1
    have xl := Paired.length pt
    walk_at "go"
    refine g_dr1 S3 f2 hc3 (by omega) (by omega) (by omega) fun d1 o3 H4 a0 a1 f3 S4 => ?_
    walk_at "go"
    refine g_dr1 S4 f3 hc3 (by omega) (by omega) (by omega) fun d2 o4 H5 b0 b1 f4 S5 => ?_
    walk_at "go"
    refine g_dr1 S5 f4 hc3 (by omega) (by omega) (by omega) fun d3 o5 H6 c0 c1 f5 S6 => ?_
    walk_at "go"
    refine g_new S6 fun q H7 S7 => ?_
    walk_at "go"
    refine ⟨_, _, rfl, F, c, cs, o5, _, q, _, rfl, rfl, S7.g2, f5, S7.rd hc3, by omega, S7.g0, fun z => ?_, by simp, by simp, fun v o6 H8 hv f6 ch => ?_⟩
    · have h1 := S7.nd
      rw [z] at h1
      exact (List.nodup_cons.mp h1).1 (List.mem_cons_of_mem _ (List.mem_cons_self ..))
    have S8 : SH H0 [(fo, .lst xs), (F, o6)] H8 := (S7.chg (i := 2) rfl ch).tail
    have hv : ∃ m : Int, v = .int m ∧ 0 ≤ m ∧ m ≤ 90 := by
      simp only [List.mem_cons, List.not_mem_nil, or_false] at hv
      rcases hv with e | e | e | e <;> exact ⟨_, e, by omega, by omega⟩
    obtain ⟨m, rfl, m0, m9⟩ := hv
    walk_at "go"
    have perm : ∀ j : Nat, j ≤ i → ∀ t : Tg, t.n = nm → ((ts.take j ++ [t] ++ ts.drop j).map (·.n)).Perm (nms.take (i + 1)) := fun j hj t ht => by
      rw [List.take_add_one, hnm]
      have p0 : (ts.take j ++ t :: ts.drop j).Perm (t :: (ts.take j ++ ts.drop j)) := List.perm_middle
      rw [List.take_append_drop] at p0
      have p1 : (ts.take j ++ [t] ++ ts.drop j).Perm (ts ++ [t]) := by
        rw [List.append_assoc]
        exact p0.trans (List.perm_append_singleton t ts).symm
      have p2 := p1.map (·.n)
      have e : (ts ++ [t]).map (·.n) = ts.map (·.n) ++ [nm] := by
        rw [List.map_append]
        show _ ++ [t.n] = _
        rw [ht]
      rw [e] at p2
      exact p2.trans (List.Perm.append pm (List.Perm.refl [nm]))
    refine w_d (fun h => ?_) (fun h => ?_)
    · walk_at "go"
      refine g_ixL (SqL.of (S8.rd hna)) (atI_nat (j := i) (by rw [List.getElem?_map, hnm] <;> rfl)) ?_
      walk_at "go"
      refine g_new S8 fun q2 H9 S9 => ?_
      walk_at "go"
      refine g_dr2 S9 f6 hc3 (by omega) (by omega) (by omega) fun d4 o7 H10 g0 g1 f7 S10 => ?_
      obtain ⟨v2, e2, m2⟩ := at_any (xs := [V.str "near", .str "far"]) g0 g1
      have m2 : ∃ b, v2 = bk b := by
        simp only [List.mem_cons, List.not_mem_nil, or_false] at m2
        rcases m2 with e | e
        · exact ⟨true, e⟩
        · exact ⟨false, e⟩
      obtain ⟨b, rfl⟩ := m2
      have S11 := S10.tail
      walk_at "go"
      refine ⟨_, rfl, wa, d, rfl, hw1.same (s0.trans S11.same), ok, fun mo mo1 mo2 ms mb => g_retV S11 fun H12 S12 => ?_⟩
      walk_at "go"
      refine g_dr1 S12 f7 hc3 (by omega) (by omega) (by omega) fun d5 o8 H13 h0 h1 f8 S13 => ?_
      walk_at "go"
      refine g_new S13 fun t H14 S14 => ?_
      obtain ⟨B15, S15, s15, e15⟩ := S14.kx
      walk_at "go"
      refine S15.u0 fun H16 S16 => ?_
      walk_at "go"
      have tg : TgAt K B15 (.ref t) ⟨m, nm, some b, 1 + d5⟩ := ⟨t, rfl, SqT.of e15⟩
      have tk : TgOk d ⟨m, nm, some b, 1 + d5⟩ := ⟨⟨m0, m9⟩, nk nm (List.mem_of_getElem? hnm), ⟨by show 1 ≤ 1 + d5; omega, by show 1 + d5 ≤ 10000; omega⟩, fun b' _ => ⟨fun s hs => ?_, fun x hx => ?_⟩, fun z => (by cases z)⟩
      · refine ⟨_, _, S16, s0.trans s15, o8, xs ++ [.ref t], ts ++ [⟨m, nm, some b, 1 + d5⟩], rfl, f8.mono (by omega), by rw [List.length_append, tl] <;> rfl, ?_, ?_, pair_app (pair_mono (fun _ _ h => TgAt.same h s15) pt) (.cons tg .nil), _, _, _, rfl⟩
        · have := perm i (Nat.le_refl _) ⟨m, nm, some b, 1 + d5⟩ rfl
          rw [List.take_of_length_le (by omega), List.drop_eq_nil_of_le (by omega), List.append_nil] at this
          exact this
        · intro t ht
          rcases List.mem_append.mp ht with ht | ht
          · exact tok t ht
          · rw [List.mem_singleton.mp ht]; exact tk
      · have := ms s hs
        have := ok.s s hs
        show 1 + d5 ≤ s ∧ 0 ≤ s
        omega
      · have := mb x hx
        have := ok.b x hx
        show 1 + d5 ≤ 2 * x ∧ 0 ≤ x
        omega
    · walk_at "go"
      refine g_new S8 fun q2 H9 S9 => ?_
      walk_at "go"
      refine g_dr2 S9 f6 hc3 (by omega) (by omega) (by omega) fun d4 o7 H10 g0 g1 f7 S10 => ?_
      obtain ⟨v2, e2, m2⟩ := at_any (xs := [V.int 9, .int 9, .int 60]) g0 g1
      have m2 : ∃ y : Int, v2 = .int y ∧ 9 ≤ y ∧ y ≤ 60 := by
        simp only [List.mem_cons, List.not_mem_nil, or_false] at m2
        rcases m2 with e | e | e <;> exact ⟨_, e, by omega, by omega⟩
      obtain ⟨mo, rfl, mo1, mo2⟩ := m2
      have S11 := S10.tail
      walk_at "go"
      refine g_dr1 S11 f7 hc3 (by omega) (by omega) (by omega) fun d5 o8 H13 h0 h1 f8 S13 => ?_
      walk_at "go"
      refine g_dr1 S13 f8 hc3 (by omega) (by omega) (by omega) fun d6 o9 H14 i0 i1 f9 S14 => ?_
      obtain ⟨j, rfl⟩ := Int.eq_ofNat_of_zero_le i0
      walk_at "go"
      refine g_ixL (SqL.of (S14.rd hna)) (atI_nat (j := i) (by rw [List.getElem?_map, hnm] <;> rfl)) ?_
      walk_at "go"
      refine g_new S14 fun t H15 S15 => ?_
      obtain ⟨B16, S16, s16, e16⟩ := S15.kx
      walk_at "go"
      refine ⟨fo, xs, j, .ref t, rfl, rfl, S16.g0, Nat.lt_of_le_of_lt (show xs.length ≤ 1000 by omega) (by decide), by omega, by omega, ?_⟩
      have S17 := S16.set (i := 0) rfl (.lst (xs.take j ++ [.ref t] ++ xs.drop j))
      have tg : TgAt K B16 (.ref t) ⟨m, nm, none, 1 + d5⟩ := ⟨t, rfl, SqT.of e16⟩
      have tk : TgOk d ⟨m, nm, none, 1 + d5⟩ := ⟨⟨m0, m9⟩, nk nm (List.mem_of_getElem? hnm), ⟨by show 1 ≤ 1 + d5; omega, by show 1 + d5 ≤ 10000; omega⟩, fun b' z => (by cases z), fun _ => by show 1 + d5 ≤ 60; omega⟩
      have pt2 := pair_mono (fun _ _ h => TgAt.same h s16) pt
      refine ⟨_, _, S17, s0.trans s16, o9, _, ts.take j ++ [⟨m, nm, none, 1 + d5⟩] ++ ts.drop j, rfl, f9.mono (by omega), ?_, perm j (by omega) _ rfl, ?_, pair_app (pair_app (pair_take j pt2) (.cons tg .nil)) (pair_drop j pt2), _, _, _, rfl⟩
      · rw [List.length_append, List.length_append, List.length_take, List.length_drop, List.length_cons, List.length_nil]; omega
      · intro t ht
        rcases List.mem_append.mp ht with ht | ht
        · rcases List.mem_append.mp ht with ht | ht
          · exact tok t (List.mem_of_mem_take ht)
          · rw [List.mem_singleton.mp ht]; exact tk
        · exact tok t (List.mem_of_mem_drop ht)
  · rintro σ H0 l H3 ⟨s0, o2, xs, ts, rfl, f2, tl, pm, tok, pt, u1, u2, u3, rfl⟩ S3
    walk_at "go"
    obtain ⟨B4, S4, s4, e4⟩ := S3.kx
    refine k fo xs ts o2 B4 _ (by omega) (pm.nodup_iff.mpr (nd.sublist (List.take_sublist ..))) tok (f2.mono (by omega)) (s1.trans (s0.trans s4)) S4 e4 (pair_mono (fun _ _ h => TgAt.same h s4) pt)
end
end

/-! ## B38 -/
section
set_option maxHeartbeats 4000000
open PySem PySem.Spec PyProof.Rows L2










def thOf (t : Tg) : Thing := match t.side with
  | none => .ship t.n t.h
  | some b => .cart t.n b t.h
def MnP (C : Addr) (m : Str) (n nk : Nat) (sp : Sp) (gV : List V → List V → List V) (E : XK) (t tk : TA) (σ : L2.St) (x : V) (H : Hp) (Q : VK) : Prop := ∃ a dx fs, x = .ref a ∧ H a = some (.ins C dx fs) ∧ fs.lookup m = none ∧
  t σ H fun vs H2 => tk σ H2 fun zs H3 => vs.length = n ∧ zs.length = nk ∧ sp (gV (.ref a :: vs) zs) H3 Q E
section
variable {C : Addr} {m : Str} {n nk : Nat} {sp : Sp} {gV : List V → List V → List V} {E : XK} {ta : TE} {t tk : TA} {σ : L2.St} {x : V} {H : Hp} {Q : VK} {a dx : Addr} {fs : List (Str × V)}
theorem g_methN (q : ta σ H fun x H1 => MnP C m n nk sp gV E t tk σ x H1 Q) : tMethN C m n nk sp gV E ta t tk σ H Q := q
theorem g_mnp (h : H a = some (.ins C dx fs)) (e : fs.lookup m = none) (q : t σ H fun vs H2 => tk σ H2 fun zs H3 => vs.length = n ∧ zs.length = nk ∧ sp (gV (.ref a :: vs) zs) H3 Q E) : MnP C m n nk sp gV E t tk σ (.ref a) H Q := ⟨a, dx, fs, rfl, h, e, q⟩
end
def sp_law_tell (K : PySem.W.Frag) : Sp := sp2 fun x y H Q _ => ∃ D s H0 E ca t d, x = .ref D.deck ∧ TgAt K H0 y t ∧ TgOk d t ∧ BrAt K H0 D.bridge D.xs D.ws D.ss ∧ D.ws = d.bears ∧ D.ss = d.spans ∧ TelP K D s H0 H E ca t.n t.m (thOf t) Q
section
variable {P : Program} {w : World} {K : PySem.W.Frag} {mg : Str → Option Value} {base : Heap}
theorem ok_law_tell (T : Top K mg) : Cal P w K mg base 8 "_law_tell" (sp_law_tell K) [] := by
  obtain ⟨fd, F⟩ := F_law_tell T
  refine cal_of F (g_law_tell T) (fun _ _ _ _ _ _ us hl => match us, hl with | [_, _], _ => rfl) sc_law_tell len2 (k := 7) ?_
  rintro cdv A outer s H vs Q E hr ⟨v0, v1, rfl, h⟩
  refine ⟨_, (pss_cons (ps_asg (pv 1) (tupk K (n := 4) rfl (pgs_cons (pg_name (i := 2) sc_law_tell.nd rfl (by first | exact Or.inl rfl | exact Or.inr rfl)) (pgs_cons (pg_name (i := 3) sc_law_tell.nd rfl (by first | exact Or.inl rfl | exact Or.inr rfl)) (pgs_cons (pg_name (i := 4) sc_law_tell.nd rfl (by first | exact Or.inl rfl | exact Or.inr rfl)) (pgs_cons (pg_name (i := 5) sc_law_tell.nd rfl (by first | exact Or.inl rfl | exact Or.inr rfl)) pgs_nil))))))
    (pss_cons (ps_if (pt_cmpR op_isN1 (pv 4) pe_non (nomark _)) (pss_one (ps_ret (methk (n := 1) (ok_Deck_ship_1_long_at T) hr (by decide) (pv 0) (pa_cons (pv 3) pa_nil) (pk_cons (pv 5) (pk_cons (pv 2) pk_nil))))) pss_nil)
    (pss_one (ps_ret (methk (n := 3) (ok_Deck_cart_3_at T) hr (by decide) (pv 0) (pa_cons (pv 3) (pa_cons (pv 4) (pa_cons (pv 5) pa_nil))) (pk_cons (pv 2) pk_nil)))))), ?_⟩
  try dsimp only [cxOf]
  rw [show start ["_law_deck_here", "_law_thing", "_law_minute", "_law_who", "_law_side", "_law_heavy"] [v0, v1] = [some v0, some v1, none, none, none, none] from rfl]
  obtain ⟨D, s, H0, E2, ca, ⟨m, n, side, wt⟩, d, rfl, ⟨q, rfl, hq⟩, ok, hb, e1, e2, tp⟩ := h
  have S := tp.2.2.2.2.2.2.2.1
  walk_at "go"
  cases side with
  | none =>
    refine w_dT rfl ?_
    walk_at "go"
    refine g_methN ?_
    walk_at "go"
    refine g_mnp S.g1 rfl ?_
    walk_at "go"
    exact ⟨rfl, rfl, _, _, _, _, rfl, D, s, H0, E2, ca, n, wt, m, rfl, rfl, rfl, rfl, ok.h.1, ok.s rfl, tp⟩
  | some b =>
    refine w_dF (by cases b <;> exact nofun) ?_
    walk_at "go"
    refine g_methN ?_
    walk_at "go"
    refine g_mnp S.g1 rfl ?_
    walk_at "go"
    exact ⟨rfl, rfl, _, _, _, _, _, rfl, D, s, H0, E2, ca, n, b, wt, m, rfl, rfl, rfl, rfl, rfl, ok.h.1, (by have : wt ≤ 10000 := ok.h.2; omega), hb, (by rw [e1, e2]; exact ok.c b rfl), tp⟩
end
end

/-! ## B39 -/
section
set_option maxHeartbeats 4000000
open PySem PySem.Spec PyProof.Rows L2










/-! ### the feed is set aside -/
theorem dl {H : Hp} {F a : Addr} {o u : HO} (hF : H F = some o) (h : H a = some u) (n : u ≠ o) : del H F a = some u := by
  rw [del_ne (fun z => n (by rw [z, hF] at h; exact (Option.some.inj h).symm))]
  exact h
theorem SH.pull {B H : Hp} {l : List (Addr × HO)} {F : Addr} {o : HO} (S : SH B l H) (h : B F = some o) : SH (del B F) ((F, o) :: l) H where
  same := fun b u e => by
    by_cases q : b = F
    · rw [q, del_same] at e; cases e
    · rw [del_ne q] at e; exact S.same _ _ e
  at_ := fun p m => by
    rcases List.mem_cons.mp m with e | m
    · rw [e]; exact S.rd h
    · exact S.at_ p m
  nd := List.nodup_cons.mpr ⟨fun m => (by
    obtain ⟨p, hp, e⟩ := List.mem_map.mp m
    have := S.out p hp
    rw [e, h] at this
    cases this), S.nd⟩
  out := fun p m => by
    rcases List.mem_cons.mp m with e | m
    · rw [e]; exact del_same
    · by_cases q : p.1 = F
      · rw [q]; exact del_same
      · rw [del_ne q]; exact S.out p m
section
variable {P : Program} {w : World} {K : PySem.W.Frag} {mg : Str → Option Value} {base : Heap} {H : Hp} {F c : Addr} {o : HO} {N : Int}
theorem FdP.ins (f : FdP c N o) {C dx : Addr} {fs : List (Str × V)} : HO.ins C dx fs ≠ o := by obtain ⟨sp, re, rfl, _⟩ := f; exact nofun
theorem FdP.tup (f : FdP c N o) {xs : List V} : HO.tup xs ≠ o := by obtain ⟨sp, re, rfl, _⟩ := f; exact nofun
theorem FdP.dK (f : FdP c N o) {xs : List (Key × V)} : HO.dK xs ≠ o := by obtain ⟨sp, re, rfl, _⟩ := f; exact nofun
theorem SqT.dl (f : FdP c N o) (hF : H F = some o) {a : Addr} {xs : List V} (h : SqT K H a xs) : SqT K (del H F) a xs := by
  rcases h with (h | ⟨u, h⟩) | h
  · exact .inl (.inl (BB.dl hF h f.tup))
  · exact .inl (.inr ⟨u, BB.dl hF h (by obtain ⟨sp, re, rfl, _⟩ := f; exact nofun)⟩)
  · exact .inr h
theorem ThAt.dl (f : FdP c N o) (hF : H F = some o) {x : V} {t : Thing} (h : ThAt K H x t) : ThAt K (del H F) x t := by
  cases t with
  | ship n l => obtain ⟨a, e, q⟩ := h; exact ⟨a, e, SqT.dl f hF q⟩
  | cart n b w => obtain ⟨a, e, q⟩ := h; exact ⟨a, e, SqT.dl f hF q⟩
theorem BrAt.dl (f : FdP c N o) (hF : H F = some o) {br : Addr} {xs : List V} {ws ss : List Int} (h : BrAt K H br xs ws ss) : BrAt K (del H F) br xs ws ss :=
  ⟨let ⟨dx, lu, be, h1, h2, h3⟩ := h.ex; ⟨dx, lu, be, BB.dl hF h1 f.ins, BB.dl hF h2 f.tup, BB.dl hF h3 f.tup⟩, ⟨h.boats.1, fun i x w e1 e2 => let ⟨a, dx, nm, e, q⟩ := h.boats.2 i x w e1 e2; ⟨a, dx, nm, e, BB.dl hF q f.ins⟩⟩, h.len, h.few⟩
theorem WeekAt.dl (f : FdP c N o) (hF : H F = some o) {x : V} (h : WeekAt K H x) : WeekAt K (del H F) x := by
  obtain ⟨a, dx, r, rs, e, h1, h2, h3⟩ := h
  refine ⟨a, dx, r, rs, e, BB.dl hF h1 f.ins, BB.dl hF h2 ?_, fun y hy => ?_⟩
  · obtain ⟨sp, re, rfl, _⟩ := f
    intro z
    obtain ⟨i, j, a, dx, e, _⟩ := h3 (.int sp) (by rw [HO.lst.inj z]; simp)
    cases e
  · obtain ⟨i, j, a, dx, e, q⟩ := h3 y hy
    exact ⟨i, j, a, dx, e, BB.dl hF q f.ins⟩
theorem Stat.dl (f : FdP c N o) (hF : H F = some o) {D : DA} (h : Stat P w K mg base D H) (hr : D.rul = .non ∨ AlOk P w K mg base (del H F) D.rul) : Stat P w K mg base D (del H F) :=
  ⟨h.br.dl f hF, h.n, SqT.dl f hF h.part, BB.dl hF h.lines f.dK, BB.dl hF h.hours (by obtain ⟨sp, re, rfl, _⟩ := f; exact nofun), hr, h.week.dl f hF⟩
theorem g_mkBoat {B : Hp} {l : List (Addr × HO)} {Q : VK} {E : XK} {x y : V} (S : SH B l H) (k : ∀ p dx H', SH B ((p, .ins (He.ga K "Boat") dx (fl_Boat x y)) :: l) H' → Q (.ref p) H') : MkP (He.ga K "Boat") (sp_Boat_init K) (fun ws => ws ++ []) H Q E [x, y] :=
  g_mk fun p dx B1 H1 s S1 => ⟨_, _, _, rfl, p, dx, B1, rfl, S1, fun H' S' => ⟨rfl, k p dx H' (S.join s S')⟩⟩
theorem ten_at {i : Nat} (h : i < 10) : atI ("abcdefghij" : Str).cps.toList (i : Int) = some (97 + i) := by
  have e : ("abcdefghij" : Str).cps.toList = (List.range 10).map (97 + ·) := by decide +kernel
  rw [e]
  exact atI_nat (j := i) (by rw [List.getElem?_map, List.getElem?_range h] <;> rfl)
def sp_law_deck (P : Program) (w : World) (K : PySem.W.Frag) (mg : Str → Option Value) (base : Heap) : Sp := sp2 fun x y H Q _ => ∃ wa d B F c N o, x = .ref wa ∧ WdAt K B wa d ∧ WdOk d ∧ HrOk P w K mg base B y ∧ FdP c N o ∧ SH B [(F, o)] H ∧
  ∀ D ca B' H', Stat P w K mg base D B' → D.W.out = d.out → D.W.rest = d.rest → D.W.turn = d.turn → D.W.p0 = d.p0 → D.W.p1 = d.p1 → D.ws = d.bears → D.ss = d.spans → Same B B' → SH B' ((F, o) :: ours K D st0 ca [] [] [] [] [] []) H' → Q (.ref D.deck) H'
theorem ok_law_deck (T : Top K mg) : Cal P w K mg base 12 "_law_deck" (sp_law_deck P w K mg base) [] := by
  obtain ⟨fd, F⟩ := F_law_deck T
  refine cal_of F (g_law_deck T) (fun _ _ _ _ _ _ us hl => match us, hl with | [_, _], _ => rfl) sc_law_deck len2 (k := 11) ?_
  rintro cdv A outer s H vs Q E hr ⟨v0, v1, rfl, h⟩
  refine ⟨_, (pss_cons (ps_setLc (i := 2) (own := [("_law_k", 6)]) (g := gName 6) (by rfl) sc_law_deck.nd rfl rfl (sw_true rfl rfl rfl (by decide +kernel)) (pi_range1 rfl (fr_range T) (pa_cons (pe_callB (lenk K) rfl (fr_len T) PySem.boot_len (pa_cons (pe_dget (hu_of hr) (pv 0) pe_str (fun _ _ => rfl)) pa_nil)) pa_nil)) (blkOk_by (own := [("_law_k", 6)]) (N := ["_law_world_here", "_law_hours_here", "_law_boats", "_law_crossed", "_law_place", "_law_some", "_law_k"]) (sc := defScope s_law_deck) (by decide +kernel)) (fun _ _ _ _ _ => (pg_name (i := 6) sc_law_deck.nd rfl (by first | exact Or.inl rfl | exact Or.inr rfl))) (fun _ _ _ _ _ => pts_nil) (fun _ _ _ _ _ => (makk K rfl (ok_Boat_init T) hr (by decide) rfl (pa_cons (pe_ix ix_str pe_str (pv 6) (fun _ _ => rfl)) (pa_cons (pe_ix (ixLk K) (pe_dget (hu_of hr) (pv 0) pe_str (fun _ _ => rfl)) (pv 6) (fun _ _ => rfl)) pa_nil)))))
    (pss_cons (ps_par (i := 3) (j := 4) rfl sc_law_deck.nd rfl rfl (by decide) rfl rfl (pa_cons (makk K rfl (ok_Bridge_init T) hr (by decide) rfl (pa_cons (pv 2) (pa_cons (pe_callTy (lstk K) rfl (fr_list T) PyProof.Rows.boot_list (pa_cons (pe_dget (hu_of hr) (pv 0) pe_str (fun _ _ => rfl)) pa_nil)) pa_nil))) (pa_cons (pe_dget (hu_of hr) (pv 0) pe_str (fun _ _ => rfl)) pa_nil)) rfl)
    (pss_cons (ps_if (pt_cmpR op_eq (pe_dget (hu_of hr) (pv 0) pe_str (fun _ _ => rfl)) pe_int (nomark _)) (pss_one (ps_ret (makk K rfl (ok_Deck_init T) hr (by decide) rfl (pa_cons (pv 3) (pa_cons (pv 4) (pa_cons (pe_dget (hu_of hr) (pv 0) pe_str (fun _ _ => rfl)) (pa_cons (pe_dget (hu_of hr) (pv 0) pe_str (fun _ _ => rfl)) (pa_cons (pe_dget (hu_of hr) (pv 0) pe_str (fun _ _ => rfl)) (pa_cons (pv 1) pa_nil))))))))) pss_nil)
    (pss_cons (ps_if (pt_cmpR op_eq (pe_dget (hu_of hr) (pv 0) pe_str (fun _ _ => rfl)) pe_int (nomark _)) (pss_one (ps_ret (pe_ifExp (pt_cmpR op_isN1 (pv 1) pe_non (nomark _)) (makk K rfl (ok_Deck_2 T) hr (by decide) rfl (pa_cons (pv 3) (pa_cons (pv 4) pa_nil))) (makkN K (n := 2) rfl (ok_Deck_2_rule T) hr (by decide) rfl (pa_cons (pv 3) (pa_cons (pv 4) pa_nil)) (pk_cons (pv 1) pk_nil))))) pss_nil)
    (pss_cons (ps_if (pt_cmpR op_eq (pe_dget (hu_of hr) (pv 0) pe_str (fun _ _ => rfl)) pe_int (nomark _)) (pss_one (ps_ret (makkN K (n := 2) rfl (ok_Deck_2_out_rule T) hr (by decide) rfl (pa_cons (pv 3) (pa_cons (pv 4) pa_nil)) (pk_cons (pe_dget (hu_of hr) (pv 0) pe_str (fun _ _ => rfl)) (pk_cons (pv 1) pk_nil))))) pss_nil)
    (pss_cons (ps_if (pt_cmpR op_eq (pe_dget (hu_of hr) (pv 0) pe_str (fun _ _ => rfl)) pe_int (nomark _)) (pss_one (ps_ret (makk0 K rfl (ok_Deck_0_rest_part_bridge_rule T) hr (by decide) rfl (pk_cons (pe_dget (hu_of hr) (pv 0) pe_str (fun _ _ => rfl)) (pk_cons (pv 4) (pk_cons (pv 3) (pk_cons (pv 1) pk_nil))))))) pss_nil)
    (pss_cons (ps_if (pt_cmpR op_eq (pe_dget (hu_of hr) (pv 0) pe_str (fun _ _ => rfl)) pe_int (nomark _)) (pss_one (ps_ret (makkN K (n := 2) rfl (ok_Deck_2_turn_rule T) hr (by decide) rfl (pa_cons (pv 3) (pa_cons (pv 4) pa_nil)) (pk_cons (pe_dget (hu_of hr) (pv 0) pe_str (fun _ _ => rfl)) (pk_cons (pv 1) pk_nil))))) pss_nil)
    (pss_cons (ps_set (i := 5) sc_law_deck.nd rfl (by first | exact Or.inl rfl | exact Or.inr rfl) (pe_tup (pa_cons (pe_dget (hu_of hr) (pv 0) pe_str (fun _ _ => rfl)) (pa_cons (pe_dget (hu_of hr) (pv 0) pe_str (fun _ _ => rfl)) (pa_cons (pe_dget (hu_of hr) (pv 0) pe_str (fun _ _ => rfl)) pa_nil)))))
    (pss_one (ps_ret (makk0 K rfl (ok_Deck_0_rule_turn_rest_out_part_bridge T) hr (by decide) rfl (pk_cons (pv 1) (pk_cons (pe_ix (ixTk K) (pv 5) pe_int (fun _ _ => rfl)) (pk_cons (pe_ix (ixTk K) (pv 5) pe_int (fun _ _ => rfl)) (pk_cons (pe_ix (ixTk K) (pv 5) pe_int (fun _ _ => rfl)) (pk_cons (pv 4) (pk_cons (pv 3) pk_nil))))))))))))))))), ?_⟩
  try dsimp only [cxOf]
  rw [show start ["_law_world_here", "_law_hours_here", "_law_boats", "_law_crossed", "_law_place", "_law_some", "_law_k"] [v0, v1] = [some v0, some v1, none, none, none, none, none] from rfl]
  obtain ⟨wa, d, B, F, c, N, o, rfl, hw0, ok, hr0, f, S0, k⟩ := h
  obtain ⟨B0, S, s0, hF⟩ := S0.kx
  have hw := hw0.same s0
  obtain ⟨kvs, bl, sl, pt, h1, ⟨k1, k2, k3, k4, k5, k6, k7⟩, h2, h3, h4⟩ := hw.ex
  have bl' := ok.bl
  have n2 := ok.n2
  walk_at "go"
  refine g_dgS (S.rd h1) k1 ?_
  walk_at "go"
  rw [List.length_map]
  refine lc_R (n := (d.bears.length : Int)) (fun i acc H0 l => Same B0 H0 ∧ l = [] ∧ Paired (BtAt K H0) acc ((List.range i).map fun k => ((⟨#[97 + k]⟩ : Str), d.bears.getD k 0))) S (by omega) ⟨Same.refl _, rfl, .nil⟩ ?_ ?_
  · rintro i acc L H0 l H2 hi ⟨s2, rfl, pr⟩ S2 hz
    have hi2 : i < d.bears.length := by omega
    obtain ⟨bx, hbx⟩ : ∃ bx, d.bears[i]? = some bx := ⟨_, List.getElem?_eq_getElem hi2⟩
    walk_at "lct"
    walk_at "go"
    refine g_ixS (by decide) (ten_at (by omega)) ?_
    walk_at "go"
    refine g_dgS (S2.rd (s2 _ _ h1)) k1 ?_
    walk_at "go"
    refine g_ixL (SqL.of (S2.rd (s2 _ _ h2))) (atI_nat (j := i) (by rw [List.getElem?_map, hbx] <;> rfl)) ?_
    walk_at "go"
    refine g_mkBoat S2 fun p dx H3 S3 => ?_
    obtain ⟨B4, S4, s4, e4⟩ := S3.kx
    refine yes S4 hz (by omega) ⟨s2.trans s4, rfl, ?_⟩
    rw [List.range_succ, List.map_append]
    refine pair_app (pair_mono (fun _ _ h => BtAt.same s4 h) pr) (.cons ⟨p, dx, rfl, ?_⟩ .nil)
    show B4 p = some (.ins (He.ga K "Boat") dx (fl_Boat (.str ⟨#[97 + i]⟩) (.int (d.bears.getD i 0))))
    rw [List.getD_eq_getElem?_getD, hbx]
    exact e4
  rintro L xs H0 l H2 ⟨s2, rfl, pr⟩ hz S2
  rw [Int.toNat_natCast] at pr
  obtain ⟨B3, S3, s3, e3⟩ := S2.kx
  have s03 := s2.trans s3
  have pr := pair_mono (fun _ _ h => BtAt.same s3 h) pr
  obtain ⟨ps, hps⟩ : ∃ ps, ps = (List.range d.bears.length).map fun k => ((⟨#[97 + k]⟩ : Str), d.bears.getD k 0) := ⟨_, rfl⟩
  rw [← hps] at pr
  have pl : ps.length = d.bears.length := by rw [hps, List.length_map, List.length_range]
  have pnd : (ps.map (·.1)).Nodup := by
    rw [hps, List.map_map]
    refine List.pairwise_map.mpr (List.Pairwise.imp (fun {a b} ne e => ne ?_) List.nodup_range)
    have e : (⟨#[97 + a]⟩ : Str) = ⟨#[97 + b]⟩ := e
    have e2 := congrArg (fun z : Str => z.cps.toList) e
    have e3 : [97 + a] = [97 + b] := e2
    have := (List.cons.inj e3).1
    omega
  walk_at "go"
  refine g_dgS (S3.rd (s03 _ _ h1)) k2 ?_
  walk_at "go"
  refine g_listL (SqL.of (S3.rd (s03 _ _ h3))) ?_
  refine g_new S3 fun lc H4 S4 => ?_
  obtain ⟨B5, S5, s5, e5⟩ := S4.kx
  walk_at "go"
  refine g_mk (vs := fun ws => ws ++ []) fun br dxb B6 H6 s6 S6 => ?_
  have t6 := S5.same.trans s6
  have s06 := s03.trans (s5.trans t6)
  have bt6 := pair_mono (fun _ _ h => BtAt.same (s5.trans t6) h) pr
  refine ⟨_, _, _, rfl, br, dxb, B6, L, lc, xs, ps, d.spans, rfl, rfl, rfl, ⟨t6 _ _ (s5 _ _ e3), t6 _ _ e5, bt6, by have := ok.n1; omega, by omega, pnd, by rw [ok.sl, pl, bl'], fun x hx => by have := ok.s x hx; omega⟩, S6, fun B7 H7 lu be s7 S7 e7 e7' => ⟨rfl, ?_⟩⟩
  obtain ⟨B8, S8, s8, e8⟩ := S7.kx
  have s08 := s06.trans (s7.trans s8)
  have bt8 := pair_mono (fun _ _ h => BtAt.same (s7.trans s8) h) bt6
  have hbr : BrAt K B8 br xs d.bears d.spans := ⟨⟨dxb, lu, be, e8, s8 _ _ e7, s8 _ _ e7'⟩, ⟨by rw [Paired.length bt8, pl], fun i x y hx hy => by
    obtain ⟨q, hq, a, dx, e, h⟩ := LiI.paired_get bt8 hx
    rw [hps, List.getElem?_map] at hq
    obtain ⟨j, hj, rfl⟩ := Option.map_eq_some_iff.mp hq
    have hij : j = i := by
      obtain ⟨h9, h10⟩ := List.getElem?_eq_some_iff.mp hj
      rw [List.getElem_range] at h10
      exact h10.symm
    subst hij
    refine ⟨a, dx, .str ⟨#[97 + j]⟩, e, ?_⟩
    have h : B8 a = some (.ins (He.ga K "Boat") dx (fl_Boat (.str ⟨#[97 + j]⟩) (.int (d.bears.getD j 0)))) := h
    rw [List.getD_eq_getElem?_getD, hy] at h
    exact h⟩, by rw [ok.sl, bl'], by omega⟩
  have core : ∀ H9 E', SH B8 [] H9 → ∀ p dx B1 H1, Same H9 B1 → SH B1 [(p, .ins (He.ga K "Deck") dx [])] H1 → sp_Deck_init P w K mg base [.ref p, .ref br, .ref pt, .int d.out, .int d.rest, .int d.turn, v1] H1 (fun v H2 => v = .non ∧ Q (.ref p) H2) E' := by
    intro H9 E' S9 p dx B1 H1 s9 S10
    have s81 := S9.same.trans s9
    refine ⟨_, _, _, _, _, _, _, rfl, p, dx, B1, { deck := p, dx := dx, near := p, far := p, queue := p, told := p, known := p, lines := p, hours := p, bridge := br, part := pt, week := p, ev := p, rul := v1, xs := xs, ws := d.bears, ss := d.spans, W := ⟨d.n, d.out, d.rest, d.turn, d.p0, d.p1⟩ }, rfl, rfl, rfl, rfl, rfl, rfl, rfl, S10, hr0.same (s0.trans (s08.trans s81)), fun D ca B2 H2 e1 e2 e3 e4 e5 e6 e7 e8 s' S' hl hh hwk => ⟨rfl, ?_⟩⟩
    have sE := s08.trans (s81.trans s')
    have hF2 := sE _ _ hF
    have sB : Same B (del B2 F) := fun b u h => by
      have : b ≠ F := fun z => by rw [z, S0.out0] at h; cases h
      rw [del_ne this]; exact sE _ _ (s0 _ _ h)
    have e1 : D.bridge = br := e1
    have e2 : D.part = pt := e2
    have e3 : D.W = ⟨d.n, d.out, d.rest, d.turn, d.p0, d.p1⟩ := e3
    have e4 : D.rul = v1 := e4
    have e5 : D.xs = xs := e5
    have e6 : D.ws = d.bears := e6
    have e7 : D.ss = d.spans := e7
    have hR := hr0.same sB
    have hR2 := hr0.same (s0.trans sE)
    have st : Stat P w K mg base D B2 := ⟨by rw [e1, e5, e6, e7]; exact hbr.same (s81.trans s'), by rw [e3, e6, bl'], by rw [e2, e3]; exact SqT.of (sE _ _ h4), hl, hh, by rw [e4]; exact hR2.imp_right fun z => z.1, hwk⟩
    have e8 : D.deck = p := e8
    rw [← e8]
    exact k D ca (del B2 F) H2 (st.dl f hF2 (by rw [e4]; exact hR.imp_right fun z => z.1)) (by rw [e3]) (by rw [e3]) (by rw [e3]) (by rw [e3]) (by rw [e3]) e6 e7 sB (S'.pull hF2)
  have k7' := s08 _ _ h1
  walk_at "go"
  refine g_dgS (S8.rd k7') k3 ?_
  walk_at "go"
  have rd : ∀ {z : Str} {x : V} {Q' : VK}, valV kvs (Sum.inr z) = some x → Q' x H7 → DgP (.ref wa) (.str z) H7 Q' := fun e q => g_dgS (S8.rd k7') e q
  refine rd k7 ?_
  walk_at "go"
  refine w_d (fun y1 => ?_) (fun _ => ?_)
  · walk_at "go"
    refine rd k4 ?_
    walk_at "go"
    refine rd k5 ?_
    walk_at "go"
    refine rd k6 ?_
    walk_at "go"
    exact g_mk (vs := fun ws => ws ++ []) (ws := [.ref br, .ref pt, .int d.out, .int d.rest, .int d.turn, v1]) (core _ _ S8)
  walk_at "go"
  refine rd k7 ?_
  walk_at "go"
  refine w_d (fun y2 => ?_) (fun _ => ?_)
  · have y2 : d.way = 2 := V.int.inj y2
    rw [ok.wo (.inl y2), ok.wr (.inl y2), ok.wt (.inl y2)] at core
    by_cases hv : v1 = .non
    · subst hv
      walk_at "go"
      exact g_mk (vs := fun ws => ws ++ [.int 5, .int 30, .int 3, .non]) (ws := [.ref br, .ref pt]) (core _ _ S8)
    · walk_at "go"
      exact ⟨rfl, rfl, g_mkR (ws := [.ref br, .ref pt, .int 5, .int 30, .int 3, v1]) (core _ _ S8)⟩
  walk_at "go"
  refine rd k7 ?_
  walk_at "go"
  refine w_d (fun y3 => ?_) (fun _ => ?_)
  · have y3 : d.way = 3 := V.int.inj y3
    rw [ok.wr (.inr (.inl y3)), ok.wt (.inr (.inl y3))] at core
    walk_at "go"
    refine rd k4 ?_
    walk_at "go"
    exact ⟨rfl, rfl, g_mkR (ws := [.ref br, .ref pt, .int d.out, .int 30, .int 3, v1]) (core _ _ S8)⟩
  walk_at "go"
  refine rd k7 ?_
  walk_at "go"
  refine w_d (fun y4 => ?_) (fun _ => ?_)
  · have y4 : d.way = 4 := V.int.inj y4
    rw [ok.wo (.inr (.inl y4)), ok.wt (.inr (.inr y4))] at core
    walk_at "go"
    refine rd k5 ?_
    walk_at "go"
    exact ⟨rfl, rfl, g_mkR (ws := [.ref br, .ref pt, .int 5, .int d.rest, .int 3, v1]) (core _ _ S8)⟩
  walk_at "go"
  refine rd k7 ?_
  walk_at "go"
  refine w_d (fun y5 => ?_) (fun _ => ?_)
  · have y5 : d.way = 5 := V.int.inj y5
    rw [ok.wo (.inr (.inr y5)), ok.wr (.inr (.inr y5))] at core
    walk_at "go"
    refine rd k6 ?_
    walk_at "go"
    exact ⟨rfl, rfl, g_mkR (ws := [.ref br, .ref pt, .int 5, .int 30, .int d.turn, v1]) (core _ _ S8)⟩
  walk_at "go"
  refine rd k6 ?_
  walk_at "go"
  refine rd k5 ?_
  walk_at "go"
  refine rd k4 ?_
  walk_at "go"
  refine g_new S8 fun tt H9 S9 => ?_
  obtain ⟨BA, S10, s10, e10⟩ := S9.kx
  walk_at "go"
  exact ⟨rfl, rfl, g_mkR (ws := [.ref br, .ref pt, .int d.out, .int d.rest, .int d.turn, v1]) (core _ _ ⟨s10.trans S10.same, nofun, .nil, nofun⟩)⟩
end
end

/-! ## B40 -/
section
set_option maxHeartbeats 4000000
open PySem PySem.Spec PyProof.Rows L2










/-! ### the law reads the events -/
def phW : Ph → Str
  | .down => "down"
  | .out => "out"
  | .opn => "through"
  | .back => "back"
def evW : Ev → Str
  | .off _ _ _ => "off"
  | .down _ => "down"
  | .thr _ _ => "through"
  | .back _ => "back"
  | .out _ => "out"
  | .turn _ _ => "turn"
  | .on _ _ _ => "on"
theorem ev0 (e : Ev) : atI (evV e) 0 = some (.int e.min) := by cases e <;> exact at0
theorem ev1 (e : Ev) : atI (evV e) 1 = some (.str (evW e)) := by cases e <;> exact at1
theorem evW_word {e : Ev} {p : Ph} (h : e.word = some p) : evW e = phW p := by cases e <;> cases h <;> rfl
abbrev words4 : List V := [.str "out", .str "through", .str "back", .str "down"]
theorem ev_in (e : Ev) : inV (.str (evW e)) words4 = e.word.isSome := by cases e <;> rfl
/-! minute by minute -/
def foldW (w : Ph) (l : List Ev) : Ph := l.foldl (fun w e => e.word.getD w) w
theorem filt_split {l : List Ev} (s : l.Pairwise fun e f => e.min ≤ f.min) (i : Int) : l.filter (fun e => decide (e.min ≤ i)) = l.filter (fun e => decide (e.min ≤ i - 1)) ++ l.filter (fun e => decide (e.min = i)) := by
  induction l with
  | nil => rfl
  | cons e r ih =>
    obtain ⟨h1, h2⟩ := List.pairwise_cons.mp s
    have ih := ih h2
    by_cases a : e.min ≤ i - 1
    · rw [List.filter_cons_of_pos (by simp; omega), List.filter_cons_of_pos (by simp; omega), List.filter_cons_of_neg (by simp; omega), ih]; rfl
    · have z : r.filter (fun e => decide (e.min ≤ i - 1)) = [] := List.filter_eq_nil_iff.mpr fun f hf => by have := h1 f hf; simp; omega
      rw [z, List.nil_append] at ih
      rw [List.filter_cons_of_neg (p := fun (e : Ev) => decide (e.min ≤ i - 1)) (by simp; omega), z, List.nil_append]
      by_cases b : e.min = i
      · rw [List.filter_cons_of_pos (by simp; omega), List.filter_cons_of_pos (by simp; omega), ih]
      · rw [List.filter_cons_of_neg (by simp; omega), List.filter_cons_of_neg (by simp; omega), ih]
theorem ph_step {l : List Ev} (s : l.Pairwise fun e f => e.min ≤ f.min) (i : Int) : phAt l i = foldW (phAt l (i - 1)) (l.filter fun e => decide (e.min = i)) := by
  unfold phAt
  rw [filt_split s i, lastW_app]
  rfl
theorem ph_start {l : List Ev} (h : ∀ e ∈ l, 0 ≤ e.min) : phAt l (-1) = .down := by
  unfold phAt
  rw [List.filter_eq_nil_iff.mpr fun e he => by have := h e he; simp; omega]
  rfl
theorem fold_next {l : List Ev} {j : Nat} {e : Ev} (h : l[j]? = some e) (w : Ph) (i : Int) : foldW w ((l.take (j + 1)).filter fun e => decide (e.min = i)) = if e.min = i then e.word.getD (foldW w ((l.take j).filter fun e => decide (e.min = i))) else foldW w ((l.take j).filter fun e => decide (e.min = i)) := by
  rw [List.take_add_one, h, List.filter_append]
  unfold foldW
  rw [List.foldl_append]
  by_cases q : e.min = i
  · rw [if_pos q]
    show ([e].filter _).foldl _ _ = _
    rw [List.filter_cons_of_pos (by simpa using q)]; rfl
  · rw [if_neg q]
    show ([e].filter _).foldl _ _ = _
    rw [List.filter_cons_of_neg (by simpa using q)]; rfl
abbrev phs (l : List Ev) (n : Nat) : List V := (List.range n).map fun m => .str (phW (phAt l (m : Nat)))
section
variable {P : Program} {w : World} {K : PySem.W.Frag} {mg : Str → Option Value} {base : Heap}
def sp_law_phases (K : PySem.W.Frag) : Sp := sp2 fun x y H Q _ => ∃ a es, ∃ l : List Ev, ∃ u : Nat, x = .ref a ∧ y = .int u ∧ H a = some (.lst es) ∧ Paired (EvAt K H) es l ∧ u ≤ 1000 ∧ (l.Pairwise fun e f => e.min ≤ f.min) ∧ (∀ e ∈ l, 0 ≤ e.min) ∧ RetN (.lst (phs l u)) H Q
theorem ok_law_phases (T : Top K mg) : Cal P w K mg base 2 "_law_phases" (sp_law_phases K) [] := by
  obtain ⟨fd, F⟩ := F_law_phases T
  refine cal_of F (g_law_phases T) (fun _ _ _ _ _ _ us hl => match us, hl with | [_, _], _ => rfl) sc_law_phases len2 (k := 1) ?_
  rintro cdv A outer s H vs Q E hr ⟨v0, v1, rfl, h⟩
  refine ⟨_, (pss_cons (ps_par (i := 2) (j := 3) rfl sc_law_phases.nd rfl rfl (by decide) rfl rfl (pa_cons (pe_lst pa_nil) (pa_cons pe_str pa_nil)) rfl)
    (pss_cons (ps_for PassesOwn.never rfl (pi_range1 rfl (fr_range T) (pa_cons (pv 1) pa_nil)) (pg_name (i := 4) sc_law_phases.nd rfl (by first | exact Or.inl rfl | exact Or.inr rfl)) (pss_cons (ps_for PassesOwn.never rfl (pi_list (pv 0)) (pg_name (i := 5) sc_law_phases.nd rfl (by first | exact Or.inl rfl | exact Or.inr rfl)) (pss_one (ps_if (PW.pt (pw_and (pt_cmpR op_eq (pe_ix (ixTk K) (pv 5) pe_int (fun _ _ => rfl)) (pv 4) (nomark _)) (pw_and1 (pt_cmpR (ink K) (pe_ix (ixTk K) (pv 5) pe_int (fun _ _ => rfl)) (pe_tup (pa_cons pe_str (pa_cons pe_str (pa_cons pe_str (pa_cons pe_str pa_nil))))) rfl)))) (pss_one (ps_set (i := 3) sc_law_phases.nd rfl (by first | exact Or.inl rfl | exact Or.inr rfl) (pe_ix (ixTk K) (pv 5) pe_int (fun _ _ => rfl)))) pss_nil)))
    (pss_one (ps_expr (by exact (pe_bm PySem.F.plainAttrs_list PySem.F.slot_list_append PySem.F.type_list_append mt_append (pv 2) (pa_cons (pv 3) pa_nil)))))))
    (pss_one (ps_ret (pv 2))))), ?_⟩
  try dsimp only [cxOf]
  rw [show start ["_law_events", "_law_until", "_law_found", "_law_word", "_law_minute", "_law_event"] [v0, v1] = [some v0, some v1, none, none, none, none] from rfl]
  obtain ⟨a, es, l, u, rfl, rfl, ha, hp, hu, srt, pos, k⟩ := h
  have S := SH.rfl' (H := H)
  have le := Paired.length hp
  walk_at "go"
  refine g_new S fun fo H1 S1 => ?_
  walk_at "go"
  refine for_R (n := (u : Int)) (fun i σ H0 l1 => H0 = H ∧ l1 = [(fo, .lst (phs l i))] ∧ ∃ o1 o2, σ = [some (.ref a), some (.int u), some (.ref fo), some (.str (phW (phAt l ((i : Int) - 1)))), o1, o2]) S1 (by omega) ⟨rfl, rfl, none, none, by rw [show ((0 : Nat) : Int) - 1 = -1 by omega, ph_start pos]; rfl⟩ ?_ ?_
  · rintro i σ H0 l1 H2 hi ⟨rfl, rfl, o1, o2, rfl⟩ S2
    walk_at "go"
    refine for_L (xs := es) (fun j σ H5 l1 => H5 = H0 ∧ l1 = [(fo, .lst (phs l i))] ∧ ∃ o2, σ = [some (.ref a), some (.int u), some (.ref fo), some (.str (phW (foldW (phAt l ((i : Int) - 1)) ((l.take j).filter fun e => decide (e.min = (i : Int)))))), some (.int i), o2]) S2 ⟨rfl, rfl, _, rfl⟩ (fun j σ H0 l1 H3 ⟨e, _⟩ S3 => SqL.of (S3.rd (by rw [e]; exact ha))) ?_ ?_
    · rintro j x σ H0 l1 H3 hj ⟨rfl, rfl, o2, rfl⟩ S3
      obtain ⟨e, he, q, rfl, hq⟩ := LiI.paired_get hp hj
      have nx := fold_next he (phAt l ((i : Int) - 1)) (i : Int)
      have hq3 := Same.tup S3.same hq
      walk_at "go"
      refine g_ixT hq3 (ev0 e) ?_
      walk_at "go"
      refine w_d (fun h1 => ?_) (fun h1 => ?_)
      · have h1 : e.min = (i : Int) := V.int.inj h1
        rw [if_pos h1] at nx
        walk_at "go"
        refine g_ixT hq3 (ev1 e) ?_
        walk_at "go"
        refine g_new S3 fun t H4 S4 => ?_
        walk_at "go"
        rw [ev_in e]
        have S5 := S4.tail
        cases hw : e.word with
        | none =>
          rw [hw] at nx
          refine iteF ?_
          walk_at "go"
          exact ⟨_, _, S5, rfl, rfl, _, by rw [nx]; rfl⟩
        | some p =>
          rw [hw] at nx
          refine iteT ?_
          walk_at "go"
          refine g_ixT (Same.tup S5.same hq) (ev1 e) ?_
          walk_at "go"
          exact ⟨_, _, S5, rfl, rfl, _, by rw [nx, evW_word hw]; rfl⟩
      · have h1 : ¬ e.min = (i : Int) := fun z => h1 (by rw [z])
        rw [if_neg h1] at nx
        walk_at "go"
        exact ⟨_, _, S3, rfl, rfl, _, by rw [nx]⟩
    · rintro σ H0 l1 H3 ⟨rfl, rfl, o2, rfl⟩ S3
      rw [le, List.take_length, ← ph_step srt]
      walk_at "go"
      refine S3.u0 fun H4 S4 => ?_
      walk_at "go"
      refine ⟨_, _, S4, rfl, ?_, some (.int (i : Int)), o2, ?_⟩
      · show [(fo, HO.lst (phs l i ++ [_]))] = [(fo, HO.lst (phs l (i + 1)))]
        unfold phs
        rw [List.range_succ, List.map_append] <;> rfl
      · rw [show ((i + 1 : Nat) : Int) - 1 = (i : Int) by omega]
  · rintro σ H0 l1 H2 ⟨rfl, rfl, o1, o2, rfl⟩ S2
    walk_at "go"
    exact k.go0 S2
end
end

/-! ## B41 -/
section
set_option maxHeartbeats 4000000
open PySem PySem.Spec PyProof.Rows L2










theorem g_both {b : Bool} {σ : L2.St} {H : Hp} {k : VK} {ta tb : TE} {x : V} (ha : b = true → ∀ q : VK, q x H → ta σ H q) (hb : b = false → ∀ q : VK, q x H → tb σ H q) (h : k x H) : if b = true then ta σ H k else tb σ H k := by
  cases b with
  | true => exact iteT (ha rfl _ h)
  | false => exact iteF (hb rfl _ h)
/-! ### the swings, read by the law -/
theorem sw_none (W : Wl) (ships : Str → Int) : ∀ l : List Ev, l.foldl (swStep W ships) none = none
  | [] => rfl
  | _ :: r => sw_none W ships r
theorem sw_pre {W : Wl} {ships : Str → Int} {l : List Ev} (h : (swFold W ships l).isSome = true) (j : Nat) : (swFold W ships (l.take j)).isSome = true := by
  have e := swFold_app W ships (l.take j) (l.drop j)
  rw [List.take_append_drop] at e
  cases q : swFold W ships (l.take j) with
  | some _ => rfl
  | none => rw [q, sw_none] at e; rw [e] at h; exact h
theorem sw_next {W : Wl} {ships : Str → Int} {l : List Ev} {j : Nat} {e : Ev} (h : l[j]? = some e) : swFold W ships (l.take (j + 1)) = swStep W ships (swFold W ships (l.take j)) e := by
  rw [List.take_add_one, h, swFold_app]
  rfl
/-- what a step asks -/
theorem sw_step {W : Wl} {ships : Str → Int} {a p : Ph} {wh : Option Int} {la : Int} {e : Ev} (hw : e.word = some p) (h : (swStep W ships (some (a, wh, la)) e).isSome = true) :
    okAfter p a = true ∧ (a = .opn → e.min = wh.getD 0 + la) ∧ (a = .out ∨ a = .back → e.min = wh.getD 0 + W.out) ∧ (p = .out → wh.isSome = true → ¬ e.min < wh.getD 0 + W.rest) ∧ swStep W ships (some (a, wh, la)) e = some (p, some e.min, evLasts ships e) := by
  simp only [swStep, hw] at h ⊢
  by_cases h1 : okAfter p a = false
  · rw [if_pos h1] at h; cases h
  rw [if_neg h1] at h ⊢
  by_cases h2 : (a = .opn ∧ e.min ≠ wh.getD 0 + la) ∨ ((a = .out ∨ a = .back) ∧ e.min ≠ wh.getD 0 + W.out)
  · rw [if_pos h2] at h; cases h
  rw [if_neg h2] at h ⊢
  by_cases h3 : p = .out ∧ wh.isSome = true ∧ e.min < wh.getD 0 + W.rest
  · rw [if_pos h3] at h; cases h
  rw [if_neg h3] at h ⊢
  refine ⟨by simpa using h1, fun z => ?_, fun z => ?_, fun z1 z2 z3 => h3 ⟨z1, z2, z3⟩, rfl⟩
  · exact Decidable.byContradiction fun n => h2 (.inl ⟨z, n⟩)
  · exact Decidable.byContradiction fun n => h2 (.inr ⟨z, n⟩)
def aftL : Ph → List V
  | .out => [.str "down"]
  | .opn => [.str "out", .str "through"]
  | .back => [.str "out", .str "through"]
  | .down => [.str "back"]
theorem aft_in (p a : Ph) : inV (.str (phW a)) (aftL p) = okAfter p a := by cases p <;> cases a <;> decide +kernel
theorem aft_flat (p : Ph) : (aftL p).all flatV = true := by cases p <;> rfl
theorem ph_thr (a : Ph) : V.str (phW a) = V.str "through" ↔ a = .opn := by
  constructor
  · intro h
    cases a with
    | opn => rfl
    | _ => exact absurd (V.str.inj h) (by decide +kernel)
  · intro h; rw [h]; rfl
theorem ph_out (a : Ph) : V.str (phW a) = V.str "out" ↔ a = .out := by
  constructor
  · intro h
    cases a with
    | out => rfl
    | _ => exact absurd (V.str.inj h) (by decide +kernel)
  · intro h; rw [h]; rfl
theorem ph_ob (a : Ph) : inV (.str (phW a)) [.str "out", .str "back"] = decide (a = .out ∨ a = .back) := by cases a <;> decide +kernel
theorem key_nd : [(Sum.inr "out" : Key), Sum.inr "through", Sum.inr "back", Sum.inr "down"].Nodup := by decide +kernel
theorem aft_get {t1 t2 t3 t4 : Addr} (p : Ph) : ∃ t, valV [((Sum.inr "out" : Key), V.ref t1), (Sum.inr "through", .ref t2), (Sum.inr "back", .ref t3), (Sum.inr "down", .ref t4)] (Sum.inr (phW p)) = some (.ref t) ∧ ((p = .out ∧ t = t1) ∨ (p = .opn ∧ t = t2) ∨ (p = .back ∧ t = t3) ∨ (p = .down ∧ t = t4)) := by
  cases p with
  | out => exact ⟨t1, valV_pos rfl, .inl ⟨rfl, rfl⟩⟩
  | opn => exact ⟨t2, (valV_neg (show ¬ (Sum.inr "out" : Key) = Sum.inr (phW .opn) by decide +kernel)).trans (valV_pos rfl), .inr (.inl ⟨rfl, rfl⟩)⟩
  | back => exact ⟨t3, (valV_neg (show ¬ (Sum.inr "out" : Key) = Sum.inr (phW .back) by decide +kernel)).trans ((valV_neg (show ¬ (Sum.inr "through" : Key) = Sum.inr (phW .back) by decide +kernel)).trans (valV_pos rfl)), .inr (.inr (.inl ⟨rfl, rfl⟩))⟩
  | down => exact ⟨t4, (valV_neg (show ¬ (Sum.inr "out" : Key) = Sum.inr (phW .down) by decide +kernel)).trans ((valV_neg (show ¬ (Sum.inr "through" : Key) = Sum.inr (phW .down) by decide +kernel)).trans ((valV_neg (show ¬ (Sum.inr "back" : Key) = Sum.inr (phW .down) by decide +kernel)).trans (valV_pos rfl))), .inr (.inr (.inr ⟨rfl, rfl⟩))⟩
theorem ev2_thr {e : Ev} (h : e.word = some .opn) : ∃ m n, e = .thr m n := by cases e <;> cases h; exact ⟨_, _, rfl⟩
section
variable {P : Program} {w : World} {K : PySem.W.Frag} {mg : Str → Option Value} {base : Heap}
def sp_law_swings_right (K : PySem.W.Frag) : Sp := sp3 fun x y z H Q _ => ∃ wa d a es, ∃ l : List Ev, ∃ sd, ∃ kvs : List (Key × V), ∃ W ships, x = .ref wa ∧ y = .ref a ∧ z = .ref sd ∧ WdAt K H wa d ∧ W.out = d.out ∧ W.rest = d.rest ∧ H a = some (.lst es) ∧ Paired (EvAt K H) es l ∧
  H sd = some (.dK kvs) ∧ (∀ n, (valV kvs (Sum.inr n)).getD (.int 0) = .int (ships n)) ∧ (swFold W ships l).isSome = true ∧ Ret (.bl true) H Q
theorem ok_law_swings_right (T : Top K mg) : Cal P w K mg base 2 "_law_swings_right" (sp_law_swings_right K) [] := by
  obtain ⟨fd, F⟩ := F_law_swings_right T
  refine cal_of F (g_law_swings_right T) (fun _ _ _ _ _ _ us hl => match us, hl with | [_, _, _], _ => rfl) sc_law_swings_right len3 (k := 1) ?_
  rintro cdv A outer s H vs Q E hr ⟨v0, v1, v2, rfl, h⟩
  refine ⟨_, (pss_cons (ps_asg (pe_tup (pa_cons (pe_tup (pa_cons pe_str (pa_cons pe_non pa_nil))) (pa_cons pe_int pa_nil))) (tupk K (n := 2) rfl (pgs_cons (pg_name (i := 3) sc_law_swings_right.nd rfl (by first | exact Or.inl rfl | exact Or.inr rfl)) (pgs_cons (pg_name (i := 4) sc_law_swings_right.nd rfl (by first | exact Or.inl rfl | exact Or.inr rfl)) pgs_nil))))
    (pss_cons (ps_for PassesOwn.never rfl (pi_list (pv 1)) (pg_name (i := 5) sc_law_swings_right.nd rfl (by first | exact Or.inl rfl | exact Or.inr rfl)) (pss_cons (ps_if (pt_cmpR (nink K) (pe_ix (ixTk K) (pv 5) pe_int (fun _ _ => rfl)) (pe_tup (pa_cons pe_str (pa_cons pe_str (pa_cons pe_str (pa_cons pe_str pa_nil))))) rfl) (pss_one ps_continue) pss_nil)
    (pss_cons (ps_par (i := 6) (j := 7) rfl sc_law_swings_right.nd rfl rfl (by decide) rfl rfl (pa_cons (pe_ix (ixTk K) (pv 5) pe_int (fun _ _ => rfl)) (pa_cons (pe_ix (ixTk K) (pv 5) pe_int (fun _ _ => rfl)) pa_nil)) rfl)
    (pss_cons (ps_asg (pv 3) (tupk K (n := 2) rfl (pgs_cons (pg_name (i := 8) sc_law_swings_right.nd rfl (by first | exact Or.inl rfl | exact Or.inr rfl)) (pgs_cons (pg_name (i := 9) sc_law_swings_right.nd rfl (by first | exact Or.inl rfl | exact Or.inr rfl)) pgs_nil))))
    (pss_cons (ps_set (i := 10) sc_law_swings_right.nd rfl (by first | exact Or.inl rfl | exact Or.inr rfl) (pe_disp (pps_cons pe_str (pe_tup (pa_cons pe_str pa_nil)) (pps_cons pe_str (pe_tup (pa_cons pe_str (pa_cons pe_str pa_nil))) (pps_cons pe_str (pe_tup (pa_cons pe_str (pa_cons pe_str pa_nil))) (pps_cons pe_str (pe_tup (pa_cons pe_str pa_nil)) pps_nil)))) rfl rfl (fun z => by cases z) (by decide)))
    (pss_cons (ps_if (pt_cmpR (nink K) (pv 8) (pe_dget (hu_of hr) (pv 10) (pv 6) (fun _ _ => rfl)) rfl) (pss_one (ps_ret pe_bl)) pss_nil)
    (pss_cons (ps_if (PW.pt (pw_or (PW.pt (pw_and (pt_cmpR op_eq (pv 8) pe_str (nomark _)) (pw_and1 (pt_cmpR op_ne (pv 7) (pe_op op_add (pv 9) (pv 4)) (nomark _))))) (pw_or1 (PW.pt (pw_and (pt_cmpR (ink K) (pv 8) (pe_tup (pa_cons pe_str (pa_cons pe_str pa_nil))) rfl) (pw_and1 (pt_cmpR op_ne (pv 7) (pe_op op_add (pv 9) (pe_dget (hu_of hr) (pv 0) pe_str (fun _ _ => rfl))) (nomark _)))))))) (pss_one (ps_ret pe_bl)) pss_nil)
    (pss_cons (ps_if (PW.pt (pw_and (pt_cmpR op_eq (pv 6) pe_str (nomark _)) (pw_and (pt_cmpR op_notN1 (pv 9) pe_non (nomark _)) (pw_and1 (pt_cmpR op_lt (pv 7) (pe_op op_add (pv 9) (pe_dget (hu_of hr) (pv 0) pe_str (fun _ _ => rfl))) (nomark _)))))) (pss_one (ps_ret pe_bl)) pss_nil)
    (pss_cons (ps_set (i := 4) sc_law_swings_right.nd rfl (by first | exact Or.inl rfl | exact Or.inr rfl) (pe_ifExp (pt_cmpR op_eq (pv 6) pe_str (nomark _)) (pe_dget2 (hu_of hr) (pv 2) (pe_ix (ixTk K) (pv 5) pe_int (fun _ _ => rfl)) pe_int ⟨rfl, rfl, rfl, rfl⟩) pe_int))
    (pss_one (ps_set (i := 3) sc_law_swings_right.nd rfl (by first | exact Or.inl rfl | exact Or.inr rfl) (pe_tup (pa_cons (pv 6) (pa_cons (pv 7) pa_nil))))))))))))))
    (pss_one (ps_ret pe_bl)))), ?_⟩
  try dsimp only [cxOf]
  rw [show start ["_law_world_here", "_law_events", "_law_ships", "_law_last", "_law_lasts", "_law_event", "_law_word", "_law_minute", "_law_ahead", "_law_when", "_law_after"] [v0, v1, v2] = [some v0, some v1, some v2, none, none, none, none, none, none, none, none] from rfl]
  obtain ⟨wa, d, a, es, l, sd, kvs, W, ships, rfl, rfl, rfl, hw, wo, wr, ha, hp, hsd, hsh, hsw, k⟩ := h
  obtain ⟨wk, bl, sl, pt, w1, ⟨_, _, _, k4, k5, _, _⟩, _, _, _⟩ := hw.ex
  have S := SH.rfl' (H := H)
  walk_at "go"
  refine g_new S fun t0 H1 S1 => ?_
  obtain ⟨B1, S2, s2, e2⟩ := S1.kx
  walk_at "go"
  refine g_new S2 fun t9 H9 S9 => ?_
  walk_at "go"
  have S2 := S9.tail
  refine for_L (xs := es) (fun j σ H0 l1 => Same H H0 ∧ l1 = [] ∧ ∃ ph wh la tl o1 o2 o3 o4 o5 o6, swFold W ships (l.take j) = some (ph, wh, la) ∧ (wh = none → ph = .down) ∧ SqT K H0 tl [.str (phW ph), optV wh] ∧ σ = [some (.ref wa), some (.ref a), some (.ref sd), some (.ref tl), some (.int la), o1, o2, o3, o4, o5, o6]) S2 ⟨s2, rfl, .down, none, 0, t0, _, _, _, _, _, _, rfl, fun _ => rfl, SqT.of e2, rfl⟩ (fun j σ H0 l1 H3 ⟨e, _⟩ S3 => SqL.of (S3.rd (e _ _ ha))) ?_ ?_
  · rintro j x σ H0 l1 H3 hj ⟨s0, rfl, ph, wh, la, tl, o1, o2, o3, o4, o5, o6, hf, hd0, htl, rfl⟩ S3
    obtain ⟨e, he, q, rfl, hq⟩ := LiI.paired_get hp hj
    have nx := sw_next (W := W) (ships := ships) he
    have pre := sw_pre hsw (j + 1)
    rw [nx, hf] at pre
    rw [hf] at nx
    have hq3 := Same.tup (s0.trans S3.same) hq
    have hw3 := S3.rd (s0 _ _ w1)
    walk_at "go"
    refine g_ixT hq3 (ev1 e) ?_
    walk_at "go"
    refine g_new S3 fun t H4 S4 => ?_
    walk_at "go"
    rw [ev_in e]
    have S5 := S4.tail
    cases hwd : e.word with
    | none =>
      refine iteNF ?_
      walk_at "go"
      exact ⟨_, _, S5, s0, rfl, ph, wh, la, tl, _, _, _, _, _, _, by rw [nx]; simp only [swStep, hwd], hd0, htl, rfl⟩
    | some p =>
      obtain ⟨c1, c2, c3, c4, c5⟩ := sw_step hwd pre
      refine iteNT ?_
      walk_at "go"
      have hq5 := Same.tup (s0.trans S5.same) hq
      refine g_ixT hq5 (ev1 e) ?_
      walk_at "go"
      refine g_ixT hq5 (ev0 e) ?_
      rw [evW_word hwd]
      walk_at "go"
      refine g_dsp_ S5 fun di H6 S6 => ?_
      walk_at "go"
      refine g_new S6 fun t1 H7 S7 => ?_
      obtain ⟨B7, S7, s7, e7⟩ := S7.kx
      walk_at "go"
      refine g_new S7 fun t2 H8 S8 => ?_
      obtain ⟨B8, S8, s8, e8⟩ := S8.kx
      walk_at "go"
      refine g_new S8 fun t3 H9 S9 => ?_
      obtain ⟨B9, S9, s9, e9⟩ := S9.kx
      walk_at "go"
      refine g_new S9 fun t4 H10 S10 => ?_
      obtain ⟨B10, S10, s10, e10⟩ := S10.kx
      walk_at "go"
      refine g_die (kvs := [((Sum.inr "out" : Key), V.ref t1), (Sum.inr "through", .ref t2), (Sum.inr "back", .ref t3), (Sum.inr "down", .ref t4)]) S10.g0 rfl key_nd (by simp) (S10.u0 fun H11 S11 => ?_)
      have s010 := s0.trans (s7.trans (s8.trans (s9.trans s10)))
      obtain ⟨t, ht, hto⟩ := aft_get (t1 := t1) (t2 := t2) (t3 := t3) (t4 := t4) p
      have hta : SqT K B10 t (aftL p) := by
        rcases hto with ⟨rfl, rfl⟩ | ⟨rfl, rfl⟩ | ⟨rfl, rfl⟩ | ⟨rfl, rfl⟩
        · exact SqT.of (s10 _ _ (s9 _ _ (s8 _ _ e7)))
        · exact SqT.of (s10 _ _ (s9 _ _ e8))
        · exact SqT.of (s10 _ _ e9)
        · exact SqT.of e10
      walk_at "go"
      refine g_dgS S11.g0 ht ?_
      refine g_niT (Same.tup S11.same hta) rfl (aft_flat p) ?_
      rw [aft_in, c1]
      have S12 := S11.tail
      have w10 := s010 _ _ w1
      walk_at "go"
      have hsd10 := s010 _ _ hsd
      have hq10 := Same.tup s010 hq
      cases wh with
      | none =>
        rw [show optV none = V.non from rfl]
        have hph := hd0 rfl
        subst hph
        refine w_dF (by decide +kernel) ?_
        walk_at "go"
        refine g_new S12 fun u1 H13 S13 => ?_
        walk_at "go"
        rw [ph_ob]
        refine w_dF (by decide) ?_
        have S14 := S13.tail
        walk_at "go"
        by_cases h3 : p = .out
        case' pos =>
          refine w_dT ((ph_out p).mpr h3) ?_
        case' neg =>
          refine w_dF (fun z => h3 ((ph_out p).mp z)) ?_
        all_goals
          walk_at "go"
          refine g_both (x := .int (evLasts ships e)) (fun hb q' h' => ?_) (fun hb q' h' => ?_) ?_
          · have hp3 : p = .opn := (ph_thr p).mp (of_decide_eq_true hb)
            subst hp3
            obtain ⟨m9, n9, rfl⟩ := ev2_thr hwd
            walk_at "go"
            refine g_dg2S (S14.rd hsd10) ?_
            rw [hsh n9]
            exact h'
          · have z0 : evLasts ships e = 0 := by
              cases e <;> first | rfl | (cases hwd; exact absurd hb (by decide +kernel))
            rw [z0] at h'
            exact h'
          walk_at "go"
          refine g_new S14 fun t5 H21 S21 => ?_
          obtain ⟨B22, S22, s22, e22⟩ := S21.kx
          walk_at "go"
          exact ⟨_, _, S22, s010.trans s22, rfl, p, some e.min, evLasts ships e, t5, _, _, _, _, _, _, nx.trans c5, nofun, SqT.of e22, rfl⟩
      | some t' =>
        rw [show optV (some t') = V.int t' from rfl]
        by_cases h1 : ph = .opn
        case' pos =>
          have c2 : e.min = t' + la := c2 h1
          refine w_dT ((ph_thr ph).mpr h1) ?_
          walk_at "go"
          refine w_ndF (show V.int e.min = V.int (t' + la) by rw [c2]) ?_
        case' neg =>
          refine w_dF (fun z => h1 ((ph_thr ph).mp z)) ?_
        all_goals
          walk_at "go"
          refine g_new S12 fun u1 H13 S13 => ?_
          walk_at "go"
          rw [ph_ob]
          have S14 := S13.tail
          by_cases h2 : ph = .out ∨ ph = .back
          case' pos =>
            have c3 : e.min = t' + W.out := c3 h2
            refine w_dT h2 ?_
            walk_at "go"
            refine g_dgS (S14.rd w10) k4 ?_
            walk_at "go"
            refine w_ndF (show V.int e.min = V.int (t' + d.out) by rw [c3, wo]) ?_
          case' neg => refine w_dF h2 ?_
        all_goals
          walk_at "go"
          by_cases h3 : p = .out
          case' pos =>
            have c4 : ¬ e.min < t' + W.rest := c4 h3 rfl
            refine w_dT ((ph_out p).mpr h3) ?_
            walk_at "go"
            refine w_ndT nofun ?_
            walk_at "go"
            refine g_dgS (S14.rd w10) k5 ?_
            walk_at "go"
            refine w_dF (by rw [← wr]; exact c4) ?_
          case' neg => refine w_dF (fun z => h3 ((ph_out p).mp z)) ?_
        all_goals
          walk_at "go"
          refine g_both (x := .int (evLasts ships e)) (fun hb q' h' => ?_) (fun hb q' h' => ?_) ?_
          · have hp3 : p = .opn := (ph_thr p).mp (of_decide_eq_true hb)
            subst hp3
            obtain ⟨m9, n9, rfl⟩ := ev2_thr hwd
            walk_at "go"
            refine g_dg2S (S14.rd hsd10) ?_
            rw [hsh n9]
            exact h'
          · have z0 : evLasts ships e = 0 := by
              cases e <;> first | rfl | (cases hwd; exact absurd hb (by decide +kernel))
            rw [z0] at h'
            exact h'
          walk_at "go"
          refine g_new S14 fun t5 H21 S21 => ?_
          obtain ⟨B22, S22, s22, e22⟩ := S21.kx
          walk_at "go"
          exact ⟨_, _, S22, s010.trans s22, rfl, p, some e.min, evLasts ships e, t5, _, _, _, _, _, _, nx.trans c5, nofun, SqT.of e22, rfl⟩
  · rintro σ H0 l1 H3 ⟨s0, rfl, ph, wh, la, tl, o1, o2, o3, o4, o5, o6, hf, hd0, htl, rfl⟩ S3
    walk_at "go"
    exact k _ (s0.trans S3.same)
end
end

/-! ## B42 -/
section
set_option maxHeartbeats 4000000
open PySem PySem.Spec PyProof.Rows L2










/-! ### the carts, read by the law -/
theorem hr65 {k : Nat} {A : Around} (r : Room k A) : A.units + 65 < cLine := by have := r.un; omega
theorem valV_out {κ : Type} [DecidableEq κ] {k : κ} : ∀ {kvs : List (κ × V)}, k ∉ kvs.map (·.1) → valV kvs k = none
  | [], _ => rfl
  | p :: r, h => (valV_neg fun z => h (by rw [← z]; exact List.mem_cons_self ..)).trans (valV_out fun z => h (List.mem_cons_of_mem _ z))
abbrev keyOf (m p : Int) : List Key := [Sum.inl m, Sum.inl p]
theorem key_inj {m p m' p' : Int} (h : keyOf m p = keyOf m' p') : m = m' ∧ p = p' := by
  have h1 := List.cons.inj h
  exact ⟨Sum.inl.inj h1.1, Sum.inl.inj (List.cons.inj h1.2).1⟩
/-- what the law has noted of the carts that went on before -/
def TkOk (W : Wl) (l : List Ev) (ks : List (List Key)) : Prop := ∀ k ∈ ks, ∃ b who side, (b, who, side) ∈ onsOf l ∧ ∃ m, b ≤ m ∧ m ≤ b + W.n ∧ k = keyOf m (posOf W b side m)
theorem pos_inj {W : Wl} {b b' m : Int} {side : Bool} (h : posOf W b side m = posOf W b' side m) : b = b' := by
  unfold posOf at h
  cases side <;> simp at h <;> omega
/-- a new place is free -/
theorem tk_free {W : Wl} {l : List Ev} {j : Nat} {b : Int} {who : Str} {side : Bool} (prs : (onsOf l).Pairwise (fun (e f : Int × Str × Bool) => e.1 < f.1 ∧ (e.2.2 = f.2.2 ∨ e.1 + (W.n : Int) + 1 ≤ f.1))) (he : l[j]? = some (.on b who side)) {ks own : List (List Key)} {M : Int} (h : TkOk W (l.take j) ks)
    (ho : ∀ k ∈ own, ∃ m, m < M ∧ k = keyOf m (posOf W b side m)) (hb : b ≤ M) : keyOf M (posOf W b side M) ∉ ks ++ own := fun hm => by
  rcases List.mem_append.mp hm with hm | hm
  · obtain ⟨b', who', side', hmem, m', h1, h2, e⟩ := h _ hm
    obtain ⟨rfl, e2⟩ := key_inj e
    have hd : l.drop j = .on b who side :: l.drop (j + 1) := by
      obtain ⟨hj, e⟩ := List.getElem?_eq_some_iff.mp he
      rw [List.drop_eq_getElem_cons hj, e]
    have hs : onsOf l = onsOf (l.take j) ++ onsOf (l.drop j) := by rw [← ons_app, List.take_append_drop]
    rw [hs, hd] at prs
    obtain ⟨g1, g2⟩ := (List.pairwise_append.mp prs).2.2 _ hmem (b, who, side) (List.mem_cons_self ..)
    rcases g2 with g2 | g2
    · have g2 : side' = side := g2
      subst g2
      have := pos_inj e2
      have g1 : b' < b := g1
      omega
    · have g2 : b' + (W.n : Int) + 1 ≤ b := g2
      omega
  · obtain ⟨m', h1, e⟩ := ho _ hm
    obtain ⟨rfl, _⟩ := key_inj e
    omega
/-! an event as data -/
def evD : Ev → PyData
  | .off m n b => .tuple [.int m, .str "off", .str n, .str (if b then "near" else "far")]
  | .down m => .tuple [.int m, .str "down"]
  | .thr m n => .tuple [.int m, .str "through", .str n]
  | .back m => .tuple [.int m, .str "back"]
  | .out m => .tuple [.int m, .str "out"]
  | .turn m b => .tuple [.int m, .str "turn", .str (if b then "near" else "far")]
  | .on m n b => .tuple [.int m, .str "on", .str n, .str (if b then "near" else "far")]
def Ev.nameOk : Ev → Prop
  | .off _ n _ | .thr _ n | .on _ n _ => PyData.strOk n = true
  | _ => True
theorem bk_dp {K : PySem.W.Frag} {H : Hp} (b : Bool) : Dp K H (bk b) (.str (if b then "near" else "far")) := by cases b <;> exact .str _
theorem ev_dp {K : PySem.W.Frag} {H : Hp} {x : V} {e : Ev} (h : EvAt K H x e) : Dp K H x (evD e) := by
  obtain ⟨a, rfl, h⟩ := h
  cases e with
  | off m n b => exact .tup h (.cons (.int _) (.cons (.str _) (.cons (.str _) (.cons (bk_dp b) .nil))))
  | down m => exact .tup h (.cons (.int _) (.cons (.str _) .nil))
  | thr m n => exact .tup h (.cons (.int _) (.cons (.str _) (.cons (.str _) .nil)))
  | back m => exact .tup h (.cons (.int _) (.cons (.str _) .nil))
  | out m => exact .tup h (.cons (.int _) (.cons (.str _) .nil))
  | turn m b => exact .tup h (.cons (.int _) (.cons (.str _) (.cons (bk_dp b) .nil)))
  | on m n b => exact .tup h (.cons (.int _) (.cons (.str _) (.cons (.str _) (.cons (bk_dp b) .nil))))
theorem bk_sok (b : Bool) : PyData.strOk (if b then "near" else "far") = true := by cases b <;> decide +kernel
theorem ev_sh {e : Ev} (h : e.nameOk) : (evD e).canLay0 = true ∧ (evD e).depth ≤ 60 := by
  have w1 : PyData.strOk "off" = true := by decide +kernel
  have w2 : PyData.strOk "down" = true := by decide +kernel
  have w3 : PyData.strOk "through" = true := by decide +kernel
  have w4 : PyData.strOk "back" = true := by decide +kernel
  have w5 : PyData.strOk "out" = true := by decide +kernel
  have w6 : PyData.strOk "turn" = true := by decide +kernel
  have w7 : PyData.strOk "on" = true := by decide +kernel
  have w8 := bk_sok
  cases e <;> simp only [Ev.nameOk] at h <;> simp [evD, PyData.canLay0, PyData.canLayAll0, PyData.depth, PyData.depthAll, w1, w2, w3, w4, w5, w6, w7, w8, h]
theorem evs_dp {K : PySem.W.Frag} {H : Hp} : ∀ {es : List V} {l : List Ev}, Paired (EvAt K H) es l → DpAll K H es (l.map evD)
  | _, _, .nil => .nil
  | _, _, .cons h t => .cons (ev_dp h) (evs_dp t)
theorem evs_sh : ∀ {l : List Ev}, (∀ e ∈ l, e.nameOk) → PyData.canLayAll0 (l.map evD) = true ∧ PyData.depthAll (l.map evD) ≤ 60
  | [], _ => ⟨rfl, by simp [PyData.depthAll]⟩
  | e :: r, h => by
    obtain ⟨h1, h2⟩ := ev_sh (h e (List.mem_cons_self ..))
    obtain ⟨g1, g2⟩ := evs_sh fun x hx => h x (List.mem_cons_of_mem _ hx)
    refine ⟨by rw [List.map_cons]; simp [PyData.canLayAll0, h1, g1], ?_⟩
    rw [List.map_cons]
    simp only [PyData.depthAll]
    omega
theorem shp {d : PyData} (h1 : d.canLay0 = true) (h2 : d.depth ≤ 64) : SeqAt.shaped d = true := by
  unfold SeqAt.shaped
  rw [h1, decide_eq_true h2]
  rfl
theorem evs_shp {l : List Ev} (h : ∀ e ∈ l, e.nameOk) : SeqAt.shaped (.list (l.map evD)) = true := by
  obtain ⟨h1, h2⟩ := evs_sh h
  exact shp (by simp only [PyData.canLay0]; exact h1) (by simp only [PyData.depth]; omega)
theorem ev_eqv (e : Ev) : PyData.eqv (evD e) (evD e) = true := by cases e <;> simp [evD, PyData.eqv, PyData.eqvAll]
theorem ev_found {l : List Ev} {e : Ev} (h : e ∈ l) : ((l.map evD).any fun z => PyData.eqv z (evD e)) = true := List.any_eq_true.mpr ⟨_, List.mem_map.mpr ⟨e, h, rfl⟩, ev_eqv e⟩
/-! how many -/
def wOn (e : Ev) : Bool := decide (V.str (evW e) = .str "on")
def wOff (e : Ev) : Bool := decide (V.str (evW e) = .str "off")
theorem wOff_is (e : Ev) : wOff e = e.isOff := by
  have h0 : decide (V.str "off" = V.str "off") = true := by decide +kernel
  have h1 : decide (V.str "down" = V.str "off") = false := by decide +kernel
  have h2 : decide (V.str "through" = V.str "off") = false := by decide +kernel
  have h3 : decide (V.str "back" = V.str "off") = false := by decide +kernel
  have h4 : decide (V.str "out" = V.str "off") = false := by decide +kernel
  have h5 : decide (V.str "turn" = V.str "off") = false := by decide +kernel
  have h6 : decide (V.str "on" = V.str "off") = false := by decide +kernel
  cases e
  · exact h0
  · exact h1
  · exact h2
  · exact h3
  · exact h4
  · exact h5
  · exact h6
def isOn : Ev → Bool
  | .on _ _ _ => true
  | _ => false
theorem wOn_is (e : Ev) : wOn e = isOn e := by
  have h0 : decide (V.str "off" = V.str "on") = false := by decide +kernel
  have h1 : decide (V.str "down" = V.str "on") = false := by decide +kernel
  have h2 : decide (V.str "through" = V.str "on") = false := by decide +kernel
  have h3 : decide (V.str "back" = V.str "on") = false := by decide +kernel
  have h4 : decide (V.str "out" = V.str "on") = false := by decide +kernel
  have h5 : decide (V.str "turn" = V.str "on") = false := by decide +kernel
  have h6 : decide (V.str "on" = V.str "on") = true := by decide +kernel
  cases e
  · exact h0
  · exact h1
  · exact h2
  · exact h3
  · exact h4
  · exact h5
  · exact h6
theorem ons_len : ∀ l : List Ev, (onsOf l).length = (l.filter wOn).length
  | [] => rfl
  | .on m n b :: r => by rw [List.filter_cons_of_pos ((wOn_is _).trans rfl)]; exact congrArg (· + 1) (ons_len r)
  | .off _ _ _ :: r | .down _ :: r | .thr _ _ :: r | .back _ :: r | .out _ :: r | .turn _ _ :: r => by rw [List.filter_cons_of_neg (by rw [wOn_is]; exact Bool.false_ne_true)]; exact ons_len r
section
variable {P : Program} {w : World} {K : PySem.W.Frag} {mg : Str → Option Value} {base : Heap}
theorem bk_near (b : Bool) : decide (bk b = V.str "near") = b := by cases b <;> decide +kernel
theorem bk_scal (b : Bool) (z : Str) : scal (bk b) (.str z) = true := by cases b <;> rfl
theorem phs_at {l : List Ev} {u : Nat} {b : Int} (h0 : 0 ≤ b) (h1 : b < u) : atI (phs l u) b = some (.str (phW (phAt l b))) := by
  obtain ⟨n, rfl⟩ := Int.eq_ofNat_of_zero_le h0
  exact atI_nat (j := n) (by rw [List.getElem?_map, List.getElem?_range (by omega)] <;> rfl)
theorem off_dp {K : PySem.W.Frag} {H : Hp} {t : Addr} {m : Int} {n : Str} {b : Bool} (h : SqT K H t [.int m, .str "off", .str n, bk b]) : Dp K H (.ref t) (evD (.off m n b)) := .tup h (.cons (.int _) (.cons (.str _) (.cons (.str _) (.cons (bk_dp b) .nil))))
theorem filt_one {p : Ev → Bool} {l : List Ev} {i : Nat} {e : Ev} (h : l[i]? = some e) : ((l.take (i + 1)).filter p).length = ((l.take i).filter p).length + if p e = true then 1 else 0 := by
  rw [List.take_add_one, h, List.filter_append, List.length_append]
  show _ + ([e].filter p).length = _
  cases q : p e <;> simp [q]
def sp_law_carts_right (K : PySem.W.Frag) : Sp := sp4 fun x y z v H Q _ => ∃ wa d a es, ∃ l : List Ev, ∃ pa, ∃ u : Nat, ∃ W ships, x = .ref wa ∧ y = .ref a ∧ z = .ref pa ∧ v = .int u ∧ WdAt K H wa d ∧ d.spans.length = W.n + 1 ∧ W.n ≤ 10 ∧ W.p0 = d.p0 ∧ W.p1 = d.p1 ∧ H a = some (.lst es) ∧ Paired (EvAt K H) es l ∧ l.length ≤ 40000 ∧
  H pa = some (.lst (phs l u)) ∧ u ≤ 1000 ∧ Fin W ships u l ∧ (∀ e ∈ l, e.nameOk) ∧ Ret (.bl true) H Q
theorem ok_law_carts_right (T : Top K mg) : Cal P w K mg base 2 "_law_carts_right" (sp_law_carts_right K) [] := by
  obtain ⟨fd, F⟩ := F_law_carts_right T
  refine cal_of F (g_law_carts_right T) (fun _ _ _ _ _ _ us hl => match us, hl with | [_, _, _, _], _ => rfl) sc_law_carts_right len4 (k := 1) ?_
  rintro cdv A outer s H vs Q E hr ⟨v0, v1, v2, v3, rfl, h⟩
  refine ⟨_, (pss_cons (ps_set (i := 4) sc_law_carts_right.nd rfl (by first | exact Or.inl rfl | exact Or.inr rfl) (pe_callB (lenk K) rfl (fr_len T) PySem.boot_len (pa_cons (pe_dget (hu_of hr) (pv 0) pe_str (fun _ _ => rfl)) pa_nil)))
    (pss_cons (ps_set (i := 5) sc_law_carts_right.nd rfl (by first | exact Or.inl rfl | exact Or.inr rfl) pe_dnewT)
    (pss_cons (ps_for PassesOwn.never rfl (pi_list (pv 1)) (pg_name (i := 6) sc_law_carts_right.nd rfl (by first | exact Or.inl rfl | exact Or.inr rfl)) (pss_one (ps_if (pt_cmpR op_eq (pe_ix (ixTk K) (pv 6) pe_int (fun _ _ => rfl)) pe_str (nomark _)) (pss_cons (ps_par3 (i := 7) (j := 8) (l := 9) rfl sc_law_carts_right.nd rfl rfl rfl (by decide) (by decide) (by decide) rfl rfl rfl (pa_cons (pe_ix (ixTk K) (pv 6) pe_int (fun _ _ => rfl)) (pa_cons (pe_ix (ixTk K) (pv 6) pe_int (fun _ _ => rfl)) (pa_cons (pe_ix (ixTk K) (pv 6) pe_int (fun _ _ => rfl)) pa_nil))) rfl)
    (pss_cons (ps_set (i := 10) sc_law_carts_right.nd rfl (by first | exact Or.inl rfl | exact Or.inr rfl) (pe_ix (ixLk K) (pe_lst (pa_cons pe_str (pa_cons pe_str pa_nil))) (pe_callTy cr_int rfl (fr_int T) PyProof.Rows.boot_int (pa_cons (pe_cmpR op_eq (pv 9) pe_str (nomark _)) pa_nil)) (fun _ _ => rfl)))
    (pss_cons (ps_if (PW.pt (pw_or (PW.pt (pw_and (pt_cmpR op_lt (pe_op op_add (pv 7) (pv 4)) (pv 3) (nomark _)) (pw_and1 (pt_cmpR (op_notInD (hr65 hr)) (pe_tup (pa_cons (pe_op op_add (pv 7) (pv 4)) (pa_cons pe_str (pa_cons (pv 8) (pa_cons (pv 10) pa_nil))))) (pv 1) rfl)))) (pw_or1 (pt_cmpR op_ne (pe_ix (ixLk K) (pv 2) (pv 7) (fun _ _ => rfl)) pe_str (nomark _))))) (pss_one (ps_ret pe_bl)) pss_nil)
    (pss_one (ps_for PassesOwn.never rfl (pi_range2 rfl (fr_range T) (pa_cons (pv 7) (pa_cons (pe_callB (cr_mn rfl) rfl (fr_min T) PyProof.Rows.boot_min (pa_cons (pe_op op_add (pv 7) (pv 4)) (pa_cons (pv 3) pa_nil))) pa_nil))) (pg_name (i := 11) sc_law_carts_right.nd rfl (by first | exact Or.inl rfl | exact Or.inr rfl)) (pss_cons (ps_set (i := 12) sc_law_carts_right.nd rfl (by first | exact Or.inl rfl | exact Or.inr rfl) (pe_ifExp (pt_cmpR op_eq (pv 9) pe_str (nomark _)) (pe_op op_sub (pv 11) (pv 7)) (pe_op op_sub (pe_op op_sub (pv 4) pe_int) (pe_op op_sub (pv 11) (pv 7)))))
    (pss_cons (ps_if (pt_cmp (pc_din (hu_of hr) (pe_tup (pa_cons (pv 11) (pa_cons (pv 12) pa_nil))) (pv 5))) (pss_one (ps_ret pe_bl)) pss_nil)
    (pss_cons (ps_dput (hu_of hr) (pv 5) (pe_tup (pa_cons (pv 11) (pa_cons (pv 12) pa_nil))) pe_bl rfl)
    (pss_one (ps_if (PW.pt (pw_and (pt_chain op_le op_le (pe_ix (ixTk K) (pe_dget (hu_of hr) (pv 0) pe_str (fun _ _ => rfl)) pe_int (fun _ _ => rfl)) (pv 12) (pe_ix (ixTk K) (pe_dget (hu_of hr) (pv 0) pe_str (fun _ _ => rfl)) pe_int (fun _ _ => rfl))) (pw_and1 (pt_cmpR op_ne (pe_ix (ixLk K) (pv 2) (pv 11) (fun _ _ => rfl)) pe_str (nomark _))))) (pss_one (ps_ret pe_bl)) pss_nil)))))))))) pss_nil)))
    (pss_one (ps_ret (pe_cmpR op_ge (pe_callB (lenk K) rfl (fr_len T) PySem.boot_len (pa_cons (pe_lc (own := [("_law_event", 6)]) (g := gName 6) (by rfl) sc_law_carts_right.nd (pi_list (pv 1)) (blkOk_by (own := [("_law_event", 6)]) (N := ["_law_world_here", "_law_events", "_law_phases_here", "_law_until", "_law_many", "_law_taken", "_law_event", "_law_begin", "_law_who", "_law_side", "_law_other", "_law_minute", "_law_place"]) (sc := defScope s_law_carts_right) (by decide +kernel)) (fun _ _ _ _ _ => (pg_name (i := 6) sc_law_carts_right.nd rfl (by first | exact Or.inl rfl | exact Or.inr rfl))) (fun _ _ _ _ _ => (pts_one (pt_cmpR op_eq (pe_ix (ixTk K) (pv 6) pe_int (fun _ _ => rfl)) pe_str (nomark _)))) (fun _ _ _ _ _ => (pv 6))) pa_nil)) (pe_callB (lenk K) rfl (fr_len T) PySem.boot_len (pa_cons (pe_lc (own := [("_law_event", 6)]) (g := gName 6) (by rfl) sc_law_carts_right.nd (pi_list (pv 1)) (blkOk_by (own := [("_law_event", 6)]) (N := ["_law_world_here", "_law_events", "_law_phases_here", "_law_until", "_law_many", "_law_taken", "_law_event", "_law_begin", "_law_who", "_law_side", "_law_other", "_law_minute", "_law_place"]) (sc := defScope s_law_carts_right) (by decide +kernel)) (fun _ _ _ _ _ => (pg_name (i := 6) sc_law_carts_right.nd rfl (by first | exact Or.inl rfl | exact Or.inr rfl))) (fun _ _ _ _ _ => (pts_one (pt_cmpR op_eq (pe_ix (ixTk K) (pv 6) pe_int (fun _ _ => rfl)) pe_str (nomark _)))) (fun _ _ _ _ _ => (pv 6))) pa_nil)) (nomark _))))))), ?_⟩
  try dsimp only [cxOf]
  rw [show start ["_law_world_here", "_law_events", "_law_phases_here", "_law_until", "_law_many", "_law_taken", "_law_event", "_law_begin", "_law_who", "_law_side", "_law_other", "_law_minute", "_law_place"] [v0, v1, v2, v3] = [some v0, some v1, some v2, some v3, none, none, none, none, none, none, none, none, none] from rfl]
  obtain ⟨wa, d, a, es, l, pa, u, W, ships, rfl, rfl, rfl, rfl, hw, hn, hn10, wp0, wp1, ha, hp, hl, hpa, hu, fin, nok, k⟩ := h
  obtain ⟨wk, bl, sl, pt, w1, ⟨_, k2, k3, _, _, _, _⟩, _, w3, w4⟩ := hw.ex
  have S := SH.rfl' (H := H)
  have le := Paired.length hp
  walk_at "go"
  refine g_dgS w1 k2 ?_
  walk_at "go"
  rw [List.length_map, hn]
  refine g_new S fun tk H1 S1 => ?_
  walk_at "go"
  refine for_L (xs := es) (fun j σ H0 l1 => Same H H0 ∧ ∃ kvs : List (List Key × V), l1 = [(tk, .dT kvs)] ∧ TkOk W (l.take j) (kvs.map (·.1)) ∧ kvs.length ≤ 11 * j ∧ ∃ o1 o2 o3 o4 o5 o6 o7, σ = [some (.ref wa), some (.ref a), some (.ref pa), some (.int u), some (.int ((W.n + 1 : Nat) : Int)), some (.ref tk), o1, o2, o3, o4, o5, o6, o7]) S1 ⟨Same.refl _, [], rfl, nofun, by simp, _, _, _, _, _, _, _, rfl⟩ (fun j σ H0 l1 H3 ⟨e, _⟩ S3 => SqL.of (S3.rd (e _ _ ha))) ?_ ?_
  · rintro j x σ H0 l1 H3 hj ⟨s0, kvs, rfl, tko, kl, o1, o2, o3, o4, o5, o6, o7, rfl⟩ S3
    obtain ⟨e, he, q, rfl, hq⟩ := LiI.paired_get hp hj
    have hjl := (List.getElem?_eq_some_iff.mp hj).1
    have hq3 := Same.tup (s0.trans S3.same) hq
    walk_at "go"
    refine g_ixT hq3 (ev1 e) ?_
    walk_at "go"
    cases hon : wOn e with
    | false =>
      refine w_dF (of_decide_eq_false hon) ?_
      walk_at "go"
      refine ⟨_, _, S3, s0, kvs, rfl, fun k hk => ?_, by omega, _, _, _, _, _, _, _, rfl⟩
      obtain ⟨b, who, side, hm, r⟩ := tko k hk
      refine ⟨b, who, side, ?_, r⟩
      rw [List.take_add_one, ons_app]
      exact List.mem_append_left _ hm
    | true =>
      obtain ⟨b, who, side, rfl⟩ : ∃ b who side, e = .on b who side := by
        rw [wOn_is] at hon
        cases e <;> first | exact ⟨_, _, _, rfl⟩ | cases hon
      have hmem := List.mem_of_getElem? he
      obtain ⟨f1, f2, f3⟩ := fin.on_ b who side hmem
      have flt := fin.lt _ hmem
      have flt : 0 ≤ b ∧ b < (u : Int) := flt
      have hq3 : SqT K H3 q [.int b, .str "on", .str who, bk side] := hq3
      have hpa3 := s0 _ _ hpa
      have ha3 := s0 _ _ ha
      have hp3 := evs_same s0 hp
      have w13 := s0 _ _ w1
      have w43 := s0 _ _ w4
      have eM : b + ((W.n + 1 : Nat) : Int) = b + W.n + 1 := by omega
      refine w_dT (of_decide_eq_true hon) ?_
      walk_at "go"
      refine g_new S3 fun q2 H4 S4 => ?_
      walk_at "go"
      rw [bk_near]
      refine g_ixL (v := bk (!side)) (SqL.of S4.g0) (by cases side <;> first | exact at0 | exact at1) ?_
      have S5 := S4.tail
      walk_at "go"
      by_cases hlt : b + ((W.n + 1 : Nat) : Int) < u
      case' pos =>
        refine w_dT hlt ?_
        walk_at "go"
        refine g_new S5 fun t H6 S6 => ?_
        walk_at "go"
        have nk : (Ev.off (b + ((W.n + 1 : Nat) : Int)) who (!side)).nameOk := (nok _ hmem : (Ev.on b who side).nameOk)
        refine ⟨_, _, off_dp (SqT.of S6.g0), .lst (SqL.of (S6.rd ha3)) (evs_dp (evs_same S6.same hp3)), shp (ev_sh nk).1 (Nat.le_trans (ev_sh nk).2 (by decide)), evs_shp nok, ?_⟩
        rw [ev_found (show Ev.off (b + ((W.n + 1 : Nat) : Int)) who (!side) ∈ l by rw [eM]; exact f2 (by omega))]
        have S5 := S6.tail
        walk_at "go"
      case' neg =>
        refine w_dF hlt ?_
      all_goals
        walk_at "go"
        refine g_ixL (SqL.of (S5.rd hpa3)) (phs_at flt.1 flt.2) ?_
        rw [f1]
        walk_at "go"
        obtain ⟨hi, hhi, hi1, hi2, hi0⟩ : ∃ hi : Int, (if (u : Int) < b + ((W.n + 1 : Nat) : Int) then (u : Int) else b + ((W.n + 1 : Nat) : Int)) = hi ∧ hi ≤ b + W.n + 1 ∧ hi ≤ u ∧ b ≤ hi := by
          refine ⟨_, rfl, ?_⟩
          split <;> omega
        rw [hhi]
        refine for_R2 (lo := b) (hi := hi) (fun i σ H5 l1 => H5 = H0 ∧ ∃ own : List (List Key × V), l1 = [(tk, .dT (kvs ++ own))] ∧ (∀ k ∈ own.map (·.1), ∃ m, b ≤ m ∧ m < b + i ∧ k = keyOf m (posOf W b side m)) ∧ own.length = i ∧ ∃ o1 o2, σ = [some (.ref wa), some (.ref a), some (.ref pa), some (.int u), some (.int ((W.n + 1 : Nat) : Int)), some (.ref tk), some (.ref q), some (.int b), some (.str who), some (bk side), some (bk (!side)), o1, o2]) S5 (by omega) ⟨rfl, [], by rw [List.append_nil], nofun, rfl, _, _, rfl⟩ ?_ ?_
        · rintro i σ H7 l1 H8 hib ⟨rfl, own, rfl, ow, ol, o8, o9, rfl⟩ S8
          have fr := tk_free fin.prs he tko (own := own.map (·.1)) (M := b + i) (fun k hk => by obtain ⟨m, _, h, e⟩ := ow k hk; exact ⟨m, h, e⟩) (by omega)
          rw [← List.map_append] at fr
          walk_at "go"
          rw [bk_near]
          refine g_both (x := .int (posOf W b side (b + i))) (fun hs q' h' => ?_) (fun hs q' h' => ?_) ?_
          · walk_at "go"
            rw [hs] at h'
            exact h'
          · walk_at "go"
            rw [hs] at h'
            have e9 : ((W.n + 1 : Nat) : Int) - 1 - (b + (i : Int) - b) = posOf W b false (b + i) := by unfold posOf; simp; try omega
            rw [e9]
            exact h'
          walk_at "go"
          refine g_new S8 fun t8 H9 S9 => ?_
          walk_at "go"
          refine g_dinT (k := keyOf (b + i) (posOf W b side (b + i))) S9.g1 S9.g0 ?_
          rw [valV_out fr, show (none : Option V).isSome = false from rfl]
          walk_at "go"
          have S10 := S9.tail
          walk_at "go"
          refine g_new S10 fun t9 H11 S11 => ?_
          walk_at "go"
          refine g_dwT (k := keyOf (b + i) (posOf W b side (b + i))) S11.g1 S11.g0 (by rw [List.length_append]; omega) (S11.u1 fun H12 S12 => ?_)
          rw [putK_new _ (valV_out fr), List.append_assoc] at S12
          have S13 := S12.tail
          have fin2 : ∀ H13 o8 o9, SH H7 [(tk, .dT (kvs ++ (own ++ [(keyOf (b + i) (posOf W b side (b + i)), V.bl true)])))] H13 → At (fun i σ H5 l1 => H5 = H7 ∧ ∃ own : List (List Key × V), l1 = [(tk, .dT (kvs ++ own))] ∧ (∀ k ∈ own.map (·.1), ∃ m, b ≤ m ∧ m < b + i ∧ k = keyOf m (posOf W b side m)) ∧ own.length = i ∧ ∃ o1 o2, σ = [some (.ref wa), some (.ref a), some (.ref pa), some (.int u), some (.int ((W.n + 1 : Nat) : Int)), some (.ref tk), some (.ref q), some (.int b), some (.str who), some (bk side), some (bk (!side)), o1, o2]) (i + 1) [some (.ref wa), some (.ref a), some (.ref pa), some (.int u), some (.int ((W.n + 1 : Nat) : Int)), some (.ref tk), some (.ref q), some (.int b), some (.str who), some (bk side), some (bk (!side)), o8, o9] H13 := fun H13 o8 o9 S13 =>
            ⟨_, _, S13, rfl, _, rfl, fun k hk => by
              rw [List.map_append] at hk
              rcases List.mem_append.mp hk with hk | hk
              · obtain ⟨m, m1, m2, e⟩ := ow k hk
                exact ⟨m, m1, by omega, e⟩
              · exact ⟨b + i, by omega, by omega, List.mem_singleton.mp hk⟩, by rw [List.length_append, ol] <;> rfl, _, _, rfl⟩
          walk_at "go"
          refine g_dgS (S13.rd w13) k3 ?_
          walk_at "go"
          by_cases q1 : d.p0 ≤ posOf W b side (b + i)
          · refine w_dT q1 ?_
            walk_at "go"
            refine g_dgS (S13.rd w13) k3 ?_
            walk_at "go"
            by_cases q2 : posOf W b side (b + i) ≤ d.p1
            · refine w_dT q2 ?_
              walk_at "go"
              refine g_ixL (SqL.of (S13.rd hpa3)) (phs_at (by omega) (by omega)) ?_
              rw [f3 (b + i) (by omega) (by omega) (by omega) (by rw [wp0]; exact q1) (by rw [wp1]; exact q2)]
              walk_at "go"
              exact fin2 _ _ _ S13
            · refine w_dF q2 ?_
              walk_at "go"
              exact fin2 _ _ _ S13
          · refine w_dF q1 ?_
            walk_at "go"
            exact fin2 _ _ _ S13
        · rintro σ H7 l1 H8 ⟨rfl, own, rfl, ow, ol, o8, o9, rfl⟩ S8
          refine ⟨_, _, S8, s0, kvs ++ own, rfl, fun k hk => ?_, by rw [List.length_append, ol]; omega, _, _, _, _, _, _, _, rfl⟩
          rw [List.map_append] at hk
          have hto : onsOf (l.take (j + 1)) = onsOf (l.take j) ++ [(b, who, side)] := by rw [List.take_add_one, he, ons_app]; rfl
          rw [hto]
          rcases List.mem_append.mp hk with hk | hk
          · obtain ⟨b', who', side', hm, r⟩ := tko k hk
            exact ⟨b', who', side', List.mem_append_left _ hm, r⟩
          · obtain ⟨m, m1, m2, e⟩ := ow k hk
            exact ⟨b, who, side, List.mem_append_right _ (List.mem_cons_self ..), m, m1, by omega, e⟩
  · rintro σ H0 l1 H3 ⟨s0, kvs, rfl, tko, kl, o1, o2, o3, o4, o5, o6, o7, rfl⟩ S3
    have ha3 := s0 _ _ ha
    have hp3 := evs_same s0 hp
    walk_at "go"
    refine lc_L (xs := es) (fun i acc H5 l2 => H5 = H0 ∧ l2 = [(tk, .dT kvs)] ∧ acc.length = ((l.take i).filter wOn).length) S3 ⟨rfl, rfl, by simp⟩ (fun i acc L H5 l2 H6 ⟨e, _⟩ S6 => SqL.of (S6.rd (by rw [e]; exact ha3))) (SqL.of (S3.rd ha3)) ?_ ?_
    · rintro i x acc L H5 l2 H6 hi ⟨rfl, rfl, al⟩ S6 hz
      obtain ⟨e, he, q, rfl, hq⟩ := LiI.paired_get hp3 hi
      have hil := (List.getElem?_eq_some_iff.mp hi).1
      have fx := filt_one (p := wOn) he
      walk_at "lct"
      walk_at "go"
      refine g_ixT (Same.tup S6.same hq) (ev1 e) ?_
      walk_at "go"
      cases hon : wOn e with
      | true =>
        rw [hon, if_pos rfl] at fx
        refine w_dT (of_decide_eq_true hon) ?_
        walk_at "go"
        exact yes S6 hz (by omega) ⟨rfl, rfl, by rw [List.length_append, al, fx] <;> rfl⟩
      | false =>
        rw [hon, if_neg Bool.false_ne_true] at fx
        refine w_dF (of_decide_eq_false hon) ?_
        walk_at "go"
        exact no S6 hz ⟨rfl, rfl, by rw [al, fx, Nat.add_zero]⟩
    · rintro L acc H5 l2 H6 ⟨rfl, rfl, al⟩ hz S6
      rw [le, List.take_length, ← ons_len] at al
      walk_at "go"
      have S7 := S6.tail
      refine lc_L (xs := es) (fun i acc H8 l2 => H8 = H5 ∧ l2 = [(tk, .dT kvs)] ∧ acc.length = ((l.take i).filter wOff).length) S7 ⟨rfl, rfl, by simp⟩ (fun i acc L H8 l2 H9 ⟨e, _⟩ S9 => SqL.of (S9.rd (by rw [e]; exact ha3))) (SqL.of (S7.rd ha3)) ?_ ?_
      · rintro i x acc2 L2 H8 l2 H9 hi ⟨rfl, rfl, al2⟩ S9 hz2
        obtain ⟨e, he, q, rfl, hq⟩ := LiI.paired_get hp3 hi
        have hil := (List.getElem?_eq_some_iff.mp hi).1
        have fx := filt_one (p := wOff) he
        walk_at "lct"
        walk_at "go"
        refine g_ixT (Same.tup S9.same hq) (ev1 e) ?_
        walk_at "go"
        cases hon : wOff e with
        | true =>
          rw [hon, if_pos rfl] at fx
          refine w_dT (of_decide_eq_true hon) ?_
          walk_at "go"
          exact yes S9 hz2 (by omega) ⟨rfl, rfl, by rw [List.length_append, al2, fx] <;> rfl⟩
        | false =>
          rw [hon, if_neg Bool.false_ne_true] at fx
          refine w_dF (of_decide_eq_false hon) ?_
          walk_at "go"
          exact no S9 hz2 ⟨rfl, rfl, by rw [al2, fx, Nat.add_zero]⟩
      · rintro L2 acc2 H8 l2 H9 ⟨rfl, rfl, al2⟩ hz2 S9
        rw [le, List.take_length] at al2
        have e2 : l.filter wOff = l.filter Ev.isOff := List.filter_congr fun e _ => wOff_is e
        rw [e2] at al2
        have cn := fin.cnt
        walk_at "go"
        rw [decide_eq_true (show (acc2.length : Int) ≤ (acc.length : Int) by omega)]
        exact k _ (s0.trans S9.same)
end
end

/-! ## Pu6 -/
section
set_option maxHeartbeats 1000000
open PySem
/-! ### the names in the events, and how many events there are -/
def Ev.nm : Ev → Option Str
  | .off _ n _ | .thr _ n | .on _ n _ => some n
  | _ => none
/-- all names are among some -/
structure Gn (N : Str → Prop) (s : St) : Prop where
  ev : ∀ e ∈ s.evs, ∀ n, e.nm = some n → N n
  kn : ∀ n ∈ s.known, N n
section
variable {N : Str → Prop} {W : Wl} {s : St} {m : Int}
theorem Gn.come (h : Gn N s) (m : Int) : Gn N (s.come m) := by rw [come_eq]; exact ⟨h.ev, h.kn⟩
theorem Gn.roll (h : Gn N s) (k : Nk s) (W : Wl) (m : Int) : Gn N (s.roll W m) := by
  rw [roll_eq]
  refine ⟨fun e he n hn => ?_, fun n hn => h.kn n (List.mem_filter.mp hn).1⟩
  rcases List.mem_append.mp he with he | he
  · exact h.ev e he n hn
  · obtain ⟨c, hc, rfl⟩ := List.mem_map.mp he
    obtain ⟨d, hd, rfl⟩ := List.mem_map.mp (List.mem_filter.mp hc).1
    cases hn
    exact h.kn _ (k.kn _ (List.mem_append_right _ (List.mem_append_right _ (List.mem_append_right _ (List.mem_append_right _ (List.mem_map.mpr ⟨d, hd, rfl⟩))))))
theorem Gn.add {e : Ev} {t : St} (h : Gn N s) (he : t.evs = s.evs ++ [e]) (hn : ∀ n, e.nm = some n → N n) (hk : ∀ n ∈ t.known, n ∈ s.known) : Gn N t :=
  ⟨fun x hx n hxn => by
    rw [he] at hx
    rcases List.mem_append.mp hx with hx | hx
    · exact h.ev x hx n hxn
    · rw [List.mem_singleton.mp hx] at hxn; exact hn n hxn, fun n hn => h.kn n (hk n hn)⟩
theorem Gn.swingOn (h : Gn N s) (k : Nk s) (W : Wl) (m : Int) : Gn N (s.swingOn W m) := by
  unfold St.swingOn
  split
  · split
    · exact h.add (e := .down m) rfl nofun fun _ z => z
    · cases hq : s.queue with
      | nil => exact h.add (e := .back m) rfl nofun fun _ z => z
      | cons x q =>
        obtain ⟨n, l⟩ := x
        refine h.add (e := .thr m n) rfl (fun n' e => ?_) fun n' z => (List.mem_filter.mp z).1
        cases e
        exact h.kn _ (k.kn _ (List.mem_append_right _ (List.mem_append_right _ (List.mem_append_right _ (List.mem_append_left _ (by rw [hq]; exact List.mem_cons_self ..))))))
  · exact h
theorem Gn.swingOut (h : Gn N s) (W : Wl) (m : Int) : Gn N (s.swingOut W m) := by
  unfold St.swingOut
  split
  · exact h
  · exact h.add (e := .out m) rfl nofun fun _ z => z
theorem Gn.turnOver (h : Gn N s) (W : Wl) (m : Int) : Gn N (s.turnOver W m) := by
  unfold St.turnOver
  split
  · exact h
  · split
    · exact h.add (e := .turn m (!s.whose)) rfl nofun fun _ z => z
    · exact h
theorem Gn.goOn (h : Gn N s) (k : Nk s) (W : Wl) (b : Bool) (m : Int) : Gn N (s.goOn W b m) := by
  unfold St.goOn
  split
  · exact h
  · rename_i n w r hr
    split
    · exact h
    · split
      · exact h
      · refine h.add (e := .on m n s.whose) (by cases s.whose <;> rfl) (fun n' e => ?_) fun n' z => by cases hw : s.whose <;> rw [hw] at z <;> exact z
        cases e
        unfold St.line at hr
        cases hw : s.whose <;> rw [hw] at hr <;> simp only [if_true, Bool.false_eq_true, if_false] at hr
        · exact h.kn _ (k.kn _ (List.mem_append_right _ (List.mem_append_right _ (List.mem_append_left _ (by rw [hr]; exact List.mem_cons_self ..)))))
        · exact h.kn _ (k.kn _ (List.mem_append_right _ (List.mem_append_left _ (by rw [hr]; exact List.mem_cons_self ..))))
theorem Gn.work (h : Gn N s) (k : Nk s) (W : Wl) (c b : Bool) (m : Int) : Gn N (s.work W c b m) := by
  have k1 := k.come m
  have k2 := k1.roll W m
  have k3 := k2.swingOn W m
  have h3 := ((h.come m).roll k1 W m).swingOn k2 W m
  unfold St.work
  dsimp only
  split
  · cases c with
    | true => exact h3.swingOut W m
    | false => exact (h3.turnOver W m).goOn (k3.turnOver W m) W b m
  · exact h3
theorem Run.names {u : Int} {t : St} (r : Run W u s t) : Nk s → Gn N s → ∀ e ∈ t.evs, ∀ n, e.nm = some n → N n := by
  induction r with
  | stop s o h k => exact fun _ g => g.ev
  | step s t m c b h k hc r ih => exact fun nk g => ih (nk.work W c b m |> fun z => ⟨z.nd, z.kn, z.few, z.keys⟩) ⟨(g.work nk W c b m).ev, (g.work nk W c b m).kn⟩
theorem Run.many {u : Int} {t : St} (r : Run W u s t) : Nk s → s.here ≤ u → (t.evs.length : Int) ≤ s.evs.length + 110 * (u - s.here) := by
  induction r with
  | stop s o h k => exact fun _ hu => by show (s.evs.length : Int) ≤ _; omega
  | step s t m c b h k hc r ih =>
    intro nk hu
    have h1 := ih (nk.work W c b m |> fun z => ⟨z.nd, z.kn, z.few, z.keys⟩) (by show m + 1 ≤ u; omega)
    have h2 := work_evs nk W c b m
    have h3 := h.lo m rfl
    have h1 : (t.evs.length : Int) ≤ (s.work W c b m).evs.length + 110 * (u - (m + 1)) := h1
    omega
end
/-! ### what the law tells, as plain things -/
def isShip (t : Tg) : Bool := t.side.isNone
def shipsT (ts : List Tg) (n : Str) : Int := (((ts.filter isShip).find? fun t => decide (t.n = n)).map (·.h)).getD 0
abbrev shipK (ts : List Tg) : List (L2.Key × L2.V) := (ts.filter isShip).map fun t => (Sum.inr t.n, .int t.h)
theorem shipK_get (ts : List Tg) (n : Str) : (L2.valV (shipK ts) (Sum.inr n)).getD (.int 0) = .int (shipsT ts n) := by
  unfold shipsT shipK
  induction ts.filter isShip with
  | nil => rfl
  | cons t r ih =>
    rw [List.map_cons]
    by_cases h : t.n = n
    · rw [L2.valV_pos (show (Sum.inr t.n : L2.Key) = Sum.inr n by rw [h]), List.find?_cons_of_pos (by simpa using h)]
      rfl
    · rw [L2.valV_neg (show ¬ (Sum.inr t.n : L2.Key) = Sum.inr n from fun z => h (Sum.inr.inj z)), List.find?_cons_of_neg (by simpa using h)]
      exact ih
theorem find_self : ∀ {l : List Tg} {t : Tg}, (l.map (·.n)).Nodup → t ∈ l → l.find? (fun x => decide (x.n = t.n)) = some t
  | [], _, _, h => nomatch h
  | a :: r, t, nd, h => by
    obtain ⟨h1, h2⟩ := List.nodup_cons.mp (show (a.n :: r.map (·.n)).Nodup from nd)
    rcases List.mem_cons.mp h with e | h
    · rw [List.find?_cons_of_pos (by rw [e]; simp), e]
    · have : ¬ a.n = t.n := fun z => h1 (by rw [z]; exact List.mem_map.mpr ⟨t, h, rfl⟩)
      rw [List.find?_cons_of_neg (by simpa using this)]
      exact find_self h2 h
theorem shipsT_of {ts : List Tg} (nd : (ts.map (·.n)).Nodup) {t : Tg} (h : t ∈ ts) (hs : t.side = none) : shipsT ts t.n = t.h := by
  unfold shipsT
  rw [find_self (nd.sublist (List.filter_sublist.map _)) (List.mem_filter.mpr ⟨h, by unfold isShip; rw [hs]; rfl⟩)]
  rfl
theorem th_ok {ts : List Tg} {d : WD} (nd : (ts.map (·.n)).Nodup) {t : Tg} (h : t ∈ ts) (ok : TgOk d t) : ThingOk (shipsT ts) (thOf t) := by
  unfold thOf
  cases hs : t.side with
  | some b => trivial
  | none => exact ⟨shipsT_of nd h hs, ok.h.1⟩
theorem th_name (t : Tg) : (thOf t).name = t.n := by
  unfold thOf
  cases t.side <;> rfl
theorem flat_set {α β : Type} {f : α → List β} {n : β} : ∀ {E : List α} {j : Nat} {e e' : α}, E[j]? = some e → f e' = f e ++ [n] → ((E.set j e').flatMap f).Perm (E.flatMap f ++ [n])
  | [], j, _, _, h, _ => by simp at h
  | a :: r, 0, e, e', h, hf => by
    cases h
    rw [List.set_cons_zero, List.flatMap_cons, List.flatMap_cons, hf, List.append_assoc, List.append_assoc]
    exact List.Perm.append_left _ List.perm_append_comm
  | a :: r, j + 1, e, e', h, hf => by
    rw [List.set_cons_succ, List.flatMap_cons, List.flatMap_cons, List.append_assoc]
    exact List.Perm.append_left _ (flat_set (show r[j]? = some e from h) hf)
end

/-! ## B43 -/
section
set_option maxHeartbeats 4000000
open PySem PySem.Spec PyProof.Rows L2










/-! ### what was told -/
structure EOk (K : PySem.W.Frag) (H : Hp) (E : List TEn) (ts : List Tg) : Prop where
  pr : ∀ e ∈ E, Paired (ThAt K H) e.xs e.ts
  nm : (E.flatMap fun e => e.ts.map Thing.name).Perm (ts.map (·.n))
  mem : ∀ e ∈ E, 0 ≤ e.m ∧ ∀ th ∈ e.ts, ∃ t ∈ ts, th = thOf t
  key : (E.map (·.m)).Nodup
  len : E.length ≤ ts.length
  ln : ∀ e ∈ E, e.xs.length ≤ ts.length
section
variable {P : Program} {w : World} {K : PySem.W.Frag} {mg : Str → Option Value} {base : Heap}
theorem EOk.same {H H' : Hp} {E : List TEn} {ts : List Tg} (h : EOk K H E ts) (s : Same H H') : EOk K H' E ts := ⟨fun e he => pair_mono (fun _ _ => ThAt.same s) (h.pr e he), h.nm, h.mem, h.key, h.len, h.ln⟩
theorem EOk.step {H : Hp} {E E' : List TEn} {ts : List Tg} {t : Tg} {v : V} (h : EOk K H E ts) (t1 : Told1 E t.m (thOf t) v E') (hv : ThAt K H v (thOf t)) (hm : 0 ≤ t.m) : EOk K H E' (ts ++ [t]) := by
  have up : ∀ e ∈ E, e.xs.length ≤ (ts ++ [t]).length := fun e he => by have := h.ln e he; rw [List.length_append]; omega
  have mem : ∀ e ∈ E, 0 ≤ e.m ∧ ∀ th ∈ e.ts, ∃ x ∈ ts ++ [t], th = thOf x := fun e he => ⟨(h.mem e he).1, fun th ht => let ⟨x, hx, q⟩ := (h.mem e he).2 th ht; ⟨x, List.mem_append_left _ hx, q⟩⟩
  have me : t ∈ ts ++ [t] := List.mem_append_right _ (List.mem_cons_self ..)
  rcases t1 with ⟨j, e, hj, hem, rfl⟩ | ⟨hn, b, rfl⟩
  · have he := List.mem_of_getElem? hj
    refine ⟨fun x hx => ?_, ?_, fun x hx => ?_, ?_, by rw [List.length_set, List.length_append]; have := h.len; omega, fun x hx => ?_⟩
    · rcases List.mem_or_eq_of_mem_set hx with hx | rfl
      · exact h.pr x hx
      · exact pair_app (h.pr e he) (.cons hv .nil)
    · refine (flat_set hj (n := t.n) (by rw [List.map_append]; show _ ++ [(thOf t).name] = _; rw [th_name])).trans ?_
      rw [List.map_append]
      exact List.Perm.append_right _ h.nm
    · rcases List.mem_or_eq_of_mem_set hx with hx | rfl
      · exact mem x hx
      · refine ⟨(mem e he).1, fun th ht => ?_⟩
        rcases List.mem_append.mp ht with ht | ht
        · exact (mem e he).2 th ht
        · exact ⟨t, me, List.mem_singleton.mp ht⟩
    · have e1 : (E.set j { e with xs := e.xs ++ [v], ts := e.ts ++ [thOf t] }).map (·.m) = E.map (·.m) := by
        rw [List.map_set]
        refine List.ext_getElem? fun i => ?_
        by_cases q : j = i
        · subst q
          rw [List.getElem?_set_self (by rw [List.length_map]; exact (List.getElem?_eq_some_iff.mp hj).1), List.getElem?_map, hj] <;> rfl
        · rw [List.getElem?_set_ne q]
      rw [e1]
      exact h.key
    · rcases List.mem_or_eq_of_mem_set hx with hx | rfl
      · exact up x hx
      · show (e.xs ++ [v]).length ≤ _
        have := h.ln e he
        rw [List.length_append, List.length_append, List.length_cons, List.length_cons, List.length_nil]
        omega
  · refine ⟨fun x hx => ?_, ?_, fun x hx => ?_, ?_, by rw [List.length_append, List.length_append]; have := h.len; simp only [List.length_cons, List.length_nil]; omega, fun x hx => ?_⟩
    · rcases List.mem_append.mp hx with hx | hx
      · exact h.pr x hx
      · rw [List.mem_singleton.mp hx]; exact .cons hv .nil
    · rw [List.flatMap_append, List.map_append]
      refine List.Perm.append h.nm ?_
      show [(thOf t).name].Perm [t.n]
      rw [th_name]
    · rcases List.mem_append.mp hx with hx | hx
      · exact mem x hx
      · rw [List.mem_singleton.mp hx]
        exact ⟨hm, fun th ht => ⟨t, me, List.mem_singleton.mp ht⟩⟩
    · rw [List.map_append]
      refine List.nodup_append.mpr ⟨h.key, List.nodup_cons.mpr ⟨List.not_mem_nil, .nil⟩, fun a ha c hc e => ?_⟩
      obtain ⟨x, hx, rfl⟩ := List.mem_map.mp ha
      exact hn x hx (e.trans (List.mem_singleton.mp hc))
    · rcases List.mem_append.mp hx with hx | hx
      · exact up x hx
      · rw [List.mem_singleton.mp hx, List.length_append]
        simp
theorem SH.keepAll {B H : Hp} {l1 l2 : List (Addr × HO)} (S : SH B (l1 ++ l2) H) : ∃ B', SH B' l1 H ∧ Same B B' ∧ ∀ p ∈ l2, B' p.1 = some p.2 := by
  obtain ⟨S1, s1⟩ := (S.sub (List.sublist_append_left l1 l2)).minus
  refine ⟨_, S1, s1, fun p hp => ?_⟩
  have nd := S.nd
  rw [List.map_append] at nd
  rw [minus_ne fun z => (List.nodup_append.mp nd).2.2 _ z _ (List.mem_map.mpr ⟨p, hp, rfl⟩) rfl]
  exact S.at_ p (List.mem_append_right _ hp)
theorem told_of {H : Hp} {E : List TEn} (h : ∀ e ∈ E, Paired (ThAt K H) e.xs e.ts) (o : ∀ p ∈ tlE E, H p.1 = some p.2) : Paired (ToldAt K H) (tdE E) (toE E) := by
  induction E with
  | nil => exact .nil
  | cons e r ih => exact .cons ⟨rfl, e.a, e.xs, rfl, o (e.a, .lst e.xs) (List.mem_cons_self ..), h e (List.mem_cons_self ..)⟩ (ih (fun x hx => h x (List.mem_cons_of_mem _ hx)) fun p hp => o p (List.mem_cons_of_mem _ hp))
/-- the deck that was told all: what the simulation starts from -/
abbrev stT (ts : List Tg) (E : List TEn) : St := { st0 with known := ts.map (·.n), told := toE E }
theorem nk_T {H : Hp} {E : List TEn} {ts : List Tg} (h : EOk K H E ts) (nd : (ts.map (·.n)).Nodup) (l : ts.length ≤ 100) : Nk (stT ts E) := by
  have e : (stT ts E).pend = E.flatMap fun e => e.ts.map Thing.name := by
    show tNames (toE E) ++ ([] ++ ([] ++ ([] ++ []))) = _
    rw [List.append_nil, List.append_nil, List.append_nil, List.append_nil]
    unfold tNames toE
    rw [List.flatMap_map]
  refine ⟨by rw [e]; exact h.nm.nodup_iff.mpr nd, fun n hn => by rw [e] at hn; exact h.nm.mem_iff.mp hn, by rw [e, h.nm.length_eq, List.length_map]; exact l, ?_⟩
  show ((toE E).map (·.1)).Nodup
  unfold toE
  rw [List.map_map]
  exact h.key
theorem iv_T {H : Hp} {E : List TEn} {ts : List Tg} {d : WD} {W : Wl} (h : EOk K H E ts) (nd : (ts.map (·.n)).Nodup) (ok : ∀ t ∈ ts, TgOk d t) (wo : 1 ≤ W.out) : Iv W (shipsT ts) (stT ts E) where
  told := fun p hp => by
    obtain ⟨e, he, rfl⟩ := List.mem_map.mp hp
    refine ⟨(h.mem e he).1, fun th ht => ?_⟩
    obtain ⟨t, h1, rfl⟩ := (h.mem e he).2 th ht
    exact th_ok nd h1 (ok t h1)
  ends := nofun
  h0 := Int.le_refl _
  qok := nofun
  out := wo
  srt := .nil
  lt := nofun
  sw := ⟨⟨none, 0, rfl, ⟨rfl, rfl⟩⟩, rfl⟩
  on_ := nofun
  clear := fun z => absurd rfl z
  hist := nofun
  prs := .nil
  cnt := rfl
end
end

/-! ## B44 -/
section
set_option maxHeartbeats 4000000
open PySem PySem.Spec PyProof.Rows L2










section
variable {P : Program} {w : World} {K : PySem.W.Frag} {mg : Str → Option Value} {base : Heap}
theorem ints_all {H : Hp} : ∀ ns : List Int, DpAll K H (ns.map V.int) (ns.map PyData.int)
  | [] => .nil
  | n :: r => .cons (.int n) (ints_all r)
theorem ints_dp {H : Hp} {a : Addr} {ns : List Int} (h : SqL K H a (ns.map V.int)) : Dp K H (.ref a) (.list (ns.map PyData.int)) := .lst h (ints_all ns)
theorem ints_lay : ∀ ns : List Int, PyData.canLayAll0 (ns.map PyData.int) = true ∧ PyData.depthAll (ns.map PyData.int) ≤ 0
  | [] => ⟨rfl, by simp [PyData.depthAll]⟩
  | n :: r => by
    obtain ⟨h1, h2⟩ := ints_lay r
    refine ⟨by rw [List.map_cons]; simp [PyData.canLayAll0, PyData.canLay0, h1], ?_⟩
    rw [List.map_cons]
    simp only [PyData.depthAll, PyData.depth]
    omega
theorem ints_shp (ns : List Int) : SeqAt.shaped (.list (ns.map PyData.int)) = true := by
  obtain ⟨h1, h2⟩ := ints_lay ns
  exact shp (by simp only [PyData.canLay0]; exact h1) (by simp only [PyData.depth]; omega)
theorem ints_eqv (ns : List Int) : PyData.eqv (.list (ns.map PyData.int)) (.list (ns.map PyData.int)) = true := by
  simp only [PyData.eqv]
  induction ns with
  | nil => rfl
  | cons n r ih =>
    rw [List.map_cons]
    simp only [PyData.eqvAll, PyData.eqv, ih, Bool.and_true, beq_self_eq_true]
abbrev stN (ks : List Str) : St := ⟨0, .down, none, none, true, 0, [], [], [], [], [], ks, []⟩
def sp_law (K : PySem.W.Frag) : Sp := sp1 fun x H Q _ => ∃ a, ∃ is : List Int, x = .ref a ∧ SqL K H a (is.map V.int) ∧ ∀ H', Q (.bl true) H'
theorem fn_law (T : Top K mg) {fd : FuncData} (F : FunD K "law" "law" (defArgs s_law) (defBody s_law) (defScope s_law) [] [] (He.ga K "law") fd) : FnOk P w K mg base CX0 13 (He.ga K "law") fd ["_law_script"] (sp_law K) := by
  refine fn_body F sc_law len1 (k := 12) ?_
  rintro cdv A outer s H vs Q E hr ⟨v0, rfl, h⟩
  refine ⟨_, (pss_cons (ps_set (i := 1) sc_law.nd rfl (by first | exact Or.inl rfl | exact Or.inr rfl) (pe_f (ok_law_feed T) hr (by decide) rfl (pa_cons (pv 0) pa_nil)))
    (pss_cons (ps_par (i := 2) (j := 3) rfl sc_law.nd rfl rfl (by decide) rfl rfl (pa_cons (pe_f (ok_law_world T) hr (by decide) rfl (pa_cons (pv 1) pa_nil)) (pa_cons (pe_f (ok_law_hours T) hr (by decide) rfl (pa_cons (pv 1) pa_nil)) pa_nil)) rfl)
    (pss_cons (ps_set (i := 4) sc_law.nd rfl (by first | exact Or.inl rfl | exact Or.inr rfl) (pe_f (ok_law_things T) hr (by decide) rfl (pa_cons (pv 1) (pa_cons (pv 2) (pa_cons (pe_f (ok_law_draw T) hr (by decide) rfl (pa_cons (pv 1) (pa_cons pe_int pa_nil))) (pa_cons (pe_op op_add pe_int (pe_f (ok_law_draw T) hr (by decide) rfl (pa_cons (pv 1) (pa_cons pe_int pa_nil)))) (pa_cons pe_int pa_nil)))))))
    (pss_cons (ps_set (i := 5) sc_law.nd rfl (by first | exact Or.inl rfl | exact Or.inr rfl) (pe_f (ok_law_deck T) hr (by decide) rfl (pa_cons (pv 2) (pa_cons (pv 3) pa_nil))))
    (pss_cons (ps_for PassesOwn.never rfl (pi_list (pv 4)) (pg_name (i := 6) sc_law.nd rfl (by first | exact Or.inl rfl | exact Or.inr rfl)) (pss_one (ps_expr (by exact (pe_f (ok_law_tell T) hr (by decide) rfl (pa_cons (pv 5) (pa_cons (pv 6) pa_nil)))))))
    (pss_cons (ps_set (i := 7) sc_law.nd rfl (by first | exact Or.inl rfl | exact Or.inr rfl) (pe_op op_add pe_int (pe_f (ok_law_draw T) hr (by decide) rfl (pa_cons (pv 1) (pa_cons pe_int pa_nil)))))
    (pss_cons (ps_set (i := 8) sc_law.nd rfl (by first | exact Or.inl rfl | exact Or.inr rfl) (pe_m (ok_Deck_go_to T) hr (by decide) (pv 5) (pa_cons (pv 7) pa_nil)))
    (pss_cons (ps_set (i := 9) sc_law.nd rfl (by first | exact Or.inl rfl | exact Or.inr rfl) (pe_callTy (cr_dictP rfl) rfl (fr_dict T) PyProof.Rows.boot_dict (pa_cons (pe_lc (own := [("_law_minute", 10), ("_law_who", 11), ("_law_side", 12), ("_law_heavy", 13)]) (by rfl) sc_law.nd (pi_list (pv 4)) (blkOk_by (own := [("_law_minute", 10), ("_law_who", 11), ("_law_side", 12), ("_law_heavy", 13)]) (N := ["_law_script", "_law_feed_here", "_law_world_here", "_law_hours_here", "_law_things_here", "_law_deck_here", "_law_thing", "_law_until", "_law_events", "_law_ships", "_law_minute", "_law_who", "_law_side", "_law_heavy", "_law_event"]) (sc := defScope s_law) (by decide +kernel)) (fun _ _ _ _ _ => (tupk K (n := 4) rfl (pgs_cons (pg_name (i := 10) sc_law.nd rfl (by first | exact Or.inl rfl | exact Or.inr rfl)) (pgs_cons (pg_name (i := 11) sc_law.nd rfl (by first | exact Or.inl rfl | exact Or.inr rfl)) (pgs_cons (pg_name (i := 12) sc_law.nd rfl (by first | exact Or.inl rfl | exact Or.inr rfl)) (pgs_cons (pg_name (i := 13) sc_law.nd rfl (by first | exact Or.inl rfl | exact Or.inr rfl)) pgs_nil)))))) (fun _ _ _ _ _ => (pts_one (pt_cmpR op_isN1 (pv 12) pe_non (nomark _)))) (fun _ _ _ _ _ => (pe_tup (pa_cons (pv 11) (pa_cons (pv 13) pa_nil))))) pa_nil)))
    (pss_cons (ps_if (pt_cmpR (op_neD hr.units) (pe_lc (own := [("_law_event", 14)]) (g := gName 14) (by rfl) sc_law.nd (pi_list (pv 8)) (blkOk_by (own := [("_law_event", 14)]) (N := ["_law_script", "_law_feed_here", "_law_world_here", "_law_hours_here", "_law_things_here", "_law_deck_here", "_law_thing", "_law_until", "_law_events", "_law_ships", "_law_minute", "_law_who", "_law_side", "_law_heavy", "_law_event"]) (sc := defScope s_law) (by decide +kernel)) (fun _ _ _ _ _ => (pg_name (i := 14) sc_law.nd rfl (by first | exact Or.inl rfl | exact Or.inr rfl))) (fun _ _ _ _ _ => pts_nil) (fun _ _ _ _ _ => (pe_ix (ixTk K) (pv 14) pe_int (fun _ _ => rfl)))) (pe_callB cr_sortedI rfl (fr_sorted T) PyProof.Rows.boot_sorted (pa_cons (pe_lc (own := [("_law_event", 14)]) (g := gName 14) (by rfl) sc_law.nd (pi_list (pv 8)) (blkOk_by (own := [("_law_event", 14)]) (N := ["_law_script", "_law_feed_here", "_law_world_here", "_law_hours_here", "_law_things_here", "_law_deck_here", "_law_thing", "_law_until", "_law_events", "_law_ships", "_law_minute", "_law_who", "_law_side", "_law_heavy", "_law_event"]) (sc := defScope s_law) (by decide +kernel)) (fun _ _ _ _ _ => (pg_name (i := 14) sc_law.nd rfl (by first | exact Or.inl rfl | exact Or.inr rfl))) (fun _ _ _ _ _ => pts_nil) (fun _ _ _ _ _ => (pe_ix (ixTk K) (pv 14) pe_int (fun _ _ => rfl)))) pa_nil)) (nomark _)) (pss_one (ps_ret pe_bl)) pss_nil)
    (pss_cons (ps_if (pt_not (pt_val (pe_f (ok_law_swings_right T) hr (by decide) rfl (pa_cons (pv 2) (pa_cons (pv 8) (pa_cons (pv 9) pa_nil)))))) (pss_one (ps_ret pe_bl)) pss_nil)
    (pss_one (ps_ret (pe_f (ok_law_carts_right T) hr (by decide) rfl (pa_cons (pv 2) (pa_cons (pv 8) (pa_cons (pe_f (ok_law_phases T) hr (by decide) rfl (pa_cons (pv 8) (pa_cons (pv 7) pa_nil))) (pa_cons (pv 7) pa_nil))))))))))))))))), ?_⟩
  try dsimp only [cxOf]
  rw [show start ["_law_script", "_law_feed_here", "_law_world_here", "_law_hours_here", "_law_things_here", "_law_deck_here", "_law_thing", "_law_until", "_law_events", "_law_ships", "_law_minute", "_law_who", "_law_side", "_law_heavy", "_law_event"] [v0] = [some v0, none, none, none, none, none, none, none, none, none, none, none, none, none, none] from rfl]
  obtain ⟨a, is, rfl, hx, k⟩ := h
  walk_at "go"
  refine ⟨_, rfl, a, is, rfl, hx, fun F c cs o B H1 s1 hc f S1 => ?_⟩
  walk_at "go"
  refine ⟨_, rfl, F, c, cs, o, 0, B, rfl, f, by omega, hc, S1, fun wa d o2 B2 H2 ok f2 s2 S2 hw => ?_⟩
  walk_at "go"
  refine ⟨_, rfl, F, c, cs, o2, _, B2, rfl, f2, by omega, s2 _ _ hc, S2, fun hv o3 B3 H3 hr3 f3 s3 S3 => ?_⟩
  have hc3 := s3 _ _ (s2 _ _ hc)
  walk_at "go"
  refine g_dr0 S3 f3 hc3 (by omega) (by omega) (by omega) fun nc o4 H4 a0 a1 f4 S4 => ?_
  walk_at "go"
  refine g_dr0 S4 f4 hc3 (by omega) (by omega) (by omega) fun ns o5 H5 b0 b1 f5 S5 => ?_
  obtain ⟨nc, rfl⟩ := Int.eq_ofNat_of_zero_le a0
  obtain ⟨ns, rfl⟩ := Int.eq_ofNat_of_zero_le b0
  walk_at "go"
  refine ⟨_, _, _, _, _, rfl, F, c, cs, o5, _, B3, wa, d, nc, 1 + ns, rfl, rfl, rfl, congrArg V.int (by omega), rfl, by omega, by omega, f5, by omega, hc3, S5, hw.same s3, ok, fun ta xs ts o6 B4 H6 tl nd tok f6 s4 S6 hta hpt => ?_⟩
  walk_at "go"
  refine ⟨_, _, rfl, wa, d, B4, F, c, _, o6, rfl, hw.same (s3.trans s4), ok, hr3.same s4, f6, S6, fun D ca B5 H7 st e1 e2 e3 e4 e5 e6 e7 s5 S7 => ?_⟩
  walk_at "go"
  refine for_L (xs := xs) (fun j σ H0 l => Same B5 H0 ∧ ∃ E, l = (F, o6) :: ours K D (stN ((ts.take j).map (·.n))) ca [] [] [] [] (tdE E) (tlE E) ∧ EOk K H0 E (ts.take j) ∧ ∃ o1 q1 q2 q3 q4 q5 q6 q7 q8, σ = [some (.ref a), some (.ref F), some (.ref wa), some hv, some (.ref ta), some (.ref D.deck), o1, q1, q2, q3, q4, q5, q6, q7, q8]) S7 ⟨Same.refl _, [], rfl, ⟨nofun, .nil, nofun, .nil, by simp, nofun⟩, _, _, _, _, _, _, _, _, _, rfl⟩ (fun j σ H0 l H8 ⟨s, _⟩ S8 => SqL.of (S8.rd (s _ _ (s5 _ _ hta)))) ?_ ?_
  · rintro j x σ H0 l H8 hj ⟨s6, E, rfl, eo, o1, q1, q2, q3, q4, q5, q6, q7, q8, rfl⟩ S8
    obtain ⟨t, ht, q, rfl, hq⟩ := LiI.paired_get hpt hj
    have xl := Paired.length hpt
    have hjl := (List.getElem?_eq_some_iff.mp hj).1
    have tk := tok t (List.mem_of_getElem? ht)
    obtain ⟨B9, S9, s9, e9⟩ := S8.kx
    have s49 := s5.trans (s6.trans s9)
    have hnm : t.n ∉ (ts.take j).map (·.n) := fun z => by
      have hd : ts = ts.take j ++ t :: ts.drop (j + 1) := by
        obtain ⟨h1, h2⟩ := List.getElem?_eq_some_iff.mp ht
        rw [← h2, ← List.drop_eq_getElem_cons h1, List.take_append_drop]
      rw [hd, List.map_append] at nd
      exact (List.nodup_append.mp nd).2.2 _ z _ (List.mem_cons_self ..) rfl
    have kl : ((ts.take j).map (·.n)).length ≤ 100 := by rw [List.length_map, List.length_take]; omega
    have el : E.length ≤ 100 := Nat.le_trans eo.len (by rw [List.length_take]; omega)
    walk_at "go"
    refine ⟨_, _, rfl, D, stN ((ts.take j).map (·.n)), B9, E, ca, t, d, rfl, ⟨q, rfl, Same.tup s49 hq⟩, tk, st.br.same (s6.trans s9), e6, e7, tk.n, hnm, by show ((ts.take j).map (·.n)).length ≤ 1000; omega, by omega, fun e he => Nat.le_trans (eo.ln e he) (by rw [List.length_take]; omega), tk.m.1, tk.m.1, S9, fun v E' B10 H10 s10 th t1 S10 => ?_⟩
    have hF := s10 _ _ e9
    have S11 := S10.pull hF
    have s11 : Same H0 (del B10 F) := fun b u h => by
      have : b ≠ F := fun z => by rw [z, S8.out0] at h; cases h
      rw [del_ne this]; exact s10 _ _ (s9 _ _ h)
    have eo' := (eo.same s11).step t1 (th.dl f6 hF) tk.m.1
    refine ⟨_, _, S11, s6.trans s11, E', ?_, ?_, _, _, _, _, _, _, _, _, _, rfl⟩
    · rw [List.take_add_one, ht, List.map_append] <;> rfl
    · rw [List.take_add_one, ht]; exact eo'
  · rintro σ H0 l H8 ⟨s6, E, rfl, eo, o1, q1, q2, q3, q4, q5, q6, q7, q8, rfl⟩ S8
    have xl := Paired.length hpt
    rw [xl, List.take_length] at S8 eo
    have s36 := s4.trans (s5.trans s6)
    walk_at "go"
    refine g_dr0 S8 f6 (s36 _ _ hc3) (by omega) (by omega) (by omega) fun dd o7 H9 c0 c1 f7 S9 => ?_
    obtain ⟨dd, rfl⟩ := Int.eq_ofNat_of_zero_le c0
    obtain ⟨B11, S11, s11, e11⟩ := SH.keepAll (l1 := ours K D (stN (ts.map (·.n))) ca [] [] [] [] (tdE E) []) (l2 := tlE E) S9.tail
    have eo := eo.same s11
    have nk := nk_T eo nd (by omega)
    have iv := iv_T (W := D.W) eo nd tok (by rw [e1]; exact ok.o.1)
    walk_at "go"
    refine g_mp S11.g1 rfl ?_
    walk_at "go"
    have kn : ∀ n ∈ ts.map (·.n), PyData.strOk n = true := fun n hn => by
      obtain ⟨t, ht, rfl⟩ := List.mem_map.mp hn
      exact (tok t ht).n.ok
    refine ⟨_, _, rfl, D, stT ts E, B11, 200 + dd, shipsT ts, ca, [], [], [], [], tdE E, rfl, rfl, st.same (s6.trans s11), nk, ?_, rfl, iv, by show (0 : Int) ≤ _; omega, by omega, S11, ⟨.nil, nofun, .nil, .nil, .nil, told_of eo.pr e11, kn⟩, fun ev es t H12 run s12 hev pr => ?_⟩
    · show (toE E).length ≤ 100
      unfold toE
      have := eo.len
      rw [List.length_map]
      omega
    have fin := run.fin iv (by show (0 : Int) ≤ _; omega)
    have many := run.many nk (by show (0 : Int) ≤ _; omega)
    have many : (t.evs.length : Int) ≤ 0 + 110 * (200 + dd - 0) := many
    have names := run.names (N := fun n => PyData.strOk n = true) nk ⟨nofun, kn⟩
    have sT := s5.trans (s6.trans (s11.trans s12))
    have hta := sT _ _ hta
    have hpt := pair_mono (fun _ _ h => TgAt.same h sT) hpt
    have hw := hw.same (s3.trans (s4.trans sT))
    have S12 := SH.rfl' (H := H12)
    walk_at "go"
    refine lc_L (xs := xs) (fun i acc H0 l => Same H12 H0 ∧ l = [] ∧ ∃ ps : List Addr, acc = ps.map V.ref ∧ Paired (fun p kv => SqT K H0 p [kV kv.1, kv.2]) ps (shipK (ts.take i))) S12 ⟨Same.refl _, rfl, [], rfl, .nil⟩ (fun i acc L H0 l H2 ⟨s, _⟩ S2 => SqL.of (S2.rd (s _ _ hta))) (SqL.of hta) ?_ ?_
    · rintro i x acc L H0 l H2 hi ⟨s, rfl, ps, rfl, pp⟩ S2 hz
      obtain ⟨t2, ht2, q, rfl, hq⟩ := LiI.paired_get hpt hi
      have hq := Same.tup (s.trans S2.same) hq
      have hil := (List.getElem?_eq_some_iff.mp hi).1
      walk_at "lct"
      walk_at "go"
      cases hs : t2.side with
      | none =>
        refine w_dT rfl ?_
        walk_at "go"
        refine g_new S2 fun y H3 S3 => ?_
        obtain ⟨B4', S4', s4', e4'⟩ := S3.kx
        refine yes S4' hz (by omega) ⟨s.trans s4', rfl, ps ++ [y], by rw [List.map_append] <;> rfl, ?_⟩
        rw [show shipK (ts.take (i + 1)) = shipK (ts.take i) ++ [(Sum.inr t2.n, .int t2.h)] by
          unfold shipK
          rw [List.take_add_one, ht2, List.filter_append, List.map_append]
          show _ ++ ([t2].filter isShip).map _ = _
          rw [List.filter_cons_of_pos (by unfold isShip; rw [hs]; rfl)]
          rfl]
        exact pair_app (pair_mono (fun _ _ h => Same.tup s4' h) pp) (.cons (SqT.of e4') .nil)
      | some b =>
        refine w_dF (by cases b <;> exact nofun) ?_
        refine no S2 hz ⟨s, rfl, ps, rfl, ?_⟩
        rw [show shipK (ts.take (i + 1)) = shipK (ts.take i) by
          unfold shipK
          rw [List.take_add_one, ht2, List.filter_append]
          show (_ ++ [t2].filter isShip).map _ = _
          rw [List.filter_cons_of_neg (by unfold isShip; rw [hs]; exact Bool.false_ne_true)]
          show (_ ++ []).map _ = _
          rw [List.append_nil]]
        exact pp
    · rintro L acc H0 l H2 ⟨s, rfl, ps, rfl, pp⟩ hz S2
      rw [xl, List.take_length] at pp
      walk_at "go"
      have knd : ((shipK ts).map (·.1)).Nodup := by
        unfold shipK
        rw [List.map_map]
        have h1 : ((ts.filter isShip).map (·.n)).Nodup := nd.sublist (List.filter_sublist.map _)
        have h2 : ((ts.filter isShip).map ((fun kv : L2.Key × V => kv.1) ∘ fun t => (Sum.inr t.n, V.int t.h))) = ((ts.filter isShip).map (·.n)).map Sum.inr := by rw [List.map_map] <;> rfl
        rw [h2]
        exact List.pairwise_map.mpr (List.Pairwise.imp (fun ne e => ne (Sum.inr.inj e)) h1)
      refine ⟨L, ps, shipK ts, rfl, SqL.of S2.g0, pair_mono (fun _ _ h => Same.tup S2.same h) pp, ?_⟩
      rw [merge_new (fun _ _ => rfl) knd]
      refine g_new S2.tail fun sd H3 S3 => ?_
      obtain ⟨B4', S4', s4', e4'⟩ := S3.kx
      have sU := s.trans s4'
      have hev4 := sU _ _ hev
      have pr4 := evs_same sU pr
      have hw4 := hw.same sU
      have le := Paired.length pr
      walk_at "go"
      refine lc_L (xs := es) (fun i acc H0 l => H0 = B4' ∧ l = [] ∧ acc = ((t.evs.take i).map Ev.min).map V.int) S4' ⟨rfl, rfl, rfl⟩ (fun i acc L H0 l H2 ⟨e, _⟩ S2 => SqL.of (S2.rd (by rw [e]; exact hev4))) (SqL.of (S4'.rd hev4)) ?_ ?_
      · rintro i x acc L5 H5 l H6 hi ⟨rfl, rfl, rfl⟩ S6 hz6
        obtain ⟨e, he, q, rfl, hq⟩ := LiI.paired_get pr4 hi
        have hil := (List.getElem?_eq_some_iff.mp hi).1
        walk_at "lct"
        walk_at "go"
        refine g_ixT (Same.tup S6.same hq) (ev0 e) ?_
        refine yes S6 hz6 (by omega) ⟨rfl, rfl, ?_⟩
        rw [List.take_add_one, he, List.map_append, List.map_append] <;> rfl
      rintro L5 acc H5 l H6 ⟨rfl, rfl, rfl⟩ hz6 S6
      rw [le, List.take_length] at S6
      obtain ⟨B7, S7, s7, e7'⟩ := S6.kx
      have hev7 := s7 _ _ hev4
      have pr7 := evs_same s7 pr4
      walk_at "go"
      refine lc_L (xs := es) (fun i acc H0 l => H0 = B7 ∧ l = [] ∧ acc = ((t.evs.take i).map Ev.min).map V.int) S7 ⟨rfl, rfl, rfl⟩ (fun i acc L H0 l H2 ⟨e, _⟩ S2 => SqL.of (S2.rd (by rw [e]; exact hev7))) (SqL.of (S7.rd hev7)) ?_ ?_
      · rintro i x acc L8 H8 l H9 hi ⟨rfl, rfl, rfl⟩ S9 hz9
        obtain ⟨e, he, q, rfl, hq⟩ := LiI.paired_get pr7 hi
        have hil := (List.getElem?_eq_some_iff.mp hi).1
        walk_at "lct"
        walk_at "go"
        refine g_ixT (Same.tup S9.same hq) (ev0 e) ?_
        refine yes S9 hz9 (by omega) ⟨rfl, rfl, ?_⟩
        rw [List.take_add_one, he, List.map_append, List.map_append] <;> rfl
      rintro L8 acc H8 l H9 ⟨rfl, rfl, rfl⟩ hz9 S9
      rw [le, List.take_length] at S9
      walk_at "go"
      refine ⟨L8, t.evs.map Ev.min, rfl, SqL.of S9.g0, fun ns' p perm pw hp => ?_⟩
      have ens : ns' = t.evs.map Ev.min := by
        refine List.Perm.eq_of_pairwise (le := (· ≤ ·)) (fun a b _ _ h1 h2 => Int.le_antisymm h1 h2) pw (List.pairwise_map.mpr fin.srt) perm
      rw [ens]
      have S10 := S9.new (o := .lst ((t.evs.map Ev.min).map V.int)) hp
      refine ⟨_, _, ints_dp (SqL.of (S10.rd e7')), ints_dp (SqL.of S10.g0), ints_shp _, ints_shp _, ?_⟩
      rw [ints_eqv]
      walk_at "go"
      have hw7 := hw4.same s7
      have hsd7 := s7 _ _ e4'
      have hn : d.spans.length = D.W.n + 1 := by rw [ok.sl, st.n, e6, ok.bl]
      have hn10 : D.W.n ≤ 10 := by rw [st.n, e6, ok.bl]; exact ok.n2
      have nok : ∀ e ∈ t.evs, e.nameOk := fun e he => by
        cases e with
        | off m n b => exact names _ he n rfl
        | thr m n => exact names _ he n rfl
        | on m n b => exact names _ he n rfl
        | _ => trivial
      have finN : Fin D.W (shipsT ts) ((200 + dd : Nat) : Int) t.evs := by
        rw [show ((200 + dd : Nat) : Int) = 200 + (dd : Int) by omega]
        exact fin
      refine ⟨_, _, _, rfl, wa, d, ev, es, t.evs, sd, shipK ts, D.W, shipsT ts, rfl, rfl, rfl, hw7.same S10.same, e1, e2, S10.rd hev7, evs_same S10.same pr7, S10.rd hsd7, shipK_get ts, fin.sw, g_retV S10 fun H11 S11 => ?_⟩
      walk_at "go"
      refine ⟨_, _, rfl, ev, es, t.evs, 200 + dd, rfl, congrArg V.int (by omega), S11.rd hev7, evs_same S11.same pr7, by omega, fin.srt, fun e he => (fin.lt e he).1, g_retN_ S11 fun pa H13 S13 => ?_⟩
      walk_at "go"
      exact ⟨_, _, _, _, rfl, wa, d, ev, es, t.evs, pa, 200 + dd, D.W, shipsT ts, rfl, rfl, rfl, congrArg V.int (by omega), hw7.same S13.same, hn, hn10, e4, e5, S13.rd hev7, evs_same S13.same pr7, by omega, S13.g0, by omega, finN, nok, fun H14 _ => k _⟩
end
end

/-! ## En -/
section
set_option maxHeartbeats 0
open PySem PySem.Spec PyProof.Rows L2
theorem top_of {K : PySem.W.Frag} {h : Heap} {mg : Str → Option Value} (X : K.In h) (G : h.Ns mainGlobals mg) (c : He.SaysD fa fn K) (e : ex K = true) : Top K mg :=
  ⟨c, e, fun _ q => He.glo_ok X G q, fun _ q => He.free_ok X G q, fun _ _ q => He.int_ok X G q, fun _ _ q => He.str_ok X G q⟩
end
end BB
open PySem PySem.W PySem.Calls PyProof.Rows
theorem PySem.Challenge.cw_boatbridge_k60_whole_no_cart_where_it_sw_holds : PySem.Challenge.rw_boatbridge_k60_whole_no_cart_where_it_sw.Holds := by
  refine BB.head_law ?_
  refine L2.walk_ofE (l := PySem.Challenge.rw_boatbridge_k60_whole_no_cart_where_it_sw) (n := 63) (k := 13) (x := "_law_script") (CX := L2.CX0) rfl (by decide) BB.law_dfl ⟨rfl, by decide, by decide⟩ ?F (fun _ _ _ _ z => z)
  intro w mg fa h Y G hmg0
  obtain ⟨K, KX, c, e⟩ := Y
  have T := BB.top_of KX G c e
  have hmg : mg ("law" : PySem.Str) = some (.ref fa) := by
    rw [← BB.law_name]
    exact hmg0
  have ef := hmg.symm.trans (BB.g_law T)
  cases ef
  obtain ⟨fd0, F⟩ := BB.F_law T
  have b := L2.FunD.bindsA (ps := ["_law_script"]) F fun _ _ _ _ _ _ us hl => match us, hl with | [_], _ => rfl
  exact ⟨K, fd0, BB.sp_law K, KX, fun s v => b s [v] rfl, fun H a ns hl _ hS => ⟨_, rfl, a, ns, rfl, hS, fun _ => rfl⟩, fun base KB GB => BB.fn_law T F⟩
