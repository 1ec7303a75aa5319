import PyProof.Rows.All
import Wide.All
import OpenK.AllK
import Wide.FinOn
import HandS.ForMost
import HandS.ForExc
import HandS.Defaults
import HandS.HeadHook1
import HandS.HeadHook2
import HandS.HeadHook3
import HandS.HeadHook4
import KE.KStateDown
import Lean
import HandS.Head0
import HandS.Head1
import HandS.Head2
import HandS.HeadEnd
import KE.GoesMore
import PyProof.Draws
import PyProof.StrOps2
import HandS.Walk
import HandS.More
import HandS.Sort
import HandS.SortOrd
import HandS.SortInts
import HandS.DictComp
import HandS.DictTup
import HandS.TupMul
import PyProof.WalkInts
import PyProof.WalksMore
import KE.KDictWalk
import HandS.Keys
import PyProof.Rows.SortKeyStr
import HandS.ListItems
import HandS.Wide
import HandS.TupAny
import HandS.RevTup
import HandS.Conv
import HandS.IsInst
import HandS.Style
import HandS.TupLe
import PySem.Challenge.RW_manyclocks_k81_whole_walks_are_heard
set_option Elab.async false
set_option linter.all false
set_option maxRecDepth 100000
set_option maxHeartbeats 4000000
namespace MC
open PySem PySem.Spec PyProof.Rows L2
def top (i : Nat) : Stmt := PySem.Challenge.pw_manyclocks_k81_whole_walks_are_heard.main.body.getD i (.Pass ⟨0, 0, 0, 0⟩)
abbrev s_divisor : Stmt := top 1
abbrev s_part : Stmt := top 2
abbrev s_plus : Stmt := top 3
abbrev s_times : Stmt := top 4
abbrev s_laid_on : Stmt := top 7
abbrev s_laid : Stmt := top 8
abbrev s_voice_of : Stmt := top 10
abbrev s_found_by : Stmt := top 15
abbrev s_phrase_of : Stmt := top 16
abbrev s_part_of : Stmt := top 17
abbrev s_item_turned : Stmt := top 21
abbrev s_items_turned : Stmt := top 22
abbrev s_bar_turned : Stmt := top 23
abbrev s_Draft_init : Stmt := inClass (top 24) 0
abbrev s_Draft_here : Stmt := inClass (top 24) 1
abbrev s_Draft_add : Stmt := inClass (top 24) 2
abbrev s_Draft_add_open : Stmt := inClass (top 24) 3
abbrev s_Draft_put : Stmt := inClass (top 24) 4
abbrev s_Draft_used : Stmt := inClass (top 24) 5
abbrev s_Draft_end_turns : Stmt := inClass (top 24) 6
abbrev s_Within_init : Stmt := inClass (top 25) 0
abbrev s_Within_deeper : Stmt := inClass (top 25) 1
abbrev s_lay_endings : Stmt := top 26
abbrev s_lay_repeat : Stmt := top 27
abbrev s_lay_use : Stmt := top 28
abbrev s_lay_thing : Stmt := top 29
abbrev s_lay_things : Stmt := top 30
abbrev s_line : Stmt := top 31
abbrev s_pitches_of : Stmt := top 33
abbrev s_length_of_item : Stmt := top 34
abbrev s_things_of : Stmt := top 35
abbrev s_written : Stmt := top 36
abbrev s_firsts : Stmt := top 37
abbrev s_led_from : Stmt := top 38
abbrev s_nexts : Stmt := top 39
abbrev s_price : Stmt := top 42
abbrev s_Ledger_init : Stmt := inClass (top 43) 0
abbrev s_Ledger_add_row : Stmt := inClass (top 43) 1
abbrev s_Ledger_miss_things : Stmt := inClass (top 43) 2
abbrev s_Ledger_way_to : Stmt := inClass (top 43) 3
abbrev s_heard : Stmt := top 44
abbrev s_is_whole : Stmt := top 47
abbrev s_is_table : Stmt := top 48
abbrev s_is_step : Stmt := top 49
abbrev s_Going_init : Stmt := inClass (top 50) 0
abbrev s_Going_goes : Stmt := inClass (top 50) 1
abbrev s_way_costs : Stmt := top 51
abbrev s_is_fair : Stmt := top 52
abbrev s_shows_heard : Stmt := top 53
abbrev s_places_walked : Stmt := top 57
abbrev s_walk : Stmt := top 58
abbrev s_law_hand : Stmt := top 60
abbrev s_law_take : Stmt := top 61
abbrev s_law_low : Stmt := top 62
abbrev s_law_plus : Stmt := top 63
abbrev s_law_times : Stmt := top 64
abbrev s_law_names : Stmt := top 65
abbrev s_law_length : Stmt := top 66
abbrev s_law_pitches : Stmt := top 67
abbrev s_law_tone : Stmt := top 68
abbrev s_law_items : Stmt := top 69
abbrev s_law_come : Stmt := top 70
abbrev s_law_bar : Stmt := top 71
abbrev s_law_repeat : Stmt := top 72
abbrev s_law_things : Stmt := top 73
abbrev s_law_row_of : Stmt := top 74
abbrev s_law_entries : Stmt := top 75
abbrev s_law_score : Stmt := top 76
abbrev s_law_count : Stmt := top 77
abbrev s_law_walked : Stmt := top 78
abbrev s_law_led : Stmt := top 79
abbrev s_law_right : Stmt := top 80
abbrev s_law_all : Stmt := top 81
abbrev s_law : Stmt := top 82
abbrev gA (K : PySem.W.Frag) (x : Str) : Addr := He.ga K x
abbrev mA (K : PySem.W.Frag) (C m : Str) : Addr := He.ma K (He.ga K C) m
/-- what the top has left -/
structure Tx (w : World) (K : PySem.W.Frag) (mg : Str → Option Value) : Prop where
  g_divisor : mg "divisor" = some (.ref (gA K "divisor"))
  g_part : mg "part" = some (.ref (gA K "part"))
  g_plus : mg "plus" = some (.ref (gA K "plus"))
  g_times : mg "times" = some (.ref (gA K "times"))
  g_laid_on : mg "laid_on" = some (.ref (gA K "laid_on"))
  g_laid : mg "laid" = some (.ref (gA K "laid"))
  g_voice_of : mg "voice_of" = some (.ref (gA K "voice_of"))
  g_found_by : mg "found_by" = some (.ref (gA K "found_by"))
  g_phrase_of : mg "phrase_of" = some (.ref (gA K "phrase_of"))
  g_part_of : mg "part_of" = some (.ref (gA K "part_of"))
  g_item_turned : mg "item_turned" = some (.ref (gA K "item_turned"))
  g_items_turned : mg "items_turned" = some (.ref (gA K "items_turned"))
  g_bar_turned : mg "bar_turned" = some (.ref (gA K "bar_turned"))
  g_lay_endings : mg "lay_endings" = some (.ref (gA K "lay_endings"))
  g_lay_repeat : mg "lay_repeat" = some (.ref (gA K "lay_repeat"))
  g_lay_use : mg "lay_use" = some (.ref (gA K "lay_use"))
  g_lay_thing : mg "lay_thing" = some (.ref (gA K "lay_thing"))
  g_lay_things : mg "lay_things" = some (.ref (gA K "lay_things"))
  g_line : mg "line" = some (.ref (gA K "line"))
  g_pitches_of : mg "pitches_of" = some (.ref (gA K "pitches_of"))
  g_length_of_item : mg "length_of_item" = some (.ref (gA K "length_of_item"))
  g_things_of : mg "things_of" = some (.ref (gA K "things_of"))
  g_written : mg "written" = some (.ref (gA K "written"))
  g_firsts : mg "firsts" = some (.ref (gA K "firsts"))
  g_led_from : mg "led_from" = some (.ref (gA K "led_from"))
  g_nexts : mg "nexts" = some (.ref (gA K "nexts"))
  g_price : mg "price" = some (.ref (gA K "price"))
  g_heard : mg "heard" = some (.ref (gA K "heard"))
  g_is_whole : mg "is_whole" = some (.ref (gA K "is_whole"))
  g_is_table : mg "is_table" = some (.ref (gA K "is_table"))
  g_is_step : mg "is_step" = some (.ref (gA K "is_step"))
  g_way_costs : mg "way_costs" = some (.ref (gA K "way_costs"))
  g_is_fair : mg "is_fair" = some (.ref (gA K "is_fair"))
  g_shows_heard : mg "shows_heard" = some (.ref (gA K "shows_heard"))
  g_places_walked : mg "places_walked" = some (.ref (gA K "places_walked"))
  g_walk : mg "walk" = some (.ref (gA K "walk"))
  g_law_hand : mg "_law_hand" = some (.ref (gA K "_law_hand"))
  g_law_take : mg "_law_take" = some (.ref (gA K "_law_take"))
  g_law_low : mg "_law_low" = some (.ref (gA K "_law_low"))
  g_law_plus : mg "_law_plus" = some (.ref (gA K "_law_plus"))
  g_law_times : mg "_law_times" = some (.ref (gA K "_law_times"))
  g_law_names : mg "_law_names" = some (.ref (gA K "_law_names"))
  g_law_length : mg "_law_length" = some (.ref (gA K "_law_length"))
  g_law_pitches : mg "_law_pitches" = some (.ref (gA K "_law_pitches"))
  g_law_tone : mg "_law_tone" = some (.ref (gA K "_law_tone"))
  g_law_items : mg "_law_items" = some (.ref (gA K "_law_items"))
  g_law_come : mg "_law_come" = some (.ref (gA K "_law_come"))
  g_law_bar : mg "_law_bar" = some (.ref (gA K "_law_bar"))
  g_law_repeat : mg "_law_repeat" = some (.ref (gA K "_law_repeat"))
  g_law_things : mg "_law_things" = some (.ref (gA K "_law_things"))
  g_law_row_of : mg "_law_row_of" = some (.ref (gA K "_law_row_of"))
  g_law_entries : mg "_law_entries" = some (.ref (gA K "_law_entries"))
  g_law_score : mg "_law_score" = some (.ref (gA K "_law_score"))
  g_law_count : mg "_law_count" = some (.ref (gA K "_law_count"))
  g_law_walked : mg "_law_walked" = some (.ref (gA K "_law_walked"))
  g_law_led : mg "_law_led" = some (.ref (gA K "_law_led"))
  g_law_right : mg "_law_right" = some (.ref (gA K "_law_right"))
  g_law_all : mg "_law_all" = some (.ref (gA K "_law_all"))
  g_law : mg "law" = some (.ref (gA K "law"))
  g_Draft : mg "Draft" = some (.ref (gA K "Draft"))
  g_Within : mg "Within" = some (.ref (gA K "Within"))
  g_Ledger : mg "Ledger" = some (.ref (gA K "Ledger"))
  g_Going : mg "Going" = some (.ref (gA K "Going"))
  g_TooLong : mg "TooLong" = some (.ref (gA K "TooLong"))
  g_MARKS : mg "MARKS" = some (.ref (gA K "MARKS"))
  g_FORMS : mg "FORMS" = some (.ref (gA K "FORMS"))
  b_len : mg "len" = none
  b_abs : mg "abs" = none
  b_tuple : mg "tuple" = none
  b_list : mg "list" = none
  b_range : mg "range" = none
  b_enumerate : mg "enumerate" = none
  b_sorted : mg "sorted" = none
  b_reversed : mg "reversed" = none
  b_isinstance : mg "isinstance" = none
  b_int : mg "int" = none
  b_str : mg "str" = none
  b_bool : mg "bool" = none
  b_min : mg "min" = none
  b_max : mg "max" = none
  b_all : mg "all" = none
  b_any : mg "any" = none
  i_MOST_ENTRIES : ∃ t, mg "MOST_ENTRIES" = some (.int 2000 t)
  i_MOST_USES : ∃ t, mg "MOST_USES" = some (.int 2000 t)
  i_OFTEN : ∃ t, mg "OFTEN" = some (.int 2 t)
  i_MOST_BARS : ∃ t, mg "MOST_BARS" = some (.int 1000 t)
  i_MOST_TURNS : ∃ t, mg "MOST_TURNS" = some (.int 4000 t)
  c_Draft : Cls K (gA K "Draft")
  n_Draft_score : NoAttr K (gA K "Draft") "score"
  n_Draft_entries : NoAttr K (gA K "Draft") "entries"
  n_Draft_uses : NoAttr K (gA K "Draft") "uses"
  n_Draft_turns : NoAttr K (gA K "Draft") "turns"
  k_Draft : Mk K (gA K "Draft") (mA K "Draft" "__init__")
  c_Within : Cls K (gA K "Within")
  n_Within_way : NoAttr K (gA K "Within") "way"
  n_Within_signs : NoAttr K (gA K "Within") "signs"
  n_Within_up : NoAttr K (gA K "Within") "up"
  n_Within_by : NoAttr K (gA K "Within") "by"
  k_Within : Mk K (gA K "Within") (mA K "Within" "__init__")
  c_Ledger : Cls K (gA K "Ledger")
  n_Ledger_things : NoAttr K (gA K "Ledger") "things"
  n_Ledger_after : NoAttr K (gA K "Ledger") "after"
  n_Ledger_notes : NoAttr K (gA K "Ledger") "notes"
  n_Ledger_costs : NoAttr K (gA K "Ledger") "costs"
  n_Ledger_steps : NoAttr K (gA K "Ledger") "steps"
  k_Ledger : Mk K (gA K "Ledger") (mA K "Ledger" "__init__")
  c_Going : Cls K (gA K "Going")
  n_Going_things : NoAttr K (gA K "Going") "things"
  n_Going_after : NoAttr K (gA K "Going") "after"
  n_Going_notes : NoAttr K (gA K "Going") "notes"
  n_Going_taken : NoAttr K (gA K "Going") "taken"
  n_Going_may : NoAttr K (gA K "Going") "may"
  n_Going_cost : NoAttr K (gA K "Going") "cost"
  k_Going : Mk K (gA K "Going") (mA K "Going" "__init__")
  m_Draft_here : Meth K (gA K "Draft") "here" (mA K "Draft" "here")
  m_Draft_add : Meth K (gA K "Draft") "add" (mA K "Draft" "add")
  m_Draft_add_open : Meth K (gA K "Draft") "add_open" (mA K "Draft" "add_open")
  m_Draft_put : Meth K (gA K "Draft") "put" (mA K "Draft" "put")
  m_Draft_used : Meth K (gA K "Draft") "used" (mA K "Draft" "used")
  m_Draft_end_turns : Meth K (gA K "Draft") "end_turns" (mA K "Draft" "end_turns")
  m_Within_deeper : Meth K (gA K "Within") "deeper" (mA K "Within" "deeper")
  m_Ledger_add_row : Meth K (gA K "Ledger") "add_row" (mA K "Ledger" "add_row")
  m_Ledger_miss_things : Meth K (gA K "Ledger") "miss_things" (mA K "Ledger" "miss_things")
  m_Ledger_way_to : Meth K (gA K "Ledger") "way_to" (mA K "Ledger" "way_to")
  m_Going_goes : Meth K (gA K "Going") "goes" (mA K "Going" "goes")
  x_TooLong : PySem.W.excIn K (gA K "TooLong") He.veBase "ValueError.__new__" = true ∧ PySem.W.keepIn K (.ref (gA K "TooLong")) = true ∧ PySem.W.subIn K (.ref (gA K "TooLong")) (.type "BaseException") = some true ∧ PySem.W.typeIn K (.ref (gA K "TooLong")) = some (.type "type")
  e_TooLong : PySem.W.exmOne K (.ref (gA K "TooLong")) (.ref (gA K "TooLong")) = some true
  f_divisor : ∃ fd, FunD K "divisor" "divisor" (defArgs s_divisor) (defBody s_divisor) (defScope s_divisor) [] [] (He.fAd K ("divisor", none)) fd
  f_part : ∃ fd, FunD K "part" "part" (defArgs s_part) (defBody s_part) (defScope s_part) [] [] (He.fAd K ("part", none)) fd
  f_plus : ∃ fd, FunD K "plus" "plus" (defArgs s_plus) (defBody s_plus) (defScope s_plus) [] [] (He.fAd K ("plus", none)) fd
  f_times : ∃ fd, FunD K "times" "times" (defArgs s_times) (defBody s_times) (defScope s_times) [] [] (He.fAd K ("times", none)) fd
  f_laid_on : ∃ fd, FunD K "laid_on" "laid_on" (defArgs s_laid_on) (defBody s_laid_on) (defScope s_laid_on) [] [] (He.fAd K ("laid_on", none)) fd
  f_laid : ∃ fd, FunD K "laid" "laid" (defArgs s_laid) (defBody s_laid) (defScope s_laid) [] [] (He.fAd K ("laid", none)) fd
  f_voice_of : ∃ fd, FunD K "voice_of" "voice_of" (defArgs s_voice_of) (defBody s_voice_of) (defScope s_voice_of) [] [] (He.fAd K ("voice_of", none)) fd
  f_found_by : ∃ fd, FunD K "found_by" "found_by" (defArgs s_found_by) (defBody s_found_by) (defScope s_found_by) [] [] (He.fAd K ("found_by", none)) fd
  f_phrase_of : ∃ fd, FunD K "phrase_of" "phrase_of" (defArgs s_phrase_of) (defBody s_phrase_of) (defScope s_phrase_of) [] [] (He.fAd K ("phrase_of", none)) fd
  f_part_of : ∃ fd, FunD K "part_of" "part_of" (defArgs s_part_of) (defBody s_part_of) (defScope s_part_of) [] [] (He.fAd K ("part_of", none)) fd
  f_item_turned : ∃ fd, FunD K "item_turned" "item_turned" (defArgs s_item_turned) (defBody s_item_turned) (defScope s_item_turned) [] [] (He.fAd K ("item_turned", none)) fd
  f_items_turned : ∃ fd, FunD K "items_turned" "items_turned" (defArgs s_items_turned) (defBody s_items_turned) (defScope s_items_turned) [] [] (He.fAd K ("items_turned", none)) fd
  f_bar_turned : ∃ fd, FunD K "bar_turned" "bar_turned" (defArgs s_bar_turned) (defBody s_bar_turned) (defScope s_bar_turned) [] [] (He.fAd K ("bar_turned", none)) fd
  f_Draft_init : ∃ fd, FunD K "__init__" "Draft.__init__" (defArgs s_Draft_init) (defBody s_Draft_init) (defScope s_Draft_init) [] [] (He.fAd K ("Draft", some "__init__")) fd
  f_Draft_here : ∃ fd, FunD K "here" "Draft.here" (defArgs s_Draft_here) (defBody s_Draft_here) (defScope s_Draft_here) [] [] (He.fAd K ("Draft", some "here")) fd
  f_Draft_add : ∃ fd, FunD K "add" "Draft.add" (defArgs s_Draft_add) (defBody s_Draft_add) (defScope s_Draft_add) [] [] (He.fAd K ("Draft", some "add")) fd
  f_Draft_add_open : ∃ fd, FunD K "add_open" "Draft.add_open" (defArgs s_Draft_add_open) (defBody s_Draft_add_open) (defScope s_Draft_add_open) [] [] (He.fAd K ("Draft", some "add_open")) fd
  f_Draft_put : ∃ fd, FunD K "put" "Draft.put" (defArgs s_Draft_put) (defBody s_Draft_put) (defScope s_Draft_put) [] [] (He.fAd K ("Draft", some "put")) fd
  f_Draft_used : ∃ fd, FunD K "used" "Draft.used" (defArgs s_Draft_used) (defBody s_Draft_used) (defScope s_Draft_used) [] [] (He.fAd K ("Draft", some "used")) fd
  f_Draft_end_turns : ∃ fd, FunD K "end_turns" "Draft.end_turns" (defArgs s_Draft_end_turns) (defBody s_Draft_end_turns) (defScope s_Draft_end_turns) [] [] (He.fAd K ("Draft", some "end_turns")) fd
  f_Within_init : ∃ fd, FunD K "__init__" "Within.__init__" (defArgs s_Within_init) (defBody s_Within_init) (defScope s_Within_init) [] [] (He.fAd K ("Within", some "__init__")) fd
  f_Within_deeper : ∃ fd, FunD K "deeper" "Within.deeper" (defArgs s_Within_deeper) (defBody s_Within_deeper) (defScope s_Within_deeper) [] [] (He.fAd K ("Within", some "deeper")) fd
  f_lay_endings : ∃ fd, FunD K "lay_endings" "lay_endings" (defArgs s_lay_endings) (defBody s_lay_endings) (defScope s_lay_endings) [] [] (He.fAd K ("lay_endings", none)) fd
  f_lay_repeat : ∃ fd, FunD K "lay_repeat" "lay_repeat" (defArgs s_lay_repeat) (defBody s_lay_repeat) (defScope s_lay_repeat) [] [] (He.fAd K ("lay_repeat", none)) fd
  f_lay_use : ∃ fd, FunD K "lay_use" "lay_use" (defArgs s_lay_use) (defBody s_lay_use) (defScope s_lay_use) [] [] (He.fAd K ("lay_use", none)) fd
  f_lay_thing : ∃ fd, FunD K "lay_thing" "lay_thing" (defArgs s_lay_thing) (defBody s_lay_thing) (defScope s_lay_thing) [] [] (He.fAd K ("lay_thing", none)) fd
  f_lay_things : ∃ fd, FunD K "lay_things" "lay_things" (defArgs s_lay_things) (defBody s_lay_things) (defScope s_lay_things) [] [] (He.fAd K ("lay_things", none)) fd
  f_line : ∃ fd, FunD K "line" "line" (defArgs s_line) (defBody s_line) (defScope s_line) [] [] (He.fAd K ("line", none)) fd
  f_pitches_of : ∃ fd, FunD K "pitches_of" "pitches_of" (defArgs s_pitches_of) (defBody s_pitches_of) (defScope s_pitches_of) [] [] (He.fAd K ("pitches_of", none)) fd
  f_length_of_item : ∃ fd, FunD K "length_of_item" "length_of_item" (defArgs s_length_of_item) (defBody s_length_of_item) (defScope s_length_of_item) [] [] (He.fAd K ("length_of_item", none)) fd
  f_things_of : ∃ fd, FunD K "things_of" "things_of" (defArgs s_things_of) (defBody s_things_of) (defScope s_things_of) [] [] (He.fAd K ("things_of", none)) fd
  f_written : ∃ fd, FunD K "written" "written" (defArgs s_written) (defBody s_written) (defScope s_written) [] [] (He.fAd K ("written", none)) fd
  f_firsts : ∃ fd, FunD K "firsts" "firsts" (defArgs s_firsts) (defBody s_firsts) (defScope s_firsts) [] [] (He.fAd K ("firsts", none)) fd
  f_led_from : ∃ fd, FunD K "led_from" "led_from" (defArgs s_led_from) (defBody s_led_from) (defScope s_led_from) [] [] (He.fAd K ("led_from", none)) fd
  f_nexts : ∃ fd, FunD K "nexts" "nexts" (defArgs s_nexts) (defBody s_nexts) (defScope s_nexts) [] [] (He.fAd K ("nexts", none)) fd
  f_price : ∃ fd, FunD K "price" "price" (defArgs s_price) (defBody s_price) (defScope s_price) [] [] (He.fAd K ("price", none)) fd
  f_Ledger_init : ∃ fd, FunD K "__init__" "Ledger.__init__" (defArgs s_Ledger_init) (defBody s_Ledger_init) (defScope s_Ledger_init) [] [] (He.fAd K ("Ledger", some "__init__")) fd
  f_Ledger_add_row : ∃ fd, FunD K "add_row" "Ledger.add_row" (defArgs s_Ledger_add_row) (defBody s_Ledger_add_row) (defScope s_Ledger_add_row) [] [] (He.fAd K ("Ledger", some "add_row")) fd
  f_Ledger_miss_things : ∃ fd, FunD K "miss_things" "Ledger.miss_things" (defArgs s_Ledger_miss_things) (defBody s_Ledger_miss_things) (defScope s_Ledger_miss_things) [] [] (He.fAd K ("Ledger", some "miss_things")) fd
  f_Ledger_way_to : ∃ fd, FunD K "way_to" "Ledger.way_to" (defArgs s_Ledger_way_to) (defBody s_Ledger_way_to) (defScope s_Ledger_way_to) [] [] (He.fAd K ("Ledger", some "way_to")) fd
  f_heard : ∃ fd, FunD K "heard" "heard" (defArgs s_heard) (defBody s_heard) (defScope s_heard) [] [] (He.fAd K ("heard", none)) fd
  f_is_whole : ∃ fd, FunD K "is_whole" "is_whole" (defArgs s_is_whole) (defBody s_is_whole) (defScope s_is_whole) [] [] (He.fAd K ("is_whole", none)) fd
  f_is_table : ∃ fd, FunD K "is_table" "is_table" (defArgs s_is_table) (defBody s_is_table) (defScope s_is_table) [] [] (He.fAd K ("is_table", none)) fd
  f_is_step : ∃ fd, FunD K "is_step" "is_step" (defArgs s_is_step) (defBody s_is_step) (defScope s_is_step) [] [] (He.fAd K ("is_step", none)) fd
  f_Going_init : ∃ fd, FunD K "__init__" "Going.__init__" (defArgs s_Going_init) (defBody s_Going_init) (defScope s_Going_init) [] [] (He.fAd K ("Going", some "__init__")) fd
  f_Going_goes : ∃ fd, FunD K "goes" "Going.goes" (defArgs s_Going_goes) (defBody s_Going_goes) (defScope s_Going_goes) [] [] (He.fAd K ("Going", some "goes")) fd
  f_way_costs : ∃ fd, FunD K "way_costs" "way_costs" (defArgs s_way_costs) (defBody s_way_costs) (defScope s_way_costs) [] [] (He.fAd K ("way_costs", none)) fd
  f_is_fair : ∃ fd, FunD K "is_fair" "is_fair" (defArgs s_is_fair) (defBody s_is_fair) (defScope s_is_fair) [] [] (He.fAd K ("is_fair", none)) fd
  f_shows_heard : ∃ fd, FunD K "shows_heard" "shows_heard" (defArgs s_shows_heard) (defBody s_shows_heard) (defScope s_shows_heard) [] [] (He.fAd K ("shows_heard", none)) fd
  f_places_walked : ∃ fd, FunD K "places_walked" "places_walked" (defArgs s_places_walked) (defBody s_places_walked) (defScope s_places_walked) [] [] (He.fAd K ("places_walked", none)) fd
  f_walk : ∃ fd, FunD K "walk" "walk" (defArgs s_walk) (defBody s_walk) (defScope s_walk) [] [] (He.fAd K ("walk", none)) fd
  f_law_hand : ∃ fd, FunD K "_law_hand" "_law_hand" (defArgs s_law_hand) (defBody s_law_hand) (defScope s_law_hand) [] [] (He.fAd K ("_law_hand", none)) fd
  f_law_take : ∃ fd, FunD K "_law_take" "_law_take" (defArgs s_law_take) (defBody s_law_take) (defScope s_law_take) [] [] (He.fAd K ("_law_take", none)) fd
  f_law_low : ∃ fd, FunD K "_law_low" "_law_low" (defArgs s_law_low) (defBody s_law_low) (defScope s_law_low) [] [] (He.fAd K ("_law_low", none)) fd
  f_law_plus : ∃ fd, FunD K "_law_plus" "_law_plus" (defArgs s_law_plus) (defBody s_law_plus) (defScope s_law_plus) [] [] (He.fAd K ("_law_plus", none)) fd
  f_law_times : ∃ fd, FunD K "_law_times" "_law_times" (defArgs s_law_times) (defBody s_law_times) (defScope s_law_times) [] [] (He.fAd K ("_law_times", none)) fd
  f_law_names : ∃ fd, FunD K "_law_names" "_law_names" (defArgs s_law_names) (defBody s_law_names) (defScope s_law_names) [] [] (He.fAd K ("_law_names", none)) fd
  f_law_length : ∃ fd, FunD K "_law_length" "_law_length" (defArgs s_law_length) (defBody s_law_length) (defScope s_law_length) [] [] (He.fAd K ("_law_length", none)) fd
  f_law_pitches : ∃ fd, FunD K "_law_pitches" "_law_pitches" (defArgs s_law_pitches) (defBody s_law_pitches) (defScope s_law_pitches) [] [] (He.fAd K ("_law_pitches", none)) fd
  f_law_tone : ∃ fd, FunD K "_law_tone" "_law_tone" (defArgs s_law_tone) (defBody s_law_tone) (defScope s_law_tone) [] [] (He.fAd K ("_law_tone", none)) fd
  f_law_items : ∃ fd, FunD K "_law_items" "_law_items" (defArgs s_law_items) (defBody s_law_items) (defScope s_law_items) [] [] (He.fAd K ("_law_items", none)) fd
  f_law_come : ∃ fd, FunD K "_law_come" "_law_come" (defArgs s_law_come) (defBody s_law_come) (defScope s_law_come) [] [] (He.fAd K ("_law_come", none)) fd
  f_law_bar : ∃ fd, FunD K "_law_bar" "_law_bar" (defArgs s_law_bar) (defBody s_law_bar) (defScope s_law_bar) [] [] (He.fAd K ("_law_bar", none)) fd
  f_law_repeat : ∃ fd, FunD K "_law_repeat" "_law_repeat" (defArgs s_law_repeat) (defBody s_law_repeat) (defScope s_law_repeat) [] [] (He.fAd K ("_law_repeat", none)) fd
  f_law_things : ∃ fd, FunD K "_law_things" "_law_things" (defArgs s_law_things) (defBody s_law_things) (defScope s_law_things) [] [] (He.fAd K ("_law_things", none)) fd
  f_law_row_of : ∃ fd, FunD K "_law_row_of" "_law_row_of" (defArgs s_law_row_of) (defBody s_law_row_of) (defScope s_law_row_of) [] [] (He.fAd K ("_law_row_of", none)) fd
  f_law_entries : ∃ fd, FunD K "_law_entries" "_law_entries" (defArgs s_law_entries) (defBody s_law_entries) (defScope s_law_entries) [] [] (He.fAd K ("_law_entries", none)) fd
  f_law_score : ∃ fd, FunD K "_law_score" "_law_score" (defArgs s_law_score) (defBody s_law_score) (defScope s_law_score) [] [] (He.fAd K ("_law_score", none)) fd
  f_law_count : ∃ fd, FunD K "_law_count" "_law_count" (defArgs s_law_count) (defBody s_law_count) (defScope s_law_count) [] [] (He.fAd K ("_law_count", none)) fd
  f_law_walked : ∃ fd, FunD K "_law_walked" "_law_walked" (defArgs s_law_walked) (defBody s_law_walked) (defScope s_law_walked) [] [] (He.fAd K ("_law_walked", none)) fd
  f_law_led : ∃ fd, FunD K "_law_led" "_law_led" (defArgs s_law_led) (defBody s_law_led) (defScope s_law_led) [] [] (He.fAd K ("_law_led", none)) fd
  f_law_right : ∃ fd, FunD K "_law_right" "_law_right" (defArgs s_law_right) (defBody s_law_right) (defScope s_law_right) [] [] (He.fAd K ("_law_right", none)) fd
  f_law_all : ∃ fd, FunD K "_law_all" "_law_all" (defArgs s_law_all) (defBody s_law_all) (defScope s_law_all) [] [] (He.fAd K ("_law_all", none)) fd
  f_law : ∃ fd, FunD K "law" "law" (defArgs s_law) (defBody s_law) (defScope s_law) [] [] (He.fAd K ("law", none)) fd
  t_MARKS : ∀ H : Hp, SqT K H (gA K "MARKS") ([.str "call", .str "wait", .str "meet", .str "pace", .str "lean"] : List V)
  d_FORMS : ∃ es n, KDict K w (gA K "FORMS") es n
  v_FORMS : ∀ (x : Str) (i : Int), (x, i) ∈ ([("hear", 3), ("miss", 2), ("more", 2)] : List (Str × Int)) → ∃ t, PySem.W.nsIn K (gA K "FORMS") x = some (some (.int i t))
end MC
set_option Elab.async false
set_option linter.all false
set_option maxRecDepth 100000
set_option maxHeartbeats 0
namespace MC
open PySem PySem.Spec PyProof.Rows L2
def d_divisor : He.DefD := ⟨("divisor", none), "divisor", "divisor", defArgs s_divisor, defBody s_divisor, defScope s_divisor, [], []⟩
def d_part : He.DefD := ⟨("part", none), "part", "part", defArgs s_part, defBody s_part, defScope s_part, [], []⟩
def d_plus : He.DefD := ⟨("plus", none), "plus", "plus", defArgs s_plus, defBody s_plus, defScope s_plus, [], []⟩
def d_times : He.DefD := ⟨("times", none), "times", "times", defArgs s_times, defBody s_times, defScope s_times, [], []⟩
def d_laid_on : He.DefD := ⟨("laid_on", none), "laid_on", "laid_on", defArgs s_laid_on, defBody s_laid_on, defScope s_laid_on, [], []⟩
def d_laid : He.DefD := ⟨("laid", none), "laid", "laid", defArgs s_laid, defBody s_laid, defScope s_laid, [], []⟩
def d_voice_of : He.DefD := ⟨("voice_of", none), "voice_of", "voice_of", defArgs s_voice_of, defBody s_voice_of, defScope s_voice_of, [], []⟩
def d_found_by : He.DefD := ⟨("found_by", none), "found_by", "found_by", defArgs s_found_by, defBody s_found_by, defScope s_found_by, [], []⟩
def d_phrase_of : He.DefD := ⟨("phrase_of", none), "phrase_of", "phrase_of", defArgs s_phrase_of, defBody s_phrase_of, defScope s_phrase_of, [], []⟩
def d_part_of : He.DefD := ⟨("part_of", none), "part_of", "part_of", defArgs s_part_of, defBody s_part_of, defScope s_part_of, [], []⟩
def d_item_turned : He.DefD := ⟨("item_turned", none), "item_turned", "item_turned", defArgs s_item_turned, defBody s_item_turned, defScope s_item_turned, [], []⟩
def d_items_turned : He.DefD := ⟨("items_turned", none), "items_turned", "items_turned", defArgs s_items_turned, defBody s_items_turned, defScope s_items_turned, [], []⟩
def d_bar_turned : He.DefD := ⟨("bar_turned", none), "bar_turned", "bar_turned", defArgs s_bar_turned, defBody s_bar_turned, defScope s_bar_turned, [], []⟩
def d_Draft_init : He.DefD := ⟨("Draft", some "__init__"), "__init__", "Draft.__init__", defArgs s_Draft_init, defBody s_Draft_init, defScope s_Draft_init, [], []⟩
def d_Draft_here : He.DefD := ⟨("Draft", some "here"), "here", "Draft.here", defArgs s_Draft_here, defBody s_Draft_here, defScope s_Draft_here, [], []⟩
def d_Draft_add : He.DefD := ⟨("Draft", some "add"), "add", "Draft.add", defArgs s_Draft_add, defBody s_Draft_add, defScope s_Draft_add, [], []⟩
def d_Draft_add_open : He.DefD := ⟨("Draft", some "add_open"), "add_open", "Draft.add_open", defArgs s_Draft_add_open, defBody s_Draft_add_open, defScope s_Draft_add_open, [], []⟩
def d_Draft_put : He.DefD := ⟨("Draft", some "put"), "put", "Draft.put", defArgs s_Draft_put, defBody s_Draft_put, defScope s_Draft_put, [], []⟩
def d_Draft_used : He.DefD := ⟨("Draft", some "used"), "used", "Draft.used", defArgs s_Draft_used, defBody s_Draft_used, defScope s_Draft_used, [], []⟩
def d_Draft_end_turns : He.DefD := ⟨("Draft", some "end_turns"), "end_turns", "Draft.end_turns", defArgs s_Draft_end_turns, defBody s_Draft_end_turns, defScope s_Draft_end_turns, [], []⟩
def d_Within_init : He.DefD := ⟨("Within", some "__init__"), "__init__", "Within.__init__", defArgs s_Within_init, defBody s_Within_init, defScope s_Within_init, [], []⟩
def d_Within_deeper : He.DefD := ⟨("Within", some "deeper"), "deeper", "Within.deeper", defArgs s_Within_deeper, defBody s_Within_deeper, defScope s_Within_deeper, [], []⟩
def d_lay_endings : He.DefD := ⟨("lay_endings", none), "lay_endings", "lay_endings", defArgs s_lay_endings, defBody s_lay_endings, defScope s_lay_endings, [], []⟩
def d_lay_repeat : He.DefD := ⟨("lay_repeat", none), "lay_repeat", "lay_repeat", defArgs s_lay_repeat, defBody s_lay_repeat, defScope s_lay_repeat, [], []⟩
def d_lay_use : He.DefD := ⟨("lay_use", none), "lay_use", "lay_use", defArgs s_lay_use, defBody s_lay_use, defScope s_lay_use, [], []⟩
def d_lay_thing : He.DefD := ⟨("lay_thing", none), "lay_thing", "lay_thing", defArgs s_lay_thing, defBody s_lay_thing, defScope s_lay_thing, [], []⟩
def d_lay_things : He.DefD := ⟨("lay_things", none), "lay_things", "lay_things", defArgs s_lay_things, defBody s_lay_things, defScope s_lay_things, [], []⟩
def d_line : He.DefD := ⟨("line", none), "line", "line", defArgs s_line, defBody s_line, defScope s_line, [], []⟩
def d_pitches_of : He.DefD := ⟨("pitches_of", none), "pitches_of", "pitches_of", defArgs s_pitches_of, defBody s_pitches_of, defScope s_pitches_of, [], []⟩
def d_length_of_item : He.DefD := ⟨("length_of_item", none), "length_of_item", "length_of_item", defArgs s_length_of_item, defBody s_length_of_item, defScope s_length_of_item, [], []⟩
def d_things_of : He.DefD := ⟨("things_of", none), "things_of", "things_of", defArgs s_things_of, defBody s_things_of, defScope s_things_of, [], []⟩
def d_written : He.DefD := ⟨("written", none), "written", "written", defArgs s_written, defBody s_written, defScope s_written, [], []⟩
def d_firsts : He.DefD := ⟨("firsts", none), "firsts", "firsts", defArgs s_firsts, defBody s_firsts, defScope s_firsts, [], []⟩
def d_led_from : He.DefD := ⟨("led_from", none), "led_from", "led_from", defArgs s_led_from, defBody s_led_from, defScope s_led_from, [], []⟩
def d_nexts : He.DefD := ⟨("nexts", none), "nexts", "nexts", defArgs s_nexts, defBody s_nexts, defScope s_nexts, [], []⟩
def d_price : He.DefD := ⟨("price", none), "price", "price", defArgs s_price, defBody s_price, defScope s_price, [], []⟩
def d_Ledger_init : He.DefD := ⟨("Ledger", some "__init__"), "__init__", "Ledger.__init__", defArgs s_Ledger_init, defBody s_Ledger_init, defScope s_Ledger_init, [], []⟩
def d_Ledger_add_row : He.DefD := ⟨("Ledger", some "add_row"), "add_row", "Ledger.add_row", defArgs s_Ledger_add_row, defBody s_Ledger_add_row, defScope s_Ledger_add_row, [], []⟩
def d_Ledger_miss_things : He.DefD := ⟨("Ledger", some "miss_things"), "miss_things", "Ledger.miss_things", defArgs s_Ledger_miss_things, defBody s_Ledger_miss_things, defScope s_Ledger_miss_things, [], []⟩
def d_Ledger_way_to : He.DefD := ⟨("Ledger", some "way_to"), "way_to", "Ledger.way_to", defArgs s_Ledger_way_to, defBody s_Ledger_way_to, defScope s_Ledger_way_to, [], []⟩
def d_heard : He.DefD := ⟨("heard", none), "heard", "heard", defArgs s_heard, defBody s_heard, defScope s_heard, [], []⟩
def d_is_whole : He.DefD := ⟨("is_whole", none), "is_whole", "is_whole", defArgs s_is_whole, defBody s_is_whole, defScope s_is_whole, [], []⟩
def d_is_table : He.DefD := ⟨("is_table", none), "is_table", "is_table", defArgs s_is_table, defBody s_is_table, defScope s_is_table, [], []⟩
def d_is_step : He.DefD := ⟨("is_step", none), "is_step", "is_step", defArgs s_is_step, defBody s_is_step, defScope s_is_step, [], []⟩
def d_Going_init : He.DefD := ⟨("Going", some "__init__"), "__init__", "Going.__init__", defArgs s_Going_init, defBody s_Going_init, defScope s_Going_init, [], []⟩
def d_Going_goes : He.DefD := ⟨("Going", some "goes"), "goes", "Going.goes", defArgs s_Going_goes, defBody s_Going_goes, defScope s_Going_goes, [], []⟩
def d_way_costs : He.DefD := ⟨("way_costs", none), "way_costs", "way_costs", defArgs s_way_costs, defBody s_way_costs, defScope s_way_costs, [], []⟩
def d_is_fair : He.DefD := ⟨("is_fair", none), "is_fair", "is_fair", defArgs s_is_fair, defBody s_is_fair, defScope s_is_fair, [], []⟩
def d_shows_heard : He.DefD := ⟨("shows_heard", none), "shows_heard", "shows_heard", defArgs s_shows_heard, defBody s_shows_heard, defScope s_shows_heard, [], []⟩
def d_places_walked : He.DefD := ⟨("places_walked", none), "places_walked", "places_walked", defArgs s_places_walked, defBody s_places_walked, defScope s_places_walked, [], []⟩
def d_walk : He.DefD := ⟨("walk", none), "walk", "walk", defArgs s_walk, defBody s_walk, defScope s_walk, [], []⟩
def d_law_hand : He.DefD := ⟨("_law_hand", none), "_law_hand", "_law_hand", defArgs s_law_hand, defBody s_law_hand, defScope s_law_hand, [], []⟩
def d_law_take : He.DefD := ⟨("_law_take", none), "_law_take", "_law_take", defArgs s_law_take, defBody s_law_take, defScope s_law_take, [], []⟩
def d_law_low : He.DefD := ⟨("_law_low", none), "_law_low", "_law_low", defArgs s_law_low, defBody s_law_low, defScope s_law_low, [], []⟩
def d_law_plus : He.DefD := ⟨("_law_plus", none), "_law_plus", "_law_plus", defArgs s_law_plus, defBody s_law_plus, defScope s_law_plus, [], []⟩
def d_law_times : He.DefD := ⟨("_law_times", none), "_law_times", "_law_times", defArgs s_law_times, defBody s_law_times, defScope s_law_times, [], []⟩
def d_law_names : He.DefD := ⟨("_law_names", none), "_law_names", "_law_names", defArgs s_law_names, defBody s_law_names, defScope s_law_names, [], []⟩
def d_law_length : He.DefD := ⟨("_law_length", none), "_law_length", "_law_length", defArgs s_law_length, defBody s_law_length, defScope s_law_length, [], []⟩
def d_law_pitches : He.DefD := ⟨("_law_pitches", none), "_law_pitches", "_law_pitches", defArgs s_law_pitches, defBody s_law_pitches, defScope s_law_pitches, [], []⟩
def d_law_tone : He.DefD := ⟨("_law_tone", none), "_law_tone", "_law_tone", defArgs s_law_tone, defBody s_law_tone, defScope s_law_tone, [], []⟩
def d_law_items : He.DefD := ⟨("_law_items", none), "_law_items", "_law_items", defArgs s_law_items, defBody s_law_items, defScope s_law_items, [], []⟩
def d_law_come : He.DefD := ⟨("_law_come", none), "_law_come", "_law_come", defArgs s_law_come, defBody s_law_come, defScope s_law_come, [], []⟩
def d_law_bar : He.DefD := ⟨("_law_bar", none), "_law_bar", "_law_bar", defArgs s_law_bar, defBody s_law_bar, defScope s_law_bar, [], []⟩
def d_law_repeat : He.DefD := ⟨("_law_repeat", none), "_law_repeat", "_law_repeat", defArgs s_law_repeat, defBody s_law_repeat, defScope s_law_repeat, [], []⟩
def d_law_things : He.DefD := ⟨("_law_things", none), "_law_things", "_law_things", defArgs s_law_things, defBody s_law_things, defScope s_law_things, [], []⟩
def d_law_row_of : He.DefD := ⟨("_law_row_of", none), "_law_row_of", "_law_row_of", defArgs s_law_row_of, defBody s_law_row_of, defScope s_law_row_of, [], []⟩
def d_law_entries : He.DefD := ⟨("_law_entries", none), "_law_entries", "_law_entries", defArgs s_law_entries, defBody s_law_entries, defScope s_law_entries, [], []⟩
def d_law_score : He.DefD := ⟨("_law_score", none), "_law_score", "_law_score", defArgs s_law_score, defBody s_law_score, defScope s_law_score, [], []⟩
def d_law_count : He.DefD := ⟨("_law_count", none), "_law_count", "_law_count", defArgs s_law_count, defBody s_law_count, defScope s_law_count, [], []⟩
def d_law_walked : He.DefD := ⟨("_law_walked", none), "_law_walked", "_law_walked", defArgs s_law_walked, defBody s_law_walked, defScope s_law_walked, [], []⟩
def d_law_led : He.DefD := ⟨("_law_led", none), "_law_led", "_law_led", defArgs s_law_led, defBody s_law_led, defScope s_law_led, [], []⟩
def d_law_right : He.DefD := ⟨("_law_right", none), "_law_right", "_law_right", defArgs s_law_right, defBody s_law_right, defScope s_law_right, [], []⟩
def d_law_all : He.DefD := ⟨("_law_all", none), "_law_all", "_law_all", defArgs s_law_all, defBody s_law_all, defScope s_law_all, [], []⟩
def d_law : He.DefD := ⟨("law", none), "law", "law", defArgs s_law, defBody s_law, defScope s_law, [], []⟩
def hfn0 : List He.DefD := [d_divisor, d_part, d_plus, d_times, d_laid_on, d_laid, d_voice_of, d_found_by, d_phrase_of, d_part_of, d_item_turned, d_items_turned, d_bar_turned, d_Draft_init, d_Draft_here, d_Draft_add, d_Draft_add_open, d_Draft_put, d_Draft_used, d_Draft_end_turns, d_Within_init, d_Within_deeper, d_lay_endings, d_lay_repeat, d_lay_use, d_lay_thing, d_lay_things, d_line, d_pitches_of, d_length_of_item]
def hfn1 : List He.DefD := [d_things_of, d_written, d_firsts, d_led_from, d_nexts, d_price, d_Ledger_init, d_Ledger_add_row, d_Ledger_miss_things, d_Ledger_way_to, d_heard, d_is_whole, d_is_table, d_is_step, d_Going_init, d_Going_goes, d_way_costs, d_is_fair, d_shows_heard, d_places_walked, d_walk, d_law_hand, d_law_take, d_law_low, d_law_plus, d_law_times, d_law_names, d_law_length, d_law_pitches, d_law_tone]
def hfn2 : List He.DefD := [d_law_items, d_law_come, d_law_bar, d_law_repeat, d_law_things, d_law_row_of, d_law_entries, d_law_score, d_law_count, d_law_walked, d_law_led, d_law_right, d_law_all, d_law]
def hfn : List He.DefD := hfn0 ++ (hfn1 ++ (hfn2))
def hfa0 : List He.Fa := [.glo "divisor", .glo "part", .glo "plus", .glo "times", .glo "laid_on", .glo "laid", .glo "voice_of", .glo "found_by", .glo "phrase_of", .glo "part_of", .glo "item_turned", .glo "items_turned", .glo "bar_turned", .glo "lay_endings", .glo "lay_repeat", .glo "lay_use", .glo "lay_thing", .glo "lay_things", .glo "line", .glo "pitches_of", .glo "length_of_item", .glo "things_of", .glo "written", .glo "firsts", .glo "led_from", .glo "nexts", .glo "price", .glo "heard", .glo "is_whole", .glo "is_table"]
def hfa1 : List He.Fa := [.glo "is_step", .glo "way_costs", .glo "is_fair", .glo "shows_heard", .glo "places_walked", .glo "walk", .glo "_law_hand", .glo "_law_take", .glo "_law_low", .glo "_law_plus", .glo "_law_times", .glo "_law_names", .glo "_law_length", .glo "_law_pitches", .glo "_law_tone", .glo "_law_items", .glo "_law_come", .glo "_law_bar", .glo "_law_repeat", .glo "_law_things", .glo "_law_row_of", .glo "_law_entries", .glo "_law_score", .glo "_law_count", .glo "_law_walked", .glo "_law_led", .glo "_law_right", .glo "_law_all", .glo "law", .glo "Draft"]
def hfa2 : List He.Fa := [.glo "Within", .glo "Ledger", .glo "Going", .glo "TooLong", .glo "MARKS", .glo "FORMS", .free "len", .free "abs", .free "tuple", .free "list", .free "range", .free "enumerate", .free "sorted", .free "reversed", .free "isinstance", .free "int", .free "str", .free "bool", .free "min", .free "max", .free "all", .free "any", .int "MOST_ENTRIES" 2000, .int "MOST_USES" 2000, .int "OFTEN" 2, .int "MOST_BARS" 1000, .int "MOST_TURNS" 4000, .cls "Draft", .noat "Draft" "score", .noat "Draft" "entries"]
def hfa3 : List He.Fa := [.noat "Draft" "uses", .noat "Draft" "turns", .mkr "Draft", .cls "Within", .noat "Within" "way", .noat "Within" "signs", .noat "Within" "up", .noat "Within" "by", .mkr "Within", .cls "Ledger", .noat "Ledger" "things", .noat "Ledger" "after", .noat "Ledger" "notes", .noat "Ledger" "costs", .noat "Ledger" "steps", .mkr "Ledger", .cls "Going", .noat "Going" "things", .noat "Going" "after", .noat "Going" "notes", .noat "Going" "taken", .noat "Going" "may", .noat "Going" "cost", .mkr "Going", .meth "Draft" "here", .meth "Draft" "add", .meth "Draft" "add_open", .meth "Draft" "put", .meth "Draft" "used", .meth "Draft" "end_turns"]
def hfa4 : List He.Fa := [.meth "Within" "deeper", .meth "Ledger" "add_row", .meth "Ledger" "miss_things", .meth "Ledger" "way_to", .meth "Going" "goes", .exc "TooLong", .exm "TooLong" "TooLong" true]
def hfa : List He.Fa := hfa0 ++ (hfa1 ++ (hfa2 ++ (hfa3 ++ (hfa4))))
def hloose0 : List Str := ["divisor", "part", "plus", "times", "MARKS", "laid_on", "laid", "voice_of", "ClockError", "TooLong", "found_by", "phrase_of", "part_of", "MOST_ENTRIES", "MOST_USES", "item_turned", "items_turned", "bar_turned", "Draft", "Within", "lay_endings", "lay_repeat", "lay_use", "lay_thing", "lay_things", "line", "pitches_of", "length_of_item", "things_of", "written"]
def hloose1 : List Str := ["firsts", "led_from", "nexts", "OFTEN", "price", "Ledger", "heard", "FORMS", "is_whole", "is_table", "is_step", "Going", "way_costs", "is_fair", "shows_heard", "MOST_BARS", "MOST_TURNS", "places_walked", "walk", "_law_hand", "_law_take", "_law_low", "_law_plus", "_law_times", "_law_names", "_law_length", "_law_pitches", "_law_tone", "_law_items", "_law_come"]
def hloose2 : List Str := ["_law_bar", "_law_repeat", "_law_things", "_law_row_of", "_law_entries", "_law_score", "_law_count", "_law_walked", "_law_led", "_law_right", "_law_all"]
def hloose : List Str := hloose0 ++ (hloose1 ++ (hloose2))
def hts : List He.Tab := [(fun K => gA K "FORMS", ["hear", "miss", "more"])]
def hex (K : PySem.W.Frag) : Bool := He.tupB K "MARKS" [.str "call", .str "wait", .str "meet", .str "pace", .str "lean"] && He.valsB K (gA K "FORMS") [("hear", .int 3), ("miss", .int 2), ("more", .int 2)]
abbrev hR : PySem.W.OpenRow := PySem.W.OpenLaw.row PySem.Challenge.rw_manyclocks_k81_whole_walks_are_heard
/-- the part of the heap that is looked at: the module's names, what they name, the classes' own names, their code -/
def rOf (g : Addr → Option Obj) (as : List Addr) : List Addr := as.flatMap fun a => match g a with
  | some o => He.refsO o
  | none => []
def nsOf (g : Addr → Option Obj) (as : List Addr) : List Addr := as.flatMap fun a => match g a with
  | some ⟨_, _, .cls cd, _⟩ => [cd.ns]
  | _ => []
def asM (g : Addr → Option Obj) : List Addr :=
  let l1 := rOf g [mainGlobals]
  let l2 := rOf g l1
  let l3 := rOf g (nsOf g l1)
  let l4 := rOf g l3
  mainGlobals :: (l1 ++ (l2 ++ (l3 ++ l4)))
def obsM (g : Addr → Option Obj) : He.AlT × Bool := (He.obsT hfa hfn hts (He.frG g (asM g)), hex (He.frG g (asM g)))
def hkM : PySem.W.Hook where
  α := He.AlT × Bool
  obs := fun s => obsM s.heap.get?
  val := fun w => (He.valT hfn hts w, true)
  says := fun w h => ∃ K : PySem.W.Frag, K.In h ∧ He.SaysT hfa hfn hts w K ∧ hex K = true
  of := fun _ _ e => ⟨_, He.frG_in, congrArg (fun z : He.AlT × Bool => z.1) e, congrArg (fun z : He.AlT × Bool => z.2) e⟩
  keeps := fun _ _ _ ⟨K, hK, c⟩ k => ⟨K, PySem.W.Frag.In.keeps hK k, c⟩
def hobM (s : PySem.W.SharedT) : He.AlT × Bool := obsM (HandSHeadRun.getT s)
theorem hobM_eq (s : PySem.W.SharedT) : hobM s = hkM.obs s.abs := by
  have e : HandSHeadRun.getT s = s.abs.heap.get? := funext (HandSHeadRun.getT_eq s)
  show obsM (HandSHeadRun.getT s) = obsM s.abs.heap.get?
  rw [e]
theorem hrunF (w : World) : HandSHeadRun.RunEq hR (PySem.W.view hR.prog [82]) hkM hobM 4200 hloose (w.withFollow "special-get-raises" false) := fun os => by kernel_rfl
theorem hrunT (w : World) : HandSHeadRun.RunEq hR (PySem.W.view hR.prog [82]) hkM hobM 4200 hloose (w.withFollow "special-get-raises" true) := fun os => by kernel_rfl
theorem hrun (w : World) : HandSHeadRun.RunEq hR (PySem.W.view hR.prog [82]) hkM hobM 4200 hloose w :=
  PySem.W.byRow2 "special-get-raises" (P := fun w => HandSHeadRun.RunEq hR (PySem.W.view hR.prog [82]) hkM hobM 4200 hloose w) hrunF hrunT w

theorem tx_mk {w : World} {K : PySem.W.Frag} {h : Heap} {mg : Str → Option Value} (X : K.In h) (G : h.Ns mainGlobals mg) (c : He.SaysT hfa hfn hts w K) (e : hex K = true) : Tx w K mg where
  g_divisor := He.glo_ok X G (c.d.fact 0 (f := .glo "divisor") rfl)
  g_part := He.glo_ok X G (c.d.fact 1 (f := .glo "part") rfl)
  g_plus := He.glo_ok X G (c.d.fact 2 (f := .glo "plus") rfl)
  g_times := He.glo_ok X G (c.d.fact 3 (f := .glo "times") rfl)
  g_laid_on := He.glo_ok X G (c.d.fact 4 (f := .glo "laid_on") rfl)
  g_laid := He.glo_ok X G (c.d.fact 5 (f := .glo "laid") rfl)
  g_voice_of := He.glo_ok X G (c.d.fact 6 (f := .glo "voice_of") rfl)
  g_found_by := He.glo_ok X G (c.d.fact 7 (f := .glo "found_by") rfl)
  g_phrase_of := He.glo_ok X G (c.d.fact 8 (f := .glo "phrase_of") rfl)
  g_part_of := He.glo_ok X G (c.d.fact 9 (f := .glo "part_of") rfl)
  g_item_turned := He.glo_ok X G (c.d.fact 10 (f := .glo "item_turned") rfl)
  g_items_turned := He.glo_ok X G (c.d.fact 11 (f := .glo "items_turned") rfl)
  g_bar_turned := He.glo_ok X G (c.d.fact 12 (f := .glo "bar_turned") rfl)
  g_lay_endings := He.glo_ok X G (c.d.fact 13 (f := .glo "lay_endings") rfl)
  g_lay_repeat := He.glo_ok X G (c.d.fact 14 (f := .glo "lay_repeat") rfl)
  g_lay_use := He.glo_ok X G (c.d.fact 15 (f := .glo "lay_use") rfl)
  g_lay_thing := He.glo_ok X G (c.d.fact 16 (f := .glo "lay_thing") rfl)
  g_lay_things := He.glo_ok X G (c.d.fact 17 (f := .glo "lay_things") rfl)
  g_line := He.glo_ok X G (c.d.fact 18 (f := .glo "line") rfl)
  g_pitches_of := He.glo_ok X G (c.d.fact 19 (f := .glo "pitches_of") rfl)
  g_length_of_item := He.glo_ok X G (c.d.fact 20 (f := .glo "length_of_item") rfl)
  g_things_of := He.glo_ok X G (c.d.fact 21 (f := .glo "things_of") rfl)
  g_written := He.glo_ok X G (c.d.fact 22 (f := .glo "written") rfl)
  g_firsts := He.glo_ok X G (c.d.fact 23 (f := .glo "firsts") rfl)
  g_led_from := He.glo_ok X G (c.d.fact 24 (f := .glo "led_from") rfl)
  g_nexts := He.glo_ok X G (c.d.fact 25 (f := .glo "nexts") rfl)
  g_price := He.glo_ok X G (c.d.fact 26 (f := .glo "price") rfl)
  g_heard := He.glo_ok X G (c.d.fact 27 (f := .glo "heard") rfl)
  g_is_whole := He.glo_ok X G (c.d.fact 28 (f := .glo "is_whole") rfl)
  g_is_table := He.glo_ok X G (c.d.fact 29 (f := .glo "is_table") rfl)
  g_is_step := He.glo_ok X G (c.d.fact 30 (f := .glo "is_step") rfl)
  g_way_costs := He.glo_ok X G (c.d.fact 31 (f := .glo "way_costs") rfl)
  g_is_fair := He.glo_ok X G (c.d.fact 32 (f := .glo "is_fair") rfl)
  g_shows_heard := He.glo_ok X G (c.d.fact 33 (f := .glo "shows_heard") rfl)
  g_places_walked := He.glo_ok X G (c.d.fact 34 (f := .glo "places_walked") rfl)
  g_walk := He.glo_ok X G (c.d.fact 35 (f := .glo "walk") rfl)
  g_law_hand := He.glo_ok X G (c.d.fact 36 (f := .glo "_law_hand") rfl)
  g_law_take := He.glo_ok X G (c.d.fact 37 (f := .glo "_law_take") rfl)
  g_law_low := He.glo_ok X G (c.d.fact 38 (f := .glo "_law_low") rfl)
  g_law_plus := He.glo_ok X G (c.d.fact 39 (f := .glo "_law_plus") rfl)
  g_law_times := He.glo_ok X G (c.d.fact 40 (f := .glo "_law_times") rfl)
  g_law_names := He.glo_ok X G (c.d.fact 41 (f := .glo "_law_names") rfl)
  g_law_length := He.glo_ok X G (c.d.fact 42 (f := .glo "_law_length") rfl)
  g_law_pitches := He.glo_ok X G (c.d.fact 43 (f := .glo "_law_pitches") rfl)
  g_law_tone := He.glo_ok X G (c.d.fact 44 (f := .glo "_law_tone") rfl)
  g_law_items := He.glo_ok X G (c.d.fact 45 (f := .glo "_law_items") rfl)
  g_law_come := He.glo_ok X G (c.d.fact 46 (f := .glo "_law_come") rfl)
  g_law_bar := He.glo_ok X G (c.d.fact 47 (f := .glo "_law_bar") rfl)
  g_law_repeat := He.glo_ok X G (c.d.fact 48 (f := .glo "_law_repeat") rfl)
  g_law_things := He.glo_ok X G (c.d.fact 49 (f := .glo "_law_things") rfl)
  g_law_row_of := He.glo_ok X G (c.d.fact 50 (f := .glo "_law_row_of") rfl)
  g_law_entries := He.glo_ok X G (c.d.fact 51 (f := .glo "_law_entries") rfl)
  g_law_score := He.glo_ok X G (c.d.fact 52 (f := .glo "_law_score") rfl)
  g_law_count := He.glo_ok X G (c.d.fact 53 (f := .glo "_law_count") rfl)
  g_law_walked := He.glo_ok X G (c.d.fact 54 (f := .glo "_law_walked") rfl)
  g_law_led := He.glo_ok X G (c.d.fact 55 (f := .glo "_law_led") rfl)
  g_law_right := He.glo_ok X G (c.d.fact 56 (f := .glo "_law_right") rfl)
  g_law_all := He.glo_ok X G (c.d.fact 57 (f := .glo "_law_all") rfl)
  g_law := He.glo_ok X G (c.d.fact 58 (f := .glo "law") rfl)
  g_Draft := He.glo_ok X G (c.d.fact 59 (f := .glo "Draft") rfl)
  g_Within := He.glo_ok X G (c.d.fact 60 (f := .glo "Within") rfl)
  g_Ledger := He.glo_ok X G (c.d.fact 61 (f := .glo "Ledger") rfl)
  g_Going := He.glo_ok X G (c.d.fact 62 (f := .glo "Going") rfl)
  g_TooLong := He.glo_ok X G (c.d.fact 63 (f := .glo "TooLong") rfl)
  g_MARKS := He.glo_ok X G (c.d.fact 64 (f := .glo "MARKS") rfl)
  g_FORMS := He.glo_ok X G (c.d.fact 65 (f := .glo "FORMS") rfl)
  b_len := He.free_ok X G (c.d.fact 66 (f := .free "len") rfl)
  b_abs := He.free_ok X G (c.d.fact 67 (f := .free "abs") rfl)
  b_tuple := He.free_ok X G (c.d.fact 68 (f := .free "tuple") rfl)
  b_list := He.free_ok X G (c.d.fact 69 (f := .free "list") rfl)
  b_range := He.free_ok X G (c.d.fact 70 (f := .free "range") rfl)
  b_enumerate := He.free_ok X G (c.d.fact 71 (f := .free "enumerate") rfl)
  b_sorted := He.free_ok X G (c.d.fact 72 (f := .free "sorted") rfl)
  b_reversed := He.free_ok X G (c.d.fact 73 (f := .free "reversed") rfl)
  b_isinstance := He.free_ok X G (c.d.fact 74 (f := .free "isinstance") rfl)
  b_int := He.free_ok X G (c.d.fact 75 (f := .free "int") rfl)
  b_str := He.free_ok X G (c.d.fact 76 (f := .free "str") rfl)
  b_bool := He.free_ok X G (c.d.fact 77 (f := .free "bool") rfl)
  b_min := He.free_ok X G (c.d.fact 78 (f := .free "min") rfl)
  b_max := He.free_ok X G (c.d.fact 79 (f := .free "max") rfl)
  b_all := He.free_ok X G (c.d.fact 80 (f := .free "all") rfl)
  b_any := He.free_ok X G (c.d.fact 81 (f := .free "any") rfl)
  i_MOST_ENTRIES := He.int_ok X G (c.d.fact 82 (f := .int "MOST_ENTRIES" 2000) rfl)
  i_MOST_USES := He.int_ok X G (c.d.fact 83 (f := .int "MOST_USES" 2000) rfl)
  i_OFTEN := He.int_ok X G (c.d.fact 84 (f := .int "OFTEN" 2) rfl)
  i_MOST_BARS := He.int_ok X G (c.d.fact 85 (f := .int "MOST_BARS" 1000) rfl)
  i_MOST_TURNS := He.int_ok X G (c.d.fact 86 (f := .int "MOST_TURNS" 4000) rfl)
  c_Draft := He.cls_ok (c.d.fact 87 (f := .cls "Draft") rfl)
  n_Draft_score := He.noat_ok (c.d.fact 88 (f := .noat "Draft" "score") rfl)
  n_Draft_entries := He.noat_ok (c.d.fact 89 (f := .noat "Draft" "entries") rfl)
  n_Draft_uses := He.noat_ok (c.d.fact 90 (f := .noat "Draft" "uses") rfl)
  n_Draft_turns := He.noat_ok (c.d.fact 91 (f := .noat "Draft" "turns") rfl)
  k_Draft := He.mkr_ok (c.d.fact 92 (f := .mkr "Draft") rfl)
  c_Within := He.cls_ok (c.d.fact 93 (f := .cls "Within") rfl)
  n_Within_way := He.noat_ok (c.d.fact 94 (f := .noat "Within" "way") rfl)
  n_Within_signs := He.noat_ok (c.d.fact 95 (f := .noat "Within" "signs") rfl)
  n_Within_up := He.noat_ok (c.d.fact 96 (f := .noat "Within" "up") rfl)
  n_Within_by := He.noat_ok (c.d.fact 97 (f := .noat "Within" "by") rfl)
  k_Within := He.mkr_ok (c.d.fact 98 (f := .mkr "Within") rfl)
  c_Ledger := He.cls_ok (c.d.fact 99 (f := .cls "Ledger") rfl)
  n_Ledger_things := He.noat_ok (c.d.fact 100 (f := .noat "Ledger" "things") rfl)
  n_Ledger_after := He.noat_ok (c.d.fact 101 (f := .noat "Ledger" "after") rfl)
  n_Ledger_notes := He.noat_ok (c.d.fact 102 (f := .noat "Ledger" "notes") rfl)
  n_Ledger_costs := He.noat_ok (c.d.fact 103 (f := .noat "Ledger" "costs") rfl)
  n_Ledger_steps := He.noat_ok (c.d.fact 104 (f := .noat "Ledger" "steps") rfl)
  k_Ledger := He.mkr_ok (c.d.fact 105 (f := .mkr "Ledger") rfl)
  c_Going := He.cls_ok (c.d.fact 106 (f := .cls "Going") rfl)
  n_Going_things := He.noat_ok (c.d.fact 107 (f := .noat "Going" "things") rfl)
  n_Going_after := He.noat_ok (c.d.fact 108 (f := .noat "Going" "after") rfl)
  n_Going_notes := He.noat_ok (c.d.fact 109 (f := .noat "Going" "notes") rfl)
  n_Going_taken := He.noat_ok (c.d.fact 110 (f := .noat "Going" "taken") rfl)
  n_Going_may := He.noat_ok (c.d.fact 111 (f := .noat "Going" "may") rfl)
  n_Going_cost := He.noat_ok (c.d.fact 112 (f := .noat "Going" "cost") rfl)
  k_Going := He.mkr_ok (c.d.fact 113 (f := .mkr "Going") rfl)
  m_Draft_here := He.meth_ok (c.d.fact 114 (f := .meth "Draft" "here") rfl)
  m_Draft_add := He.meth_ok (c.d.fact 115 (f := .meth "Draft" "add") rfl)
  m_Draft_add_open := He.meth_ok (c.d.fact 116 (f := .meth "Draft" "add_open") rfl)
  m_Draft_put := He.meth_ok (c.d.fact 117 (f := .meth "Draft" "put") rfl)
  m_Draft_used := He.meth_ok (c.d.fact 118 (f := .meth "Draft" "used") rfl)
  m_Draft_end_turns := He.meth_ok (c.d.fact 119 (f := .meth "Draft" "end_turns") rfl)
  m_Within_deeper := He.meth_ok (c.d.fact 120 (f := .meth "Within" "deeper") rfl)
  m_Ledger_add_row := He.meth_ok (c.d.fact 121 (f := .meth "Ledger" "add_row") rfl)
  m_Ledger_miss_things := He.meth_ok (c.d.fact 122 (f := .meth "Ledger" "miss_things") rfl)
  m_Ledger_way_to := He.meth_ok (c.d.fact 123 (f := .meth "Ledger" "way_to") rfl)
  m_Going_goes := He.meth_ok (c.d.fact 124 (f := .meth "Going" "goes") rfl)
  x_TooLong := He.exc_ok (c.d.fact 125 (f := .exc "TooLong") rfl)
  e_TooLong := He.exm_ok (c.d.fact 126 (f := .exm "TooLong" "TooLong" true) rfl)
  f_divisor := c.d.def_ 0 (d := d_divisor) rfl
  f_part := c.d.def_ 1 (d := d_part) rfl
  f_plus := c.d.def_ 2 (d := d_plus) rfl
  f_times := c.d.def_ 3 (d := d_times) rfl
  f_laid_on := c.d.def_ 4 (d := d_laid_on) rfl
  f_laid := c.d.def_ 5 (d := d_laid) rfl
  f_voice_of := c.d.def_ 6 (d := d_voice_of) rfl
  f_found_by := c.d.def_ 7 (d := d_found_by) rfl
  f_phrase_of := c.d.def_ 8 (d := d_phrase_of) rfl
  f_part_of := c.d.def_ 9 (d := d_part_of) rfl
  f_item_turned := c.d.def_ 10 (d := d_item_turned) rfl
  f_items_turned := c.d.def_ 11 (d := d_items_turned) rfl
  f_bar_turned := c.d.def_ 12 (d := d_bar_turned) rfl
  f_Draft_init := c.d.def_ 13 (d := d_Draft_init) rfl
  f_Draft_here := c.d.def_ 14 (d := d_Draft_here) rfl
  f_Draft_add := c.d.def_ 15 (d := d_Draft_add) rfl
  f_Draft_add_open := c.d.def_ 16 (d := d_Draft_add_open) rfl
  f_Draft_put := c.d.def_ 17 (d := d_Draft_put) rfl
  f_Draft_used := c.d.def_ 18 (d := d_Draft_used) rfl
  f_Draft_end_turns := c.d.def_ 19 (d := d_Draft_end_turns) rfl
  f_Within_init := c.d.def_ 20 (d := d_Within_init) rfl
  f_Within_deeper := c.d.def_ 21 (d := d_Within_deeper) rfl
  f_lay_endings := c.d.def_ 22 (d := d_lay_endings) rfl
  f_lay_repeat := c.d.def_ 23 (d := d_lay_repeat) rfl
  f_lay_use := c.d.def_ 24 (d := d_lay_use) rfl
  f_lay_thing := c.d.def_ 25 (d := d_lay_thing) rfl
  f_lay_things := c.d.def_ 26 (d := d_lay_things) rfl
  f_line := c.d.def_ 27 (d := d_line) rfl
  f_pitches_of := c.d.def_ 28 (d := d_pitches_of) rfl
  f_length_of_item := c.d.def_ 29 (d := d_length_of_item) rfl
  f_things_of := c.d.def_ 30 (d := d_things_of) rfl
  f_written := c.d.def_ 31 (d := d_written) rfl
  f_firsts := c.d.def_ 32 (d := d_firsts) rfl
  f_led_from := c.d.def_ 33 (d := d_led_from) rfl
  f_nexts := c.d.def_ 34 (d := d_nexts) rfl
  f_price := c.d.def_ 35 (d := d_price) rfl
  f_Ledger_init := c.d.def_ 36 (d := d_Ledger_init) rfl
  f_Ledger_add_row := c.d.def_ 37 (d := d_Ledger_add_row) rfl
  f_Ledger_miss_things := c.d.def_ 38 (d := d_Ledger_miss_things) rfl
  f_Ledger_way_to := c.d.def_ 39 (d := d_Ledger_way_to) rfl
  f_heard := c.d.def_ 40 (d := d_heard) rfl
  f_is_whole := c.d.def_ 41 (d := d_is_whole) rfl
  f_is_table := c.d.def_ 42 (d := d_is_table) rfl
  f_is_step := c.d.def_ 43 (d := d_is_step) rfl
  f_Going_init := c.d.def_ 44 (d := d_Going_init) rfl
  f_Going_goes := c.d.def_ 45 (d := d_Going_goes) rfl
  f_way_costs := c.d.def_ 46 (d := d_way_costs) rfl
  f_is_fair := c.d.def_ 47 (d := d_is_fair) rfl
  f_shows_heard := c.d.def_ 48 (d := d_shows_heard) rfl
  f_places_walked := c.d.def_ 49 (d := d_places_walked) rfl
  f_walk := c.d.def_ 50 (d := d_walk) rfl
  f_law_hand := c.d.def_ 51 (d := d_law_hand) rfl
  f_law_take := c.d.def_ 52 (d := d_law_take) rfl
  f_law_low := c.d.def_ 53 (d := d_law_low) rfl
  f_law_plus := c.d.def_ 54 (d := d_law_plus) rfl
  f_law_times := c.d.def_ 55 (d := d_law_times) rfl
  f_law_names := c.d.def_ 56 (d := d_law_names) rfl
  f_law_length := c.d.def_ 57 (d := d_law_length) rfl
  f_law_pitches := c.d.def_ 58 (d := d_law_pitches) rfl
  f_law_tone := c.d.def_ 59 (d := d_law_tone) rfl
  f_law_items := c.d.def_ 60 (d := d_law_items) rfl
  f_law_come := c.d.def_ 61 (d := d_law_come) rfl
  f_law_bar := c.d.def_ 62 (d := d_law_bar) rfl
  f_law_repeat := c.d.def_ 63 (d := d_law_repeat) rfl
  f_law_things := c.d.def_ 64 (d := d_law_things) rfl
  f_law_row_of := c.d.def_ 65 (d := d_law_row_of) rfl
  f_law_entries := c.d.def_ 66 (d := d_law_entries) rfl
  f_law_score := c.d.def_ 67 (d := d_law_score) rfl
  f_law_count := c.d.def_ 68 (d := d_law_count) rfl
  f_law_walked := c.d.def_ 69 (d := d_law_walked) rfl
  f_law_led := c.d.def_ 70 (d := d_law_led) rfl
  f_law_right := c.d.def_ 71 (d := d_law_right) rfl
  f_law_all := c.d.def_ 72 (d := d_law_all) rfl
  f_law := c.d.def_ 73 (d := d_law) rfl
  t_MARKS := fun H => He.tupB_ok (He.ba e).1 H
  d_FORMS := c.tab 0 rfl
  v_FORMS := fun x i hm => by
    have e2 := (He.ba e).2
    have hm2 : (x, He.Dv.int i) ∈ ([("hear", .int 3), ("miss", .int 2), ("more", .int 2)] : List (Str × He.Dv)) := List.mem_map_of_mem (f := fun q : Str × Int => (q.1, He.Dv.int q.2)) hm
    obtain ⟨u, h1, t, h2⟩ := He.valsB_ok e2 hm2
    subst h2
    exact ⟨t, h1⟩
end MC
set_option Elab.async false
set_option linter.all false
set_option maxRecDepth 100000
set_option maxHeartbeats 4000000
namespace MC
open PySem PySem.Spec PyProof.Rows L2
open AutoSeq1 (wpAny_loadPart')
/-! ### enumerate(a tuple) -/
theorem meets_enum_newT (l : Addr) (items : Array Value) (n : Nat) (dct : Option Addr) (sl : Array (Option Value)) :
    Meets (Builtin.«enumerate.__new__» ⟨[.type "enumerate", .ref l], []⟩) (fun _ R s => s.heap.get? l = some { cls := .type "tuple", dict := dct, data := .seq items n, slots := sl } ∧
      R (.ok (.ret (.ref (s.heap.push { cls := .type "tuple_iterator", data := .fields #[.ref l, .int 0 0] }).objs.size)))
        { s with heap := (s.heap.push { cls := .type "tuple_iterator", data := .fields #[.ref l, .int 0 0] }).push { cls := .type "enumerate", data := .fields #[.none, .bool false, .ref s.heap.objs.size, rawInt 0, .none, .none] } }) :=
  .of_wp fun prog w A R s h => by
    obtain ⟨hp, g, d, tk, os⟩ := s; obtain ⟨hl, h⟩ := h
    have hsub := sub_enumerate
    have hL : Heap.IsTuple (Shared.heap ⟨hp, g, d, tk, os⟩) l items := ⟨_, hl, rfl, n, rfl⟩
    wp_walk using wpAny_loadPart' hl
    refine wpAny_stack_any fun st => wpAny_pure ?_
    split
    · rename_i c _ _ _ _ _
      cases (c == Value.type "enumerate")
      · wp_walk using wpAny_loadPart' hl, wpAny_pyIter_tuple hL
        exact ⟨_, rfl, h⟩
      · wp_walk using wpAny_loadPart' hl, wpAny_pyIter_tuple hL
        exact ⟨_, rfl, h⟩
    · wp_walk using wpAny_loadPart' hl, wpAny_pyIter_tuple hL
      exact ⟨_, rfl, h⟩
theorem call_enum_tuple {prog : Program} {w : World} {A : Around} {E : Value → Shared → Prop} {s : Shared} {l : Addr} {items : Array Value} {Q : Value → Shared → Prop} (hL : s.heap.IsTuple l items)
    (h : ∀ h', IsEnum h' (s.heap.objs.size + 1) s.heap.objs.size 0 .none → h'.IsTupleIter s.heap.objs.size l 0 → h'.objs.size = s.heap.objs.size + 2 →
      (∀ b o, s.heap.get? b = some o → h'.get? b = some o) → Q (.ref (s.heap.objs.size + 1)) { s with heap := h' }) :
    wpAny (model prog w) A (call (.type "enumerate") [.ref l]) Q E s := by
  obtain ⟨⟨c, dct, dt, sl⟩, hl, hc, n, hd⟩ := hL
  replace hc : c = .type "tuple" := hc
  replace hd : dt = .seq items n := hd
  subst hc hd
  refine callType_new F.called_enumerate (by decide) (F.typeCall_enumerate_1 _) (F.newCall_enumerate_1 _) (fun obj => F.args_object_init_2 obj _) F.entry_enumerate_new
    (meets_enum_newT l items n dct sl) ⟨hl, ?_⟩
  have hz : (s.heap.push { cls := .type "tuple_iterator", data := .fields #[.ref l, .int 0 0] }).objs.size = s.heap.objs.size + 1 := Heap.size_push ..
  show _ ∧ _
  rw [hz]
  have he : IsEnum ((s.heap.push { cls := .type "tuple_iterator", data := .fields #[.ref l, .int 0 0] }).push
      { cls := .type "enumerate", data := .fields #[.none, .bool false, .ref s.heap.objs.size, rawInt 0, .none, .none] }) (s.heap.objs.size + 1) s.heap.objs.size 0 .none := by
    have := Heap.get?_push_size (s.heap.push { cls := .type "tuple_iterator", data := .fields #[.ref l, .int 0 0] })
      (o := { cls := .type "enumerate", data := .fields #[.none, .bool false, .ref s.heap.objs.size, rawInt 0, .none, .none] }) rfl
    rw [hz] at this; exact this
  refine ⟨⟨_, he, rfl⟩, h _ he ⟨_, Heap.get?_push_of_some _ (Heap.get?_push_size _ rfl), rfl, rfl⟩ (by rw [Heap.size_push, hz]) fun b o x => Heap.get?_push_of_some _ (Heap.get?_push_of_some _ x)⟩
def ItET (K : PySem.W.Frag) (a : Addr) : It :=
  ⟨fun i H => ∃ xs x, SqT K H a xs ∧ xs[i]? = some x, fun i H v H' => ∃ T x, v = .ref T ∧ H T = none ∧ H' = upd H T (.tup [.int (i : Nat), x]) ∧ ∀ xs, SqT K H a xs → xs[i]? = some x, fun i H => ∃ xs, SqT K H a xs ∧ xs.length = i⟩
theorem turn_enumT {P : Program} {w : World} {K : PySem.W.Frag} {elts : List Expr} {kk : Nat} {tpos : Pos} (a e it : Addr) :
    Turn P w K (.Tuple elts kk tpos) (ItET K a) [e, it] e (fun i h => (∃ old, IsEnum h e it ((i : Nat) : Int) old) ∧ h.IsTupleIter it a i ∧ e ≠ it ∧ e ≠ a ∧ a ≠ it) where
  mem := by simp
  obj := fun i h st b hb => by
    obtain ⟨⟨old, he⟩, ⟨o, ho, hc, hd⟩, _⟩ := st
    have e' : b = e ∨ b = it := by simpa using hb
    rcases e' with z | z
    · rw [z]; exact ⟨_, he, fun v q => nomatch q⟩
    · rw [z]; exact ⟨o, ho, fun v q => by rw [hd] at q; cases q⟩
  keep := fun i h h' st k => let ⟨⟨old, he⟩, hi, hne⟩ := st; ⟨⟨old, k e (by simp) _ he⟩, hi.at fun o q => k it (by simp) o q, hne⟩
  item := by
    intro X hP hw hK hc i pins s σ H E I hf st hg
    subst hP hw hK
    obtain ⟨⟨old, he⟩, hit, hne, hea, hai⟩ := st
    obtain ⟨xs, x, hq, hx⟩ := hg
    obtain ⟨its, rv, p, hz⟩ := I.tuple hq
    obtain ⟨u, hu, ru⟩ := rv.get hx
    have hel : e < s.heap.objs.size := Heap.lt_size he
    have hil : it < s.heap.objs.size := by obtain ⟨_, q, _⟩ := hit; exact Heap.lt_size q
    have hhd : X.A.in1.handled = none := I.ok.hd hc
    have D := Draws.tuple (prog := X.prog) (w := X.w) (A := X.A.in1) hhd it a hai its.toArray
    have hlt : i < its.toArray.size := by
      have q := (List.getElem?_eq_some_iff.mp hu).1
      simpa using q
    refine wpAny_pyNext_enum_itemD D he ⟨hit, p⟩ hlt hne (by simp [hne, hea]) fun y h' tk hy ho hit' hT hsz hk => ?_
    have ey : y = u := by
      have q : its.toArray[i]? = some u := by simpa using hu
      rw [q] at hy
      exact (Option.some.inj hy).symm
    subst ey
    refine ⟨_, rfl, wpAny_letOwnedTupleGo_enum (s := { s with heap := h', toks := tk + 1 }) ho fun h'' he' sb => ?_⟩
    have hT2 : h''.get? s.heap.objs.size = some { cls := .type "tuple", data := .seq #[.int i tk, y] } := (sb.2 _ (Nat.ne_of_gt hel)).trans hT
    have new : ObjOk X.prog X.w (upd H s.heap.objs.size (.tup [.int (i : Nat), x])) h'' s.heap.objs.size (.tup [.int (i : Nat), x]) :=
      ⟨by show 2 ≤ sizeLine; decide, [.int i tk, y], .cons ⟨_, rfl⟩ (.cons ru .nil), ⟨_, hT2, rfl, _, rfl⟩⟩
    have I1 : Inv X pins σ (upd H s.heap.objs.size (.tup [.int (i : Nat), x])) { s with heap := h'', toks := tk + 1 } :=
      I.turnedNew (ch := [e, it]) (fun b ob hb q => (sb.2 b (fun z => hb (by simp [z]))).trans (hk b ob (fun z => hb (by simp [z])) (fun z => hb (by simp [z])) q)) hf (Nat.le_refl _) new
    refine ⟨.ref s.heap.objs.size, _, I1, rfl, ⟨_, x, rfl, I.hok.fresh (Nat.le_refl _), rfl, fun ys hy => by rw [I.tuple_inj hy hq]; exact hx⟩, ⟨⟨y, ?_⟩, hit'.1.at fun o q => (sb.2 it (Ne.symm hne)).trans q, hne, hea, hai⟩, fun b hb => ?_⟩
    · have e1 : ((i + 1 : Nat) : Int) = (i : Int) + 1 := by omega
      rw [e1]; exact he'
    · have hb' : b < s.heap.objs.size := by
        have e' : b = e ∨ b = it := by simpa using hb
        rcases e' with z | z
        · rw [z]; exact hel
        · rw [z]; exact hil
      rw [upd_ne (Nat.ne_of_lt hb')]
      exact (hf b hb).1
  done := by
    intro X hP hw hK hc i pins s σ H E I hf st hg
    subst hP hw hK
    obtain ⟨⟨old, he⟩, hit, hne, hea, hai⟩ := st
    obtain ⟨xs, hq, hx⟩ := hg
    obtain ⟨its, rv, p, hz⟩ := I.tuple hq
    obtain ⟨f0, f1, f2, f3, f4, f5⟩ := hf it (by simp)
    have hl := rv.length
    have hhd : X.A.in1.handled = none := I.ok.hd hc
    have D := Draws.tuple (prog := X.prog) (w := X.w) (A := X.A.in1) hhd it a hai its.toArray
    have ei : i = its.toArray.size := by simp; omega
    exact wpAny_pyNext_enum_endD D he (by rw [← ei]; exact ⟨hit, p⟩) fun h' eb => ⟨rfl, I.turned (t' := s.toks) (fun b o hb q => eb b o hb q) f0 f1 f3 f4 f5⟩
  self := fun A i s Q E st h => let ⟨⟨_, he⟩, _⟩ := st; wpAny_pyIter_enum he h
def iEnumT (K : PySem.W.Frag) (ta : TA) : TI := fun σ H R => ta σ H fun vs H1 => ∃ a xs, vs = [.ref a] ∧ SqT K H1 a xs ∧ R (ItET K a) H1
theorem pi_enumT {X : Cx} {e : Expr} {ta : TA} {p pos tpos : Pos} {elts : List Expr} {kk : Nat} (hg : Gl X "enumerate") (hm : X.mg "enumerate" = none) (ha : PA X [e] ta) (hs : starEach [e] X.env = [(false, eval e X.env)] := by rfl) :
    PI X (.Tuple elts kk tpos) (.Call (.Name "enumerate" p) [e] [] pos) (iEnumT X.K ta) := by
  refine ⟨fun pins s σ H R I h => ?_⟩
  refine Call_ (ld_blt I hg hm boot_enumerate (PyProof.Rows.callWith_type1 (thn (ha.run pos pins s σ H _ I h) fun us s1 ⟨vs, H1, I1, r1, q1⟩ => ?_) hs rfl))
  obtain ⟨a, xs, ex, hq, q⟩ := q1
  subst ex
  cases r1 with
  | cons r rr =>
    cases rr
    cases r
    obtain ⟨its, rv, p', hz⟩ := I1.tuple hq
    have hal : a < s1.heap.objs.size := by obtain ⟨_, q, _⟩ := p'; exact Heap.lt_size q
    refine call_enum_tuple p' fun h' he hit hsz hk => wpAny_pyIter_enum he ?_
    have I2 : Inv X pins σ H1 { s1 with heap := h' } := I1.kept (t' := s1.toks) hk
    refine ⟨s1.heap.objs.size + 1, [s1.heap.objs.size + 1, s1.heap.objs.size], _, _, H1, rfl, I2, turn_enumT a (s1.heap.objs.size + 1) s1.heap.objs.size, ⟨⟨.none, he⟩, hit, Nat.succ_ne_self _, Nat.ne_of_gt (Nat.lt_succ_of_lt hal), Nat.ne_of_lt hal⟩, fun b hb => ?_, q⟩
    have e' : b = s1.heap.objs.size + 1 ∨ b = s1.heap.objs.size := by simpa using hb
    have hle : s1.heap.objs.size ≤ b := by
      rcases e' with z | z
      · rw [z]; exact Nat.le_add_right _ _
      · rw [z]; exact Nat.le_refl _
    exact I1.fpOk hle (I1.hok.fresh hle)
theorem walk_enumT {K : PySem.W.Frag} {a : Addr} {xs : List V} : Walk (ItET K a) xs.length (fun H => SqT K H a xs) (YPair (fun i => some (.int (i : Nat))) (fun i => xs[i]?)) := by
  refine ⟨fun i _ hi q => ⟨xs, xs[i], q, by simp [hi]⟩, fun _ q => ⟨xs, q, rfl⟩, fun i H v H' _ q y => ?_⟩
  obtain ⟨T, x, h1, h2, h3, h4⟩ := y
  exact ⟨T, .int (i : Nat), x, h1, h2, h3, rfl, h4 xs q⟩
/-! ### xs[i] read, for xs[i] op= e -/
theorem get_list {X : Cx} : PGet X fun o i H Q => ∃ p xs k v, o = .ref p ∧ i = .int (k : Nat) ∧ SqL X.K H p xs ∧ xs[k]? = some v ∧ Q v H := by
  intro pins s σ H o i ov iv Q I ro ri h
  obtain ⟨p, xs, k, v, rfl, rfl, hq, hv, q⟩ := h
  cases ro
  obtain ⟨t, rfl⟩ := ri
  obtain ⟨its, r, pl, hz⟩ := I.list hq
  obtain ⟨u, hu, ru⟩ := r.get hv
  have hl := r.length
  have hn := line63
  have hk : k < xs.length := (List.getElem?_eq_some_iff.mp hv).1
  exact wpAny_getItem_list pl.isList (by omega) (by omega) (by simpa using hu) ⟨v, H, I, ru, q⟩
/-! ### text * int, at least one time -/
theorem rep_size (b : Array Nat) : ∀ (n : Nat) (a : Array Nat), ((List.replicate n b).foldl (· ++ ·) a).size = a.size + n * b.size
  | 0, a => by simp
  | n + 1, a => by
    rw [List.replicate_succ, List.foldl_cons, rep_size b n (a ++ b), Array.size_append, Nat.succ_mul]
    omega
def repS (x : Str) (n : Nat) : Str := ⟨(List.replicate n x.cps).foldl (· ++ ·) #[]⟩
theorem op_mulStr {X : Cx} : OpR X (binaryOp .Mult) (fun x y H Q => ∃ z n, x = .str z ∧ y = .int n ∧ 1 ≤ n ∧ n ≤ 100 ∧ z.length = 1 ∧ Q (.str (if n = 1 then z else repS z n.toNat)) H) := by
  intro pins s σ H x y v u Q I rx ry h
  obtain ⟨z, n, rfl, rfl, h1, h2, hz, q⟩ := h
  obtain ⟨t, rfl⟩ := rx
  obtain ⟨t', rfl⟩ := ry
  refine P.mul_str ?_ ?_ ?_ ?_
  · rw [decide_eq_false (by omega), decide_eq_false (by omega)]; rfl
  · intro _ _
    rw [hz]
    have : (1 : Int) ≤ (2 ^ 63 - 1) / n := by
      rw [Int.le_ediv_iff_mul_le (by omega)]; omega
    omega
  · intro _ _
    rw [hz]
    show decide _ = false
    rw [sizeLine_eq]
    exact decide_eq_false (by omega)
  · rw [if_neg (by omega)]
    by_cases hn : n = 1
    · rw [if_pos (by rw [hn]; rfl)]
      rw [if_pos hn] at q
      exact ⟨.str z, H, I, ⟨_, rfl⟩, q⟩
    · have e : (n == 1 || z.length == 0) = false := by
        rw [hz, beq_eq_false_iff_ne.mpr hn]; rfl
      rw [if_neg (by rw [e]; exact Bool.false_ne_true)]
      rw [if_neg hn] at q
      refine ⟨?_, ⟨.str _, H, I.tok _, ⟨_, rfl⟩, q⟩⟩
      show ((List.replicate n.toNat z.cps).foldl (· ++ ·) #[]).size ≤ sizeLine
      have hz2 : z.cps.size = 1 := hz
      rw [rep_size, hz2, sizeLine_eq]
      have e0 : (#[] : Array Nat).size = 0 := rfl
      omega
end MC
set_option Elab.async false
set_option linter.all false
set_option maxRecDepth 100000
set_option maxHeartbeats 4000000
namespace MC
open PySem PySem.Spec PyProof.Rows L2
/-! ### max, min of a tuple of ints -/
section
variable {prog : Program} {w : World} {A : Around} {E : Value → Shared → Prop} {s : Shared} {l : Addr} {xs : Array (Int × Tok)}
theorem iter_intTup {Q : Value → Shared → Prop} (hl : s.heap.IsTuple l (intItems xs))
    (h : ∀ s₂ : Shared, s₂ = { s with heap := s.heap.push { cls := .type "tuple_iterator", data := .fields #[.ref l, .int 0 0] } } →
      (s₂.heap.IsTupleIter s.heap.objs.size l 0 ∧ s₂.heap.IsTuple l (intItems xs)) → (∀ b ∈ [s.heap.objs.size, l], b < s₂.heap.objs.size) → l ≠ s.heap.objs.size → Q (.ref s.heap.objs.size) s₂) :
    wpAny (model prog w) A (pyIter (.ref l)) Q E s := by
  have hlt : l < s.heap.objs.size := by obtain ⟨_, e, _⟩ := hl; exact Heap.lt_size e
  refine wpAny_pyIter_tuple hl (h _ rfl ⟨⟨_, Heap.get?_push_size _ rfl, rfl, rfl⟩, ?_⟩ (fun b hb => ?_) (Nat.ne_of_lt hlt))
  · obtain ⟨o, e, c⟩ := hl
    exact ⟨o, Heap.get?_push_of_some _ e, c⟩
  · show b < (s.heap.push _).objs.size
    rw [Heap.size_push]
    rcases List.mem_cons.mp hb with rfl | hb
    · exact Nat.lt_succ_self _
    · rcases List.mem_cons.mp hb with rfl | hb
      · exact Nat.lt_succ_of_lt hlt
      · cases hb
theorem old_keptT {h' : Heap} (hk : ∀ b o, b ∉ [s.heap.objs.size] → (s.heap.push { cls := .type "tuple_iterator", data := .fields #[.ref l, .int 0 0] }).get? b = some o → h'.get? b = some o) :
    ∀ b o, s.heap.get? b = some o → h'.get? b = some o := fun b o e => by
  refine hk b o (fun hm => ?_) (Heap.get?_push_of_some _ e)
  rcases List.mem_cons.mp hm with e1 | hm
  · exact absurd (e1 ▸ Heap.lt_size e) (Nat.lt_irrefl _)
  · cases hm
theorem max_intTup {Q : Value → Shared → Prop} (hh : A.handled = none) (hl : s.heap.IsTuple l (intItems xs)) (hne : 0 < xs.size)
    (h : ∀ v h' tk, (intItems xs)[argBest (fun i j => decide (numAt xs i > numAt xs j)) (xs.size - 1)]? = some v → (∀ b o, s.heap.get? b = some o → h'.get? b = some o) → Q v { s with heap := h', toks := tk }) :
    wpAny (model prog w) A (call (.builtin "max") [.ref l]) Q E s := by
  refine call_max_walk (iter_intTup hl fun s₂ e st hfp hlI => ?_)
  subst e
  refine ⟨_, _, _, _, _, _, _, rfl, Walks.tuple (A := A.in1) hh _ l hlI (intItems xs), st, hfp, by simpa [intItems] using hne, CmpOf.ints_gt (numAt xs) (fun _ _ => intItems_at), fun v h' tk hP hk => ?_⟩
  exact h v h' tk (by simpa [intItems] using hP) (old_keptT hk)
theorem min_intTup {Q : Value → Shared → Prop} (hh : A.handled = none) (hl : s.heap.IsTuple l (intItems xs)) (hne : 0 < xs.size)
    (h : ∀ v h' tk, (intItems xs)[argBest (fun i j => decide (numAt xs i < numAt xs j)) (xs.size - 1)]? = some v → (∀ b o, s.heap.get? b = some o → h'.get? b = some o) → Q v { s with heap := h', toks := tk }) :
    wpAny (model prog w) A (call (.builtin "min") [.ref l]) Q E s := by
  refine call_min_walk (iter_intTup hl fun s₂ e st hfp hlI => ?_)
  subst e
  refine ⟨_, _, _, _, _, _, _, rfl, Walks.tuple (A := A.in1) hh _ l hlI (intItems xs), st, hfp, by simpa [intItems] using hne, CmpOf.ints_lt (numAt xs) (fun _ _ => intItems_at), fun v h' tk hP hk => ?_⟩
  exact h v h' tk (by simpa [intItems] using hP) (old_keptT hk)
theorem max_rawT {its : List Value} {ns : List Int} {Q : Value → Shared → Prop} (hh : A.handled = none) (hl : s.heap.IsTuple l its.toArray) (hi : IntsAre its ns) (hne : 0 < ns.length)
    (h : ∀ h' tk M t', (∀ b o, s.heap.get? b = some o → h'.get? b = some o) → M ∈ ns → (∀ a, a ∈ ns → a ≤ M) → Q (.int M t') { s with heap := h', toks := tk }) : wpAny (model prog w) A (call (.builtin "max") [.ref l]) Q E s := by
  obtain ⟨xs, e⟩ := hi.allInts.items
  have hn : numsOf (intItems xs).toList = ns := by rw [← e]; exact hi.numsOf
  rw [nums_intItems] at hn
  subst hn
  rw [e] at hl
  have hsz : 0 < xs.size := by simpa using hne
  refine max_intTup hh hl hsz fun v h' tk hv hk => ?_
  obtain ⟨t, rfl⟩ := intItems_at hv
  obtain ⟨h1, h2⟩ := argBest_gt (numAt xs) (xs.size - 1)
  refine h h' tk _ t hk ?_ fun a ha => ?_
  · rw [numAt_eq]; exact PySem.getD_mem (by rw [List.length_map, Array.length_toList]; omega)
  · obtain ⟨j, hj, rfl⟩ := mem_getD ha
    rw [List.length_map, Array.length_toList] at hj
    rw [← numAt_eq]; exact h2 j (by omega)
theorem min_rawT {its : List Value} {ns : List Int} {Q : Value → Shared → Prop} (hh : A.handled = none) (hl : s.heap.IsTuple l its.toArray) (hi : IntsAre its ns) (hne : 0 < ns.length)
    (h : ∀ h' tk M t', (∀ b o, s.heap.get? b = some o → h'.get? b = some o) → M ∈ ns → (∀ a, a ∈ ns → M ≤ a) → Q (.int M t') { s with heap := h', toks := tk }) : wpAny (model prog w) A (call (.builtin "min") [.ref l]) Q E s := by
  obtain ⟨xs, e⟩ := hi.allInts.items
  have hn : numsOf (intItems xs).toList = ns := by rw [← e]; exact hi.numsOf
  rw [nums_intItems] at hn
  subst hn
  rw [e] at hl
  have hsz : 0 < xs.size := by simpa using hne
  refine min_intTup hh hl hsz fun v h' tk hv hk => ?_
  obtain ⟨t, rfl⟩ := intItems_at hv
  obtain ⟨h1, h2⟩ := argBest_lt (numAt xs) (xs.size - 1)
  refine h h' tk _ t hk ?_ fun a ha => ?_
  · rw [numAt_eq]; exact PySem.getD_mem (by rw [List.length_map, Array.length_toList]; omega)
  · obtain ⟨j, hj, rfl⟩ := mem_getD ha
    rw [List.length_map, Array.length_toList] at hj
    rw [← numAt_eq]; exact h2 j (by omega)
end
section
variable {X : Cx}
def rMaxT (K : PySem.W.Frag) : List V → Hp → VK → Prop := fun vs H Q => ∃ (a : Addr) (ns : List Int), vs = [V.ref a] ∧ SqT K H a (ns.map V.int) ∧ 0 < ns.length ∧ ∀ m, m ∈ ns → (∀ y, y ∈ ns → y ≤ m) → Q (.int m) H
def rMinT (K : PySem.W.Frag) : List V → Hp → VK → Prop := fun vs H Q => ∃ (a : Addr) (ns : List Int), vs = [V.ref a] ∧ SqT K H a (ns.map V.int) ∧ 0 < ns.length ∧ ∀ m, m ∈ ns → (∀ y, y ∈ ns → m ≤ y) → Q (.int m) H
theorem cr_maxT (hc : X.calm = true) : CallR X (.builtin "max") (rMaxT X.K) := by
  intro pins s σ H vs us Q I r h
  obtain ⟨a, ns, rfl, hs, hne, q⟩ := h
  obtain ⟨its, rv, hl, _⟩ := I.tuple hs
  rw [Vals.ref1 r]
  exact max_rawT (I.ok.hd hc) hl rv.ints hne fun h' tk m t' hk h1 h2 => ⟨.int _, H, I.kept hk, ⟨_, rfl⟩, q m h1 h2⟩
theorem cr_minT (hc : X.calm = true) : CallR X (.builtin "min") (rMinT X.K) := by
  intro pins s σ H vs us Q I r h
  obtain ⟨a, ns, rfl, hs, hne, q⟩ := h
  obtain ⟨its, rv, hl, _⟩ := I.tuple hs
  rw [Vals.ref1 r]
  exact min_rawT (I.ok.hd hc) hl rv.ints hne fun h' tk m t' hk h1 h2 => ⟨.int _, H, I.kept hk, ⟨_, rfl⟩, q m h1 h2⟩
/-! ### d == {} -/
theorem op_eq_d0 (hu : X.A.units < cLine) : OpR X (compareOp .Eq) (fun x y H Q => ∃ a b ks, x = .ref a ∧ y = .ref b ∧ H a = some (.dK ks) ∧ H b = some (.dK []) ∧ Q (.bl ks.isEmpty) H) := by
  intro pins s σ H x y v u Q I rx ry h
  obtain ⟨a, b, ks, rfl, rfl, ea, eb, q⟩ := h
  obtain rfl : v = Value.ref a := rx
  obtain rfl : u = Value.ref b := ry
  obtain ⟨_, ya, va, ra, da⟩ := (show ObjOk X.prog X.w H s.heap a (.dK ks) from I.hok a _ ea)
  obtain ⟨_, yb, vb, rb, db⟩ := (show ObjOk X.prog X.w H s.heap b (.dK []) from I.hok b _ eb)
  have l1 := ra.length
  have l2 := rb.length
  refine PySem.W.keq_eq (knd := mixKind X.prog X.w) (r := true) ya yb da db hu (fun hl => ?_) (fin_bl I q ?_)
  · have e : ks = [] := List.eq_nil_of_length_eq_zero (by rw [l1, hl, ← l2]; rfl)
    subst e
    exact hits_all rb ra fun p hp => nomatch hp
  · cases ks with
    | nil =>
      have e1 : va.length = 0 := l1.symm
      have e2 : vb.length = 0 := l2.symm
      rw [e1, e2]; rfl
    | cons p r =>
      have e1 : va.length = r.length + 1 := l1.symm
      have e2 : vb.length = 0 := l2.symm
      rw [e1, e2]; rfl
/-! ### sorted(d), the keys ints, any number of them -/
theorem call_sortedDA (hcalm : X.calm = true) : CallR X (.builtin "sorted") (fun xs H Q => ∃ (a : Addr) (kvs : List (Key × V)) (ks : List Int), xs = [.ref a] ∧ Rd H a (.dK kvs) ∧ kvs.map (·.1) = ks.map Sum.inl ∧
    ∀ (ys : List Int) (p : Addr), ys.Perm ks → ys.Pairwise (· ≤ ·) → H p = none → Q (.ref p) (upd H p (.lst (ys.map V.int)))) := by
  intro pins s σ H xs us Q I r q
  obtain ⟨a, kvs, ks, ex, hd, hks, q⟩ := q
  subst ex
  obtain ⟨u, eu, rx⟩ := vals1 r
  subst eu
  cases rx
  obtain ⟨z, lo, vs, rel, dd⟩ := dk_rd I.hok hd
  obtain ⟨ep, hat⟩ := dd.dictAt
  have hkeys : vs.map (·.1) = ks.map Sum.inl := rel.keys.symm.trans hks
  have hl : vs.length = ks.length := by
    have e := congrArg List.length hkeys
    rw [List.length_map, List.length_map] at e
    exact e
  have hkl : kvs.length = ks.length := by
    have e := congrArg List.length hks
    rw [List.length_map, List.length_map] at e
    exact e
  have h16 : vs.length ≤ sizeLine := by rw [hl, ← hkl]; exact z
  refine Calls.call_function_entry PyProof.Rows.kind_sorted PyProof.Rows.plain_sorted PyProof.Rows.entry_sorted (PyProof.Rows.args_sorted1 _) ?_
  unfold Builtin.«sorted»
  refine wpAny_bind (m := checkCount "sorted" 1 1 _) (wpAny_pure ?_)
  refine wpAny_bind (PySem.W.kdu_collect (A := X.A.in1) (PySem.W.kdl_dict (knd := mixKind X.prog X.w) (kvs := vs) (ep := ep) lo) (I.ok.hd hcalm) hat h16 fun h' tk acc hk hacc => ?_)
  have hal : acc.toList.length = ks.length := by rw [Array.length_toList, hacc.1, hl]
  have hS : IntsAre acc.toList ks := ints_each hal fun j v e => by
    obtain ⟨k, x, e1, e2⟩ := hacc.2 j v (by rw [← Array.getElem?_toList]; exact e)
    have e3 : (vs.map (·.1))[j]? = some k := by rw [List.getElem?_map, e1]; rfl
    rw [hkeys, List.getElem?_map] at e3
    cases e4 : ks[j]? with
    | none => rw [e4] at e3; cases e3
    | some y =>
      rw [e4] at e3
      have e5 : Sum.inl y = k := Option.some.inj e3
      subst e5
      rcases keyIs_shape (show keyIs (Sum.inl y) v = true from e2) with ⟨i, t, ek, ev⟩ | ⟨z, t, ek, ev⟩
      · cases ek
        exact ⟨y, t, rfl, ev⟩
      · cases ek
  have I1 : Inv X pins σ H { s with heap := h', toks := tk } := I.kept hk
  have hz2 : acc.toList.length ≤ sizeLine := by rw [hal, ← hkl]; exact z
  refine wpAny_bind (wpAny_newList ?_ hz2)
  have hoL : (h'.push (seqObj "list" acc.toList.toArray 0)).get? h'.objs.size = some (seqObj "list" acc.toList.toArray 0) := Heap.get?_push_size _ rfl
  show wpAny _ _ _ _ _ { s with heap := h'.push (seqObj "list" acc.toList.toArray 0), toks := tk }
  refine wpAny_bind (wpAny_holding (wpAny_call_entry PyProof.Rows.slot_list_sort ⟨_, hoL, rfl⟩ PyProof.Rows.entry_list_sort
    (SrtO.list_sort_ord (s := { s with heap := h'.push (seqObj "list" acc.toList.toArray 0), toks := tk }) SrtO.swo_int hoL hz2 (fun h2 => SrtO.ints_sortable hS h2) fun out g1 g2 => ⟨_, rfl, ?_⟩) (PyProof.Rows.args_list_sort _)))
  obtain ⟨k1, k2, k3⟩ := SrtO.ints_out hS g1 g2
  have hlen : ((out.map SrtO.iv).map V.int).length ≤ sizeLine := by
    rw [List.length_map, k2.length_eq, ← hkl]; exact z
  obtain ⟨ep2, he'⟩ := PyProof.Rows.sortedHeap_at (vs := acc.toList) (out := out.toArray) hoL
  have hn0 : H h'.objs.size = none := I1.hok.fresh (Nat.le_refl _)
  have kF : ∀ b o, h'.get? b = some o → (sortedHeap (h'.push (seqObj "list" acc.toList.toArray 0)) h'.objs.size acc.toList out.toArray).get? b = some o := fun b o e => by
    have e2 : (h'.push (seqObj "list" acc.toList.toArray 0)).get? b = some o := Heap.get?_push_of_some _ e
    rw [PyProof.Rows.sortedHeap_old (Nat.ne_of_lt (Heap.lt_size e)) (Heap.lt_size e2)]; exact e2
  refine wpAny_pure ⟨_, rfl, ?_⟩
  exact ⟨.ref h'.objs.size, upd H h'.objs.size (.lst ((out.map SrtO.iv).map V.int)), I1.laid (t' := tk) kF (Nat.le_refl _) ⟨hlen, out, ep2, vals_of_ints k1, he'⟩, rfl, q _ _ k2 k3 hn0⟩
end
end MC
set_option Elab.async false
set_option linter.all false
set_option maxRecDepth 100000
set_option maxHeartbeats 4000000
namespace MC
open PySem PySem.Spec PyProof.Rows L2
/-! ### tuples whose first items are texts, no text in two of them: sorted -/
section
variable {prog : Program} {w : World} {A : Around} {E : Value → Shared → Prop} {s : Shared}
/-- v is a tuple in the heap that begins with the text x -/
def IsNm (h : Heap) (v : Value) (x : Str) : Prop := ∃ a o t r n, v = .ref a ∧ h.get? a = some o ∧ o.cls = .type "tuple" ∧ o.data = .seq (Value.str x t :: r).toArray n
theorem IsNm.keeps {h h' : Heap} {v : Value} {x : Str} (p : IsNm h v x) (k : ∀ b o, h.get? b = some o → o.cls = .type "tuple" → h'.get? b = some o) : IsNm h' v x := by
  obtain ⟨a, o, t, r, n, e, ho, hc, hd⟩ := p
  exact ⟨a, o, t, r, n, e, k _ _ ho hc, hc, hd⟩
theorem lex_self : ∀ (l : List Value) (i : Nat) (b fin : Bool) (Q : Bool → Shared → Prop), Q fin s → PySem.W.KatLex prog w A b fin Q (l.zip l) i s
  | [], _, _, _, _, h => PySem.W.kat_nil h
  | v :: r, i, b, fin, Q, h => by
    show PySem.W.KatLex prog w A b fin Q ((v, v) :: r.zip r) i s
    exact PySem.W.kat_cons (SeqAt.EqAt.same v prog w _ _ (PySem.W.kat_yes (lex_self r (i + 1) b fin Q h)))
theorem nm_tot {vs : List Value} (hp : ∀ v ∈ vs, ∃ x, IsNm s.heap v x) (hd : ∀ v ∈ vs, ∀ u ∈ vs, ∀ x, IsNm s.heap v x → IsNm s.heap u x → v = u) : Srt.Tot prog w A s (tuples' true) (fun p => p.1 ∈ vs) := by
  intro p q hm hm'
  by_cases hpq : p.1 = q.1
  · obtain ⟨x, a, o, t, r, n, e, ho, hc, hdat⟩ := hp _ hm
    have e2 : q.1 = .ref a := hpq ▸ e
    rw [e, e2]
    refine ⟨false, ?_⟩
    refine PySem.W.kat_lt ho hdat ho hdat ?_
    refine lex_self _ _ _ _ _ ⟨rfl, ?_⟩
    exact decide_eq_false (Nat.lt_irrefl _)
  · obtain ⟨x, hx⟩ := hp _ hm
    obtain ⟨y, hy⟩ := hp _ hm'
    have nxy : x ≠ y := fun z => hpq (hd _ hm _ hm' x hx (z ▸ hy))
    obtain ⟨a, o, t, r, n, e, ho, hc, hdat⟩ := hx
    obtain ⟨a', o', t', r', n', e', ho', hc', hdat'⟩ := hy
    rw [e, e']
    refine ⟨decide (x.cps.toList < y.cps.toList), ?_⟩
    refine PySem.W.kat_lt ho hdat ho' hdat' ?_
    show PySem.W.KatLex prog w A true _ _ ((.str x t, .str y t') :: r.zip r') 0 s
    refine PySem.W.kat_cons (SeqAt.EqAt.str_str x t y t' prog w _ _ ?_)
    rw [beq_eq_false_iff_ne.mpr nxy]
    exact PySem.W.kat_no (oneLt_str ⟨rfl, rfl⟩)
theorem nm_firsts {h : Heap} : ∀ {vs : List Value}, (∀ v ∈ vs, ∃ x, IsNm h v x) → ∃ fs : List Value, PySem.W.KatTups h vs fs ∧ fs.length = vs.length ∧ ∀ f ∈ fs, ∃ x t, f = Value.str x t
  | [], _ => ⟨[], PySem.W.KatTups.nil, rfl, fun _ hm => by simp at hm⟩
  | v :: vs, hp => by
    obtain ⟨fs, h1, h2, h3⟩ := nm_firsts (vs := vs) fun v' hm => hp v' (List.mem_cons_of_mem _ hm)
    obtain ⟨x, a, o, t, r, n, e, ho, hc, hd⟩ := hp v (List.mem_cons_self ..)
    subst e
    refine ⟨.str x t :: fs, PySem.W.KatTups.cons ho hc hd rfl h1, by rw [List.length_cons, List.length_cons, h2], fun f hm => ?_⟩
    rcases List.mem_cons.mp hm with rfl | hm
    · exact ⟨x, t, rfl⟩
    · exact h3 f hm
theorem nm_sortable {a : Addr} {vs : List Value} (h0 : 0 < vs.length) (hp : ∀ v ∈ vs, ∃ x, IsNm s.heap v x) (hd : ∀ v ∈ vs, ∀ u ∈ vs, ∀ x, IsNm s.heap v x → IsNm s.heap u x → v = u)
    (ha : ∀ o, s.heap.get? a = some o → o.cls ≠ .type "tuple") : Srt.Sortable prog w A s a vs := by
  intro h' keep
  have up : ∀ v x, IsNm s.heap v x → IsNm h' v x := fun v x p => p.keeps fun b o e c => keep b o (fun z => by subst z; exact ha o e c) e
  have hp' : ∀ v ∈ vs, ∃ x, IsNm h' v x := fun v hm => by
    obtain ⟨x, p⟩ := hp v hm
    exact ⟨x, up v x p⟩
  have uniq : ∀ v x y, IsNm h' v x → IsNm h' v y → x = y := fun v x y p q => by
    obtain ⟨a, o, t, r, n, e, ho, hc, hdat⟩ := p
    obtain ⟨a', o', t', r', n', e', ho', hc', hdat'⟩ := q
    rw [e] at e'
    cases e'
    rw [ho] at ho'
    cases ho'
    rw [hdat] at hdat'
    injection hdat' with d1 _
    have d2 := congrArg Array.toList d1
    simp only [List.toList_toArray] at d2
    injection d2 with d3 _
    injection d3
  have hd' : ∀ v ∈ vs, ∀ u ∈ vs, ∀ x, IsNm h' v x → IsNm h' u x → v = u := fun v hv u hu x p q => by
    obtain ⟨y, py⟩ := hp v hv
    obtain ⟨z, pz⟩ := hp u hu
    have e1 := uniq v x y p (up v y py)
    have e2 := uniq u x z q (up u z pz)
    subst e1
    subst e2
    exact hd v hv u hu _ py pz
  obtain ⟨fs, h1, h2, h3⟩ := nm_firsts hp'
  refine ⟨tuples' true, fun Q E hq => ?_, nm_tot hp' hd'⟩
  refine PySem.W.kat_kind (T := .type "str") h1 (by omega) (fun f hm => ?_) (by rfl) ?_
  · obtain ⟨x, t, rfl⟩ := h3 f hm
    exact PySem.W.Looks.now
  · have e : (Value.type "str" != Value.type "tuple") = true := by first | decide +kernel | rfl | decide
    rw [e]
    exact hq
end
section
variable {X : Cx}
theorem isNm_of {pins : List (Addr × Obj)} {s : Shared} {σ : L2.St} {H : Hp} {t : Addr} {x : Str} {r : List V} (I : Inv X pins σ H s) (h : H t = some (.tup (.str x :: r))) : IsNm s.heap (.ref t) x := by
  obtain ⟨_, its, rv, o, ho, hc, n, hd⟩ := I.hok _ _ h
  cases rv with
  | cons r1 r2 =>
    obtain ⟨tk, rfl⟩ := r1
    exact ⟨t, o, tk, _, n, rfl, ho, hc, hd⟩
theorem nm_back {pins : List (Addr × Obj)} {s : Shared} {σ : L2.St} {H : Hp} {t : Addr} {x y : Str} {r : List V} (I : Inv X pins σ H s) (h : H t = some (.tup (.str x :: r))) (q : IsNm s.heap (.ref t) y) : y = x := by
  obtain ⟨_, its, rv, o, ho, hc, n, hd⟩ := I.hok _ _ h
  obtain ⟨a', o', t', r', n', e', ho', hc', hdat'⟩ := q
  cases e'
  rw [ho] at ho'
  cases ho'
  cases rv with
  | cons r1 r2 =>
    obtain ⟨tk, rfl⟩ := r1
    rw [hd] at hdat'
    injection hdat' with d1 _
    have d2 := congrArg Array.toList d1
    simp only [List.toList_toArray] at d2
    injection d2 with d3 _
    injection d3 with d4 _
    exact d4.symm
/-- sorted(xs): tuples at ts that begin with the texts nm t, all unlike: the same ones in some order -/
theorem cr_sortedNm : CallR X (.builtin "sorted") (fun vs H Q => ∃ (a : Addr) (ts : List (Addr × Str)), vs = [V.ref a] ∧ SqL X.K H a (ts.map fun t => V.ref t.1) ∧ (∀ t ∈ ts, ∃ r, H t.1 = some (.tup (.str t.2 :: r))) ∧ (ts.map (·.2)).Nodup ∧
    ∀ (us : List (Addr × Str)) (p : Addr), us.Perm ts → H p = none → Q (.ref p) (upd H p (.lst (us.map fun t => V.ref t.1)))) := by
  intro pins s σ H vs us Q I r h
  obtain ⟨a, ts, rfl, hs, hx, nd, q⟩ := h
  obtain ⟨its, rv, hl, hz⟩ := I.list hs
  rw [Vals.ref1 r]
  have eits : its = ts.map fun t => Value.ref t.1 := by
    clear hl hz hs hx nd q
    induction ts generalizing its with
    | nil => cases rv; rfl
    | cons t ts ih =>
      cases rv with
      | cons r1 r2 =>
        have e1 : _ = Value.ref t.1 := r1
        rw [e1, ih _ r2]
        rfl
  have uniq : ∀ t ∈ ts, ∀ u ∈ ts, t.2 = u.2 → t = u := by
    intro t ht u hu e
    obtain ⟨i, hi⟩ := List.mem_iff_getElem?.mp ht
    obtain ⟨j, hj⟩ := List.mem_iff_getElem?.mp hu
    have ei : (ts.map (·.2))[i]? = some t.2 := by rw [List.getElem?_map, hi]; rfl
    have ej : (ts.map (·.2))[j]? = some t.2 := by rw [List.getElem?_map, hj, e]; rfl
    have := nd_ix nd ei ej
    subst this
    rw [hi] at hj
    exact Option.some.inj hj
  refine Srt.sorted_any hl.isList (by rw [← rv.length]; exact hz) (fun h2 h₁ a' ha' k => ?_) fun out ho => ?_
  · refine nm_sortable (s := { s with heap := h₁ }) (by omega) (fun v hm => ?_) (fun v hv u hu x px py => ?_) fun o e => ?_
    · rw [eits] at hm
      obtain ⟨t, ht, rfl⟩ := List.mem_map.mp hm
      obtain ⟨r, hr⟩ := hx t ht
      exact ⟨t.2, (isNm_of I hr).keeps fun b o e _ => (k b o e).2⟩
    · rw [eits] at hv hu
      obtain ⟨t, ht, rfl⟩ := List.mem_map.mp hv
      obtain ⟨u', hu', rfl⟩ := List.mem_map.mp hu
      obtain ⟨r1, hr1⟩ := hx t ht
      obtain ⟨r2, hr2⟩ := hx u' hu'
      have b1 : ∀ (tt : Addr) (nm y : Str) (r : List V), H tt = some (.tup (.str nm :: r)) → IsNm h₁ (.ref tt) y → y = nm := by
        intro tt nm y r hr p
        obtain ⟨a1, o1, t1, r1, n1, e1, ho1, hc1, hd1⟩ := isNm_of I hr
        obtain ⟨a2, o2, t2, r2, n2, e2, ho2, hc2, hd2⟩ := p
        cases e1
        cases e2
        have e3 := (k _ _ ho1).2
        rw [show h₁.get? tt = some o2 from ho2] at e3
        cases e3
        rw [hd1] at hd2
        injection hd2 with d1 _
        have d2 := congrArg Array.toList d1
        simp only [List.toList_toArray] at d2
        injection d2 with d3 _
        injection d3 with d4 _
        exact d4.symm
      have x1 := b1 _ _ _ _ hr1 px
      have x2 := b1 _ _ _ _ hr2 py
      have := uniq t ht u' hu' (x1.symm.trans x2)
      rw [this]
    · have e' : some o = some (seqObj "list" its.toArray 0) := e.symm.trans ha'
      cases e'
      intro c
      exact absurd (Value.type.inj c) (by decide)
  · obtain ⟨zs, pz, ez⟩ := perm_lift (fun z : Addr × Str => Value.ref z.1) (eits ▸ ho) ts rfl
    obtain ⟨ep, he'⟩ := PyProof.Rows.sortedAll_at s.heap its out.toArray
    have hlen : (zs.map fun t => V.ref t.1).length ≤ sizeLine := by
      rw [List.length_map, pz.length_eq]
      rw [List.length_map] at hz
      exact hz
    have rv2 : Vals (zs.map fun t => V.ref t.1) out := by
      rw [← ez]
      exact vals_maps (fun z : Addr × Str => V.ref z.1) (fun z => Value.ref z.1) zs fun _ _ => rfl
    exact ⟨.ref _, upd H (s.heap.objs.size + 1) (.lst (zs.map fun t => V.ref t.1)), I.laid (t' := s.toks) (fun _ _ => PyProof.Rows.sortedAll_old) (Nat.le_succ _) ⟨hlen, out, ep, rv2, he'⟩, rfl, q zs _ pz (I.hok.fresh (Nat.le_succ _))⟩
end
end MC
set_option Elab.async false
set_option linter.all false
set_option maxRecDepth 100000
set_option maxHeartbeats 4000000
namespace MC
open PySem PySem.Spec PyProof.Rows L2
/-! ### a tuple * 0, * 1 -/
theorem tuple_mul1 (l : Addr) (items : Array Value) (n : Nat) (dd : Option Addr) (sl : Array (Option Value)) (u : Tok) :
    Meets (Builtin.«tuple.__mul__» ⟨[.ref l, .int 1 u], []⟩) (fun _ R s => s.heap.get? l = some { cls := .type "tuple", dict := dd, data := .seq items n, slots := sl } ∧
      R (.ok (.ret (Value.ref l))) s) :=
  .of_wp fun prog w A R s h => by
    obtain ⟨hp, g, d, tk, os⟩ := s
    obtain ⟨hl, h⟩ := h
    have f1 := AutoSeq1.idx_int
    have hT : Shared.TypeIs ⟨hp, g, d, tk, os⟩ (.ref l) "tuple" := ⟨_, hl, rfl⟩
    wp_walk using wpAny_loadPart' hl
    repeat (first
      | (refine wpAny_ite_false (decide_eq_false (by decide)) ?_; wp_walk using wpAny_loadPart' hl)
      | (refine wpAny_ite_true (decide_eq_true (by simp)) ?_; wp_walk using wpAny_loadPart' hl))
    all_goals exact ⟨_, rfl, h⟩
theorem tuple_mul0 (l : Addr) (items : Array Value) (n : Nat) (dd : Option Addr) (sl : Array (Option Value)) (u : Tok) (hne : items.isEmpty = false) :
    Meets (Builtin.«tuple.__mul__» ⟨[.ref l, .int 0 u], []⟩) (fun _ R s => s.heap.get? l = some { cls := .type "tuple", dict := dd, data := .seq items n, slots := sl } ∧
      R (.ok (.ret (Value.ref s.heap.objs.size))) { s with heap := s.heap.push { cls := Value.type "tuple", data := Data.seq #[] }, toks := s.toks }) :=
  .of_wp fun prog w A R s h => by
    obtain ⟨hp, g, d, tk, os⟩ := s
    obtain ⟨hl, h⟩ := h
    have f1 := AutoSeq1.idx_int
    wp_walk using wpAny_loadPart' hl
    exact ⟨_, rfl, h⟩
section
variable {X : Cx}
theorem op_repTA : OpR X (binaryOp .Mult) (fun x y H Q => ∃ l k xs, x = .ref l ∧ y = .int k ∧ SqT X.K H l xs ∧ xs ≠ [] ∧ 0 ≤ k ∧ k ≤ 1000 ∧ xs.length ≤ 1000 ∧
    (k = 0 → ∀ p, H p = none → Q (.ref p) (upd H p (.tup []))) ∧ (k = 1 → Q (.ref l) H) ∧ (2 ≤ k → ∀ p, H p = none → Q (.ref p) (upd H p (.tup (List.replicate k.toNat xs).flatten)))) := by
  intro pins s σ H x y v u Q I rx ry h
  obtain ⟨l, k, xs, rfl, rfl, hT, hne, h0, h2, hz, q0, q1, q2⟩ := h
  by_cases hk2 : 2 ≤ k
  · exact op_repT pins s σ H _ _ v u Q I rx ry ⟨l, k, xs, rfl, rfl, hT, hne, hk2, h2, hz, q2 hk2⟩
  · cases rx
    obtain ⟨t, rfl⟩ := ry
    obtain ⟨its, r, ⟨⟨cls, dd, data, sl⟩, ho, hc, n, hd⟩, hs⟩ := I.tuple hT
    simp only at hc hd
    subst hc hd
    have hle : its.length = xs.length := r.length.symm
    have hi : its.toArray.isEmpty = false := by
      cases its with
      | nil =>
        have e0 : xs.length = 0 := hle.symm
        exact absurd (List.eq_nil_of_length_eq_zero e0) hne
      | cons a b => rfl
    have hk : k = 0 ∨ k = 1 := by omega
    rcases hk with rfl | rfl
    · refine wpAny_binaryOp_repeat_ref (T := "tuple") (U := "int") (by decide) ⟨_, ho, rfl⟩ (fun s' => typeIs_int s' 0 t) noFill_tuple_mul F.fills_int_mul F.slot_int_rmul repeat_tuple F.slot_int_index.lookup
        (call_meets F.slot_int_rmul (typeIs_int s 0 t) F.entry_int_rmul (F.args_int_rmul_2 _ _) (int_rmul_tuple 0 t l its.toArray n dd sl)
          ⟨ho, rfl, ⟨_, ho, rfl⟩, call_meets F.slot_tuple_mul ⟨_, ho, rfl⟩ F.entry_tuple_mul (F.args_tuple_mul_2 _ _) (tuple_mul0 l its.toArray n dd sl t hi) ⟨ho, ?_⟩⟩)
      refine ⟨.ref s.heap.objs.size, _, I.laid (t' := s.toks) (o := .tup []) (fun b ob q => Heap.get?_push_of_some _ q) (Nat.le_refl _) ?_, rfl, q0 rfl _ (I.hok.fresh (Nat.le_refl _))⟩
      exact ⟨Nat.zero_le _, [], .nil, IsTup.new _ _⟩
    · refine wpAny_binaryOp_repeat_ref (T := "tuple") (U := "int") (by decide) ⟨_, ho, rfl⟩ (fun s' => typeIs_int s' 1 t) noFill_tuple_mul F.fills_int_mul F.slot_int_rmul repeat_tuple F.slot_int_index.lookup
        (call_meets F.slot_int_rmul (typeIs_int s 1 t) F.entry_int_rmul (F.args_int_rmul_2 _ _) (int_rmul_tuple 1 t l its.toArray n dd sl)
          ⟨ho, rfl, ⟨_, ho, rfl⟩, call_meets F.slot_tuple_mul ⟨_, ho, rfl⟩ F.entry_tuple_mul (F.args_tuple_mul_2 _ _) (tuple_mul1 l its.toArray n dd sl t) ⟨ho, ?_⟩⟩)
      exact ⟨.ref l, H, I, rfl, q1 rfl⟩
/-! ### d.get(k), d a dict of the top -/
def tKGet (K : PySem.W.Frag) (d : Addr) (td ty : TE) : TE := fun σ H Q => td σ H fun x H1 => x = .ref d ∧ ty σ H1 fun y H2 => ∃ (z : Str) (u0 : Value) (v0 : V), y = .str z ∧ PySem.W.nsIn K d z = some (some u0) ∧ RelV v0 u0 ∧ Q v0 H2
theorem pe_kget {o e : Expr} {apos cpos : Pos} {td ty : TE} {d : Addr} (D : ∃ es n, KDict X.K X.w d es n) (ho : PE X o td) (he : PE X e ty) (m : M1 X o "get" apos e cpos) : PE X (.Call (.Attribute o "get" apos) [e] [] cpos) (tKGet X.K d td ty) := by
  obtain ⟨es, n, D⟩ := D
  refine ⟨fun pins s σ H Q I h => ?_⟩
  refine wpAny_Call_method m.base m.few m.line PySem.F.plainAttrs_dict PySem.F.slot_dict_get PySem.F.type_dict_get (thn (ho.run pins s σ H _ I h) fun u s1 ⟨x, H1, I1, rx, ex, q1⟩ => ?_)
  subst ex
  obtain rfl : u = Value.ref d := rx
  have T := kd_type D I1
  refine ⟨T, fun b q => ?_, ?_⟩
  · cases q
    exact ⟨_, I1.kIn d _ D.at_, rfl⟩
  rw [m.trees]
  refine Calls.callWith_builtin rfl (Calls.evalArgs_plain (Calls.spliced_cons (thn (he.run pins s1 σ H1 _ I1 q1) fun iv s2 ⟨y, H2, I2, ry, z, u0, v0, ey, hz, r0, q2⟩ => Calls.spliced_nil ?_)))
  subst ey
  obtain ⟨t, rfl⟩ := ry
  have T2 := kd_type D I2
  refine call_meetsIn PySem.F.slot_dict_get T2 PySem.F.entry_dict_get (PySem.F.args_dict_get_2 _ _) (meets_dict_get (strKind X.prog X.w) d (PySem.strKind_is X.prog X.w z t) D.low) ⟨_, PySem.W.mapOf_K (prog := X.prog) I2.kIn D.at_ D.lit, ?_⟩
  rw [PySem.W.find_K D.at_ hz]
  exact ⟨v0, H2, I2.tok _, r0, q2⟩
/-! ### d.items(), sorted(d.items()), the keys texts -/
theorem mt_itemsK : MtR X "dict.items" (fun x xs H Q => ∃ (a : Addr) (kvs : List (Key × V)), x = .ref a ∧ xs = [] ∧ H a = some (.dK kvs) ∧ ∀ p, H p = none → Q (.ref p) (upd H p (DX.itemsO p a))) := by
  intro pins s σ H x xs v us Q I rx rxs h
  obtain ⟨a, kvs, rfl, rfl, ha, q⟩ := h
  cases rx
  cases rxs
  obtain ⟨z, hd, vs, rel, dd⟩ := (show ObjOk X.prog X.w H s.heap a (.dK kvs) from I.hok a _ ha)
  obtain ⟨o, es, ep, ho, hx, hdat, _⟩ := dd
  refine DT.callItems (es := es) (ep := ep) hd ⟨o, ho, hx, hdat⟩ ?_
  have hf : H s.heap.objs.size = none := I.hok.fresh (Nat.le_refl _)
  exact ⟨.ref s.heap.objs.size, upd H s.heap.objs.size (DX.itemsO s.heap.objs.size a), I.laid (t' := s.toks) (fun b u e => Heap.get?_push_of_some _ e) (Nat.le_refl _) (DX.itemsO_ok (Heap.get?_push_size _ rfl)), rfl, q _ hf⟩
/-- sorted(d.items()): new pairs of the keys (texts) and their values, in some order -/
theorem cr_sortedIt (hc : X.calm = true) : CallR X (.builtin "sorted") (fun vs H Q => ∃ (p a : Addr) (ks : List (Str × V)), vs = [.ref p] ∧ H p = some (DX.itemsO p a) ∧ H a = some (.dK (ks.map fun e => (Sum.inr e.1, e.2))) ∧ (ks.map (·.1)).Nodup ∧
    ∀ (H' : Hp) (l : Addr) (ps : List (Addr × Str × V)), (∀ b o, H b = some o → H' b = some o) → H l = none → (ps.map (·.2)).Perm ks → H' l = some (.lst (ps.map fun z => V.ref z.1)) →
      (∀ z ∈ ps, H' z.1 = some (.tup [.str z.2.1, z.2.2])) → Q (.ref l) H') := by
  intro pins s σ H xs us Q I r h
  obtain ⟨p, a, ks, rfl, hp, ha, hnd, q⟩ := h
  obtain rfl := Vals.ref1 r
  have view : s.heap.IsItemsView p a := (show ObjOk X.prog X.w H s.heap p (DX.itemsO p a) from I.hok p _ hp).1
  obtain ⟨z, hd, vs, rel, dd⟩ := (show ObjOk X.prog X.w H s.heap a (.dK _) from I.hok a _ ha)
  obtain ⟨es, ep, hraw, hsz, hent⟩ := dd.raw
  have l1 : ks.length = vs.length := by
    have e := Paired.length rel
    rw [List.length_map] at e
    exact e
  have zz : ks.length ≤ sizeLine := by
    rw [List.length_map] at z
    exact z
  have hh : X.A.handled = none := I.ok.hd hc
  refine DT.sortedI (es := es) (ep := ep) hh view hraw (by rw [hsz, ← l1]; exact zz) fun h' tk as hk hlt hl hG => ?_
  have lak : as.length = ks.length := by rw [hl, hsz, l1]
  have nd : as.Nodup := List.Pairwise.imp (fun h => Nat.ne_of_lt h) hG.rise
  -- the pairs that were made
  have pr : ∀ (j : Nat) (b : Addr), as[j]? = some b → ∃ (e : Str × V) (t : Tok) (u : Value), ks[j]? = some e ∧ RelV e.2 u ∧ h'.get? b = some { cls := .type "tuple", data := .seq #[Value.str e.1 t, u] } := by
    intro j b hj
    obtain ⟨en, he, hg⟩ := hG.pairs j b hj
    have hjs : j < es.size := by
      have := (List.getElem?_eq_some_iff.mp hj).1
      omega
    have hjv : j < vs.length := by omega
    have hjk : j < ks.length := by omega
    have e1 : es[j] = en := by
      rw [Array.getElem?_eq_getElem hjs] at he
      exact Option.some.inj he
    obtain ⟨k1, k2⟩ := hent j hjs vs[j].1 vs[j].2 (by rw [List.getElem?_eq_getElem hjv])
    obtain ⟨y, hy, f1, f2⟩ := LiI.paired_get rel (i := j) (x := (Sum.inr ks[j].1, ks[j].2)) (by rw [List.getElem?_map, List.getElem?_eq_getElem hjk]; rfl)
    rw [List.getElem?_eq_getElem hjv] at hy
    have hy2 := Option.some.inj hy
    rw [← hy2] at f1 f2
    have f1' : (Sum.inr ks[j].1 : Key) = vs[j].1 := f1
    rw [← f1'] at k1
    rcases keyIs_shape (show keyIs (Sum.inr ks[j].1) es[j].key = true from k1) with ⟨i, t, ek, ev⟩ | ⟨z, t, ek, ev⟩
    · cases ek
    · cases ek
      refine ⟨ks[j], t, vs[j].2, List.getElem?_eq_getElem hjk, f2, ?_⟩
      rw [hg, ← e1, ev, k2]
  have hob : (h'.push { cls := .type "list", data := .seq (as.map Value.ref).toArray }).get? h'.objs.size = some (seqObj "list" (as.map Value.ref).toArray 0) := Heap.get?_push_size _ rfl
  have kb : ∀ b o, s.heap.get? b = some o → (h'.push { cls := .type "list", data := .seq (as.map Value.ref).toArray }).get? b = some o := fun b o e => Heap.get?_push_of_some _ (hk b o e)
  have ne0 : ∀ b o, h'.get? b = some o → b ≠ h'.objs.size := fun b o e => Nat.ne_of_lt (Heap.lt_size e)
  generalize hh2 : h'.push { cls := .type "list", data := .seq (as.map Value.ref).toArray } = h2 at hob kb ⊢
  have ka : ∀ b o, h'.get? b = some o → h2.get? b = some o := fun b o e => by rw [← hh2]; exact Heap.get?_push_of_some _ e
  have nm : ∀ (j : Nat) (b : Addr) (e : Str × V), as[j]? = some b → ks[j]? = some e → ∀ x, IsNm h2 (.ref b) x ↔ x = e.1 := by
    intro j b e hj he x
    obtain ⟨e', t, u, he', _, hg⟩ := pr j b hj
    have ee : e' = e := Option.some.inj (he'.symm.trans he)
    subst ee
    constructor
    · rintro ⟨a', o', t', r', n', ea, ho', hc', hdat'⟩
      cases ea
      have := ka _ _ hg
      rw [show h2.get? b = some o' from ho'] at this
      cases this
      injection hdat' with d1 _
      have d2 := congrArg Array.toList d1
      simp only [List.toList_toArray] at d2
      injection d2 with d3 _
      injection d3 with d4 _
      exact d4.symm
    · rintro rfl
      exact ⟨b, _, t, [u], 0, rfl, ka _ _ hg, rfl, rfl⟩
  have at_ : ∀ v ∈ as.map Value.ref, ∃ (j : Nat) (b : Addr) (e : Str × V), v = .ref b ∧ as[j]? = some b ∧ ks[j]? = some e := by
    intro v hv'
    obtain ⟨b, hb, rfl⟩ := List.mem_map.mp hv'
    obtain ⟨j, hj⟩ := List.mem_iff_getElem?.mp hb
    obtain ⟨e, _, _, he, _⟩ := pr j b hj
    exact ⟨j, b, e, rfl, hj, he⟩
  refine wpAny_call_entry PyProof.Rows.slot_list_sort ⟨_, hob, rfl⟩ PyProof.Rows.entry_list_sort
    (Srt.list_sort_any (s := { s with heap := h2, toks := tk }) hob (by rw [List.length_map, lak]; exact zz) (fun h2' => ?_) fun out ho => ⟨.none, rfl, ?_⟩) (PyProof.Rows.args_list_sort _)
  · refine nm_sortable (s := { s with heap := h2, toks := tk }) (by omega) (fun v hv => ?_) (fun v hv u hu x px py => ?_) fun o e => ?_
    · obtain ⟨j, b, e, rfl, hj, he⟩ := at_ v hv
      exact ⟨e.1, (nm j b e hj he _).mpr rfl⟩
    · obtain ⟨j, b, e, rfl, hj, he⟩ := at_ v hv
      obtain ⟨j', b', e', rfl, hj', he'⟩ := at_ u hu
      have x1 := (nm j b e hj he _).mp px
      have x2 := (nm j' b' e' hj' he' _).mp py
      have ei : (ks.map (·.1))[j]? = some x := by rw [List.getElem?_map, he, x1]; rfl
      have ej : (ks.map (·.1))[j']? = some x := by rw [List.getElem?_map, he', x2]; rfl
      have ejj := nd_ix hnd ei ej
      subst ejj
      rw [hj] at hj'
      cases hj'
      rfl
    · have e' : some o = some (seqObj "list" (as.map Value.ref).toArray 0) := e.symm.trans hob
      cases e'
      intro c
      exact absurd (Value.type.inj c) (by decide)
  · show EP X pins σ Q (.ref h'.objs.size) { s with heap := sortedHeap h2 h'.objs.size (as.map Value.ref) out.toArray, toks := tk }
    obtain ⟨zs, pz, ez⟩ := perm_lift (fun z : Addr × Str × V => Value.ref z.1) (show out.Perm ((as.zip ks).map fun z => Value.ref z.1) by
      have e : (as.zip ks).map (fun z => Value.ref z.1) = as.map Value.ref := by
        have e1 : (as.zip ks).map (fun z => Value.ref z.1) = ((as.zip ks).map Prod.fst).map Value.ref := by rw [List.map_map]; rfl
        rw [e1, List.map_fst_zip (by omega)]
      rw [e]; exact ho) (as.zip ks) rfl
    have idx : ∀ z ∈ zs, ∃ j : Nat, as[j]? = some z.1 ∧ ks[j]? = some z.2 := by
      intro z' hz'
      obtain ⟨j, hj⟩ := List.mem_iff_getElem?.mp (pz.mem_iff.mp hz')
      exact ⟨j, List.getElem?_zip_eq_some.mp hj⟩
    have hperm : (zs.map (·.2)).Perm ks := by
      have e := pz.map (·.2)
      have m2 : (as.zip ks).map (·.2) = ks := List.map_snd_zip (by rw [lak]; exact Nat.le_refl _)
      rw [m2] at e
      exact e
    have kF : ∀ b o, b ≠ h'.objs.size → h2.get? b = some o → (sortedHeap h2 h'.objs.size (as.map Value.ref) out.toArray).get? b = some o := fun b o hb e => (PyProof.Rows.sortedHeap_old hb (Heap.lt_size e)).trans e
    have kS : ∀ b o, s.heap.get? b = some o → (sortedHeap h2 h'.objs.size (as.map Value.ref) out.toArray).get? b = some o := fun b o e => kF b o (ne0 _ _ (hk b o e)) (kb b o e)
    obtain ⟨eF, heF⟩ := PyProof.Rows.sortedHeap_at (vs := as.map Value.ref) (out := out.toArray) hob
    have I1 : Inv X pins σ H { s with heap := sortedHeap h2 h'.objs.size (as.map Value.ref) out.toArray, toks := tk } := I.kept (t' := tk) kS
    have hn0 : H h'.objs.size = none := I.hok.fresh (Nat.le_of_lt hlt)
    have hlen : (zs.map fun z => V.ref z.1).length ≤ sizeLine := by
      have e := hperm.length_eq
      rw [List.length_map] at e
      rw [List.length_map, e]
      exact zz
    have rv : Vals (zs.map fun z => V.ref z.1) out := by
      rw [← ez]
      exact vals_maps (fun z : Addr × Str × V => V.ref z.1) (fun z => Value.ref z.1) zs fun _ _ => rfl
    have I2 : Inv X pins σ (upd H h'.objs.size (.lst (zs.map fun z => V.ref z.1))) { s with heap := sortedHeap h2 h'.objs.size (as.map Value.ref) out.toArray, toks := tk } :=
      I1.take (h' := sortedHeap h2 h'.objs.size (as.map Value.ref) out.toArray) (t' := tk) (fun b ob _ e => e) (I.fpOk (Nat.le_of_lt hlt) hn0) ⟨hlen, out, eF, rv, heF⟩
    obtain ⟨H2, I3, g, qt⟩ := DX.takeT (P := fun b vs => ∃ (j : Nat) (e : Str × V), as[j]? = some b ∧ ks[j]? = some e ∧ vs = [.str e.1, e.2]) I as _ I2 nd fun b hb => by
      obtain ⟨j, hj⟩ := List.mem_iff_getElem?.mp hb
      obtain ⟨e, t, u, he, ru, hg⟩ := pr j b hj
      have hne : b ≠ h'.objs.size := Nat.ne_of_lt (Heap.lt_size hg)
      have hle : s.heap.objs.size ≤ b := Nat.le_of_lt (hG.above b hb)
      refine ⟨hle, by rw [upd_ne hne]; exact I.hok.fresh hle, [.str e.1, e.2], ⟨j, e, hj, he, rfl⟩, fun H2 => ?_⟩
      exact ⟨by show 2 ≤ sizeLine; decide, [Value.str e.1 t, u], .cons ⟨t, rfl⟩ (.cons ru .nil), ⟨_, kF b _ hne (ka _ _ hg), rfl, _, rfl⟩⟩
    refine ⟨.ref h'.objs.size, H2, I3, rfl, q H2 _ zs (fun b o e => g b o ?_) hn0 hperm (g _ _ upd_same) fun z hz => ?_⟩
    · rw [upd_ne (ne_of_none e hn0)]; exact e
    · obtain ⟨j, j1, j2⟩ := idx z hz
      obtain ⟨vs', ⟨i, e, i1, i2, rfl⟩, hH⟩ := qt z.1 (List.mem_of_getElem? j1)
      have eij := nd_ix nd i1 j1
      subst eij
      rw [j2] at i2
      cases i2
      exact hH
end
end MC
set_option Elab.async false
set_option linter.all false
set_option maxRecDepth 100000
set_option maxHeartbeats 4000000
namespace MC
open PySem PySem.Spec PyProof.Rows L2
/-! ### defs that keep a promise, by their names -/
section
variable (P : Program) (w : World) (K : PySem.W.Frag) (mg : Str → Option Value) (base : Heap) (CX : CXT)
structure Cal (k : Nat) (x : Str) (ps : List Str) (sp : Sp) : Prop where
  ex : ∃ fd, FnOk P w K mg base CX k (gA K x) fd ps sp ∧ Binds K fd ps []
  g : mg x = some (.ref (gA K x))
  kp : PySem.W.keepIn K (.ref (gA K x)) = true
structure CalM (k : Nat) (C m : Str) (ps : List Str) (sp : Sp) : Prop where
  ex : ∃ fd, FnOk P w K mg base CX k (mA K C m) fd ps sp ∧ Binds K fd ps []
  m : Meth K (gA K C) m (mA K C m)
  c : Cls K (gA K C)
structure CalN (k : Nat) (C : Str) (ps : List Str) (sp : Sp) : Prop where
  ex : ∃ fd, FnOk P w K mg base CX k (mA K C "__init__") fd ps sp ∧ Binds K fd ps []
  m : Mk K (gA K C) (mA K C "__init__")
  g : mg C = some (.ref (gA K C))
end
section
variable {P : Program} {w : World} {K : PySem.W.Frag} {mg : Str → Option Value} {base : Heap} {CX : CXT} {k j : Nat} {x C m : Str} {ps : List Str} {sp sp' : Sp}
theorem Cal.mono (F : Cal P w K mg base CX k x ps sp) (h : k ≤ j) : Cal P w K mg base CX j x ps sp := by
  obtain ⟨fd, f, b⟩ := F.ex
  exact ⟨⟨fd, f.mono h, b⟩, F.g, F.kp⟩
theorem CalM.mono (F : CalM P w K mg base CX k C m ps sp) (h : k ≤ j) : CalM P w K mg base CX j C m ps sp := by
  obtain ⟨fd, f, b⟩ := F.ex
  exact ⟨⟨fd, f.mono h, b⟩, F.m, F.c⟩
theorem Cal.imp (F : Cal P w K mg base CX k x ps sp) (h : ∀ vs H Q E, sp' vs H Q E → sp vs H Q E) : Cal P w K mg base CX k x ps sp' := by
  obtain ⟨fd, f, b⟩ := F.ex
  exact ⟨⟨fd, f.imp h, b⟩, F.g, F.kp⟩
/-- from a def of the text -/
theorem Cal.of {N : List Str} {st : Stmt} (f : ∃ fd, FunD K x x (defArgs st) (defBody st) (defScope st) [] [] (He.fAd K (x, none)) fd) (g : mg x = some (.ref (gA K x))) (S : FnScope N ps (defScope st))
    (hb : ∀ (kV doc pm : Value) (an : Option Addr) (cdv ct : Value) (us : List Value), us.length = ps.length → bindArgs (PySem.W.fnOf x x (defArgs st) (defBody st) (defScope st) .none kV doc pm an cdv ct) ⟨us, []⟩ = pure (ps.zip us))
    (len : ∀ vs H Q E, sp vs H Q E → vs.length = ps.length)
    (body : ∀ (f : Addr) (cdv : Value) (A : Around) (outer : List Env) (s : Shared) (H : Hp) (vs : List V) (Q : VK) (E : XK), Room k (A.deeper (envOfC x (defScope st) s.heap.objs.size f cdv)) → sp vs H Q E →
      ∃ t, PSs (cxOf CX0 P w K mg base N x (defScope st) f cdv A outer s H E).nox (defBody st) t ∧ t { nx := fun _ H' => Q .non H', rt := Q } (start N vs) H) : Cal P w K mg base CX0 (k + 1) x ps sp := by
  obtain ⟨fd, F⟩ := f
  refine ⟨⟨fd, F.ok S len fun cdv A outer s H vs Q E hr hsp => ?_, F.bindsN hb⟩, g, F.kp⟩
  obtain ⟨t, h, q⟩ := body _ cdv A outer s H vs Q E hr hsp
  exact ⟨t, h.nox, q⟩
theorem Cal.ofX {N : List Str} {st : Stmt} (f : ∃ fd, FunD K x x (defArgs st) (defBody st) (defScope st) [] [] (He.fAd K (x, none)) fd) (g : mg x = some (.ref (gA K x))) (S : FnScope N ps (defScope st))
    (hb : ∀ (kV doc pm : Value) (an : Option Addr) (cdv ct : Value) (us : List Value), us.length = ps.length → bindArgs (PySem.W.fnOf x x (defArgs st) (defBody st) (defScope st) .none kV doc pm an cdv ct) ⟨us, []⟩ = pure (ps.zip us))
    (len : ∀ vs H Q E, sp vs H Q E → vs.length = ps.length)
    (body : ∀ (f : Addr) (cdv : Value) (A : Around) (outer : List Env) (s : Shared) (H : Hp) (vs : List V) (Q : VK) (E : XK), Room k (A.deeper (envOfC x (defScope st) s.heap.objs.size f cdv)) → sp vs H Q E →
      ∃ t, PSs (cxOf (L2.CX P w) P w K mg base N x (defScope st) f cdv A outer s H E) (defBody st) t ∧ t { nx := fun _ H' => Q .non H', rt := Q } (start N vs) H) : Cal P w K mg base (L2.CX P w) (k + 1) x ps sp := by
  obtain ⟨fd, F⟩ := f
  exact ⟨⟨fd, F.ok S len fun cdv A outer s H vs Q E hr hsp => body _ cdv A outer s H vs Q E hr hsp, F.bindsN hb⟩, g, F.kp⟩
theorem CalM.of {q : Str} {N : List Str} {st : Stmt} (f : ∃ fd, FunD K m q (defArgs st) (defBody st) (defScope st) [] [] (He.fAd K (C, some m)) fd) (hm : Meth K (gA K C) m (mA K C m)) (hc : Cls K (gA K C)) (S : FnScope N ps (defScope st))
    (hb : ∀ (kV doc pm : Value) (an : Option Addr) (cdv ct : Value) (us : List Value), us.length = ps.length → bindArgs (PySem.W.fnOf m q (defArgs st) (defBody st) (defScope st) .none kV doc pm an cdv ct) ⟨us, []⟩ = pure (ps.zip us))
    (len : ∀ vs H Q E, sp vs H Q E → vs.length = ps.length)
    (body : ∀ (f : Addr) (cdv : Value) (A : Around) (outer : List Env) (s : Shared) (H : Hp) (vs : List V) (Q : VK) (E : XK), Room k (A.deeper (envOfC q (defScope st) s.heap.objs.size f cdv)) → sp vs H Q E →
      ∃ t, PSs (cxOf CX0 P w K mg base N q (defScope st) f cdv A outer s H E).nox (defBody st) t ∧ t { nx := fun _ H' => Q .non H', rt := Q } (start N vs) H) : CalM P w K mg base CX0 (k + 1) C m ps sp := by
  obtain ⟨fd, F⟩ := f
  refine ⟨⟨fd, F.ok S len fun cdv A outer s H vs Q E hr hsp => ?_, F.bindsN hb⟩, hm, hc⟩
  obtain ⟨t, h, q⟩ := body _ cdv A outer s H vs Q E hr hsp
  exact ⟨t, h.nox, q⟩
theorem CalN.of {q : Str} {N : List Str} {st : Stmt} (f : ∃ fd, FunD K "__init__" q (defArgs st) (defBody st) (defScope st) [] [] (He.fAd K (C, some "__init__")) fd) (hm : Mk K (gA K C) (mA K C "__init__")) (g : mg C = some (.ref (gA K C))) (S : FnScope N ps (defScope st))
    (hb : ∀ (kV doc pm : Value) (an : Option Addr) (cdv ct : Value) (us : List Value), us.length = ps.length → bindArgs (PySem.W.fnOf "__init__" q (defArgs st) (defBody st) (defScope st) .none kV doc pm an cdv ct) ⟨us, []⟩ = pure (ps.zip us))
    (len : ∀ vs H Q E, sp vs H Q E → vs.length = ps.length)
    (body : ∀ (f : Addr) (cdv : Value) (A : Around) (outer : List Env) (s : Shared) (H : Hp) (vs : List V) (Q : VK) (E : XK), Room k (A.deeper (envOfC q (defScope st) s.heap.objs.size f cdv)) → sp vs H Q E →
      ∃ t, PSs (cxOf CX0 P w K mg base N q (defScope st) f cdv A outer s H E).nox (defBody st) t ∧ t { nx := fun _ H' => Q .non H', rt := Q } (start N vs) H) : CalN P w K mg base CX0 (k + 1) C ps sp := by
  obtain ⟨fd, F⟩ := f
  refine ⟨⟨fd, F.ok S len fun cdv A outer s H vs Q E hr hsp => ?_, F.bindsN hb⟩, hm, g⟩
  obtain ⟨t, h, q⟩ := body _ cdv A outer s H vs Q E hr hsp
  exact ⟨t, h.nox, q⟩
end
section
variable {X : Cx} {k j : Nat} {x C m : Str} {ps : List Str} {sp : Sp} {e o : Expr} {es : List Expr} {p pos apos : Pos} {ta te : TE} {t : TA}
theorem pc (F : Cal X.prog X.w X.K X.mg X.base CX0 k x ps sp) (hr : Room j X.A) (ha : PA X (e :: es) t) (hkj : k ≤ j := by first | decide | omega) (hg : Gl X x := by rfl) (hdb : (x == ("__debug__" : Str)) = false := by decide) (he : starEach (e :: es) X.env = (false, eval e X.env) :: starEach es X.env := by rfl)
    (hpl : (backTo pos (starEach es X.env)).any (·.1) = false := by rfl) : PE X (.Call (.Name x p) (e :: es) [] pos) (tCall sp [] E0 t) := by
  obtain ⟨fd, f, b⟩ := F.ex
  exact pe_call f (hr.mono hkj) hg F.g F.kp b .nil pass0 ha hdb he hpl
theorem pm {pl : Sem Bool} (F : CalM X.prog X.w X.K X.mg X.base CX0 k C m ps sp) (hr : Room j X.A) (he : PE X o ta) (ha : PA X (e :: es) t) (hkj : k ≤ j := by first | decide | omega)
    (hst : starEach (e :: es) X.env = (false, eval e X.env) :: starEach es X.env := by rfl) (hpl : (backTo pos (starEach es X.env)).any (·.1) = false := by rfl)
    (ht : eval (.Call (.Attribute o m apos) (e :: es) [] pos) X.env = (do
      let ov ← eval o X.env
      standAt apos.atName
      let (f, first) ← holding [ov] (getMethod ov m pl)
      callWith pos f first (backTo pos (starEach (e :: es) X.env)) (backToKw pos (keywordEach [] X.env))) := by rfl) :
    PE X (.Call (.Attribute o m apos) (e :: es) [] pos) (tMeth (gA X.K C) m sp [] E0 ta t) := by
  obtain ⟨fd, f, b⟩ := F.ex
  exact pe_meth he F.c F.m f (hr.mono hkj) b .nil pass0 ha hst hpl ht
theorem pm0 {pl : Sem Bool} (F : CalM X.prog X.w X.K X.mg X.base CX0 k C m ps sp) (hr : Room j X.A) (he : PE X o ta) (hkj : k ≤ j := by first | decide | omega)
    (ht : eval (.Call (.Attribute o m apos) [] [] pos) X.env = (do
      let ov ← eval o X.env
      standAt apos.atName
      let (f, first) ← holding [ov] (getMethod ov m pl)
      callWith pos f first (backTo pos (starEach [] X.env)) (backToKw pos (keywordEach [] X.env))) := by rfl) :
    PE X (.Call (.Attribute o m apos) [] [] pos) (tMeth (gA X.K C) m sp [] E0 ta tNil) := by
  obtain ⟨fd, f, b⟩ := F.ex
  exact pe_meth0 he F.c F.m f (hr.mono hkj) b .nil pass0 ht
theorem pn (F : CalN X.prog X.w X.K X.mg X.base CX0 k C ps sp) (hr : Room j X.A) (ha : PA X (e :: es) t) (hkj : k + 1 ≤ j := by first | decide | omega) (hg : Gl X C := by rfl) (hdb : (C == ("__debug__" : Str)) = false := by decide) (he : starEach (e :: es) X.env = (false, eval e X.env) :: starEach es X.env := by rfl)
    (hpl : (backTo pos (starEach es X.env)).any (·.1) = false := by rfl) : PE X (.Call (.Name C p) (e :: es) [] pos) (tMake (gA X.K C) sp [] E0 t) := by
  obtain ⟨fd, f, b⟩ := F.ex
  exact pe_make F.m f (hr.mono hkj) hg F.g b .nil pass0 ha hdb he hpl
/-- a constant of the module, an int -/
theorem pe_gint {i : Int} (h : ∃ t, X.mg x = some (.int i t)) (hg : Gl X x := by rfl) (hd : (x == ("__debug__" : Str)) = false := by decide) : PE X (.Name x pos) (tC (.int i)) := by
  obtain ⟨t, h⟩ := h
  exact pe_glob hg h ⟨t, rfl⟩ hd
theorem pe_gref {a : Addr} (h : X.mg x = some (.ref a)) (hg : Gl X x := by rfl) (hd : (x == ("__debug__" : Str)) = false := by decide) : PE X (.Name x pos) (tC (.ref a)) := pe_glob hg h rfl hd
/-! ### tuple(reversed(a list)) -/
theorem vals_reverse : ∀ {xs : List V} {us : List Value}, Vals xs us → Vals xs.reverse us.reverse
  | _, _, .nil => .nil
  | _, _, .cons r t => by
    rw [List.reverse_cons, List.reverse_cons]
    exact (vals_reverse t).append (.cons r .nil)
def tRevT (K : PySem.W.Frag) (te : TE) : TE := fun σ H Q => te σ H fun x H1 => ∃ l xs, x = .ref l ∧ SqL K H1 l xs ∧ ∀ p, H1 p = none → Q (.ref p) (upd H1 p (.tup xs.reverse))
theorem pe_tupRev {p2 pos2 : Pos} (hc : X.calm = true) (hg : Gl X "tuple") (hm : X.mg "tuple" = none) (hg2 : Gl X "reversed") (hm2 : X.mg "reversed" = none) (he : PE X e te)
    (na : starEach [Expr.Call (.Name "reversed" p2) [e] [] pos2] X.env = (false, eval (Expr.Call (.Name "reversed" p2) [e] [] pos2) X.env) :: starEach [] X.env := by rfl) (nb : starEach [e] X.env = (false, eval e X.env) :: starEach [] X.env := by rfl) :
    PE X (.Call (.Name "tuple" p) [.Call (.Name "reversed" p2) [e] [] pos2] [] pos) (tRevT X.K te) := by
  refine ⟨fun pins s σ H Q I h => ?_⟩
  refine Call_ (ld_blt I hg hm boot_tuple (PyProof.Rows.callWith_type1 (args_cons (E := X.xe) (Q := fun us s' => wpAny (model X.prog X.w) X.A (call (.type "tuple") us) (EP X pins σ Q) X.xe s') ?_ na) na))
  refine Call_ (ld_blt I hg2 hm2 PyProof.Rows.boot_reversed (PyProof.Rows.callWith_type1 (args_cons (thn (he.run pins s σ H _ I h) fun u s1 ⟨x, H1, I1, rx, l, xs, ex, hq, q⟩ => args_nil ?_) nb) nb))
  subst ex
  cases rx
  obtain ⟨its, rv, pl, hz⟩ := I1.list hq
  have hll : l < s1.heap.objs.size := by obtain ⟨_, _, e, _⟩ := pl; exact Heap.lt_size e
  refine PySem.call_reversed_list pl.isList ?_
  refine args_nil ?_
  have I2 : Inv X pins σ H1 { s1 with heap := s1.heap.push (revObj l ((its.toArray.size : Int) - 1)) } := I1.kept (t' := s1.toks) fun b o e => Heap.get?_push_of_some _ e
  have hL2 : (s1.heap.push (revObj l ((its.toArray.size : Int) - 1))).IsList l its.toArray := by
    obtain ⟨o, e, c⟩ := pl.isList
    exact ⟨o, Heap.get?_push_of_some _ e, c⟩
  refine RT.call_tuple_rev (it := s1.heap.objs.size) (l := l) (items := its.toArray) (I2.ok.hd hc) ⟨_, Heap.get?_push_size _ rfl, rfl, rfl⟩ hL2 (Nat.ne_of_lt hll) (by rw [List.size_toArray, ← rv.length]; exact hz) fun h' tk acc hk hacc => ?_
  obtain ⟨f0, f1, f2, f3, f4, f5⟩ := I1.fpOk (H' := H1) (b := s1.heap.objs.size) (Nat.le_refl _) (I1.hok.fresh (Nat.le_refl _))
  have I3 : Inv X pins σ H1 { s1 with heap := h', toks := tk } := I2.turned (t' := tk) (fun b o hb e => hk b o hb e) f0 f1 f3 f4 f5
  have ea : acc.toList = its.reverse := by
    apply List.ext_getElem?
    intro j
    have hsz : acc.size = its.length := by rw [hacc.1]; simp
    by_cases hj : j < its.length
    · have h1 := hacc.2 j acc[j] (by rw [Array.getElem?_eq_getElem])
      rw [List.getElem?_reverse hj]
      rw [Array.getElem?_toList, Array.getElem?_eq_getElem (by omega), ← h1]
      simp
    · rw [List.getElem?_eq_none (by simp; omega), List.getElem?_eq_none (by simp; omega)]
  have hle : xs.reverse.length ≤ sizeLine := by rw [List.length_reverse]; exact hz
  have rv2 : Vals xs.reverse acc.toList := by
    rw [ea]
    exact vals_reverse rv
  refine ⟨.ref h'.objs.size, upd H1 h'.objs.size (.tup xs.reverse), I3.laid (t' := tk) (fun b o e => Heap.get?_push_of_some _ e) (Nat.le_refl _) ⟨hle, acc.toList, rv2, ?_⟩, rfl, q _ (I3.hok.fresh (Nat.le_refl _))⟩
  have e2 : acc.toList.toArray = acc := by simp
  rw [e2]
  exact IsTup.new _ _
end
/-! ### the rules that name the kit, with the kit told (for the blocks of comprehensions) -/
section
variable {X : Cx} (K : PySem.W.Frag)
theorem ix_tupK (h : X.K = K := by rfl) : IxR X (rIxT K) := by subst h; exact ix_tup
theorem ix_listK (h : X.K = K := by rfl) : IxR X (rIxL K) := by subst h; exact ix_list
theorem sl_tupAK (h : X.K = K := by rfl) : SlR X (rSlA K) := by subst h; exact sl_tupA
theorem sl_listK (h : X.K = K := by rfl) : SlR X (rSlL K) := by subst h; exact sl_list
theorem op_inK (h : X.K = K := by rfl) : OpR X (compareOp .In) (rIn K false) := by subst h; exact op_in_seq
theorem op_notInK (h : X.K = K := by rfl) : OpR X (compareOp .NotIn) (rIn K true) := by subst h; exact op_notIn_seq
theorem call_lenK (h : X.K = K := by rfl) : CallR X (.builtin "len") (fun xs H Q => ∃ p ys, xs = [.ref p] ∧ (SqL K H p ys ∨ SqT K H p ys) ∧ Q (.int ys.length) H) := by subst h; exact call_len_seq
theorem call_tupleK (h : X.K = K := by rfl) : CallR X (.type "tuple") (fun xs H Q => ∃ p ys, xs = [.ref p] ∧ ((SqL K H p ys ∧ ∀ l, H l = none → Q (.ref l) (upd H l (.tup ys))) ∨ (SqT K H p ys ∧ Q (.ref p) H))) := by subst h; exact call_tuple_of
theorem pg_tupK {es : List Expr} {t : TGs} {k : Nat} {pos : Pos} (n : Nat) (hc : X.calm = true) (h : PGs X es t) (hK : X.K = K := by rfl) (hn : (assignEach es X.env).length = n := by rfl) (hst : (assignEach es X.env).findIdx? (·.1) = none := by rfl) : PG X (.Tuple es k pos) (gTup K n t) := by
  subst hK
  exact pg_tup hc h hn hst
end
end MC
set_option Elab.async false
set_option linter.all false
set_option maxRecDepth 100000
set_option maxHeartbeats 4000000
namespace MC
open PySem PySem.Spec PyProof.Rows L2
/-! ### promises by the number of arguments -/
def Sp1 (f : V → Hp → VK → XK → Prop) : Sp := fun vs H Q E => ∃ a, vs = [a] ∧ f a H Q E
def Sp2 (f : V → V → Hp → VK → XK → Prop) : Sp := fun vs H Q E => ∃ a b, vs = [a, b] ∧ f a b H Q E
def Sp3 (f : V → V → V → Hp → VK → XK → Prop) : Sp := fun vs H Q E => ∃ a b c, vs = [a, b, c] ∧ f a b c H Q E
def Sp4 (f : V → V → V → V → Hp → VK → XK → Prop) : Sp := fun vs H Q E => ∃ a b c d, vs = [a, b, c, d] ∧ f a b c d H Q E
def Sp5 (f : V → V → V → V → V → Hp → VK → XK → Prop) : Sp := fun vs H Q E => ∃ a b c d e, vs = [a, b, c, d, e] ∧ f a b c d e H Q E
theorem itT {c A B : Prop} [Decidable c] (hc : c) (h : A) : if c then A else B := by
  rw [if_pos hc]
  exact h
theorem itF {c A B : Prop} [Decidable c] (hc : ¬ c) (h : B) : if c then A else B := by
  rw [if_neg hc]
  exact h
theorem bF {b : Bool} (h : b = false) : ¬ b = true := by rw [h]; exact Bool.false_ne_true
theorem dT {c : Prop} [Decidable c] (h : c) : decide c = true := decide_eq_true h
theorem dF {c : Prop} [Decidable c] (h : ¬ c) : ¬ decide c = true := by rw [decide_eq_false h]; exact Bool.false_ne_true
/-! ### a while, by an invariant and a measure -/
theorem while_go {c : TT} {tb : TS} {D : Ends} {σ : L2.St} {H : Hp} (Pv : L2.St → Hp → Prop) (μ : L2.St → Hp → Nat) (h0 : Pv σ H)
    (hs : ∀ σ H, Pv σ H → c σ H fun b H1 => if b = true then ∃ N : L2.St → Hp → Prop, (∀ σ' H', N σ' H' → Pv σ' H' ∧ μ σ' H' < μ σ H) ∧ tb { D with nx := N, ct := N, bk := D.nx } σ H1 else D.nx σ H1) (hm : ∀ σ H Q Q', (∀ b H1, Q b H1 → Q' b H1) → c σ H Q → c σ H Q') : tWhile c tb D σ H := by
  refine ⟨fun m σ H => m = μ σ H ∧ Pv σ H, ⟨_, rfl, h0⟩, ?_⟩
  rintro m σ H ⟨rfl, p⟩
  refine hm σ H _ _ (fun b H1 q => ?_) (hs σ H p)
  cases b with
  | true =>
    obtain ⟨N, hN, q⟩ := q
    exact ⟨N, fun σ' H' n => ⟨_, (hN σ' H' n).2, rfl, (hN σ' H' n).1⟩, q⟩
  | false => exact q
/-! ### fractions -/
abbrev Frac := Int × Int
def fpart (a b : Int) : Frac := (a / (Int.gcd a b : Int), b / (Int.gcd a b : Int))
def ftimes (x y : Frac) : Frac := fpart (x.1 * y.1) (x.2 * y.2)
def fplus (x y : Frac) : Frac := fpart (x.1 * y.2 + y.1 * x.2) (x.2 * y.2)
/-- top and bottom below 2 ^ n, the bottom above nought -/
def FB (n : Nat) (f : Frac) : Prop := f.1.natAbs < 2 ^ n ∧ 0 < f.2 ∧ f.2.natAbs < 2 ^ n
theorem pow_le2 {m n : Nat} (h : m ≤ n) : 2 ^ m ≤ 2 ^ n := Nat.pow_le_pow_right (by decide) h
theorem FB.mono {m n : Nat} {f : Frac} (h : FB m f) (l : m ≤ n) : FB n f := ⟨Nat.lt_of_lt_of_le h.1 (pow_le2 l), h.2.1, Nat.lt_of_lt_of_le h.2.2 (pow_le2 l)⟩
theorem gcd_step {x y : Int} (hx : 0 ≤ x) (hy : 0 ≤ y) : Int.gcd y (x % y) = Int.gcd x y := by
  obtain ⟨a, rfl⟩ := Int.eq_ofNat_of_zero_le hx
  obtain ⟨b, rfl⟩ := Int.eq_ofNat_of_zero_le hy
  show Nat.gcd (b : Int).natAbs ((a : Int) % (b : Int)).natAbs = Nat.gcd (a : Int).natAbs (b : Int).natAbs
  rw [← Int.natCast_emod, Int.natAbs_natCast, Int.natAbs_natCast, Int.natAbs_natCast, Nat.gcd_comm a b, Nat.gcd_rec b a, Nat.gcd_comm]
theorem gcd_pos {a b : Int} (hb : 0 < b) : 0 < (Int.gcd a b : Int) := by
  have h : Int.gcd a b ≠ 0 := fun e => by
    have := Int.gcd_eq_zero_iff.mp e
    omega
  omega
theorem fdiv_abs {a g : Int} (hg : 0 < g) : (a / g).natAbs ≤ a.natAbs := by
  have h1 : a / g ≤ a.natAbs := by
    by_cases h : 0 ≤ a
    · have := Int.ediv_le_self g h
      omega
    · have : a / g ≤ 0 := Int.ediv_nonpos_of_nonpos_of_neg (by omega) (by omega)
      omega
  have h2 : -(a.natAbs : Int) ≤ a / g := by
    rw [Int.le_ediv_iff_mul_le hg]
    have h3 : (1 : Int) ≤ g := hg
    have h4 : (a.natAbs : Int) * 1 ≤ (a.natAbs : Int) * g := Int.mul_le_mul_of_nonneg_left h3 (Int.natCast_nonneg _)
    rw [Int.neg_mul]
    omega
  omega
theorem fpart_FB {a b : Int} {n : Nat} (ha : a.natAbs < 2 ^ n) (hb : 0 < b) (hn : b.natAbs < 2 ^ n) : FB n (fpart a b) := by
  have g0 := gcd_pos (a := a) hb
  refine ⟨Nat.lt_of_le_of_lt (fdiv_abs g0) ha, ?_, Nat.lt_of_le_of_lt (fdiv_abs g0) hn⟩
  have hd : (Int.gcd a b : Int) ∣ b := Int.gcd_dvd_right ..
  obtain ⟨c, hc⟩ := hd
  show 0 < b / (Int.gcd a b : Int)
  have e : b / (Int.gcd a b : Int) = c := by
    apply Int.ediv_eq_of_eq_mul_right (by omega) hc
  rw [e]
  have : 0 < (Int.gcd a b : Int) * c := by rw [← hc]; exact hb
  exact Int.pos_of_mul_pos_right this (by omega) |> fun h => h
theorem mul_abs {x y : Int} {m n : Nat} (hx : x.natAbs < 2 ^ m) (hy : y.natAbs < 2 ^ n) : (x * y).natAbs < 2 ^ (m + n) := wide_lt hx hy
theorem add_abs {x y : Int} {m : Nat} (hx : x.natAbs < 2 ^ m) (hy : y.natAbs < 2 ^ m) : (x + y).natAbs < 2 ^ (m + 1) := by
  rw [Nat.pow_succ]
  omega
theorem ftimes_FB {x y : Frac} {m n : Nat} (hx : FB m x) (hy : FB n y) : FB (m + n) (ftimes x y) :=
  fpart_FB (mul_abs hx.1 hy.1) (Int.mul_pos hx.2.1 hy.2.1) (mul_abs hx.2.2 hy.2.2)
theorem fplus_FB {x y : Frac} {m n : Nat} (hx : FB m x) (hy : FB n y) : FB (m + n + 1) (fplus x y) := by
  refine fpart_FB (add_abs (mul_abs hx.1 hy.2.2) ?_) (Int.mul_pos hx.2.1 hy.2.1) (Nat.lt_of_lt_of_le (mul_abs hx.2.2 hy.2.2) (pow_le2 (Nat.le_succ _)))
  rw [Nat.add_comm m n]
  exact mul_abs hy.1 hx.2.2
/-- a fraction at a in H -/
def fV (f : Frac) : List V := [.int f.1, .int f.2]
def FAt (H : Hp) (v : V) (f : Frac) : Prop := ∃ a, v = .ref a ∧ H a = some (.tup (fV f))
section
variable {P : Program} {w : World} {K : PySem.W.Frag} {mg : Str → Option Value} {base : Heap}
def spDivisor : Sp := Sp2 fun a b H Q _ => ∃ i j : Int, a = .int i ∧ b = .int j ∧ 0 < j ∧ Q (.int (Int.gcd i j)) H
/- slots of divisor: 0 one, 1 other -/
theorem sc_divisor : FnScope ["one", "other"] ["one", "other"] (defScope s_divisor) := ⟨rfl, rfl, rfl, by decide +kernel, rfl, by decide +kernel, by decide +kernel⟩
theorem cal_divisor (T : Tx w K mg) : Cal P w K mg base CX0 (1) "divisor" ["one", "other"] spDivisor := by
  refine Cal.of T.f_divisor T.g_divisor sc_divisor (fun _ _ _ _ _ _ us hl => match us, hl with | [_, _], _ => rfl) (fun vs H Q E h => by obtain ⟨x0, x1, rfl, _⟩ := h; rfl) (fun f cdv A outer s H vs Q E hr h => ?_)
  obtain ⟨v0, v1, rfl, h⟩ := h
  refine ⟨_, (pss_cons (ps_par (i := 0) (j := 1) (by rfl) sc_divisor.nd rfl rfl (by decide) rfl rfl (pa_cons (pe_callB call_abs (by rfl) T.b_abs (by decide +kernel) (pa_cons (pv 0) pa_nil)) (pa_cons (pe_callB call_abs (by rfl) T.b_abs (by decide +kernel) (pa_cons (pv 1) pa_nil)) pa_nil)) (by rfl))
    (pss_cons (ps_while PassesOwn.never (pt_cmpR op_gt (pv 1) pe_int (nomark _)) (pss_one (ps_par (i := 0) (j := 1) (by rfl) sc_divisor.nd rfl rfl (by decide) rfl rfl (pa_cons (pv 1) (pa_cons (pe_op op_mod (pv 0) (pv 1)) pa_nil)) (by rfl))))
    (pss_one (ps_ret (pv 0))))), ?_⟩
  obtain ⟨i, j, rfl, rfl, hj, k⟩ := h
  refine ⟨_, rfl, _, rfl, _, rfl, _, rfl, _, _, rfl, ?_⟩
  refine while_go (fun σ H' => H' = H ∧ ∃ x y : Int, σ = [some (.int x), some (.int y)] ∧ 0 ≤ x ∧ 0 ≤ y ∧ Int.gcd x y = Int.gcd i j) (fun σ _ => match σ with
    | [_, some (.int y)] => y.toNat
    | _ => 0) ⟨rfl, _, _, rfl, ?_, ?_, ?_⟩ ?_ ?_
  · split <;> omega
  · split <;> omega
  · have e1 : ∀ z : Int, (if z < 0 then -z else z) = z.natAbs := fun z => by split <;> omega
    rw [e1, e1]
    simp [Int.gcd]
  · rintro σ H' ⟨rfl, x, y, rfl, hx, hy, hg⟩
    refine ⟨_, rfl, _, _, rfl, rfl, _, rfl, ?_⟩
    by_cases c : 0 < y
    · refine itT (dT c) ?_
      refine ⟨_, fun σ' H' n => n, _, rfl, _, rfl, _, rfl, _, _, rfl, rfl, c, _, _, rfl, ?_⟩
      refine ⟨⟨rfl, y, x % y, rfl, by omega, Int.emod_nonneg _ (by omega), ?_⟩, ?_⟩
      · rw [← hg]; exact gcd_step hx hy
      · show (x % y).toNat < y.toNat
        have := Int.emod_lt_of_pos x c
        have := Int.emod_nonneg x (show y ≠ 0 by omega)
        omega
    · refine itF (dF c) ?_
      have e : y = 0 := by omega
      subst e
      refine ⟨_, rfl, ?_⟩
      have e2 : x = (Int.gcd i j : Int) := by
        rw [← hg, Int.gcd_zero_right]
        omega
      rw [e2]
      exact k
  · intro σ H Q Q' hq h
    obtain ⟨v, e, i, j, e1, e2, b, e3, q⟩ := h
    exact ⟨v, e, i, j, e1, e2, b, e3, hq _ _ q⟩
def spPart : Sp := Sp2 fun a b H Q _ => ∃ (i j : Int) (n : Nat), a = .int i ∧ b = .int j ∧ 0 < j ∧ i.natAbs < 2 ^ n ∧ j.natAbs < 2 ^ n ∧ 0 < n ∧ n ≤ 9000 ∧
  ∀ p, H p = none → Q (.ref p) (upd H p (.tup (fV (fpart i j))))
/- slots of part: 0 top, 1 bottom, 2 by -/
theorem sc_part : FnScope ["top", "bottom", "by"] ["top", "bottom"] (defScope s_part) := ⟨rfl, rfl, rfl, by decide +kernel, rfl, by decide +kernel, by decide +kernel⟩
theorem cal_part (T : Tx w K mg) : Cal P w K mg base CX0 (2) "part" ["top", "bottom"] spPart := by
  refine Cal.of T.f_part T.g_part sc_part (fun _ _ _ _ _ _ us hl => match us, hl with | [_, _], _ => rfl) (fun vs H Q E h => by obtain ⟨x0, x1, rfl, _⟩ := h; rfl) (fun f cdv A outer s H vs Q E hr h => ?_)
  obtain ⟨v0, v1, rfl, h⟩ := h
  refine ⟨_, (pss_cons (ps_if (pt_cmpR op_lt (pv 1) pe_int (nomark _)) (pss_one (ps_par (i := 0) (j := 1) (by rfl) sc_part.nd rfl rfl (by decide) rfl rfl (pa_cons (pe_un un_neg (pv 0)) (pa_cons (pe_un un_neg (pv 1)) pa_nil)) (by rfl))) pss_nil)
    (pss_cons (ps_set (i := 2) sc_part.nd rfl (Or.inl rfl) (pc (cal_divisor T) hr (pa_cons (pv 0) (pa_cons (pv 1) pa_nil))))
    (pss_one (ps_ret (pe_tup (pa_cons (pe_op op_fdivW (pv 0) (pv 2)) (pa_cons (pe_op op_fdivW (pv 1) (pv 2)) pa_nil))))))), ?_⟩
  obtain ⟨i, j, n, rfl, rfl, hj, hi, hjn, n0, n9, k⟩ := h
  refine ⟨_, rfl, _, _, rfl, rfl, _, rfl, itF (dF (by omega)) ?_⟩
  refine ⟨_, rfl, _, rfl, _, _, rfl, i, j, rfl, rfl, hj, ?_⟩
  have g0 := gcd_pos (a := i) hj
  have gn : ((Int.gcd i j : Nat) : Int).natAbs < 2 ^ n := by
    have : Int.gcd i j ≤ j.natAbs := Nat.le_of_dvd (by omega) (Nat.gcd_dvd_right ..)
    omega
  have cd : ∀ z, CDivW z ((Int.gcd i j : Nat) : Int) := fun z => wide_div g0 gn n0 n9
  refine ⟨_, rfl, _, rfl, _, _, rfl, rfl, cd _, _, rfl, _, rfl, _, _, rfl, rfl, cd _, (by show 2 ≤ sizeLine; decide), fun p hp => ?_⟩
  exact k p hp
/-- a binary operation on fractions, the result new -/
def spFrac (g : Frac → Frac → Frac) (B : Nat → Nat → Nat) : Sp := Sp2 fun a b H Q _ => ∃ (x y : Frac) (m n : Nat), FAt H a x ∧ FAt H b y ∧ FB m x ∧ FB n y ∧ 0 < m ∧ 0 < n ∧ B m n ≤ 9000 ∧
  (FB (B m n) (g x y) → ∀ p, H p = none → Q (.ref p) (upd H p (.tup (fV (g x y)))))
theorem ix0 {a b : V} : atI [a, b] 0 = some a := atI_nat (j := 0) rfl
theorem ix1 {a b : V} : atI [a, b] 1 = some b := atI_nat (j := 1) rfl
/- slots of times: 0 one, 1 other -/
theorem sc_times : FnScope ["one", "other"] ["one", "other"] (defScope s_times) := ⟨rfl, rfl, rfl, by decide +kernel, rfl, by decide +kernel, by decide +kernel⟩
theorem cal_times (T : Tx w K mg) : Cal P w K mg base CX0 (3) "times" ["one", "other"] (spFrac ftimes (fun m n => m + n)) := by
  refine Cal.of T.f_times T.g_times sc_times (fun _ _ _ _ _ _ us hl => match us, hl with | [_, _], _ => rfl) (fun vs H Q E h => by obtain ⟨x0, x1, rfl, _⟩ := h; rfl) (fun f cdv A outer s H vs Q E hr h => ?_)
  obtain ⟨v0, v1, rfl, h⟩ := h
  refine ⟨_, (pss_one (ps_ret (pc (cal_part T) hr (pa_cons (pe_op op_mulW (pe_ix ix_tup (pv 0) pe_int (fun _ _ => rfl)) (pe_ix ix_tup (pv 1) pe_int (fun _ _ => rfl))) (pa_cons (pe_op op_mulW (pe_ix ix_tup (pv 0) pe_int (fun _ _ => rfl)) (pe_ix ix_tup (pv 1) pe_int (fun _ _ => rfl))) pa_nil))))), ?_⟩
  obtain ⟨x, y, m, n, ⟨a, rfl, ha⟩, ⟨b, rfl, hb⟩, hx, hy, hm, hn, h9, k⟩ := h
  have h9' : m + n ≤ 9000 := h9
  refine ⟨_, rfl, a, _, _, _, rfl, rfl, SqT.of ha, ix0, _, rfl, b, _, _, _, rfl, rfl, SqT.of hb, ix0, _, _, rfl, rfl, wide_mul hx.1 hy.1 hm hn (by omega), ?_⟩
  refine ⟨_, rfl, a, _, _, _, rfl, rfl, SqT.of ha, ix1, _, rfl, b, _, _, _, rfl, rfl, SqT.of hb, ix1, _, _, rfl, rfl, wide_mul hx.2.2 hy.2.2 hm hn (by omega), ?_⟩
  refine ⟨_, _, rfl, _, _, m + n, rfl, rfl, Int.mul_pos hx.2.1 hy.2.1, mul_abs hx.1 hy.1, mul_abs hx.2.2 hy.2.2, by omega, h9, fun p hp => ?_⟩
  exact k (ftimes_FB hx hy) p hp
/- slots of plus: 0 one, 1 other -/
theorem sc_plus : FnScope ["one", "other"] ["one", "other"] (defScope s_plus) := ⟨rfl, rfl, rfl, by decide +kernel, rfl, by decide +kernel, by decide +kernel⟩
theorem cal_plus (T : Tx w K mg) : Cal P w K mg base CX0 (3) "plus" ["one", "other"] (spFrac fplus (fun m n => m + n + 1)) := by
  refine Cal.of T.f_plus T.g_plus sc_plus (fun _ _ _ _ _ _ us hl => match us, hl with | [_, _], _ => rfl) (fun vs H Q E h => by obtain ⟨x0, x1, rfl, _⟩ := h; rfl) (fun f cdv A outer s H vs Q E hr h => ?_)
  obtain ⟨v0, v1, rfl, h⟩ := h
  refine ⟨_, (pss_one (ps_ret (pc (cal_part T) hr (pa_cons (pe_op op_add (pe_op op_mulW (pe_ix ix_tup (pv 0) pe_int (fun _ _ => rfl)) (pe_ix ix_tup (pv 1) pe_int (fun _ _ => rfl))) (pe_op op_mulW (pe_ix ix_tup (pv 1) pe_int (fun _ _ => rfl)) (pe_ix ix_tup (pv 0) pe_int (fun _ _ => rfl)))) (pa_cons (pe_op op_mulW (pe_ix ix_tup (pv 0) pe_int (fun _ _ => rfl)) (pe_ix ix_tup (pv 1) pe_int (fun _ _ => rfl))) pa_nil))))), ?_⟩
  obtain ⟨x, y, m, n, ⟨a, rfl, ha⟩, ⟨b, rfl, hb⟩, hx, hy, hm, hn, h9, k⟩ := h
  have h9' : m + n + 1 ≤ 9000 := h9
  refine ⟨_, rfl, a, _, _, _, rfl, rfl, SqT.of ha, ix0, _, rfl, b, _, _, _, rfl, rfl, SqT.of hb, ix1, _, _, rfl, rfl, wide_mul hx.1 hy.2.2 hm hn (by omega), ?_⟩
  refine ⟨_, rfl, b, _, _, _, rfl, rfl, SqT.of hb, ix0, _, rfl, a, _, _, _, rfl, rfl, SqT.of ha, ix1, _, _, rfl, rfl, wide_mul hy.1 hx.2.2 hn hm (by omega), ?_⟩
  refine ⟨_, _, rfl, rfl, ?_⟩
  refine ⟨_, rfl, a, _, _, _, rfl, rfl, SqT.of ha, ix1, _, rfl, b, _, _, _, rfl, rfl, SqT.of hb, ix1, _, _, rfl, rfl, wide_mul hx.2.2 hy.2.2 hm hn (by omega), ?_⟩
  have hA : (x.1 * y.2 + y.1 * x.2).natAbs < 2 ^ (m + n + 1) := add_abs (mul_abs hx.1 hy.2.2) (by rw [Nat.add_comm m n]; exact mul_abs hy.1 hx.2.2)
  refine ⟨_, _, rfl, _, _, m + n + 1, rfl, rfl, Int.mul_pos hx.2.1 hy.2.1, hA, Nat.lt_of_lt_of_le (mul_abs hx.2.2 hy.2.2) (pow_le2 (Nat.le_succ _)), by omega, h9, fun p hp => ?_⟩
  exact k (fplus_FB hx hy) p hp
end
end MC
set_option Elab.async false
set_option linter.all false
set_option maxRecDepth 100000
set_option maxHeartbeats 4000000
namespace MC
open PySem PySem.Spec PyProof.Rows L2
/-! ### data of tuples, as it stands in the heap -/
mutual
inductive Rp (H : Hp) : V → PyData → Prop
  | non : Rp H .non .none
  | bl (b : Bool) : Rp H (.bl b) (.bool b)
  | int (i : Int) : Rp H (.int i) (.int i)
  | str (x : Str) : Rp H (.str x) (.str x)
  | tup {a : Addr} {vs : List V} {ds : List PyData} : H a = some (.tup vs) → RpA H vs ds → Rp H (.ref a) (.tuple ds)
inductive RpA (H : Hp) : List V → List PyData → Prop
  | nil : RpA H [] []
  | cons {v : V} {vs : List V} {d : PyData} {ds : List PyData} : Rp H v d → RpA H vs ds → RpA H (v :: vs) (d :: ds)
end
/-- the tuples stay -/
def Tk (H H' : Hp) : Prop := ∀ b xs, H b = some (.tup xs) → H' b = some (.tup xs)
theorem Tk.refl (H : Hp) : Tk H H := fun _ _ h => h
theorem Tk.trans {H H1 H2 : Hp} (a : Tk H H1) (b : Tk H1 H2) : Tk H H2 := fun c o h => b c o (a c o h)
end MC
namespace L2
open PySem PySem.Spec PyProof.Rows
theorem Same.tk {H H' : Hp} (s : Same H H') : MC.Tk H H' := fun b xs h => s b _ h
theorem Same.on {H H' : Hp} (s : Same H H') {a : Addr} {o : HO} (h : H a = some o) : H' a = some o := s a o h
end L2
namespace MC
open PySem PySem.Spec PyProof.Rows L2
mutual
theorem Rp.mono {H H' : Hp} (t : Tk H H') : ∀ {v : V} {d : PyData}, Rp H v d → Rp H' v d
  | _, _, .non => .non
  | _, _, .bl b => .bl b
  | _, _, .int i => .int i
  | _, _, .str x => .str x
  | _, _, .tup h r => .tup (t _ _ h) (RpA.mono t r)
theorem RpA.mono {H H' : Hp} (t : Tk H H') : ∀ {vs : List V} {ds : List PyData}, RpA H vs ds → RpA H' vs ds
  | _, _, .nil => .nil
  | _, _, .cons h r => .cons (Rp.mono t h) (RpA.mono t r)
end
mutual
theorem Rp.dp {K : PySem.W.Frag} {H : Hp} : ∀ {v : V} {d : PyData}, Rp H v d → Dp K H v d
  | _, _, .non => .non
  | _, _, .bl b => .bl b
  | _, _, .int i => .int i
  | _, _, .str x => .str x
  | _, _, .tup h r => .tup (SqT.of h) (RpA.dp r)
theorem RpA.dp {K : PySem.W.Frag} {H : Hp} : ∀ {vs : List V} {ds : List PyData}, RpA H vs ds → DpAll K H vs ds
  | _, _, .nil => .nil
  | _, _, .cons h r => .cons (Rp.dp h) (RpA.dp r)
end
section
variable {H : Hp} {v : V} {vs : List V} {d : PyData} {ds : List PyData}
theorem Rp.tup_inv (h : Rp H v (.tuple ds)) : ∃ a vs, v = .ref a ∧ H a = some (.tup vs) ∧ RpA H vs ds := by
  cases h with
  | tup h r => exact ⟨_, _, rfl, h, r⟩
theorem Rp.int_inv {i : Int} (h : Rp H v (.int i)) : v = .int i := by cases h; rfl
theorem Rp.str_inv {s : Str} (h : Rp H v (.str s)) : v = .str s := by cases h; rfl
theorem Rp.bl_inv {b : Bool} (h : Rp H v (.bool b)) : v = .bl b := by cases h; rfl
theorem Rp.non_inv (h : Rp H v .none) : v = .non := by cases h; rfl
theorem RpA.nil_inv (h : RpA H vs []) : vs = [] := by cases h; rfl
theorem RpA.cons_inv (h : RpA H vs (d :: ds)) : ∃ v r, vs = v :: r ∧ Rp H v d ∧ RpA H r ds := by
  cases h with
  | cons h r => exact ⟨_, _, rfl, h, r⟩
theorem RpA.len : ∀ {vs : List V} {ds : List PyData}, RpA H vs ds → vs.length = ds.length
  | _, _, .nil => rfl
  | _, _, .cons _ r => congrArg Nat.succ (RpA.len r)
theorem RpA.get : ∀ {vs : List V} {ds : List PyData} {i : Nat} {v : V}, RpA H vs ds → vs[i]? = some v → ∃ d, ds[i]? = some d ∧ Rp H v d
  | _, _, _, _, .nil, e => by simp at e
  | _, _, 0, _, .cons h _, e => by simp at e; subst e; exact ⟨_, rfl, h⟩
  | _, _, i + 1, v, .cons _ r, e => by
    obtain ⟨d, h1, h2⟩ := RpA.get (i := i) (v := v) r (by simpa using e)
    exact ⟨d, by simpa using h1, h2⟩
theorem RpA.getD : ∀ {vs : List V} {ds : List PyData} {i : Nat} {d : PyData}, RpA H vs ds → ds[i]? = some d → ∃ v, vs[i]? = some v ∧ Rp H v d
  | _, _, _, _, .nil, e => by simp at e
  | _, _, 0, _, .cons h _, e => by simp at e; subst e; exact ⟨_, rfl, h⟩
  | _, _, i + 1, d, .cons _ r, e => by
    obtain ⟨v, h1, h2⟩ := RpA.getD (i := i) (d := d) r (by simpa using e)
    exact ⟨v, by simpa using h1, h2⟩
theorem RpA.app : ∀ {vs us : List V} {ds es : List PyData}, RpA H vs ds → RpA H us es → RpA H (vs ++ us) (ds ++ es)
  | _, _, _, _, .nil, s => s
  | _, _, _, _, .cons h r, s => .cons h (RpA.app r s)
theorem RpA.take : ∀ {vs : List V} {ds : List PyData} (n : Nat), RpA H vs ds → RpA H (vs.take n) (ds.take n)
  | _, _, 0, _ => .nil
  | _, _, _ + 1, .nil => .nil
  | _, _, n + 1, .cons h r => .cons h (RpA.take n r)
theorem RpA.drop : ∀ {vs : List V} {ds : List PyData} (n : Nat), RpA H vs ds → RpA H (vs.drop n) (ds.drop n)
  | _, _, 0, r => r
  | _, _, _ + 1, .nil => .nil
  | _, _, n + 1, .cons _ r => RpA.drop n r
theorem RpA.snoc (r : RpA H vs ds) (h : Rp H v d) : RpA H (vs ++ [v]) (ds ++ [d]) := r.app (.cons h .nil)
end
/-! ### fractions, ints -/
def fD (f : Frac) : PyData := .tuple [.int f.1, .int f.2]
def iD (ns : List Int) : PyData := .tuple (ns.map .int)
theorem FAt.rp {H : Hp} {v : V} {f : Frac} (h : FAt H v f) : Rp H v (fD f) := by
  obtain ⟨a, rfl, h⟩ := h
  exact .tup h (.cons (.int _) (.cons (.int _) .nil))
theorem Rp.fat {H : Hp} {v : V} {f : Frac} (h : Rp H v (fD f)) : FAt H v f := by
  obtain ⟨a, vs, rfl, h1, r⟩ := h.tup_inv
  obtain ⟨v1, r1, rfl, e1, r⟩ := r.cons_inv
  obtain ⟨v2, r2, rfl, e2, r⟩ := r.cons_inv
  cases r.nil_inv
  cases e1.int_inv
  cases e2.int_inv
  exact ⟨a, rfl, h1⟩
theorem FAt.mono {H H' : Hp} {v : V} {f : Frac} (t : Tk H H') (h : FAt H v f) : FAt H' v f := by
  obtain ⟨a, e, h⟩ := h
  exact ⟨a, e, t _ _ h⟩
theorem rpa_ints {H : Hp} : ∀ ns : List Int, RpA H (ns.map V.int) (ns.map PyData.int)
  | [] => .nil
  | n :: r => .cons (.int n) (rpa_ints r)
theorem rpa_ints_inv {H : Hp} : ∀ (ns : List Int) {vs : List V}, RpA H vs (ns.map PyData.int) → vs = ns.map V.int
  | [], _, h => h.nil_inv
  | n :: r, vs, h => by
    obtain ⟨v, r', e0, e, h2⟩ := RpA.cons_inv h
    have e1 := e.int_inv
    have e2 := rpa_ints_inv r h2
    rw [e0, e1, e2]
    rfl
theorem Rp.ints {H : Hp} {v : V} {ns : List Int} (h : Rp H v (iD ns)) : ∃ a, v = .ref a ∧ H a = some (.tup (ns.map V.int)) := by
  obtain ⟨a, vs, rfl, h1, r⟩ := h.tup_inv
  rw [rpa_ints_inv _ r] at h1
  exact ⟨a, rfl, h1⟩
theorem rp_ints {H : Hp} {a : Addr} {ns : List Int} (h : H a = some (.tup (ns.map V.int))) : Rp H (.ref a) (iD ns) := .tup h (rpa_ints ns)
/-! ### a new object -/
theorem same_new {H : Hp} {p : Addr} {o : HO} (h : H p = none) : Same H (upd H p o) := fun b u q => by rw [upd_ne (ne_of_none q h)]; exact q
/-! ### equality of data -/
theorem eqvAll_ints : ∀ xs ys : List Int, PyData.eqvAll (xs.map PyData.int) (ys.map PyData.int) = decide (xs = ys)
  | [], [] => by simp [PyData.eqvAll]
  | [], _ :: _ => by simp [PyData.eqvAll]
  | _ :: _, [] => by simp [PyData.eqvAll]
  | x :: r, y :: s => by
    rw [List.map_cons, List.map_cons, PyData.eqvAll, eqvAll_ints r s]
    simp only [PyData.eqv]
    by_cases h : x = y
    · subst h; simp
    · simp [h]
theorem eqv_ints (xs ys : List Int) : PyData.eqv (iD xs) (iD ys) = decide (xs = ys) := by
  unfold iD
  rw [PyData.eqv]
  exact eqvAll_ints xs ys
theorem eqv_frac (x y : Frac) : PyData.eqv (fD x) (fD y) = decide (x = y) := by
  have e : ∀ f : Frac, fD f = iD [f.1, f.2] := fun _ => rfl
  rw [e, e, eqv_ints]
  obtain ⟨a, b⟩ := x
  obtain ⟨c, d⟩ := y
  simp
/-! ### items -/
inductive MW where
  | call | wait | meet | pace | lean
  deriving DecidableEq
def MW.s : MW → Str
  | .call => "call" | .wait => "wait" | .meet => "meet" | .pace => "pace" | .lean => "lean"
inductive Item where
  | tone (ps : List Int) (len : Frac) (ti he : Bool)
  | rest (len : Frac)
  | group (many time : Int) (items : List Item)
  | mark (w : MW) (ds : List PyData)
mutual
def Item.d : Item → PyData
  | .tone ps len ti he => .tuple [.str "tone", iD ps, fD len, .bool ti, .bool he]
  | .rest len => .tuple [.str "rest", fD len]
  | .group m t its => .tuple [.str "group", .int m, .int t, .tuple (itemsD its)]
  | .mark w ds => .tuple (.str w.s :: ds)
def itemsD : List Item → List PyData
  | [] => []
  | x :: r => x.d :: itemsD r
end
theorem itemsD_map : ∀ l : List Item, itemsD l = l.map Item.d
  | [] => rfl
  | x :: r => by rw [itemsD, itemsD_map r]; rfl
/-- laid out: groups opened -/
def Item.isMark : Item → Bool
  | .mark _ _ => true
  | _ => false
mutual
def Item.laid (by_ : Frac) : Item → List Item
  | .tone ps len ti he => [.tone ps (ftimes len by_) ti he]
  | .rest len => [.rest (ftimes len by_)]
  | .group m t its => laidI (ftimes by_ (fpart t m)) its
  | .mark w ds => [.mark w ds]
def laidI (by_ : Frac) : List Item → List Item
  | [] => []
  | x :: r => x.laid by_ ++ laidI by_ r
end
mutual
def Item.ok (L : Nat) : Nat → Item → Prop
  | _, .tone ps len _ _ => FB L len ∧ ps.length ≤ 10
  | _, .rest len => FB L len
  | 0, .group _ _ _ => False
  | d + 1, .group m t its => 1 ≤ m ∧ m ≤ 3 ∧ 1 ≤ t ∧ t ≤ 3 ∧ its.length ≤ 100 ∧ itemsOk L d its
  | _, .mark _ _ => True
def itemsOk (L : Nat) : Nat → List Item → Prop
  | _, [] => True
  | d, x :: r => x.ok L d ∧ itemsOk L d r
end
mutual
def Item.cnt : Item → Nat
  | .group _ _ its => cntI its
  | _ => 1
def cntI : List Item → Nat
  | [] => 0
  | x :: r => x.cnt + cntI r
end
mutual
def Item.notes : Item → Nat
  | .group _ _ its => notesI its
  | .mark _ _ => 0
  | _ => 1
def notesI : List Item → Nat
  | [] => 0
  | x :: r => x.notes + notesI r
end
theorem laidI_app (b : Frac) : ∀ xs ys : List Item, laidI b (xs ++ ys) = laidI b xs ++ laidI b ys
  | [], ys => by simp [laidI]
  | x :: r, ys => by rw [List.cons_append, laidI, laidI, laidI_app b r ys, List.append_assoc]
theorem cntI_app : ∀ xs ys : List Item, cntI (xs ++ ys) = cntI xs + cntI ys
  | [], ys => by simp [cntI]
  | x :: r, ys => by rw [List.cons_append, cntI, cntI, cntI_app r ys, Nat.add_assoc]
theorem notesI_app : ∀ xs ys : List Item, notesI (xs ++ ys) = notesI xs + notesI ys
  | [], ys => by simp [notesI]
  | x :: r, ys => by rw [List.cons_append, notesI, notesI, notesI_app r ys, Nat.add_assoc]
theorem itemsOk_get {L d : Nat} : ∀ {xs : List Item} {i : Nat} {x : Item}, itemsOk L d xs → xs[i]? = some x → x.ok L d
  | [], i, x, _, h => by simp at h
  | y :: r, 0, x, h, e => by
    simp at e
    subst e
    rw [itemsOk] at h
    exact h.1
  | y :: r, i + 1, x, h, e => by
    rw [itemsOk] at h
    exact itemsOk_get (i := i) h.2 (by simpa using e)
mutual
theorem Item.laid_len (b : Frac) : ∀ x : Item, (x.laid b).length = x.cnt
  | .tone .. => rfl
  | .rest _ => rfl
  | .group m t its => by rw [Item.laid, Item.cnt]; exact laidI_len _ its
  | .mark .. => rfl
theorem laidI_len (b : Frac) : ∀ xs : List Item, (laidI b xs).length = cntI xs
  | [] => rfl
  | x :: r => by rw [laidI, cntI, List.length_append, Item.laid_len b x, laidI_len b r]
end
mutual
theorem Item.laid_notes (b : Frac) : ∀ x : Item, ((x.laid b).filter fun y => !y.isMark).length = x.notes
  | .tone .. => rfl
  | .rest _ => rfl
  | .group m t its => by rw [Item.laid, Item.notes]; exact laidI_notes _ its
  | .mark .. => rfl
theorem laidI_notes (b : Frac) : ∀ xs : List Item, ((laidI b xs).filter fun y => !y.isMark).length = notesI xs
  | [] => rfl
  | x :: r => by rw [laidI, notesI, List.filter_append, List.length_append, Item.laid_notes b x, laidI_notes b r]
end
theorem take_succ {α : Type} {l : List α} {i : Nat} {x : α} (h : l[i]? = some x) : l.take (i + 1) = l.take i ++ [x] := by
  obtain ⟨h1, h2⟩ := List.getElem?_eq_some_iff.mp h
  rw [List.take_succ, h]
  rfl
theorem cnt_take {l : List Item} {i : Nat} {x : Item} (h : l[i]? = some x) : cntI (l.take (i + 1)) = cntI (l.take i) + x.cnt := by
  rw [take_succ h, cntI_app, cntI, cntI, Nat.add_zero]
theorem cnt_take_le : ∀ (l : List Item) (i : Nat), cntI (l.take i) ≤ cntI l
  | l, i => by
    have h : cntI (l.take i ++ l.drop i) = cntI (l.take i) + cntI (l.drop i) := cntI_app _ _
    rw [List.take_append_drop] at h
    omega
end MC
set_option Elab.async false
set_option linter.all false
set_option maxRecDepth 100000
set_option maxHeartbeats 4000000
namespace MC
open PySem PySem.Spec PyProof.Rows L2
/-! ### items in the heap -/
theorem tk_lst {H : Hp} {l : Addr} {xs : List V} {o : HO} (h : H l = some (.lst xs)) : Tk H (upd H l o) := fun b us q => by
  rw [upd_ne (fun e => by rw [e] at q; rw [h] at q; cases q)]
  exact q
theorem tk_new {H : Hp} {p : Addr} {o : HO} (h : H p = none) : Tk H (upd H p o) := Same.tk (same_new h)
theorem same_up {H H' : Hp} {l : Addr} {o : HO} (s : Same H H') (h : H l = none) : Same H (upd H' l o) := fun b u q => by
  rw [upd_ne (ne_of_none q h)]
  exact s b u q
theorem same_at {H H' : Hp} (s : Same H H') {a : Addr} {o : HO} (h : H a = some o) : H' a = some o := s a o h
theorem new_ne {H : Hp} {a p : Addr} {o o' : HO} (h : H a = some o) (hp : H p = none) : (upd H p o') a = some o := by rw [upd_ne (ne_of_none h hp)]; exact h
theorem none_of_same {H H' : Hp} (s : Same H H') {p : Addr} (h : H' p = none) : H p = none := by
  cases e : H p with
  | none => rfl
  | some o => rw [s p o e] at h; cases h
section
variable {H : Hp} {v : V} {vs : List V}
theorem Rp.tone_inv {ps : List Int} {len : Frac} {ti he : Bool} (h : Rp H v (Item.tone ps len ti he).d) : ∃ a vp vl, v = .ref a ∧ H a = some (.tup [.str "tone", vp, vl, .bl ti, .bl he]) ∧ Rp H vp (iD ps) ∧ FAt H vl len := by
  rw [Item.d] at h
  obtain ⟨a, vs, rfl, h1, r⟩ := h.tup_inv
  obtain ⟨v1, r1, rfl, e1, r⟩ := r.cons_inv
  obtain ⟨v2, r2, rfl, e2, r⟩ := r.cons_inv
  obtain ⟨v3, r3, rfl, e3, r⟩ := r.cons_inv
  obtain ⟨v4, r4, rfl, e4, r⟩ := r.cons_inv
  obtain ⟨v5, r5, rfl, e5, r⟩ := r.cons_inv
  cases r.nil_inv
  cases e1.str_inv
  cases e4.bl_inv
  cases e5.bl_inv
  exact ⟨a, v2, v3, rfl, h1, e2, e3.fat⟩
theorem Rp.rest_inv {len : Frac} (h : Rp H v (Item.rest len).d) : ∃ a vl, v = .ref a ∧ H a = some (.tup [.str "rest", vl]) ∧ FAt H vl len := by
  rw [Item.d] at h
  obtain ⟨a, vs, rfl, h1, r⟩ := h.tup_inv
  obtain ⟨v1, r1, rfl, e1, r⟩ := r.cons_inv
  obtain ⟨v2, r2, rfl, e2, r⟩ := r.cons_inv
  cases r.nil_inv
  cases e1.str_inv
  exact ⟨a, v2, rfl, h1, e2.fat⟩
theorem Rp.group_inv {m t : Int} {its : List Item} (h : Rp H v (Item.group m t its).d) : ∃ a vi, v = .ref a ∧ H a = some (.tup [.str "group", .int m, .int t, vi]) ∧ Rp H vi (.tuple (itemsD its)) := by
  rw [Item.d] at h
  obtain ⟨a, vs, rfl, h1, r⟩ := h.tup_inv
  obtain ⟨v1, r1, rfl, e1, r⟩ := r.cons_inv
  obtain ⟨v2, r2, rfl, e2, r⟩ := r.cons_inv
  obtain ⟨v3, r3, rfl, e3, r⟩ := r.cons_inv
  obtain ⟨v4, r4, rfl, e4, r⟩ := r.cons_inv
  cases r.nil_inv
  cases e1.str_inv
  cases e2.int_inv
  cases e3.int_inv
  exact ⟨a, v4, rfl, h1, e4⟩
theorem Rp.mark_inv {mw : MW} {ds : List PyData} (h : Rp H v (Item.mark mw ds).d) : ∃ a vs, v = .ref a ∧ H a = some (.tup (.str mw.s :: vs)) ∧ RpA H vs ds := by
  rw [Item.d] at h
  obtain ⟨a, vs, rfl, h1, r⟩ := h.tup_inv
  obtain ⟨v1, r1, rfl, e1, r⟩ := r.cons_inv
  cases e1.str_inv
  exact ⟨a, r1, rfl, h1, by assumption⟩
theorem rp_tone {a : Addr} {vp vl : V} {ps : List Int} {len : Frac} {ti he : Bool} (h : H a = some (.tup [.str "tone", vp, vl, .bl ti, .bl he])) (h1 : Rp H vp (iD ps)) (h2 : FAt H vl len) : Rp H (.ref a) (Item.tone ps len ti he).d := by
  rw [Item.d]
  exact .tup h (.cons (.str _) (.cons h1 (.cons h2.rp (.cons (.bl _) (.cons (.bl _) .nil)))))
theorem rp_rest {a : Addr} {vl : V} {len : Frac} (h : H a = some (.tup [.str "rest", vl])) (h2 : FAt H vl len) : Rp H (.ref a) (Item.rest len).d := by
  rw [Item.d]
  exact .tup h (.cons (.str _) (.cons h2.rp .nil))
theorem rp_group {a : Addr} {vi : V} {m t : Int} {its : List Item} (h : H a = some (.tup [.str "group", .int m, .int t, vi])) (h2 : Rp H vi (.tuple (itemsD its))) : Rp H (.ref a) (Item.group m t its).d := by
  rw [Item.d]
  exact .tup h (.cons (.str _) (.cons (.int _) (.cons (.int _) (.cons h2 .nil))))
theorem rpa_items_get {its : List Item} {i : Nat} {x : V} (r : RpA H vs (itemsD its)) (h : vs[i]? = some x) : ∃ it, its[i]? = some it ∧ Rp H x it.d := by
  obtain ⟨d, h1, h2⟩ := r.get h
  rw [itemsD_map, List.getElem?_map] at h1
  cases e : its[i]? with
  | none => rw [e] at h1; cases h1
  | some it => rw [e] at h1; cases h1; exact ⟨it, rfl, h2⟩
end
theorem mw_ne : ∀ m : MW, decide (V.str m.s = V.str "group") = false ∧ decide (V.str m.s = V.str "tone") = false ∧ decide (V.str m.s = V.str "rest") = false := by
  intro m
  cases m <;> decide +kernel
def placed (ys : List (Frac × Item)) : List PyData := ys.map fun y => .tuple [fD y.1, y.2.d]
theorem placed_app (xs ys : List (Frac × Item)) : placed (xs ++ ys) = placed xs ++ placed ys := List.map_append
theorem placed_one (x : Frac) (y : Item) : placed [(x, y)] = [.tuple [fD x, y.d]] := rfl
/-- laid items of a take, one more -/
theorem laidI_take {b : Frac} {l : List Item} {i : Nat} {x : Item} (h : l[i]? = some x) : laidI b (l.take (i + 1)) = laidI b (l.take i) ++ x.laid b := by
  rw [take_succ h, laidI_app, laidI, laidI, List.append_nil]
theorem size9 {n : Nat} (h : n ≤ 9000) : n < sizeLine := by rw [sizeLine_eq]; omega
theorem one2 : (1 : Nat) ≤ sizeLine := by rw [sizeLine_eq]; omega
theorem mul_step {m c d z : Nat} (h : c ≤ d) : m + c * z ≤ m + d * z := Nat.add_le_add_left (Nat.mul_le_mul_right z h) m
def spLaid (n : Nat) : Sp := Sp3 fun a b c H Q _ => ∃ (d L m B : Nat) (its : List Item) (f by_ : Frac), d < n ∧ itemsOk L d its ∧ Rp H a (.tuple (itemsD its)) ∧ FAt H b f ∧ FAt H c by_ ∧ FB m f ∧ FB B by_ ∧ 0 < m ∧ 0 < B ∧ 0 < L ∧
  L + B + 2 * d + 1 ≤ 9000 ∧ m + cntI its * (L + B + 2 * d + 1) ≤ 9000 ∧
  ∀ H' r l vs ys pl f', Same H H' → H' r = some (.tup [.ref l, pl]) → H l = none → H' l = some (.lst vs) → RpA H' vs (placed ys) → ys.map Prod.snd = laidI by_ its → FAt H' pl f' → FB (m + cntI its * (L + B + 2 * d + 1)) f' → Q (.ref r) H'
section
variable {P : Program} {w : World} {K : PySem.W.Frag} {mg : Str → Option Value} {base : Heap}
/- slots of laid_on: 0 items, 1 place, 2 by, 3 found, 4 item, 5 inner, 6 length -/
theorem sc_laid_on : FnScope ["items", "place", "by", "found", "item", "inner", "length"] ["items", "place", "by"] (defScope s_laid_on) := ⟨rfl, rfl, rfl, by decide +kernel, rfl, by decide +kernel, by decide +kernel⟩
theorem cal_laid_on (T : Tx w K mg) : ∀ n, Cal P w K mg base CX0 (n + 4) "laid_on" ["items", "place", "by"] (spLaid n) := by
  intro n
  induction n with
  | zero =>
    have no : ∀ vs H Q E, ¬ spLaid 0 vs H Q E := by
      rintro vs H Q E ⟨a, b, c, _, d, L, m, B, its, f, by_, h, _⟩
      omega
    exact Cal.of T.f_laid_on T.g_laid_on sc_laid_on (fun _ _ _ _ _ _ us hl => match us, hl with | [_, _, _], _ => rfl) (fun vs H Q E h => (no vs H Q E h).elim) (fun _ _ _ _ _ H vs Q E _ h => (no vs H Q E h).elim)
  | succ n ih =>
  refine Cal.of T.f_laid_on T.g_laid_on sc_laid_on (fun _ _ _ _ _ _ us hl => match us, hl with | [_, _, _], _ => rfl) (fun vs H Q E h => by obtain ⟨x0, x1, x2, rfl, _⟩ := h; rfl) (fun f cdv A outer s H vs Q E hr h => ?_)
  obtain ⟨v0, v1, v2, rfl, h⟩ := h
  refine ⟨_, (pss_cons (ps_set (i := 3) sc_laid_on.nd rfl (Or.inl rfl) (pe_lst pa_nil))
    (pss_cons (ps_for PassesOwn.never rfl (pi_tup (pv 0)) (pg_name (i := 4) sc_laid_on.nd rfl (Or.inl rfl)) (pss_one (ps_if (pt_cmpR op_eq (pe_ix ix_tup (pv 4) pe_int (fun _ _ => rfl)) pe_str (nomark _)) (pss_cons (ps_asg (pc (ih) hr (pa_cons (pe_ix ix_tup (pv 4) pe_int (fun _ _ => rfl)) (pa_cons (pv 1) (pa_cons (pc (cal_times T) hr (pa_cons (pv 2) (pa_cons (pc (cal_part T) hr (pa_cons (pe_ix ix_tup (pv 4) pe_int (fun _ _ => rfl)) (pa_cons (pe_ix ix_tup (pv 4) pe_int (fun _ _ => rfl)) pa_nil))) pa_nil))) pa_nil)))) (pg_tup (by rfl) (pgs_cons (pg_name (i := 5) sc_laid_on.nd rfl (Or.inl rfl)) (pgs_cons (pg_name (i := 1) sc_laid_on.nd rfl (Or.inl rfl)) pgs_nil))))
        (pss_one (ps_expr (pe_bm PySem.F.plainAttrs_list PySem.F.slot_list_extend PySem.F.type_list_extend mt_extend (pv 3) (pa_cons (pv 5) pa_nil))))) (pss_one (ps_if (pt_cmpR op_eq (pe_ix ix_tup (pv 4) pe_int (fun _ _ => rfl)) pe_str (nomark _)) (pss_cons (ps_set (i := 6) sc_laid_on.nd rfl (Or.inl rfl) (pc (cal_times T) hr (pa_cons (pe_ix ix_tup (pv 4) pe_int (fun _ _ => rfl)) (pa_cons (pv 2) pa_nil))))
          (pss_cons (ps_expr (pe_bm PySem.F.plainAttrs_list PySem.F.slot_list_append PySem.F.type_list_append mt_append (pv 3) (pa_cons (pe_tup (pa_cons (pv 1) (pa_cons (pe_tup (pa_cons pe_str (pa_cons (pe_ix ix_tup (pv 4) pe_int (fun _ _ => rfl)) (pa_cons (pv 6) (pa_cons (pe_ix ix_tup (pv 4) pe_int (fun _ _ => rfl)) (pa_cons (pe_ix ix_tup (pv 4) pe_int (fun _ _ => rfl)) pa_nil)))))) pa_nil))) pa_nil)))
          (pss_one (ps_set (i := 1) sc_laid_on.nd rfl (Or.inl rfl) (pc (cal_plus T) hr (pa_cons (pv 1) (pa_cons (pv 6) pa_nil))))))) (pss_one (ps_if (pt_cmpR op_eq (pe_ix ix_tup (pv 4) pe_int (fun _ _ => rfl)) pe_str (nomark _)) (pss_cons (ps_set (i := 6) sc_laid_on.nd rfl (Or.inl rfl) (pc (cal_times T) hr (pa_cons (pe_ix ix_tup (pv 4) pe_int (fun _ _ => rfl)) (pa_cons (pv 2) pa_nil))))
            (pss_cons (ps_expr (pe_bm PySem.F.plainAttrs_list PySem.F.slot_list_append PySem.F.type_list_append mt_append (pv 3) (pa_cons (pe_tup (pa_cons (pv 1) (pa_cons (pe_tup (pa_cons pe_str (pa_cons (pv 6) pa_nil))) pa_nil))) pa_nil)))
            (pss_one (ps_set (i := 1) sc_laid_on.nd rfl (Or.inl rfl) (pc (cal_plus T) hr (pa_cons (pv 1) (pa_cons (pv 6) pa_nil))))))) (pss_one (ps_expr (pe_bm PySem.F.plainAttrs_list PySem.F.slot_list_append PySem.F.type_list_append mt_append (pv 3) (pa_cons (pe_tup (pa_cons (pv 1) (pa_cons (pv 4) pa_nil))) pa_nil)))))))))))
    (pss_one (ps_ret (pe_tup (pa_cons (pv 3) (pa_cons (pv 1) pa_nil))))))), ?_⟩
  obtain ⟨d, L, m, B, its, f, by_, hd, ok, hits, hf, hby, bf, bb, m0, B0, L0, z9, h9, k⟩ := h
  obtain ⟨ai, vi, rfl, hai, ri⟩ := hits.tup_inv
  obtain ⟨Z, hZ⟩ : ∃ Z, Z = L + B + 2 * d + 1 := ⟨_, rfl⟩
  rw [← hZ] at h9 k z9
  refine ⟨Nat.zero_le _, fun p hp => ?_⟩
  have s0 : Same H (upd H p (.lst [])) := same_new hp
  refine ⟨_, rfl, ai, rfl, ⟨vi, SqT.of (s0.on hai)⟩, for_it (walk_tup (xs := vi))
    (fun i σ H' => ∃ pl fi c4 c5 c6 vs ys, σ = [some (.ref ai), some pl, some v2, some (.ref p), c4, c5, c6] ∧ Same H H' ∧ H' p = some (.lst vs) ∧ RpA H' vs (placed ys) ∧ ys.map Prod.snd = laidI by_ (its.take i) ∧ FAt H' pl fi ∧ FB (m + cntI (its.take i) * Z) fi)
    ⟨_, f, _, _, _, [], [], rfl, s0, upd_same, .nil, rfl, hf.mono s0.tk, bf.mono (Nat.le_add_right _ _)⟩ ?_ ?_ ?_⟩
  · rintro i σ H' _ ⟨_, _, _, _, _, _, _, _, s, _⟩
    exact SqT.of (s.on hai)
  · rintro i x σ H' H1 hi ⟨pl, fi, c4, c5, c6, vs, ys, rfl, s, hpv, rv, hl, hpl, bfi⟩ ⟨rfl, hx⟩
    obtain ⟨it, hit, rx⟩ := rpa_items_get ri hx
    have rx : Rp H1 x it.d := rx.mono s.tk
    have hct : cntI (its.take (i + 1)) = cntI (its.take i) + it.cnt := cnt_take hit
    have hle : cntI (its.take (i + 1)) ≤ cntI its := cnt_take_le _ _
    have hstep : m + cntI (its.take (i + 1)) * Z = m + cntI (its.take i) * Z + it.cnt * Z := by rw [hct, Nat.add_mul, Nat.add_assoc]
    have hb9 : m + cntI (its.take (i + 1)) * Z ≤ 9000 := Nat.le_trans (mul_step hle) h9
    have hZ1 : 1 ≤ Z := by omega
    have hc9 : cntI (its.take (i + 1)) ≤ 9000 := by
      have := Nat.le_mul_of_pos_right (cntI (its.take (i + 1))) hZ1
      omega
    have hvl : vs.length = cntI (its.take i) := by
      rw [rv.len, placed, List.length_map, ← List.length_map (f := Prod.snd), hl, laidI_len]
    have itok := itemsOk_get ok hit
    have lt := laidI_take (b := by_) hit
    have hby1 : FAt H1 v2 by_ := hby.mono s.tk
    cases it with
    | group gm gt gi =>
      obtain ⟨a, gv, rfl, ha, rg⟩ := rx.group_inv
      cases d with
      | zero => rw [Item.ok] at itok; exact itok.elim
      | succ d =>
      rw [Item.ok] at itok
      obtain ⟨m1, m3, t1, t3, _, gok⟩ := itok
      rw [Item.cnt] at hct hstep
      rw [Item.laid] at lt
      refine ⟨_, rfl, _, _, _, _, rfl, rfl, SqT.of (ha), atI_nat (j := 0) rfl, ⟨rfl, _, rfl, itT (dT rfl) ?_⟩⟩
      refine ⟨_, rfl, _, _, _, _, rfl, rfl, SqT.of (ha), atI_nat (j := 3) rfl, ?_⟩
      refine ⟨_, rfl, ?_⟩
      refine ⟨_, rfl, _, rfl, _, _, _, _, rfl, rfl, SqT.of (ha), atI_nat (j := 2) rfl, ⟨_, rfl, _, _, _, _, rfl, rfl, SqT.of (ha), atI_nat (j := 1) rfl, ?_⟩⟩
      refine ⟨_, _, rfl, gt, gm, 2, rfl, rfl, by omega, by omega, by omega, by omega, by omega, fun q hq => ?_⟩
      have s1 := same_new (o := .tup (fV (fpart gt gm))) hq
      have bp : FB 2 (fpart gt gm) := fpart_FB (by omega) (by omega) (by omega)
      refine ⟨_, _, rfl, by_, fpart gt gm, B, 2, hby1.mono s1.tk, ⟨q, rfl, upd_same⟩, bb, bp, B0, by omega, (by show B + 2 ≤ 9000; omega), fun bq q2 hq2 => ?_⟩
      have s2 := same_new (o := .tup (fV (ftimes by_ (fpart gt gm)))) hq2
      have s12 := s1.trans s2
      refine ⟨_, _, _, rfl, d, L, m + cntI (its.take i) * Z, B + 2, gi, fi, ftimes by_ (fpart gt gm), by omega, gok, rg.mono s12.tk, hpl.mono s12.tk, ⟨q2, rfl, upd_same⟩, bfi, bq, by omega, by omega, L0, by omega, ?_, ?_⟩
      · have e : L + (B + 2) + 2 * d + 1 = Z := by omega
        rw [e, ← hstep]
        exact hb9
      intro H2 r l2 vs2 ys2 pl2 f2 s3 hr hl2n hl2 rv2 el2 hp2 bf2
      have s13 := s12.trans s3
      refine ⟨r, _, rfl, SqT.of hr, rfl, _, _, rfl, _, _, rfl, rfl, ?_⟩
      refine ⟨_, rfl, .inl ⟨rfl, _, SqL.of (s13.on hpv)⟩, _, rfl, ?_⟩
      have hne : l2 ≠ p := fun e => by
        rw [e] at hl2n
        rw [s12.on hpv] at hl2n
        cases hl2n
      have hv2 : vs2.length = cntI gi := by
        rw [rv2.len, placed, List.length_map, ← List.length_map (f := Prod.snd), el2, laidI_len]
      refine ⟨p, l2, vs, vs2, rfl, rfl, s13.on hpv, hl2, ?_, ?_⟩
      · rw [hvl, hv2, ← hct]; exact Nat.le_of_lt (size9 hc9)
      have tk := tk_lst (o := .lst (vs ++ vs2)) (s13.on hpv)
      refine ⟨_, f2, _, _, _, vs ++ vs2, ys ++ ys2, rfl, same_up (s.trans s13) hp, upd_same, ?_, ?_, hp2.mono tk, ?_⟩
      · rw [placed_app]
        exact ((rv.mono s13.tk).mono tk).app (rv2.mono tk)
      · rw [List.map_append, hl, el2, lt]
      · have e : L + (B + 2) + 2 * d + 1 = Z := by omega
        rw [e, ← hstep] at bf2
        exact bf2
    | tone ps len ti he =>
      obtain ⟨a, vp, vl, rfl, ha, rp, rl⟩ := rx.tone_inv
      have itok : FB L len ∧ ps.length ≤ 10 := by rw [Item.ok] at itok; exact itok
      have e1 : (Item.tone ps len ti he).cnt = 1 := rfl
      rw [e1, Nat.one_mul] at hstep
      rw [Item.laid] at lt
      refine ⟨_, rfl, _, _, _, _, rfl, rfl, SqT.of (ha), atI_nat (j := 0) rfl, ⟨rfl, _, rfl, itF (bF (by decide +kernel)) ?_⟩⟩
      refine ⟨_, rfl, _, _, _, _, rfl, rfl, SqT.of (ha), atI_nat (j := 0) rfl, ⟨rfl, _, rfl, itT (dT rfl) ?_⟩⟩
      refine ⟨_, rfl, _, _, _, _, rfl, rfl, SqT.of (ha), atI_nat (j := 2) rfl, ⟨_, rfl, ?_⟩⟩
      refine ⟨_, _, rfl, len, by_, L, B, rl, hby1, itok.1, bb, L0, B0, (by show L + B ≤ 9000; omega), fun bq q hq => ?_⟩
      have s1 := same_new (o := .tup (fV (ftimes len by_))) hq
      have ha1 := s1.on ha
      refine ⟨_, rfl, .inl ⟨rfl, _, SqL.of (s1.on hpv)⟩, ?_⟩
      refine ⟨_, rfl, _, rfl, _, _, _, _, rfl, rfl, SqT.of (ha1), atI_nat (j := 1) rfl, ⟨_, rfl, _, rfl, _, _, _, _, rfl, rfl, SqT.of (ha1), atI_nat (j := 3) rfl, ⟨_, rfl, _, _, _, _, rfl, rfl, SqT.of (ha1), atI_nat (j := 4) rfl, ⟨(by show 5 ≤ sizeLine; decide), fun q2 hq2 => ?_⟩⟩⟩⟩
      have s2 := s1.trans (same_new (o := .tup [.str "tone", vp, .ref q, .bl ti, .bl he]) hq2)
      refine ⟨(by show 2 ≤ sizeLine; decide), fun q3 hq3 => ?_⟩
      have s3 := s2.trans (same_new (o := .tup [pl, .ref q2]) hq3)
      refine ⟨p, vs, _, rfl, rfl, s3.on hpv, (by rw [hvl]; exact size9 (by omega)), ?_⟩
      have tk := tk_lst (o := .lst (vs ++ [.ref q3])) (s3.on hpv)
      have hq1 := (same_new (o := .tup [pl, .ref q2]) hq3).on ((same_new (o := .tup [.str "tone", vp, .ref q, .bl ti, .bl he]) hq2).on (upd_same (H := H1) (a := q) (o := .tup (fV (ftimes len by_)))))
      have hq4 := (same_new (o := .tup [pl, .ref q2]) hq3).on (upd_same (H := upd H1 q (.tup (fV (ftimes len by_)))) (a := q2) (o := .tup [.str "tone", vp, .ref q, .bl ti, .bl he]))
      refine ⟨_, rfl, _, rfl, ?_⟩
      refine ⟨_, _, rfl, fi, ftimes len by_, m + cntI (its.take i) * Z, L + B, (hpl.mono s3.tk).mono tk, ⟨q, rfl, tk _ _ hq1⟩, bfi, bq, by omega, by omega, (by show m + cntI (its.take i) * Z + (L + B) + 1 ≤ 9000; omega), fun br q5 hq5 => ?_⟩
      have t5 := tk_new (o := .tup (fV (fplus fi (ftimes len by_)))) hq5
      refine ⟨_, fplus fi (ftimes len by_), _, _, _, vs ++ [.ref q3], ys ++ [(fi, .tone ps (ftimes len by_) ti he)], rfl, (same_up (s.trans s3) hp).trans (same_new hq5), (same_new hq5).on upd_same, ?_, ?_, ⟨q5, rfl, upd_same⟩, br.mono (by show m + cntI (its.take i) * Z + (L + B) + 1 ≤ _; omega)⟩
      · rw [placed_app]
        refine (((rv.mono s3.tk).mono tk).mono t5).app (.cons ?_ .nil)
        refine .tup (t5 _ _ (tk _ _ upd_same)) (.cons (((hpl.mono s3.tk).mono tk).mono t5).rp (.cons (rp_tone (t5 _ _ (tk _ _ hq4)) (((rp.mono s3.tk).mono tk).mono t5) ⟨q, rfl, t5 _ _ (tk _ _ hq1)⟩) .nil))
      · rw [List.map_append, hl, lt]
        rfl
    | rest len =>
      obtain ⟨a, vl, rfl, ha, rl⟩ := rx.rest_inv
      have itok : FB L len := by rw [Item.ok] at itok; exact itok
      have e1 : (Item.rest len).cnt = 1 := rfl
      rw [e1, Nat.one_mul] at hstep
      rw [Item.laid] at lt
      refine ⟨_, rfl, _, _, _, _, rfl, rfl, SqT.of (ha), atI_nat (j := 0) rfl, ⟨rfl, _, rfl, itF (bF (by decide +kernel)) ?_⟩⟩
      refine ⟨_, rfl, _, _, _, _, rfl, rfl, SqT.of (ha), atI_nat (j := 0) rfl, ⟨rfl, _, rfl, itF (bF (by decide +kernel)) ?_⟩⟩
      refine ⟨_, rfl, _, _, _, _, rfl, rfl, SqT.of (ha), atI_nat (j := 0) rfl, ⟨rfl, _, rfl, itT (dT rfl) ?_⟩⟩
      refine ⟨_, rfl, _, _, _, _, rfl, rfl, SqT.of (ha), atI_nat (j := 1) rfl, ⟨_, rfl, ?_⟩⟩
      refine ⟨_, _, rfl, len, by_, L, B, rl, hby1, itok, bb, L0, B0, (by show L + B ≤ 9000; omega), fun bq q hq => ?_⟩
      have s1 := same_new (o := .tup (fV (ftimes len by_))) hq
      refine ⟨_, rfl, .inl ⟨rfl, _, SqL.of (s1.on hpv)⟩, ?_⟩
      refine ⟨_, rfl, _, rfl, ⟨(by show 2 ≤ sizeLine; decide), fun q2 hq2 => ?_⟩⟩
      have s2 := s1.trans (same_new (o := .tup [.str "rest", .ref q]) hq2)
      refine ⟨(by show 2 ≤ sizeLine; decide), fun q3 hq3 => ?_⟩
      have s3 := s2.trans (same_new (o := .tup [pl, .ref q2]) hq3)
      refine ⟨p, vs, _, rfl, rfl, s3.on hpv, (by rw [hvl]; exact size9 (by omega)), ?_⟩
      have tk := tk_lst (o := .lst (vs ++ [.ref q3])) (s3.on hpv)
      have hq1 := (same_new (o := .tup [pl, .ref q2]) hq3).on ((same_new (o := .tup [.str "rest", .ref q]) hq2).on (upd_same (H := H1) (a := q) (o := .tup (fV (ftimes len by_)))))
      have hq4 := (same_new (o := .tup [pl, .ref q2]) hq3).on (upd_same (H := upd H1 q (.tup (fV (ftimes len by_)))) (a := q2) (o := .tup [.str "rest", .ref q]))
      refine ⟨_, rfl, _, rfl, ?_⟩
      refine ⟨_, _, rfl, fi, ftimes len by_, m + cntI (its.take i) * Z, L + B, (hpl.mono s3.tk).mono tk, ⟨q, rfl, tk _ _ hq1⟩, bfi, bq, by omega, by omega, (by show m + cntI (its.take i) * Z + (L + B) + 1 ≤ 9000; omega), fun br q5 hq5 => ?_⟩
      have t5 := tk_new (o := .tup (fV (fplus fi (ftimes len by_)))) hq5
      refine ⟨_, fplus fi (ftimes len by_), _, _, _, vs ++ [.ref q3], ys ++ [(fi, .rest (ftimes len by_))], rfl, (same_up (s.trans s3) hp).trans (same_new hq5), (same_new hq5).on upd_same, ?_, ?_, ⟨q5, rfl, upd_same⟩, br.mono (by show m + cntI (its.take i) * Z + (L + B) + 1 ≤ _; omega)⟩
      · rw [placed_app]
        refine (((rv.mono s3.tk).mono tk).mono t5).app (.cons ?_ .nil)
        refine .tup (t5 _ _ (tk _ _ upd_same)) (.cons (((hpl.mono s3.tk).mono tk).mono t5).rp (.cons (rp_rest (t5 _ _ (tk _ _ hq4)) ⟨q, rfl, t5 _ _ (tk _ _ hq1)⟩) .nil))
      · rw [List.map_append, hl, lt]
        rfl
    | mark mw ds =>
      obtain ⟨a, mv, rfl, ha, rm⟩ := rx.mark_inv
      rw [Item.laid] at lt
      obtain ⟨n1, n2, n3⟩ := mw_ne mw
      refine ⟨_, rfl, _, _, _, _, rfl, rfl, SqT.of (ha), atI_nat (j := 0) rfl, ⟨rfl, _, rfl, itF (bF n1) ?_⟩⟩
      refine ⟨_, rfl, _, _, _, _, rfl, rfl, SqT.of (ha), atI_nat (j := 0) rfl, ⟨rfl, _, rfl, itF (bF n2) ?_⟩⟩
      refine ⟨_, rfl, _, _, _, _, rfl, rfl, SqT.of (ha), atI_nat (j := 0) rfl, ⟨rfl, _, rfl, itF (bF n3) ?_⟩⟩
      refine ⟨_, rfl, .inl ⟨rfl, _, SqL.of hpv⟩, ?_⟩
      refine ⟨_, rfl, _, rfl, ⟨(by show 2 ≤ sizeLine; decide), fun q3 hq3 => ?_⟩⟩
      have s3 := same_new (o := .tup [pl, .ref a]) hq3
      refine ⟨p, vs, _, rfl, rfl, s3.on hpv, (by rw [hvl]; exact size9 (by omega)), ?_⟩
      have tk := tk_lst (o := .lst (vs ++ [.ref q3])) (s3.on hpv)
      refine ⟨_, fi, _, _, _, vs ++ [.ref q3], ys ++ [(fi, .mark mw ds)], rfl, same_up (s.trans s3) hp, upd_same, ?_, ?_, (hpl.mono s3.tk).mono tk, bfi.mono (by rw [hstep]; exact Nat.le_add_right _ _)⟩
      · rw [placed_app]
        refine ((rv.mono s3.tk).mono tk).app (.cons ?_ .nil)
        exact .tup (tk _ _ upd_same) (.cons ((hpl.mono s3.tk).mono tk).rp (.cons ((rx.mono s3.tk).mono tk) .nil))
      · rw [List.map_append, hl, lt]
        rfl
  · rintro σ H' ⟨pl, fi, c4, c5, c6, vs, ys, rfl, s, hpv, rv, hl, hpl, bfi⟩
    have e : vi.length = its.length := by rw [ri.len, itemsD_map, List.length_map]
    rw [e, List.take_length] at hl bfi
    refine ⟨_, rfl, _, rfl, (by show 2 ≤ sizeLine; decide), fun q hq => ?_⟩
    have s1 := same_new (o := .tup [.ref p, pl]) hq
    exact k _ q p vs ys pl fi (s.trans s1) upd_same hp (s1.on hpv) (rv.mono s1.tk) hl (hpl.mono s1.tk) bfi
end
end MC
set_option Elab.async false
set_option linter.all false
set_option maxRecDepth 100000
set_option maxHeartbeats 4000000
namespace MC
open PySem PySem.Spec PyProof.Rows L2
theorem yes {A B : Prop} (h : A) : if true = true then A else B := by
  rw [if_pos rfl]
  exact h
theorem yesT {σ : L2.St} {H : Hp} {A N : Hp → Prop} (h : A H) : tYes σ H fun b H3 => if b = true then A H3 else N H3 := by
  show if true = true then A H else N H
  rw [if_pos rfl]
  exact h
theorem same_refl (H : Hp) : Same H H := fun _ _ h => h
/-! ### a comprehension whose items are data -/
theorem lc_rp {J : It} {n : Nat} {G : Hp → Prop} {Y : Nat → Hp → V → Hp → Prop} {g : TG} {tt : TT} {te : TE} {vs : List Nat} {σ : L2.St} {H0 : Hp} {D : Addr} {Qd : Hp → Prop} (w : Walk J n G Y) (hD : H0 D = none) (ds : List PyData) (hn : ds.length = n) (hz : n ≤ sizeLine)
    (hG : ∀ H, Same H0 H → G H)
    (hs : ∀ i x H H' d, i < n → Same H0 H → ds[i]? = some d → Y i H x H' → ∀ (C : VK) (N : Hp → Prop), (∀ y H4, Same H H4 → Rp H4 y d → C y H4) → g x (wipe σ vs) H' fun σ2 H2 => wipe σ2 vs = wipe σ vs ∧ tt σ2 H2 fun b H3 => if b = true then te σ2 H3 C else N H3)
    (hd : ∀ H us, Same H0 H → H D = some (.lst us) → RpA H us ds → Qd H) :
    ∃ W : Nat → Nat → Hp → Prop, (∃ m, W 0 m (upd H0 D (.lst []))) ∧ ∀ i m H, W i m H →
      (J.stop i H ∧ Qd H) ∨ (J.go i H ∧ ∃ Nx : Hp → Prop, (∀ H', Nx H' → ∃ m', m' < m ∧ W (i + 1) m' H') ∧ ∀ x H', J.yld i H x H' → g x (wipe σ vs) H' fun σ2 H2 => wipe σ2 vs = wipe σ vs ∧ tt σ2 H2 fun b H3 =>
        if b = true then te σ2 H3 fun y H4 => ∃ acc, H4 D = some (.lst acc) ∧ acc.length < sizeLine ∧ Nx (upd H4 D (.lst (acc ++ [y]))) else Nx H3) := by
  refine lc_it w (fun i H => Same H0 H ∧ ∃ us, H D = some (.lst us) ∧ RpA H us (ds.take i)) ⟨same_new hD, [], upd_same, .nil⟩ (fun i H _ p => hG H p.1) ?_ ?_
  · rintro i x H H' hi ⟨s, us, hu, r⟩ y
    have hi' : i < ds.length := by omega
    have e : ds[i]? = some ds[i] := List.getElem?_eq_getElem hi'
    refine hs i x H H' _ hi s e y _ _ fun z H4 s4 rz => ?_
    have hl : us.length = i := by rw [r.len, List.length_take]; omega
    refine ⟨us, s4.on hu, by omega, same_up (s.trans s4) hD, _, upd_same, ?_⟩
    have tk := tk_lst (o := .lst (us ++ [z])) (s4.on hu)
    rw [List.take_succ, e]
    exact ((r.mono s4.tk).mono tk).app (.cons (rz.mono tk) .nil)
  · rintro H ⟨s, us, hu, r⟩
    rw [← hn, List.take_length] at r
    exact hd H us s hu r
/-! ### bars -/
/-- the items of a voice are within bounds -/
def BOk (its : List Item) : Prop := its.length ≤ 100 ∧ ∃ d L, d ≤ 6 ∧ 0 < L ∧ itemsOk L d its ∧ L + 2 * d + 2 ≤ 9000 ∧ 1 + cntI its * (L + 2 * d + 2) ≤ 9000
def lay0 (its : List Item) : List Item := laidI (1, 1) its
def spLd : Sp := Sp1 fun a H Q _ => ∃ its, Rp H a (.tuple (itemsD its)) ∧ BOk its ∧ ∀ H' l vs ys, Same H H' → H l = none → H' l = some (.lst vs) → RpA H' vs (placed ys) → ys.map Prod.snd = lay0 its → Q (.ref l) H'
theorem FB01 : FB 1 (0, 1) := ⟨by decide, by decide, by decide⟩
theorem FB11 : FB 1 (1, 1) := ⟨by decide, by decide, by decide⟩
section
variable {P : Program} {w : World} {K : PySem.W.Frag} {mg : Str → Option Value} {base : Heap}
/- slots of laid: 0 items -/
theorem sc_laid : FnScope ["items"] ["items"] (defScope s_laid) := ⟨rfl, rfl, rfl, by decide +kernel, rfl, by decide +kernel, by decide +kernel⟩
theorem cal_laid (T : Tx w K mg) : Cal P w K mg base CX0 (12) "laid" ["items"] spLd := by
  refine Cal.of T.f_laid T.g_laid sc_laid (fun _ _ _ _ _ _ us hl => match us, hl with | [_], _ => rfl) (fun vs H Q E h => by obtain ⟨x0, rfl, _⟩ := h; rfl) (fun f cdv A outer s H vs Q E hr h => ?_)
  obtain ⟨v0, rfl, h⟩ := h
  refine ⟨_, (pss_one (ps_ret (pe_ix ix_tup (pc (cal_laid_on T 7) hr (pa_cons (pv 0) (pa_cons (pe_tup (pa_cons pe_int (pa_cons pe_int pa_nil))) (pa_cons (pe_tup (pa_cons pe_int (pa_cons pe_int pa_nil))) pa_nil)))) pe_int (fun _ _ => rfl)))), ?_⟩
  obtain ⟨its, hr1, ⟨_, d, L, d6, L0, ok, h1, h2⟩, k⟩ := h
  refine ⟨_, rfl, (by show 2 ≤ sizeLine; decide), fun p hp => ⟨(by show 2 ≤ sizeLine; decide), fun q hq => ?_⟩⟩
  have s1 := same_new (o := .tup [.int 0, .int 1]) hp
  have s2 := s1.trans (same_new (o := .tup [.int 1, .int 1]) hq)
  refine ⟨_, _, _, rfl, d, L, 1, 1, its, (0, 1), (1, 1), by omega, ok, hr1.mono s2.tk, ⟨p, rfl, (same_new hq).on upd_same⟩, ⟨q, rfl, upd_same⟩, FB01, FB11, by omega, by omega, L0, by omega, ?_, ?_⟩
  · have e : L + 1 + 2 * d + 1 = L + 2 * d + 2 := by omega
    rw [e]; exact h2
  intro H' r l vs ys pl f' s3 hr2 hl hv rv el hp2 bf
  have s13 := s2.trans s3
  refine ⟨_, _, _, _, rfl, rfl, SqT.of (hr2), atI_nat (j := 0) rfl, ?_⟩
  exact k H' l vs ys s13 (none_of_same s2 hl) hv rv el
end
/-- a bar -/
def barD (size : Frac) (vss : List (List Item)) : PyData := .tuple [.str "bar", fD size, .tuple (vss.map fun its => .tuple (itemsD its))]
def Item.noteB (x : Item) : Bool := !x.isMark
def notes0 (its : List Item) : List Item := (lay0 its).filter Item.noteB
theorem Rp.bar_inv {H : Hp} {v : V} {size : Frac} {vss : List (List Item)} (h : Rp H v (barD size vss)) : ∃ a vl vv, v = .ref a ∧ H a = some (.tup [.str "bar", vl, vv]) ∧ FAt H vl size ∧ Rp H vv (.tuple (vss.map fun its => .tuple (itemsD its))) := by
  rw [barD] at h
  obtain ⟨a, vs, rfl, h1, r⟩ := h.tup_inv
  obtain ⟨v1, r1, rfl, e1, r⟩ := r.cons_inv
  obtain ⟨v2, r2, rfl, e2, r⟩ := r.cons_inv
  obtain ⟨v3, r3, rfl, e3, r⟩ := r.cons_inv
  cases r.nil_inv
  cases e1.str_inv
  exact ⟨a, v2, v3, rfl, h1, e2.fat, e3⟩
theorem rp_bar {H : Hp} {a : Addr} {vl vv : V} {size : Frac} {vss : List (List Item)} (h : H a = some (.tup [.str "bar", vl, vv])) (h1 : FAt H vl size) (h2 : Rp H vv (.tuple (vss.map fun its => .tuple (itemsD its)))) : Rp H (.ref a) (barD size vss) :=
  .tup h (.cons (.str _) (.cons h1.rp (.cons h2 .nil)))
def spVoice : Sp := Sp2 fun a b H Q _ => ∃ size its rest, Rp H a (barD size (its :: rest)) ∧ b = .int 0 ∧ BOk its ∧
  ∀ H' l vs ys, Same H H' → H l = none → H' l = some (.lst vs) → RpA H' vs (placed ys) → ys.map Prod.snd = notes0 its → Q (.ref l) H'
theorem item_in (x : Item) {H : Hp} {v : V} (h : Rp H v x.d) : ∃ a s vs, v = .ref a ∧ H a = some (.tup (.str s :: vs)) ∧ inV (.str s) [.str "call", .str "wait", .str "meet", .str "pace", .str "lean"] = x.isMark := by
  cases x with
  | tone ps len ti he =>
    obtain ⟨a, vp, vl, rfl, ha, _⟩ := h.tone_inv
    exact ⟨a, _, _, rfl, ha, show inV _ _ = false by decide +kernel⟩
  | rest len =>
    obtain ⟨a, vl, rfl, ha, _⟩ := h.rest_inv
    exact ⟨a, _, _, rfl, ha, show inV _ _ = false by decide +kernel⟩
  | group m t its =>
    obtain ⟨a, vl, rfl, ha, _⟩ := h.group_inv
    exact ⟨a, _, _, rfl, ha, show inV _ _ = false by decide +kernel⟩
  | mark mw ds =>
    obtain ⟨a, vl, rfl, ha, _⟩ := h.mark_inv
    exact ⟨a, _, _, rfl, ha, show inV _ _ = true by cases mw <;> decide +kernel⟩
theorem placed_get {H : Hp} {vs : List V} {ys : List (Frac × Item)} {i : Nat} {x : V} (r : RpA H vs (placed ys)) (h : vs[i]? = some x) : ∃ y a vp vi, ys[i]? = some y ∧ x = .ref a ∧ H a = some (.tup [vp, vi]) ∧ FAt H vp y.1 ∧ Rp H vi y.2.d := by
  obtain ⟨d, h1, h2⟩ := r.get h
  rw [placed, List.getElem?_map] at h1
  cases e : ys[i]? with
  | none => rw [e] at h1; cases h1
  | some y =>
    rw [e] at h1
    cases h1
    obtain ⟨a, us, rfl, h3, r⟩ := h2.tup_inv
    obtain ⟨v1, r1, rfl, e1, r⟩ := r.cons_inv
    obtain ⟨v2, r2, rfl, e2, r⟩ := r.cons_inv
    cases r.nil_inv
    exact ⟨y, a, v1, v2, rfl, rfl, h3, e1.fat, e2⟩
theorem filter_take {α : Type} {l : List α} {i : Nat} {x : α} {p : α → Bool} (h : l[i]? = some x) : (l.take (i + 1)).filter p = (l.take i).filter p ++ if p x = true then [x] else [] := by
  rw [take_succ h, List.filter_append]
  by_cases c : p x = true
  · rw [if_pos c]; simp [c]
  · rw [if_neg c]; simp [c]
section
variable {P : Program} {w : World} {K : PySem.W.Frag} {mg : Str → Option Value} {base : Heap}
/- slots of voice_of: 0 bar, 1 voice, 2 place, 3 item -/
theorem sc_voice_of : FnScope ["bar", "voice", "place", "item"] ["bar", "voice"] (defScope s_voice_of) := ⟨rfl, rfl, rfl, by decide +kernel, rfl, by decide +kernel, by decide +kernel⟩
theorem cal_voice_of (T : Tx w K mg) : Cal P w K mg base CX0 (13) "voice_of" ["bar", "voice"] spVoice := by
  refine Cal.of T.f_voice_of T.g_voice_of sc_voice_of (fun _ _ _ _ _ _ us hl => match us, hl with | [_, _], _ => rfl) (fun vs H Q E h => by obtain ⟨x0, x1, rfl, _⟩ := h; rfl) (fun f cdv A outer s H vs Q E hr h => ?_)
  obtain ⟨v0, v1, rfl, h⟩ := h
  refine ⟨_, (pss_cons (ps_if (pt_cmpR op_ge (pv 1) (pe_callB call_len_seq (by rfl) T.b_len PySem.boot_len (pa_cons (pe_ix ix_tup (pv 0) pe_int (fun _ _ => rfl)) pa_nil)) (nomark _)) (pss_one (ps_ret (pe_lst pa_nil))) pss_nil)
    (pss_one (ps_ret (pe_lc (own := [("place", 2), ("item", 3)]) (by rfl) sc_voice_of.nd (pi_list (pc (cal_laid T) hr (pa_cons (pe_ix ix_tup (pe_ix ix_tup (pv 0) pe_int (fun _ _ => rfl)) (pv 1) (fun _ _ => rfl)) pa_nil))) (blkOk_by (own := [("place", 2), ("item", 3)]) (N := ["bar", "voice", "place", "item"]) (sc := defScope s_voice_of) (by decide +kernel)) (fun _ _ _ _ _ => (pg_tupK K 2 (by rfl) (pgs_cons (pg_name (i := 2) sc_voice_of.nd rfl (Or.inl rfl)) (pgs_cons (pg_name (i := 3) sc_voice_of.nd rfl (Or.inl rfl)) pgs_nil)))) (fun _ _ _ _ _ => (pts_one (pt_cmpR (op_notInK K) (pe_ix (ix_tupK K) (pv 3) pe_int (fun _ _ => rfl)) (pe_gref T.g_MARKS) (by rfl)))) (fun _ _ _ _ _ => (pe_tup (pa_cons (pv 2) (pa_cons (pv 3) pa_nil)))))))), ?_⟩
  obtain ⟨size, its, rest, hb, rfl, bok, k⟩ := h
  obtain ⟨a, vl, vv, rfl, ha, hsz, hv⟩ := hb.bar_inv
  obtain ⟨av, vvs, rfl, hav, rv⟩ := hv.tup_inv
  obtain ⟨v1, vr, rfl, r1, _⟩ := rv.cons_inv
  refine ⟨_, rfl, _, rfl, _, _, _, _, rfl, rfl, SqT.of (ha), atI_nat (j := 2) rfl, _, _, rfl, .inr (SqT.of hav), ?_⟩
  refine ⟨_, _, rfl, rfl, _, rfl, itF (dF (by simp)) ?_⟩
  refine ⟨_, rfl, _, _, _, _, rfl, rfl, SqT.of (ha), atI_nat (j := 2) rfl, _, rfl, _, _, _, _, rfl, rfl, SqT.of hav, atI_nat (j := 0) rfl, ?_⟩
  refine ⟨_, rfl, its, r1, bok, fun H1 l vs ys s1 hl hv1 rv1 el => ?_⟩
  refine ⟨l, rfl, ⟨vs, SqL.of hv1⟩, fun D hD => ?_⟩
  have hys : ys.length = vs.length := by rw [rv1.len, placed, List.length_map]
  have hlD : l ≠ D := ne_of_none hv1 hD
  have hle : vs.length ≤ sizeLine := by
    obtain ⟨_, d, L, _, _, _, _, h2⟩ := bok
    have h3 : ys.length = cntI its := by rw [← List.length_map (f := Prod.snd) (as := ys), el, lay0, laidI_len]
    have h4 : cntI its * 1 ≤ cntI its * (L + 2 * d + 2) := Nat.mul_le_mul_left _ (by omega)
    exact Nat.le_of_lt (size9 (by omega))
  refine lc_it (walk_list (xs := vs)) (fun i H' => Same H1 H' ∧ ∃ us zs, H' D = some (.lst us) ∧ RpA H' us (placed zs) ∧ zs.map Prod.snd = ((lay0 its).take i).filter Item.noteB ∧ us.length ≤ i) ⟨same_new hD, [], [], upd_same, .nil, rfl, Nat.le_refl _⟩ ?_ ?_ ?_
  · rintro i H' _ ⟨s, _⟩
    exact SqL.of (s.on hv1)
  · rintro i x H' H2 hi ⟨s, us, zs, hu, ru, ez, hul⟩ ⟨rfl, hx⟩
    obtain ⟨y, b, vp, vi, hy, rfl, hb, hp, hit⟩ := placed_get (rv1.mono s.tk) hx
    have hy2 : (lay0 its)[i]? = some y.2 := by rw [← el, List.getElem?_map, hy]; rfl
    obtain ⟨c, st, cs, rfl, hc, hin⟩ := item_in _ hit
    have ef := filter_take (p := Item.noteB) hy2
    refine ⟨b, _, rfl, SqT.of hb, rfl, _, _, rfl, _, _, rfl, rfl, rfl, ?_⟩
    refine ⟨_, rfl, _, _, _, _, rfl, rfl, SqT.of (hc), atI_nat (j := 0) rfl, _, _, rfl, .inr (T.t_MARKS _), rfl, rfl, ?_⟩
    refine ⟨_, rfl, ?_⟩
    rw [hin]
    by_cases cm : y.2.isMark = true
    · rw [cm]
      refine itF (by decide) ?_
      rw [if_neg (by rw [Item.noteB, cm]; decide), List.append_nil] at ef
      exact ⟨s, us, zs, hu, ru, by rw [ef]; exact ez, by omega⟩
    · have cm' : y.2.isMark = false := by cases h : y.2.isMark <;> simp_all
      rw [cm']
      refine itT (by decide) ?_
      rw [if_pos (by rw [Item.noteB, cm']; decide)] at ef
      refine ⟨_, rfl, _, rfl, (by show 2 ≤ sizeLine; decide), fun q hq => ?_⟩
      have s2 := same_new (o := .tup [vp, .ref c]) hq
      refine ⟨us, s2.on hu, by omega, same_up (s.trans s2) hD, us ++ [.ref q], zs ++ [y], upd_same, ?_, ?_, by rw [List.length_append]; show us.length + 1 ≤ i + 1; omega⟩
      · have tk := tk_lst (o := .lst (us ++ [.ref q])) (s2.on hu)
        rw [placed_app]
        refine ((ru.mono s2.tk).mono tk).app (.cons ?_ .nil)
        exact .tup (tk _ _ upd_same) (.cons ((hp.mono s2.tk).mono tk).rp (.cons ((hit.mono s2.tk).mono tk) .nil))
      · rw [List.map_append, ez, ef]
        rfl
  · rintro H' ⟨s, us, zs, hu, ru, ez, hul⟩
    have e : vs.length = (lay0 its).length := by rw [← el, List.length_map]; omega
    rw [e, List.take_length] at ez
    exact k H' D us zs (s1.trans s) (none_of_same s1 hD) hu ru ez
end
end MC
set_option Elab.async false
set_option linter.all false
set_option maxRecDepth 100000
set_option maxHeartbeats 4000000
namespace MC
open PySem PySem.Spec PyProof.Rows L2
mutual
def Item.turned (up : Int) (by_ : Frac) : Item → Item
  | .tone ps len ti he => .tone (ps.map fun p => p + up) (ftimes len by_) ti he
  | .rest len => .rest (ftimes len by_)
  | .group m t its => .group m t (turnedI up by_ its)
  | .mark w ds => .mark w ds
def turnedI (up : Int) (by_ : Frac) : List Item → List Item
  | [] => []
  | x :: r => x.turned up by_ :: turnedI up by_ r
end
theorem turnedI_map (up : Int) (by_ : Frac) : ∀ l : List Item, turnedI up by_ l = l.map (Item.turned up by_)
  | [] => rfl
  | x :: r => by rw [turnedI, turnedI_map up by_ r]; rfl
def spItemT (n : Nat) : Sp := Sp3 fun a b c H Q _ => ∃ (d L B : Nat) (x : Item) (up : Int) (by_ : Frac), d < n ∧ x.ok L d ∧ Rp H a x.d ∧ b = .int up ∧ FAt H c by_ ∧ FB B by_ ∧ 0 < L ∧ 0 < B ∧ L + B ≤ 9000 ∧
  ∀ H' v, Same H H' → Rp H' v (x.turned up by_).d → Q v H'
def spItemsT (n : Nat) : Sp := Sp3 fun a b c H Q _ => ∃ (d L B : Nat) (its : List Item) (up : Int) (by_ : Frac), d < n ∧ itemsOk L d its ∧ its.length ≤ 100 ∧ Rp H a (.tuple (itemsD its)) ∧ b = .int up ∧ FAt H c by_ ∧ FB B by_ ∧ 0 < L ∧ 0 < B ∧ L + B ≤ 9000 ∧
  ∀ H' v, Same H H' → Rp H' v (.tuple (itemsD (turnedI up by_ its))) → Q v H'
theorem size5 {n : Nat} (h : n ≤ 5) : n ≤ sizeLine := by rw [sizeLine_eq]; omega
theorem size100 {n : Nat} (h : n ≤ 100) : n ≤ sizeLine := by rw [sizeLine_eq]; omega
section
variable {P : Program} {w : World} {K : PySem.W.Frag} {mg : Str → Option Value} {base : Heap}
/- slots of item_turned: 0 item, 1 up*, 2 by, 3 pitch -/
theorem sc_item_turned : FnScope ["item", "up", "by", "pitch"] ["item", "up", "by"] (defScope s_item_turned) := ⟨rfl, rfl, rfl, by decide +kernel, rfl, by decide +kernel, by decide +kernel⟩
/- slots of items_turned: 0 items, 1 up*, 2 by*, 3 item -/
theorem sc_items_turned : FnScope ["items", "up", "by", "item"] ["items", "up", "by"] (defScope s_items_turned) := ⟨rfl, rfl, rfl, by decide +kernel, rfl, by decide +kernel, by decide +kernel⟩
theorem cal_turned2 (T : Tx w K mg) : ∀ n, Cal P w K mg base CX0 (2 * n + 4) "item_turned" ["item", "up", "by"] (spItemT n) ∧ Cal P w K mg base CX0 (2 * n + 5) "items_turned" ["items", "up", "by"] (spItemsT n) := by
  intro n
  induction n with
  | zero =>
    have no : ∀ vs H Q E, ¬ spItemT 0 vs H Q E := by
      rintro vs H Q E ⟨a, b, c, _, d, L, B, its, up, by_, h, _⟩
      omega
    have no2 : ∀ vs H Q E, ¬ spItemsT 0 vs H Q E := by
      rintro vs H Q E ⟨a, b, c, _, d, L, B, its, up, by_, h, _⟩
      omega
    refine ⟨?_, ?_⟩
    · skip
      exact Cal.of T.f_item_turned T.g_item_turned sc_item_turned (fun _ _ _ _ _ _ us hl => match us, hl with | [_, _, _], _ => rfl) (fun vs H Q E h => (no vs H Q E h).elim) (fun _ _ _ _ _ H vs Q E _ h => (no vs H Q E h).elim)
    · replace no := no2
      exact Cal.of T.f_items_turned T.g_items_turned sc_items_turned (fun _ _ _ _ _ _ us hl => match us, hl with | [_, _, _], _ => rfl) (fun vs H Q E h => (no vs H Q E h).elim) (fun _ _ _ _ _ H vs Q E _ h => (no vs H Q E h).elim)
  | succ n ih =>
  obtain ⟨ihA, ihB⟩ := ih
  have hA : Cal P w K mg base CX0 (2 * n + 6) "item_turned" ["item", "up", "by"] (spItemT (n + 1)) := by
    refine Cal.of T.f_item_turned T.g_item_turned sc_item_turned (fun _ _ _ _ _ _ us hl => match us, hl with | [_, _, _], _ => rfl) (fun vs H Q E h => by obtain ⟨x0, x1, x2, rfl, _⟩ := h; rfl) (fun f cdv A outer s H vs Q E hr h => ?_)
    obtain ⟨v0, v1, v2, rfl, h⟩ := h
    refine ⟨_, (pss_cons (ps_if (pt_cmpR op_eq (pe_ix ix_tup (pv 0) pe_int (fun _ _ => rfl)) pe_str (nomark _)) (pss_one (ps_ret (pe_op op_catA (pe_tup (pa_cons pe_str (pa_cons (pe_callTy call_tuple_of (by rfl) T.b_tuple (by decide +kernel) (pa_cons (pe_lc (own := [("pitch", 3)]) (by rfl) sc_item_turned.nd (pi_tup (pe_ix ix_tup (pv 0) pe_int (fun _ _ => rfl))) (blkOk_by (own := [("pitch", 3)]) (N := ["item", "up", "by", "pitch"]) (sc := defScope s_item_turned) (by decide +kernel)) (fun _ _ _ _ _ => (pg_name (i := 3) sc_item_turned.nd rfl (Or.inl rfl))) (fun _ _ _ _ _ => pts_nil) (fun _ _ _ _ _ => (pe_op op_add (pv 3) (pv 1)))) pa_nil)) (pa_cons (pc (cal_times T) hr (pa_cons (pe_ix ix_tup (pv 0) pe_int (fun _ _ => rfl)) (pa_cons (pv 2) pa_nil))) pa_nil)))) (pe_slice sl_tupA (pv 0) (po_some pe_int) po_none)))) pss_nil)
      (pss_cons (ps_if (pt_cmpR op_eq (pe_ix ix_tup (pv 0) pe_int (fun _ _ => rfl)) pe_str (nomark _)) (pss_one (ps_ret (pe_tup (pa_cons pe_str (pa_cons (pc (cal_times T) hr (pa_cons (pe_ix ix_tup (pv 0) pe_int (fun _ _ => rfl)) (pa_cons (pv 2) pa_nil))) pa_nil))))) pss_nil)
      (pss_cons (ps_if (pt_cmpR op_eq (pe_ix ix_tup (pv 0) pe_int (fun _ _ => rfl)) pe_str (nomark _)) (pss_one (ps_ret (pe_op op_catA (pe_slice sl_tupA (pv 0) po_none (po_some pe_int)) (pe_tup (pa_cons (pc (ihB) hr (pa_cons (pe_ix ix_tup (pv 0) pe_int (fun _ _ => rfl)) (pa_cons (pv 1) (pa_cons (pv 2) pa_nil)))) pa_nil))))) pss_nil)
      (pss_one (ps_ret (pv 0)))))), ?_⟩
    obtain ⟨d, L, B, x, up, by_, hd, ok, hx, rfl, hby, bb, L0, B0, h9, k⟩ := h
    cases x with
    | tone ps len ti he =>
      obtain ⟨a, vp, vl, rfl, ha, rp, rl⟩ := hx.tone_inv
      obtain ⟨ap, rfl, hap⟩ := rp.ints
      have ok : FB L len ∧ ps.length ≤ 10 := by rw [Item.ok] at ok; exact ok
      refine ⟨_, rfl, _, _, _, _, rfl, rfl, SqT.of (ha), atI_nat (j := 0) rfl, ⟨rfl, _, rfl, itT (dT rfl) ?_⟩⟩
      refine ⟨_, rfl, _, _, _, _, rfl, rfl, SqT.of (ha), atI_nat (j := 1) rfl, ap, rfl, ⟨_, SqT.of hap⟩, fun D hD => ?_⟩
      refine lc_rp (walk_tup (xs := ps.map V.int)) hD (ps.map fun p => PyData.int (p + up)) (by simp) (by rw [List.length_map]; exact size100 (by omega)) (fun H s => SqT.of (s.on hap)) ?_ ?_
      · rintro i x H1 H2 d hi s e ⟨rfl, hx⟩ C N kk
        rw [List.getElem?_map] at hx e
        cases ep : ps[i]? with
        | none => rw [ep] at hx; cases hx
        | some p =>
          rw [ep] at hx e
          cases hx
          cases e
          refine ⟨rfl, yesT ?_⟩
          refine ⟨_, rfl, _, rfl, _, _, rfl, rfl, ?_⟩
          exact kk _ _ (same_refl _) (.int _)
      intro H1 us s1 hu ru
      have eu : us = (ps.map fun p => p + up).map V.int := by
        refine rpa_ints_inv (H := H1) _ ?_
        rw [List.map_map]
        exact ru
      refine ⟨D, us, rfl, .inl ⟨SqL.of hu, fun p hp => ?_⟩⟩
      have s2 := s1.trans (same_new (o := .tup us) hp)
      refine ⟨_, rfl, _, _, _, _, rfl, rfl, SqT.of (s2.on ha), atI_nat (j := 2) rfl, _, rfl, ?_⟩
      refine ⟨_, _, rfl, len, by_, L, B, rl.mono s2.tk, hby.mono s2.tk, ok.1, bb, L0, B0, h9, fun bq q hq => ?_⟩
      have s3 := s2.trans (same_new (o := .tup (fV (ftimes len by_))) hq)
      refine ⟨(by show 3 ≤ sizeLine; decide), fun q2 hq2 => ?_⟩
      have s4 := s3.trans (same_new (o := .tup [.str "tone", .ref p, .ref q]) hq2)
      refine ⟨_, rfl, 3, rfl, a, _, rfl, SqT.of (s4.on ha), fun z => absurd z.1 (show ¬ HT.sIx 5 0 (some 3) = 0 by decide), fun _ q3 hq3 => ?_⟩
      have hq2' := (same_new (o := .tup (cutV [.str "tone", .ref ap, vl, .bl ti, .bl he] (some 3) none)) hq3).on (upd_same (H := upd (upd H1 p (.tup us)) q (.tup (fV (ftimes len by_)))) (a := q2) (o := .tup [.str "tone", .ref p, .ref q]))
      have hp' := (same_new (o := .tup (cutV [.str "tone", .ref ap, vl, .bl ti, .bl he] (some 3) none)) hq3).on ((same_new (o := .tup [.str "tone", .ref p, .ref q]) hq2).on ((same_new (o := .tup (fV (ftimes len by_))) hq).on (upd_same (H := H1) (a := p) (o := .tup us))))
      have hq' := (same_new (o := .tup (cutV [.str "tone", .ref ap, vl, .bl ti, .bl he] (some 3) none)) hq3).on ((same_new (o := .tup [.str "tone", .ref p, .ref q]) hq2).on (upd_same (H := upd H1 p (.tup us)) (a := q) (o := .tup (fV (ftimes len by_)))))
      have s5 := s4.trans (same_new (o := .tup (cutV [.str "tone", .ref ap, vl, .bl ti, .bl he] (some 3) none)) hq3)
      refine ⟨q2, q3, [.str "tone", .ref p, .ref q], [.bl ti, .bl he], rfl, rfl, SqT.of hq2', SqT.of upd_same, (by show 5 ≤ sizeLine; decide), fun z => absurd z (List.cons_ne_nil _ _), fun _ z => absurd z (List.cons_ne_nil _ _), fun _ _ q4 hq4 => ?_⟩
      refine k _ _ (s5.trans (same_new hq4)) ?_
      rw [Item.turned]
      have t4 := tk_new (o := .tup ([.str "tone", .ref p, .ref q] ++ cutV [.str "tone", .ref ap, vl, .bl ti, .bl he] (some 3) none)) hq4
      refine rp_tone (vp := .ref p) (vl := .ref q) upd_same (rp_ints ?_) ⟨q, rfl, t4 _ _ hq'⟩
      rw [← eu]
      exact t4 _ _ hp'
    | rest len =>
      obtain ⟨a, vl, rfl, ha, rl⟩ := hx.rest_inv
      have ok : FB L len := by rw [Item.ok] at ok; exact ok
      refine ⟨_, rfl, _, _, _, _, rfl, rfl, SqT.of (ha), atI_nat (j := 0) rfl, ⟨rfl, _, rfl, itF (bF (by decide +kernel)) ?_⟩⟩
      refine ⟨_, rfl, _, _, _, _, rfl, rfl, SqT.of (ha), atI_nat (j := 0) rfl, ⟨rfl, _, rfl, itT (dT rfl) ?_⟩⟩
      refine ⟨_, rfl, _, _, _, _, rfl, rfl, SqT.of (ha), atI_nat (j := 1) rfl, _, rfl, ?_⟩
      refine ⟨_, _, rfl, len, by_, L, B, rl, hby, ok, bb, L0, B0, h9, fun bq q hq => ?_⟩
      refine ⟨(by show 2 ≤ sizeLine; decide), fun q2 hq2 => ?_⟩
      refine k _ _ ((same_new hq).trans (same_new hq2)) ?_
      rw [Item.turned]
      exact rp_rest upd_same ⟨q, rfl, (same_new hq2).on upd_same⟩
    | group m t its =>
      obtain ⟨a, vi, rfl, ha, ri⟩ := hx.group_inv
      cases d with
      | zero => rw [Item.ok] at ok; exact ok.elim
      | succ d =>
      rw [Item.ok] at ok
      obtain ⟨_, _, _, _, gl, gok⟩ := ok
      refine ⟨_, rfl, _, _, _, _, rfl, rfl, SqT.of (ha), atI_nat (j := 0) rfl, ⟨rfl, _, rfl, itF (bF (by decide +kernel)) ?_⟩⟩
      refine ⟨_, rfl, _, _, _, _, rfl, rfl, SqT.of (ha), atI_nat (j := 0) rfl, ⟨rfl, _, rfl, itF (bF (by decide +kernel)) ?_⟩⟩
      refine ⟨_, rfl, _, _, _, _, rfl, rfl, SqT.of (ha), atI_nat (j := 0) rfl, ⟨rfl, _, rfl, itT (dT rfl) ?_⟩⟩
      refine ⟨_, rfl, 3, rfl, a, _, rfl, SqT.of ha, fun z => absurd z.2 (show ¬ HT.sIx 4 4 (some 3) = 4 by decide), fun _ q hq => ?_⟩
      have s1 := same_new (o := .tup (cutV [.str "group", .int m, .int t, vi] none (some 3))) hq
      refine ⟨_, rfl, _, _, _, _, rfl, rfl, SqT.of (s1.on ha), atI_nat (j := 3) rfl, _, rfl, _, rfl, ?_⟩
      refine ⟨_, _, _, rfl, d, L, B, its, up, by_, by omega, gok, gl, ri.mono s1.tk, rfl, hby.mono s1.tk, bb, L0, B0, h9, fun H1 v s2 rv => ?_⟩
      refine ⟨(by show 1 ≤ sizeLine; decide), fun q2 hq2 => ?_⟩
      have s3 := s2.trans (same_new (o := .tup [v]) hq2)
      refine ⟨q, q2, [.str "group", .int m, .int t], [v], rfl, rfl, SqT.of (s3.on upd_same), SqT.of upd_same, (by show 4 ≤ sizeLine; decide), fun z => absurd z (List.cons_ne_nil _ _), fun _ z => absurd z (List.cons_ne_nil _ _), fun _ _ q4 hq4 => ?_⟩
      refine k _ _ (s1.trans (s3.trans (same_new hq4))) ?_
      rw [Item.turned]
      exact rp_group (vi := v) upd_same ((rv.mono (tk_new hq2)).mono (tk_new hq4))
    | mark mw ds =>
      obtain ⟨a, mv, rfl, ha, rm⟩ := hx.mark_inv
      obtain ⟨n1, n2, n3⟩ := mw_ne mw
      refine ⟨_, rfl, _, _, _, _, rfl, rfl, SqT.of (ha), atI_nat (j := 0) rfl, ⟨rfl, _, rfl, itF (bF n2) ?_⟩⟩
      refine ⟨_, rfl, _, _, _, _, rfl, rfl, SqT.of (ha), atI_nat (j := 0) rfl, ⟨rfl, _, rfl, itF (bF n3) ?_⟩⟩
      refine ⟨_, rfl, _, _, _, _, rfl, rfl, SqT.of (ha), atI_nat (j := 0) rfl, ⟨rfl, _, rfl, itF (bF n1) ?_⟩⟩
      refine ⟨_, rfl, ?_⟩
      refine k _ _ (same_refl _) ?_
      rw [Item.turned]
      exact hx
  refine ⟨hA, ?_⟩
  refine Cal.of T.f_items_turned T.g_items_turned sc_items_turned (fun _ _ _ _ _ _ us hl => match us, hl with | [_, _, _], _ => rfl) (fun vs H Q E h => by obtain ⟨x0, x1, x2, rfl, _⟩ := h; rfl) (fun f cdv A outer s H vs Q E hr h => ?_)
  obtain ⟨v0, v1, v2, rfl, h⟩ := h
  refine ⟨_, (pss_one (ps_ret (pe_callTy call_tuple_of (by rfl) T.b_tuple (by decide +kernel) (pa_cons (pe_lc (own := [("item", 3)]) (by rfl) sc_items_turned.nd (pi_tup (pv 0)) (blkOk_by (own := [("item", 3)]) (N := ["items", "up", "by", "item"]) (sc := defScope s_items_turned) (by decide +kernel)) (fun _ _ _ _ _ => (pg_name (i := 3) sc_items_turned.nd rfl (Or.inl rfl))) (fun _ _ _ _ _ => pts_nil) (fun _ _ _ _ _ => (pc (hA) hr (pa_cons (pv 3) (pa_cons (pv 1) (pa_cons (pv 2) pa_nil)))))) pa_nil)))), ?_⟩
  obtain ⟨d, L, B, its, up, by_, hd, ok, il, hx, rfl, hby, bb, L0, B0, h9, k⟩ := h
  obtain ⟨a, vs, rfl, ha, r⟩ := hx.tup_inv
  have hl : vs.length = its.length := by rw [r.len, itemsD_map, List.length_map]
  refine ⟨_, rfl, a, rfl, ⟨_, SqT.of ha⟩, fun D hD => ?_⟩
  refine lc_rp (walk_tup (xs := vs)) hD (itemsD (turnedI up by_ its)) (by rw [itemsD_map, turnedI_map]; simp [hl]) (by rw [hl]; exact size100 il) (fun H s => SqT.of (s.on ha)) ?_ ?_
  · rintro i x H1 H2 dd hi s e ⟨rfl, hx⟩ C N kk
    obtain ⟨it, hit, rx⟩ := rpa_items_get r hx
    have e2 : dd = (it.turned up by_).d := by
      rw [itemsD_map, turnedI_map, List.map_map, List.getElem?_map, hit] at e
      exact (Option.some.inj e).symm
    subst e2
    refine ⟨rfl, yesT ?_⟩
    refine ⟨_, rfl, _, rfl, _, rfl, ?_⟩
    exact ⟨_, _, _, rfl, d, L, B, it, up, by_, hd, itemsOk_get ok hit, rx.mono s.tk, rfl, hby.mono s.tk, bb, L0, B0, h9, fun H3 v s3 rv => kk _ _ s3 rv⟩
  intro H1 us s1 hu ru
  refine ⟨D, us, rfl, .inl ⟨SqL.of hu, fun p hp => ?_⟩⟩
  exact k _ _ (s1.trans (same_new hp)) (.tup upd_same (ru.mono (tk_new hp)))
end
/-! ### a bar turned, the things of an entry -/
def vsD (vss : List (List Item)) : PyData := .tuple (vss.map fun its => .tuple (itemsD its))
theorem rpa_vs_get {H : Hp} {vs : List V} {vss : List (List Item)} {i : Nat} {x : V} (r : RpA H vs (vss.map fun its => .tuple (itemsD its))) (h : vs[i]? = some x) : ∃ its, vss[i]? = some its ∧ Rp H x (.tuple (itemsD its)) := by
  obtain ⟨d, h1, h2⟩ := r.get h
  rw [List.getElem?_map] at h1
  cases e : vss[i]? with
  | none => rw [e] at h1; cases h1
  | some it => rw [e] at h1; cases h1; exact ⟨it, rfl, h2⟩
/-- the voices of a bar are within bounds: lengths below 2 ^ L, groups not deeper than 6 -/
def VsOk (L : Nat) (vss : List (List Item)) : Prop := vss.length ≤ 100 ∧ ∀ its ∈ vss, its.length ≤ 100 ∧ itemsOk L 6 its
def spBarT : Sp := Sp3 fun a b c H Q _ => ∃ (L B S : Nat) (size : Frac) (vss : List (List Item)) (up : Int) (by_ : Frac), Rp H a (barD size vss) ∧ b = .int up ∧ FAt H c by_ ∧ FB B by_ ∧ FB S size ∧ VsOk L vss ∧ 0 < L ∧ 0 < B ∧ 0 < S ∧ L + B ≤ 9000 ∧ S + B ≤ 9000 ∧
  ∀ H' v, Same H H' → Rp H' v (barD (ftimes size by_) (vss.map (turnedI up by_))) → Q v H'
section
variable {P : Program} {w : World} {K : PySem.W.Frag} {mg : Str → Option Value} {base : Heap}
/- slots of bar_turned: 0 bar, 1 up*, 2 by*, 3 items -/
theorem sc_bar_turned : FnScope ["bar", "up", "by", "items"] ["bar", "up", "by"] (defScope s_bar_turned) := ⟨rfl, rfl, rfl, by decide +kernel, rfl, by decide +kernel, by decide +kernel⟩
theorem cal_bar_turned (T : Tx w K mg) : Cal P w K mg base CX0 (20) "bar_turned" ["bar", "up", "by"] spBarT := by
  refine Cal.of T.f_bar_turned T.g_bar_turned sc_bar_turned (fun _ _ _ _ _ _ us hl => match us, hl with | [_, _, _], _ => rfl) (fun vs H Q E h => by obtain ⟨x0, x1, x2, rfl, _⟩ := h; rfl) (fun f cdv A outer s H vs Q E hr h => ?_)
  obtain ⟨v0, v1, v2, rfl, h⟩ := h
  refine ⟨_, (pss_one (ps_ret (pe_tup (pa_cons pe_str (pa_cons (pc (cal_times T) hr (pa_cons (pe_ix ix_tup (pv 0) pe_int (fun _ _ => rfl)) (pa_cons (pv 2) pa_nil))) (pa_cons (pe_callTy call_tuple_of (by rfl) T.b_tuple (by decide +kernel) (pa_cons (pe_lc (own := [("items", 3)]) (by rfl) sc_bar_turned.nd (pi_tup (pe_ix ix_tup (pv 0) pe_int (fun _ _ => rfl))) (blkOk_by (own := [("items", 3)]) (N := ["bar", "up", "by", "items"]) (sc := defScope s_bar_turned) (by decide +kernel)) (fun _ _ _ _ _ => (pg_name (i := 3) sc_bar_turned.nd rfl (Or.inl rfl))) (fun _ _ _ _ _ => pts_nil) (fun _ _ _ _ _ => (pc ((cal_turned2 T 7).2) hr (pa_cons (pv 3) (pa_cons (pv 1) (pa_cons (pv 2) pa_nil)))))) pa_nil)) pa_nil)))))), ?_⟩
  obtain ⟨L, B, S, size, vss, up, by_, hb, rfl, hby, bb, bs, ok, L0, B0, S0, h9, hs9, k⟩ := h
  obtain ⟨a, vl, vv, rfl, ha, hsz, hv⟩ := hb.bar_inv
  obtain ⟨av, vs, rfl, hav, rv⟩ := hv.tup_inv
  have hl : vs.length = vss.length := by rw [rv.len, List.length_map]
  refine ⟨_, rfl, _, _, _, _, rfl, rfl, SqT.of (ha), atI_nat (j := 1) rfl, _, rfl, ?_⟩
  refine ⟨_, _, rfl, size, by_, S, B, hsz, hby, bs, bb, S0, B0, hs9, fun bq q hq => ?_⟩
  have s1 := same_new (o := .tup (fV (ftimes size by_))) hq
  refine ⟨_, rfl, _, _, _, _, rfl, rfl, SqT.of (s1.on ha), atI_nat (j := 2) rfl, av, rfl, ⟨_, SqT.of (s1.on hav)⟩, fun D hD => ?_⟩
  refine lc_rp (walk_tup (xs := vs)) hD ((vss.map (turnedI up by_)).map fun its => .tuple (itemsD its)) (by simp [hl]) (by rw [hl]; exact size100 ok.1) (fun H s => SqT.of (s.on (s1.on hav))) ?_ ?_
  · rintro i x H1 H2 dd hi s e ⟨rfl, hx⟩ C N kk
    obtain ⟨its, hit, rx⟩ := rpa_vs_get rv hx
    have e2 : dd = .tuple (itemsD (turnedI up by_ its)) := by
      rw [List.map_map, List.getElem?_map, hit] at e
      exact (Option.some.inj e).symm
    subst e2
    obtain ⟨o1, o2⟩ := ok.2 its (List.mem_of_getElem? hit)
    have s2 := s1.trans s
    refine ⟨rfl, yesT ?_⟩
    refine ⟨_, rfl, _, rfl, _, rfl, ?_⟩
    exact ⟨_, _, _, rfl, 6, L, B, its, up, by_, by omega, o2, o1, rx.mono s2.tk, rfl, hby.mono s2.tk, bb, L0, B0, h9, fun H3 v s3 rv => kk _ _ s3 rv⟩
  intro H1 us s2 hu ru
  refine ⟨D, us, rfl, .inl ⟨SqL.of hu, fun p hp => ?_⟩⟩
  have s3 := s2.trans (same_new (o := .tup us) hp)
  refine ⟨(by show 3 ≤ sizeLine; decide), fun q2 hq2 => ?_⟩
  have s4 := s3.trans (same_new (o := .tup [.str "bar", .ref q, .ref p]) hq2)
  refine k _ _ (s1.trans s4) ?_
  refine rp_bar upd_same ⟨q, rfl, s4.on upd_same⟩ (.tup ((same_new hq2).on upd_same) ((ru.mono (tk_new hp)).mono (tk_new hq2)))
end
/-- a written thing: pitches, length, way -/
structure Nt where
  ps : List Int
  len : Frac
  way : List Int
  deriving DecidableEq
def Nt.d (t : Nt) : PyData := .tuple [iD t.ps, fD t.len, iD t.way]
def Item.pitches : Item → List Int
  | .tone ps _ _ _ => ps
  | _ => []
def Item.len : Item → Frac
  | .tone _ len _ _ => len
  | .rest len => len
  | _ => (0, 1)
/-- no group, no mark -/
def Item.leaf : Item → Bool
  | .tone _ _ _ _ => true
  | .rest _ => true
  | _ => false
mutual
theorem Item.laid_leaf (b : Frac) : ∀ (x : Item) (y : Item), y ∈ (x.laid b).filter Item.noteB → y.leaf = true
  | .tone .., y, h => by
    rw [Item.laid] at h
    have := (List.mem_filter.mp h).1
    rw [List.mem_singleton] at this
    rw [this]; rfl
  | .rest _, y, h => by
    rw [Item.laid] at h
    have := (List.mem_filter.mp h).1
    rw [List.mem_singleton] at this
    rw [this]; rfl
  | .group m t its, y, h => by
    rw [Item.laid] at h
    exact laidI_leaf _ its y h
  | .mark .., y, h => by
    rw [Item.laid] at h
    have h1 := (List.mem_filter.mp h).1
    have h2 := (List.mem_filter.mp h).2
    rw [List.mem_singleton] at h1
    rw [h1] at h2
    exact absurd (show false = true from h2) (by decide)
theorem laidI_leaf (b : Frac) : ∀ (xs : List Item) (y : Item), y ∈ (laidI b xs).filter Item.noteB → y.leaf = true
  | [], y, h => by rw [laidI] at h; cases h
  | x :: r, y, h => by
    rw [laidI, List.filter_append] at h
    rcases List.mem_append.mp h with h | h
    · exact Item.laid_leaf b x y h
    · exact laidI_leaf b r y h
end
def things0 (its : List Item) (way : List Int) : List Nt := (notes0 its).map fun x => ⟨x.pitches, x.len, way⟩
theorem things0_len (its : List Item) (way : List Int) : (things0 its way).length = notesI its := by
  rw [things0, List.length_map, notes0, lay0]
  exact laidI_notes _ _
/-- an entry of a line: a bar with its way, a turn with its goals -/
inductive Entry where
  | bar (size : Frac) (vss : List (List Item)) (way : List Int)
  | turn (goals : List Int)
def Entry.d : Entry → PyData
  | .bar size vss way => .tuple [.str "bar", barD size vss, iD way]
  | .turn goals => .tuple [.str "turn", iD goals]
def Entry.things : Entry → List Nt
  | .bar _ (its :: _) way => things0 its way
  | .bar _ [] _ => []
  | .turn _ => []
/-- a bar with a first voice within bounds -/
def Entry.ok : Entry → Prop
  | .bar _ (its :: _) _ => BOk its
  | .bar _ [] _ => False
  | .turn _ => True
theorem Rp.ebar_inv {H : Hp} {v : V} {size : Frac} {vss : List (List Item)} {way : List Int} (h : Rp H v (Entry.bar size vss way).d) : ∃ a vb vw, v = .ref a ∧ H a = some (.tup [.str "bar", vb, vw]) ∧ Rp H vb (barD size vss) ∧ Rp H vw (iD way) := by
  rw [Entry.d] at h
  obtain ⟨a, vs, rfl, h1, r⟩ := h.tup_inv
  obtain ⟨v1, r1, rfl, e1, r⟩ := r.cons_inv
  obtain ⟨v2, r2, rfl, e2, r⟩ := r.cons_inv
  obtain ⟨v3, r3, rfl, e3, r⟩ := r.cons_inv
  cases r.nil_inv
  cases e1.str_inv
  exact ⟨a, v2, v3, rfl, h1, e2, e3⟩
theorem Rp.eturn_inv {H : Hp} {v : V} {goals : List Int} (h : Rp H v (Entry.turn goals).d) : ∃ a g, v = .ref a ∧ H a = some (.tup [.str "turn", .ref g]) ∧ H g = some (.tup (goals.map V.int)) := by
  rw [Entry.d] at h
  obtain ⟨a, vs, rfl, h1, r⟩ := h.tup_inv
  obtain ⟨v1, r1, rfl, e1, r⟩ := r.cons_inv
  obtain ⟨v2, r2, rfl, e2, r⟩ := r.cons_inv
  cases r.nil_inv
  cases e1.str_inv
  obtain ⟨g, rfl, hg⟩ := e2.ints
  exact ⟨a, g, rfl, h1, hg⟩
def spPit : Sp := Sp1 fun a H Q _ => ∃ x : Item, Rp H a x.d ∧ x.leaf = true ∧ ∀ H' v, Same H H' → Rp H' v (iD x.pitches) → Q v H'
def spLen : Sp := Sp1 fun a H Q _ => ∃ x : Item, Rp H a x.d ∧ x.leaf = true ∧ ∀ v, FAt H v x.len → Q v H
def spThings : Sp := Sp1 fun a H Q _ => ∃ e : Entry, Rp H a e.d ∧ e.ok ∧ ∀ H' l vs, Same H H' → H l = none → H' l = some (.lst vs) → RpA H' vs (e.things.map Nt.d) → Q (.ref l) H'
section
variable {P : Program} {w : World} {K : PySem.W.Frag} {mg : Str → Option Value} {base : Heap}
/- slots of pitches_of: 0 item -/
theorem sc_pitches_of : FnScope ["item"] ["item"] (defScope s_pitches_of) := ⟨rfl, rfl, rfl, by decide +kernel, rfl, by decide +kernel, by decide +kernel⟩
theorem cal_pitches_of (T : Tx w K mg) : Cal P w K mg base CX0 (1) "pitches_of" ["item"] spPit := by
  refine Cal.of T.f_pitches_of T.g_pitches_of sc_pitches_of (fun _ _ _ _ _ _ us hl => match us, hl with | [_], _ => rfl) (fun vs H Q E h => by obtain ⟨x0, rfl, _⟩ := h; rfl) (fun f cdv A outer s H vs Q E hr h => ?_)
  obtain ⟨v0, rfl, h⟩ := h
  refine ⟨_, (pss_cons (ps_if (pt_cmpR op_eq (pe_ix ix_tup (pv 0) pe_int (fun _ _ => rfl)) pe_str (nomark _)) (pss_one (ps_ret (pe_ix ix_tup (pv 0) pe_int (fun _ _ => rfl)))) pss_nil)
    (pss_one (ps_ret (pe_tup pa_nil)))), ?_⟩
  obtain ⟨x, hx, lf, k⟩ := h
  cases x with
  | tone ps len ti he =>
    obtain ⟨a, vp, vl, rfl, ha, rp, rl⟩ := hx.tone_inv
    refine ⟨_, rfl, _, _, _, _, rfl, rfl, SqT.of (ha), atI_nat (j := 0) rfl, ⟨rfl, _, rfl, itT (dT rfl) ?_⟩⟩
    exact ⟨_, rfl, _, _, _, _, rfl, rfl, SqT.of (ha), atI_nat (j := 1) rfl, k _ _ (same_refl _) rp⟩
  | rest len =>
    obtain ⟨a, vl, rfl, ha, rl⟩ := hx.rest_inv
    refine ⟨_, rfl, _, _, _, _, rfl, rfl, SqT.of (ha), atI_nat (j := 0) rfl, ⟨rfl, _, rfl, itF (bF (by decide +kernel)) ?_⟩⟩
    exact ⟨Nat.zero_le _, fun p hp => k _ _ (same_new hp) (.tup upd_same .nil)⟩
  | group m t its => cases lf
  | mark mw ds => cases lf
/- slots of length_of_item: 0 item -/
theorem sc_length_of_item : FnScope ["item"] ["item"] (defScope s_length_of_item) := ⟨rfl, rfl, rfl, by decide +kernel, rfl, by decide +kernel, by decide +kernel⟩
theorem cal_length_of_item (T : Tx w K mg) : Cal P w K mg base CX0 (1) "length_of_item" ["item"] spLen := by
  refine Cal.of T.f_length_of_item T.g_length_of_item sc_length_of_item (fun _ _ _ _ _ _ us hl => match us, hl with | [_], _ => rfl) (fun vs H Q E h => by obtain ⟨x0, rfl, _⟩ := h; rfl) (fun f cdv A outer s H vs Q E hr h => ?_)
  obtain ⟨v0, rfl, h⟩ := h
  refine ⟨_, (pss_cons (ps_if (pt_cmpR op_eq (pe_ix ix_tup (pv 0) pe_int (fun _ _ => rfl)) pe_str (nomark _)) (pss_one (ps_ret (pe_ix ix_tup (pv 0) pe_int (fun _ _ => rfl)))) pss_nil)
    (pss_one (ps_ret (pe_ix ix_tup (pv 0) pe_int (fun _ _ => rfl))))), ?_⟩
  obtain ⟨x, hx, lf, k⟩ := h
  cases x with
  | tone ps len ti he =>
    obtain ⟨a, vp, vl, rfl, ha, rp, rl⟩ := hx.tone_inv
    refine ⟨_, rfl, _, _, _, _, rfl, rfl, SqT.of (ha), atI_nat (j := 0) rfl, ⟨rfl, _, rfl, itT (dT rfl) ?_⟩⟩
    exact ⟨_, rfl, _, _, _, _, rfl, rfl, SqT.of (ha), atI_nat (j := 2) rfl, k _ rl⟩
  | rest len =>
    obtain ⟨a, vl, rfl, ha, rl⟩ := hx.rest_inv
    refine ⟨_, rfl, _, _, _, _, rfl, rfl, SqT.of (ha), atI_nat (j := 0) rfl, ⟨rfl, _, rfl, itF (bF (by decide +kernel)) ?_⟩⟩
    exact ⟨_, rfl, _, _, _, _, rfl, rfl, SqT.of (ha), atI_nat (j := 1) rfl, k _ rl⟩
  | group m t its => cases lf
  | mark mw ds => cases lf
/- slots of things_of: 0 entry*, 1 place, 2 item -/
theorem sc_things_of : FnScope ["entry", "place", "item"] ["entry"] (defScope s_things_of) := ⟨rfl, rfl, rfl, by decide +kernel, rfl, by decide +kernel, by decide +kernel⟩
theorem cal_things_of (T : Tx w K mg) : Cal P w K mg base CX0 (14) "things_of" ["entry"] spThings := by
  refine Cal.of T.f_things_of T.g_things_of sc_things_of (fun _ _ _ _ _ _ us hl => match us, hl with | [_], _ => rfl) (fun vs H Q E h => by obtain ⟨x0, rfl, _⟩ := h; rfl) (fun f cdv A outer s H vs Q E hr h => ?_)
  obtain ⟨v0, rfl, h⟩ := h
  refine ⟨_, (pss_cons (ps_if (pt_cmpR op_eq (pe_ix ix_tup (pv 0) pe_int (fun _ _ => rfl)) pe_str (nomark _)) (pss_one (ps_ret (pe_lst pa_nil))) pss_nil)
    (pss_one (ps_ret (pe_lc (own := [("place", 1), ("item", 2)]) (by rfl) sc_things_of.nd (pi_list (pc (cal_voice_of T) hr (pa_cons (pe_ix ix_tup (pv 0) pe_int (fun _ _ => rfl)) (pa_cons pe_int pa_nil)))) (blkOk_by (own := [("place", 1), ("item", 2)]) (N := ["entry", "place", "item"]) (sc := defScope s_things_of) (by decide +kernel)) (fun _ _ _ _ _ => (pg_tupK K 2 (by rfl) (pgs_cons (pg_name (i := 1) sc_things_of.nd rfl (Or.inl rfl)) (pgs_cons (pg_name (i := 2) sc_things_of.nd rfl (Or.inl rfl)) pgs_nil)))) (fun _ _ _ _ _ => pts_nil) (fun _ _ _ _ _ => (pe_tup (pa_cons (pc (cal_pitches_of T) hr (pa_cons (pv 2) pa_nil)) (pa_cons (pc (cal_length_of_item T) hr (pa_cons (pv 2) pa_nil)) (pa_cons (pe_ix (ix_tupK K) (pv 0) pe_int (fun _ _ => rfl)) pa_nil))))))))), ?_⟩
  obtain ⟨e, he, ok, k⟩ := h
  cases e with
  | turn goals =>
    obtain ⟨a, g, rfl, ha, hg⟩ := he.eturn_inv
    refine ⟨_, rfl, _, _, _, _, rfl, rfl, SqT.of (ha), atI_nat (j := 0) rfl, ⟨rfl, _, rfl, itT (dT rfl) ?_⟩⟩
    exact ⟨Nat.zero_le _, fun p hp => k _ p [] (same_new hp) hp upd_same .nil⟩
  | bar size vss way =>
    obtain ⟨a, vb, vw, rfl, ha, rb, rw'⟩ := he.ebar_inv
    cases vss with
    | nil => exact ok.elim
    | cons its rest =>
    have ok : BOk its := ok
    refine ⟨_, rfl, _, _, _, _, rfl, rfl, SqT.of (ha), atI_nat (j := 0) rfl, ⟨rfl, _, rfl, itF (bF (by decide +kernel)) ?_⟩⟩
    refine ⟨_, rfl, _, _, _, _, rfl, rfl, SqT.of (ha), atI_nat (j := 1) rfl, ?_⟩
    refine ⟨_, _, rfl, size, its, rest, rb, rfl, ok, fun H1 l vs ys s1 hl hv rv el => ?_⟩
    refine ⟨l, rfl, ⟨vs, SqL.of hv⟩, fun D hD => ?_⟩
    have hn : ys.length = vs.length := by rw [rv.len, placed, List.length_map]
    have hn2 : vs.length = (notes0 its).length := by rw [← el, List.length_map, hn]
    have hle : vs.length ≤ sizeLine := by
      obtain ⟨_, d, L, _, _, _, _, h2⟩ := ok
      have h3 : (notes0 its).length ≤ cntI its := by
        rw [notes0, lay0, ← laidI_len (1, 1)]
        exact List.length_filter_le _ _
      have h4 : cntI its * 1 ≤ cntI its * (L + 2 * d + 2) := Nat.mul_le_mul_left _ (by omega)
      exact Nat.le_of_lt (size9 (by omega))
    refine lc_rp (walk_list (xs := vs)) hD ((things0 its way).map Nt.d) (by rw [List.length_map, things0, List.length_map, hn2]) hle (fun H s => SqL.of (s.on hv)) ?_ ?_
    · rintro i x H2 H3 dd hi s e ⟨rfl, hx⟩ C N kk
      obtain ⟨y, b, vp, vi, hy, rfl, hb, hp, hit⟩ := placed_get (rv.mono s.tk) hx
      have hy2 : (notes0 its)[i]? = some y.2 := by rw [← el, List.getElem?_map, hy]; rfl
      have lf : y.2.leaf = true := laidI_leaf _ _ _ (List.mem_of_getElem? hy2)
      have e2 : dd = (Nt.mk y.2.pitches y.2.len way).d := by
        rw [List.getElem?_map, things0, List.getElem?_map, hy2] at e
        exact (Option.some.inj e).symm
      subst e2
      refine ⟨b, _, rfl, SqT.of hb, rfl, _, _, rfl, _, _, rfl, rfl, rfl, yesT ?_⟩
      refine ⟨_, rfl, _, rfl, y.2, hit, lf, fun H4 v1 s4 r1 => ?_⟩
      refine ⟨_, rfl, _, rfl, y.2, hit.mono s4.tk, lf, fun v2 r2 => ?_⟩
      have s14 := (s1.trans s).trans s4
      refine ⟨_, rfl, _, _, _, _, rfl, rfl, SqT.of (s14.on ha), atI_nat (j := 2) rfl, (by show 3 ≤ sizeLine; decide), fun q hq => ?_⟩
      refine kk _ _ (s4.trans (same_new hq)) ?_
      have t5 := tk_new (o := .tup [v1, v2, vw]) hq
      exact .tup upd_same (.cons (r1.mono t5) (.cons (r2.mono t5).rp (.cons ((rw'.mono s14.tk).mono t5) .nil)))
    · intro H2 us s2 hu ru
      exact k _ D us (s1.trans s2) (none_of_same s1 hD) hu ru
end
end MC
set_option Elab.async false
set_option linter.all false
set_option maxRecDepth 100000
set_option maxHeartbeats 4000000
namespace MC
open PySem PySem.Spec PyProof.Rows L2
/-! ### two lists, item by item -/
inductive All2 {α β : Type} (R : α → β → Prop) : List α → List β → Prop
  | nil : All2 R [] []
  | cons {a : α} {b : β} {l : List α} {r : List β} : R a b → All2 R l r → All2 R (a :: l) (b :: r)
section
variable {α β : Type} {R R' : α → β → Prop}
theorem All2.mono (h : ∀ a b, R a b → R' a b) : ∀ {l : List α} {r : List β}, All2 R l r → All2 R' l r
  | _, _, .nil => .nil
  | _, _, .cons x y => .cons (h _ _ x) (All2.mono h y)
theorem All2.app : ∀ {l : List α} {r : List β} {l' : List α} {r' : List β}, All2 R l r → All2 R l' r' → All2 R (l ++ l') (r ++ r')
  | _, _, _, _, .nil, s => s
  | _, _, _, _, .cons x y, s => .cons x (All2.app y s)
theorem All2.len : ∀ {l : List α} {r : List β}, All2 R l r → l.length = r.length
  | _, _, .nil => rfl
  | _, _, .cons _ y => congrArg Nat.succ (All2.len y)
theorem All2.get : ∀ {l : List α} {r : List β} {i : Nat} {a : α}, All2 R l r → l[i]? = some a → ∃ b, r[i]? = some b ∧ R a b
  | _, _, _, _, .nil, e => by simp at e
  | _, _, 0, _, .cons h _, e => by simp at e; subst e; exact ⟨_, rfl, h⟩
  | _, _, i + 1, v, .cons _ r, e => by
    obtain ⟨d, h1, h2⟩ := All2.get (i := i) (a := v) r (by simpa using e)
    exact ⟨d, by simpa using h1, h2⟩
theorem All2.getR : ∀ {l : List α} {r : List β} {i : Nat} {b : β}, All2 R l r → r[i]? = some b → ∃ a, l[i]? = some a ∧ R a b
  | _, _, _, _, .nil, e => by simp at e
  | _, _, 0, _, .cons h _, e => by simp at e; subst e; exact ⟨_, rfl, h⟩
  | _, _, i + 1, v, .cons _ r, e => by
    obtain ⟨d, h1, h2⟩ := All2.getR (i := i) (b := v) r (by simpa using e)
    exact ⟨d, by simpa using h1, h2⟩
theorem All2.set : ∀ {l : List α} {r : List β} {a : α} {b : β} (i : Nat), All2 R l r → R a b → All2 R (l.set i a) (r.set i b)
  | _, _, _, _, _, .nil, _ => .nil
  | _, _, _, _, 0, .cons _ y, h => .cons h y
  | _, _, _, _, i + 1, .cons x y, h => .cons x (All2.set i y h)
end
theorem RpA.set {H : Hp} : ∀ {vs : List V} {ds : List PyData} {v : V} {d : PyData} (i : Nat), RpA H vs ds → Rp H v d → RpA H (vs.set i v) (ds.set i d)
  | _, _, _, _, _, .nil, _ => .nil
  | _, _, _, _, 0, .cons _ y, h => .cons h y
  | _, _, _, _, i + 1, .cons x y, h => .cons x (RpA.set i y h)
/-! ### the things of a score -/
inductive Thing where
  | bar (size : Frac) (vss : List (List Item))
  | sign (s : Str)
  | turn (goals : List (Option Str))
  | use (f : Str) (up : Int) (by_ : Frac)
  | rep (many : Nat) (ths : List Thing) (ends : List (List Nat × List Thing))
def goalD : Option Str → PyData
  | none => .none
  | some s => .str s
def natsD (ns : List Nat) : PyData := .tuple (ns.map fun n => .int (n : Nat))
mutual
def Thing.d : Thing → PyData
  | .bar size vss => barD size vss
  | .sign s => .tuple [.str "sign", .str s]
  | .turn goals => .tuple [.str "turn", .tuple (goals.map goalD)]
  | .use f up by_ => .tuple [.str "use", .str f, .int up, fD by_]
  | .rep many ths ends => .tuple [.str "repeat", .int (many : Nat), .tuple (thingsD ths), .tuple (endsD ends)]
def thingsD : List Thing → List PyData
  | [] => []
  | x :: r => x.d :: thingsD r
def endsD : List (List Nat × List Thing) → List PyData
  | [] => []
  | (ns, ths) :: r => .tuple [natsD ns, .tuple (thingsD ths)] :: endsD r
end
theorem thingsD_map : ∀ l : List Thing, thingsD l = l.map Thing.d
  | [] => rfl
  | x :: r => by rw [thingsD, thingsD_map r]; rfl
theorem endsD_map : ∀ l : List (List Nat × List Thing), endsD l = l.map fun e => .tuple [natsD e.1, .tuple (thingsD e.2)]
  | [] => rfl
  | (ns, ths) :: r => by rw [endsD, endsD_map r]; rfl
/-! ### a line drafted -/
structure DS where
  ents : List Entry
  uses : Nat
  turns : List (Nat × List (Option Str) × Nat)
  dicts : List (List (Key × V))
structure Wn where
  way : List Int
  sid : Nat
  up : Int
  by_ : Frac
def DS.add (s : DS) (e : Entry) : DS := { s with ents := s.ents ++ [e] }
def DS.put (s : DS) (i : Nat) (gs : List Int) : DS := { s with ents := s.ents.set i (.turn gs) }
def DS.dput (s : DS) (i : Nat) (x : Str) : DS := { s with dicts := s.dicts.modify i fun kvs => putK kvs (.inr x) (.int (s.ents.length : Nat)) }
abbrev LayF := List Thing → Wn → Nat → DS → DS
/-- the endings of a repeat: state, number, begins, open turns -/
structure ES where
  s : DS
  number : Nat
  begins : List (Key × V)
  opens : List (Nat × List Nat)
def begun (here : Nat) : List Nat → List (Key × V) → List (Key × V)
  | [], b => b
  | k :: r, b => begun here r (putK b (.inl (k : Nat)) (.int (here : Nat)))
def layEnd (f : LayF) (w : Wn) (e : List Nat × List Thing) (x : ES) : ES :=
  let s1 := f e.2 w x.number x.s
  ⟨s1.add (.turn []), x.number + e.2.length, begun x.s.ents.length e.1 x.begins, x.opens ++ [(s1.ents.length, e.1)]⟩
def layEnds (f : LayF) (w : Wn) : List (List Nat × List Thing) → ES → ES
  | [], x => x
  | e :: r, x => layEnds f w r (layEnd f w e x)
def intOf : Option V → Int
  | some (.int i) => i
  | _ => 0
def putOpens (many begin behind : Nat) : List (Nat × List Nat) → DS → DS
  | [], s => s
  | (p, ns) :: r, s => putOpens many begin behind r (s.put p (ns.map fun k => if k = many then (behind : Int) else (begin : Int)))
def layEndings (f : LayF) (w : Wn) (many : Nat) (ths : List Thing) (ends : List (List Nat × List Thing)) (begin : Nat) (s : DS) : DS :=
  let x := layEnds f w ends ⟨s.add (.turn []), ths.length, [], []⟩
  putOpens many begin x.s.ents.length x.opens (x.s.put s.ents.length ((List.range many).map fun k => intOf (valV x.begins (.inl ((k : Nat) + 1 : Int)))))
def layRep (f : LayF) (w : Wn) (many : Nat) (ths : List Thing) (ends : List (List Nat × List Thing)) (s : DS) : DS :=
  let s1 := f ths w 0 s
  if ends.length = 0 then (s1.add (.turn [])).put s1.ents.length (List.replicate (many - 1) (s.ents.length : Int) ++ [(s1.ents.length : Int) + 1])
  else layEndings f w many ths ends s.ents.length s1
def layThing (book : Str → Option (List Thing)) (f : LayF) (t : Thing) (w : Wn) (s : DS) : DS :=
  match t with
  | .bar size vss => s.add (.bar (ftimes size w.by_) (vss.map (turnedI w.up w.by_)) w.way)
  | .sign x => s.dput w.sid x
  | .turn goals => { s.add (.turn []) with turns := s.turns ++ [(s.ents.length, goals, w.sid)] }
  | .use x up by_ => f ((book x).getD []) ⟨w.way, s.dicts.length, w.up + up, ftimes w.by_ by_⟩ 0 { s with uses := s.uses + 1, dicts := s.dicts ++ [[]] }
  | .rep many ths ends => layRep f w many ths ends s
def layThings (book : Str → Option (List Thing)) (f : LayF) : LayF
  | [], w, k, s => s
  | t :: r, w, k, s => layThings book f r w (k + 1) (layThing book f t { w with way := w.way ++ [(k : Int)] } s)
/-- by the nest below -/
def layF (book : Str → Option (List Thing)) : Nat → LayF
  | 0 => fun _ _ _ s => s
  | n + 1 => layThings book (layF book n)
abbrev layN (book : Str → Option (List Thing)) (n : Nat) : LayF := layThings book (layF book n)
/-- the turns' goals, told at the end -/
def endGoal (p : Nat) (kvs : List (Key × V)) : Option Str → Int
  | none => (p : Int) + 1
  | some x => intOf (valV kvs (.inr x))
def endTurns (dicts : List (List (Key × V))) : List (Nat × List (Option Str) × Nat) → List Entry → List Entry
  | [], es => es
  | (p, gs, sid) :: r, es => endTurns dicts r (es.set p (.turn (gs.map (endGoal p (dicts.getD sid [])))))
def DS0 : DS := ⟨[], 0, [], [[]]⟩
def lineOf (book : Str → Option (List Thing)) (n : Nat) (ths : List Thing) : List Entry :=
  let s := layN book n ths ⟨[], 0, 0, (1, 1)⟩ 0 DS0
  endTurns s.dicts s.turns s.ents
/-! ### things within bounds: nest, weight -/
/-- the first voice of a bar -/
def FvOk (vss : List (List Item)) : Prop := ∃ its rest, vss = its :: rest ∧ itemsOk 2 6 its ∧ its.length ≤ 100 ∧ cntI its ≤ 40 ∧ 1 ≤ notesI its
/-- the numbers 1..many are told by the endings -/
def EndsTell (many : Nat) (ends : List (List Nat × List Thing)) : Prop := ends ≠ [] → ∀ k, 1 ≤ k → k ≤ many → ∃ e ∈ ends, k ∈ e.1
inductive Lays : Str → List Thing → Prop
  | here {x : Str} {r : List Thing} : Lays x (.sign x :: r)
  | there {x : Str} {t : Thing} {r : List Thing} : Lays x r → Lays x (t :: r)
  | rep {x : Str} {many : Nat} {ths : List Thing} {ends : List (List Nat × List Thing)} {r : List Thing} : Lays x ths → Lays x (.rep many ths ends :: r)
  | ends {x : Str} {many : Nat} {ths : List Thing} {ends : List (List Nat × List Thing)} {e : List Nat × List Thing} {r : List Thing} : e ∈ ends → Lays x e.2 → Lays x (.rep many ths ends :: r)
mutual
/-- book, names of turns, nest, thing, weight -/
inductive TOk (book : Str → Option (List Thing)) : List Str → Nat → Thing → Nat → Prop
  | bar {Sg : List Str} {n : Nat} {size : Frac} {vss : List (List Item)} : FB 200 size → VsOk 200 vss → FvOk vss → TOk book Sg n (.bar size vss) 1
  | sign {Sg : List Str} {n : Nat} {x : Str} : TOk book Sg n (.sign x) 0
  | turn {Sg : List Str} {n : Nat} {goals : List (Option Str)} : goals ≠ [] → goals.length ≤ 100 → (∀ x, some x ∈ goals → x ∈ Sg) → TOk book Sg n (.turn goals) 1
  | use {Sg Sg' : List Str} {n W : Nat} {x : Str} {up : Int} {by_ : Frac} {ths : List Thing} : FB 2 by_ → book x = some ths → ThsOk book Sg' n ths W → (∀ y ∈ Sg', Lays y ths) → ths.length ≤ 100 → TOk book Sg (n + 1) (.use x up by_) (1 + W)
  | rep {Sg : List Str} {n W W' many : Nat} {ths : List Thing} {ends : List (List Nat × List Thing)} : 1 ≤ many → many ≤ 9 → ThsOk book Sg n ths W → ths.length ≤ 100 → EndsOk book Sg n ends W' → ends.length ≤ 100 → EndsTell many ends →
    TOk book Sg (n + 1) (.rep many ths ends) (1 + W + W')
inductive ThsOk (book : Str → Option (List Thing)) : List Str → Nat → List Thing → Nat → Prop
  | nil {Sg : List Str} {n : Nat} : ThsOk book Sg n [] 0
  | cons {Sg : List Str} {n W W' : Nat} {t : Thing} {r : List Thing} : TOk book Sg n t W → ThsOk book Sg n r W' → ThsOk book Sg n (t :: r) (W + W')
inductive EndsOk (book : Str → Option (List Thing)) : List Str → Nat → List (List Nat × List Thing) → Nat → Prop
  | nil {Sg : List Str} {n : Nat} : EndsOk book Sg n [] 0
  | cons {Sg : List Str} {n W W' : Nat} {ns : List Nat} {ths : List Thing} {r : List (List Nat × List Thing)} : ns ≠ [] → ns.length ≤ 100 → ThsOk book Sg n ths W → ths.length ≤ 100 → EndsOk book Sg n r W' → EndsOk book Sg n ((ns, ths) :: r) (1 + W + W')
end
/-! ### how much is laid -/
def sz (s : DS) : Nat := s.ents.length + s.uses
theorem sz_add (s : DS) (e : Entry) : sz (s.add e) = sz s + 1 := by
  show (s.ents ++ [e]).length + s.uses = s.ents.length + s.uses + 1
  rw [List.length_append]
  show s.ents.length + 1 + s.uses = _
  omega
theorem sz_put (s : DS) (i : Nat) (gs : List Int) : sz (s.put i gs) = sz s := by
  show (s.ents.set i _).length + s.uses = s.ents.length + s.uses
  rw [List.length_set]
theorem sz_putOpens (many begin behind : Nat) : ∀ (l : List (Nat × List Nat)) (s : DS), sz (putOpens many begin behind l s) = sz s
  | [], s => rfl
  | (p, ns) :: r, s => by rw [putOpens, sz_putOpens many begin behind r, sz_put]
/-- a layer that lays as much as it weighs -/
def Wt (book : Str → Option (List Thing)) (n : Nat) (f : LayF) : Prop := ∀ Sg ths W m, n = m + 1 → ThsOk book Sg m ths W → ∀ w k S, sz (f ths w k S) = sz S + W
section
variable {book : Str → Option (List Thing)} {n : Nat} {f : LayF} {Sg : List Str}
theorem sz_layEnds {m : Nat} (hf : Wt book (m + 1) f) (w : Wn) : ∀ {ends : List (List Nat × List Thing)} {W : Nat}, EndsOk book Sg m ends W → ∀ x : ES, sz (layEnds f w ends x).s = sz x.s + W
  | _, _, .nil, x => rfl
  | _, _, .cons (ns := ns) (ths := ths) (r := r) (W := W1) (W' := W2) _ _ h _ e, x => by
    rw [layEnds, sz_layEnds hf w e]
    show sz ((f ths w x.number x.s).add _) + W2 = _
    rw [sz_add, hf Sg ths W1 m rfl h]
    omega
theorem sz_layThing (hf : Wt book n f) {t : Thing} {W : Nat} (h : TOk book Sg n t W) (w : Wn) (S : DS) : sz (layThing book f t w S) = sz S + W := by
  cases h with
  | bar => exact sz_add _ _
  | sign => rfl
  | turn => exact sz_add _ _
  | use hb hbk h hl hlen =>
    rename_i ths
    rw [layThing, hbk, Option.getD_some]
    rw [hf _ _ _ _ rfl h]
    show S.ents.length + (S.uses + 1) + _ = S.ents.length + S.uses + _
    omega
  | rep h1 h2 h3 h4 h5 h6 h7 =>
    rename_i m W W' many ths ends
    rw [layThing, layRep]
    by_cases e : ends.length = 0
    · rw [if_pos e, sz_put, sz_add, hf _ _ _ _ rfl h3]
      have : ends = [] := List.length_eq_zero_iff.mp e
      subst this
      cases h5
      omega
    · rw [if_neg e, layEndings, sz_putOpens, sz_put, sz_layEnds hf w h5]
      show sz ((f ths w 0 S).add _) + W' = _
      rw [sz_add, hf _ _ _ _ rfl h3]
      omega
theorem sz_layThings (hf : Wt book n f) : ∀ {ths : List Thing} {W : Nat}, ThsOk book Sg n ths W → ∀ w k S, sz (layThings book f ths w k S) = sz S + W
  | _, _, .nil, w, k, S => rfl
  | _, _, .cons (W := W1) (W' := W2) h r, w, k, S => by
    rw [layThings, sz_layThings hf r, sz_layThing hf h]
    omega
end
theorem wt_layF (book : Str → Option (List Thing)) : ∀ n, Wt book n (layF book n)
  | 0 => fun _ _ _ _ e => by omega
  | n + 1 => fun Sg ths W m e h w k S => by
    have e' : n = m := by omega
    subst e'
    exact sz_layThings (wt_layF book n) h w k S
/-! ### how many turns and signs wait -/
def dl (l : List (List (Key × V))) : Nat := (l.map List.length).sum
def mz (s : DS) : Nat := s.turns.length + dl s.dicts
theorem putK_len (kvs : List (Key × V)) (k : Key) (v : V) : (putK kvs k v).length ≤ kvs.length + 1 := by
  unfold putK
  split
  · rw [List.length_map]; exact Nat.le_succ _
  · rw [List.length_append]; exact Nat.le_refl _
theorem dl_modify (k : Key) (v : V) : ∀ (l : List (List (Key × V))) (i : Nat), dl (l.modify i fun kvs => putK kvs k v) ≤ dl l + 1
  | [], i => by rw [List.modify_nil]; exact Nat.le_succ _
  | a :: r, 0 => by
    show (putK a k v).length + dl r ≤ a.length + dl r + 1
    have := putK_len a k v
    omega
  | a :: r, i + 1 => by
    show a.length + dl (r.modify i fun kvs => putK kvs k v) ≤ a.length + dl r + 1
    have := dl_modify k v r i
    omega
theorem dl_get : ∀ {l : List (List (Key × V))} {i : Nat} {kvs : List (Key × V)}, l[i]? = some kvs → kvs.length ≤ dl l
  | [], i, _, h => by simp at h
  | a :: r, 0, kvs, h => by
    simp at h
    subst h
    show a.length ≤ a.length + dl r
    omega
  | a :: r, i + 1, kvs, h => by
    have := dl_get (l := r) (i := i) (by simpa using h)
    show _ ≤ a.length + dl r
    omega
theorem dl_new (l : List (List (Key × V))) : dl (l ++ [[]]) = dl l := by
  unfold dl
  rw [List.map_append, List.sum_append]
  rfl
theorem mz_putOpens (many begin behind : Nat) : ∀ (l : List (Nat × List Nat)) (s : DS), mz (putOpens many begin behind l s) = mz s
  | [], s => rfl
  | (p, ns) :: r, s => by rw [putOpens, mz_putOpens many begin behind r]; rfl
def Mt (book : Str → Option (List Thing)) (n : Nat) (f : LayF) : Prop := ∀ Sg ths W m, n = m + 1 → ThsOk book Sg m ths W → ∀ w k S, mz (f ths w k S) ≤ mz S + ths.length + 100 * W
section
variable {book : Str → Option (List Thing)} {n : Nat} {f : LayF} {Sg : List Str}
theorem mz_layEnds {m : Nat} (hf : Mt book (m + 1) f) (w : Wn) : ∀ {ends : List (List Nat × List Thing)} {W : Nat}, EndsOk book Sg m ends W → ∀ x : ES, mz (layEnds f w ends x).s ≤ mz x.s + 100 * W
  | _, _, .nil, x => Nat.le_refl _
  | _, _, .cons (ns := ns) (ths := ths) (r := r) (W := W1) (W' := W2) _ _ h hl e, x => by
    rw [layEnds]
    have h1 := mz_layEnds hf w e (layEnd f w (ns, ths) x)
    have h2 : mz (layEnd f w (ns, ths) x).s ≤ mz x.s + ths.length + 100 * W1 := hf Sg ths W1 m rfl h w x.number x.s
    omega
theorem mz_layThing (hf : Mt book n f) {t : Thing} {W : Nat} (h : TOk book Sg n t W) (w : Wn) (S : DS) : mz (layThing book f t w S) ≤ mz S + 1 + 100 * W := by
  cases h with
  | bar => show mz S ≤ _; omega
  | sign =>
    rename_i x
    show S.turns.length + dl (S.dicts.modify w.sid _) ≤ S.turns.length + dl S.dicts + 1 + 100 * 0
    have := dl_modify (.inr x) (.int (S.ents.length : Nat)) S.dicts w.sid
    omega
  | turn =>
    show (S.turns ++ [_]).length + dl S.dicts ≤ S.turns.length + dl S.dicts + 1 + 100 * 1
    rw [List.length_append]
    show S.turns.length + 1 + _ ≤ _
    omega
  | use hb hbk h hl hlen =>
    rename_i W1 x up by_ ths
    rw [layThing, hbk, Option.getD_some]
    have h1 := hf _ _ _ _ rfl h ⟨w.way, S.dicts.length, w.up + up, ftimes w.by_ by_⟩ 0 { S with uses := S.uses + 1, dicts := S.dicts ++ [[]] }
    have h2 : mz { S with uses := S.uses + 1, dicts := S.dicts ++ [[]] } = mz S := by
      show S.turns.length + dl (S.dicts ++ [[]]) = S.turns.length + dl S.dicts
      rw [dl_new]
    rw [h2] at h1
    refine Nat.le_trans h1 ?_
    omega
  | rep h1 h2 h3 h4 h5 h6 h7 =>
    rename_i m W W' many ths ends
    rw [layThing, layRep]
    have h8 := hf _ _ _ _ rfl h3 w 0 S
    by_cases e : ends.length = 0
    · rw [if_pos e]
      show mz (f ths w 0 S) ≤ _
      omega
    · rw [if_neg e, layEndings, mz_putOpens]
      show mz (layEnds f w ends _).s ≤ _
      refine Nat.le_trans (mz_layEnds hf w h5 _) ?_
      show mz (f ths w 0 S) + 100 * W' ≤ _
      omega
theorem mz_layThings (hf : Mt book n f) : ∀ {ths : List Thing} {W : Nat}, ThsOk book Sg n ths W → ∀ w k S, mz (layThings book f ths w k S) ≤ mz S + ths.length + 100 * W
  | _, _, .nil, w, k, S => by rw [layThings]; omega
  | _, _, .cons (W := W1) (W' := W2) (r := r) (t := t) h rr, w, k, S => by
    rw [layThings]
    have h1 := mz_layThings hf rr w (k + 1) (layThing book f t { w with way := w.way ++ [(k : Int)] } S)
    have h2 := mz_layThing hf h { w with way := w.way ++ [(k : Int)] } S
    show _ ≤ mz S + (r.length + 1) + 100 * (W1 + W2)
    omega
end
theorem mt_layF (book : Str → Option (List Thing)) : ∀ n, Mt book n (layF book n)
  | 0 => fun _ _ _ _ e => by omega
  | n + 1 => fun Sg ths W m e h w k S => by
    have e' : n = m := by omega
    subst e'
    exact mz_layThings (mt_layF book n) h w k S
/-- there is room for what is laid -/
structure Fit (S : DS) (W l : Nat) : Prop where
  a : sz S + W ≤ 2000
  b : mz S + l + 100 * W ≤ 300000
end MC
set_option Elab.async false
set_option linter.all false
set_option maxRecDepth 100000
set_option maxHeartbeats 4000000
namespace MC
open PySem PySem.Spec PyProof.Rows L2
/-! ### what stays but for some objects -/
def Kp (M : List Addr) (H H' : Hp) : Prop := ∀ b o, H b = some o → b ∉ M → H' b = some o
theorem Kp.refl (M : List Addr) (H : Hp) : Kp M H H := fun _ _ h _ => h
theorem Kp.of {M : List Addr} {H H' : Hp} (s : Same H H') : Kp M H H' := fun b o h _ => s b o h
theorem Kp.trans {M : List Addr} {H H1 H2 : Hp} (a : Kp M H H1) (b : Kp M H1 H2) : Kp M H H2 := fun c o h m => b c o (a c o h m) m
theorem Kp.sub {M M' : List Addr} {H H' : Hp} (a : Kp M H H') (h : ∀ b ∈ M, b ∈ M') : Kp M' H H' := fun c o e m => a c o e fun z => m (h c z)
/-- what was not there when it began does not count -/
theorem Kp.new {M M' : List Addr} {H H' : Hp} (a : Kp M' H H') (h : ∀ b ∈ M', b ∈ M ∨ H b = none) : Kp M H H' := fun c o e m => a c o e fun z => by
  rcases h c z with h | h
  · exact m h
  · rw [h] at e; cases e
theorem kp_upd {H : Hp} {l : Addr} {o : HO} : Kp [l] H (upd H l o) := fun b u q m => by
  rw [upd_ne (fun e => m (by rw [e]; exact List.mem_singleton.mpr rfl))]
  exact q
theorem ixNn {n j : Nat} (hj : j < n) : ixN n (j : Int) = some j := by
  unfold ixN
  rw [if_pos (by omega)]
  rw [if_pos (by omega)]
  simp
/-! ### the draft in the heap -/
/-- a turn that waits for its end: place, goals, dict -/
def TurnV (H : Hp) (das : List Addr) (v : V) (t : Nat × List (Option Str) × Nat) : Prop := ∃ q g da, v = .ref q ∧ H q = some (.tup [.int (t.1 : Nat), g, .ref da]) ∧ Rp H g (.tuple (t.2.1.map goalD)) ∧ das[t.2.2]? = some da
structure DAt (K : PySem.W.Frag) (H : Hp) (d : Addr) (sv : V) (ea ta : Addr) (das : List Addr) (S : DS) : Prop where
  o : ∃ dx, H d = some (.ins (gA K "Draft") dx [("score", sv), ("entries", .ref ea), ("uses", .int (S.uses : Nat)), ("turns", .ref ta)])
  e : ∃ evs, H ea = some (.lst evs) ∧ RpA H evs (S.ents.map Entry.d)
  t : ∃ tvs, H ta = some (.lst tvs) ∧ All2 (TurnV H das) tvs S.turns
  k : All2 (fun a kvs => H a = some (.dK kvs)) das S.dicts
  nd : das.Nodup
  ne : ea ≠ ta
section
variable {K : PySem.W.Frag} {H H' : Hp} {d ea ta : Addr} {sv : V} {das : List Addr} {S : DS}
theorem TurnV.mono {v : V} {t : Nat × List (Option Str) × Nat} (h : TurnV H das v t) (tk : Tk H H') : TurnV H' das v t := by
  obtain ⟨q, g, da, e, h1, h2, h3⟩ := h
  exact ⟨q, g, da, e, tk _ _ h1, h2.mono tk, h3⟩
theorem DAt.same (D : DAt K H d sv ea ta das S) (s : Same H H') : DAt K H' d sv ea ta das S := by
  obtain ⟨⟨dx, o⟩, ⟨evs, e1, e2⟩, ⟨tvs, t1, t2⟩, k, nd, ne⟩ := D
  exact ⟨⟨dx, s.on o⟩, ⟨evs, s.on e1, e2.mono s.tk⟩, ⟨tvs, s.on t1, t2.mono fun _ _ h => h.mono s.tk⟩, k.mono fun _ _ h => s.on h, nd, ne⟩
theorem DAt.das_kind (D : DAt K H d sv ea ta das S) {b : Addr} (h : b ∈ das) : ∃ kvs, H b = some (.dK kvs) := by
  obtain ⟨i, hi⟩ := List.getElem?_of_mem h
  obtain ⟨kvs, _, h2⟩ := D.k.get hi
  exact ⟨kvs, h2⟩
/-- tuples are not among the draft's own objects -/
theorem DAt.tk (D : DAt K H d sv ea ta das S) (k : Kp (d :: ea :: ta :: das) H H') : Tk H H' := fun b xs h => by
  refine k b _ h fun m => ?_
  rcases List.mem_cons.mp m with rfl | m
  · obtain ⟨dx, o⟩ := D.o; rw [o] at h; cases h
  rcases List.mem_cons.mp m with rfl | m
  · obtain ⟨_, o, _⟩ := D.e; rw [o] at h; cases h
  rcases List.mem_cons.mp m with rfl | m
  · obtain ⟨_, o, _⟩ := D.t; rw [o] at h; cases h
  · obtain ⟨kvs, o⟩ := D.das_kind m; rw [o] at h; cases h
theorem DAt.elen (D : DAt K H d sv ea ta das S) {evs : List V} (h : H ea = some (.lst evs)) : evs.length = S.ents.length := by
  obtain ⟨evs', h1, h2⟩ := D.e
  rw [h1] at h
  cases h
  rw [h2.len, List.length_map]
/-- the list of entries made another -/
theorem DAt.ents (D : DAt K H d sv ea ta das S) {evs : List V} {es : List Entry} (r : RpA H evs (es.map Entry.d)) : DAt K (upd H ea (.lst evs)) d sv ea ta das { S with ents := es } := by
  obtain ⟨evs', h1, h2⟩ := D.e
  have tk := tk_lst (o := .lst evs) h1
  obtain ⟨⟨dx, o⟩, _, ⟨tvs, t1, t2⟩, k, nd, ne⟩ := D
  refine ⟨⟨dx, ?_⟩, ⟨evs, upd_same, r.mono tk⟩, ⟨tvs, ?_, t2.mono fun _ _ h => h.mono tk⟩, k.mono fun a kvs h => ?_, nd, ne⟩
  · rw [upd_ne (fun z => by rw [z, h1] at o; cases o)]; exact o
  · rw [upd_ne (Ne.symm ne)]; exact t1
  · rw [upd_ne (fun z => by rw [z, h1] at h; cases h)]; exact h
theorem DAt.tns (D : DAt K H d sv ea ta das S) {tvs : List V} {ts : List (Nat × List (Option Str) × Nat)} (r : All2 (TurnV H das) tvs ts) : DAt K (upd H ta (.lst tvs)) d sv ea ta das { S with turns := ts } := by
  obtain ⟨tvs', h1, h2⟩ := D.t
  have tk := tk_lst (o := .lst tvs) h1
  obtain ⟨⟨dx, o⟩, ⟨evs, e1, e2⟩, _, k, nd, ne⟩ := D
  refine ⟨⟨dx, ?_⟩, ⟨evs, ?_, e2.mono tk⟩, ⟨tvs, upd_same, r.mono fun _ _ h => h.mono tk⟩, k.mono fun a kvs h => ?_, nd, ne⟩
  · rw [upd_ne (fun z => by rw [z, h1] at o; cases o)]; exact o
  · rw [upd_ne ne]; exact e1
  · rw [upd_ne (fun z => by rw [z, h1] at h; cases h)]; exact h
end
def spInitD (K : PySem.W.Frag) : Sp := Sp2 fun a b H Q _ => ∃ d dx, a = .ref d ∧ H d = some (.ins (gA K "Draft") dx []) ∧
  ∀ H' ea ta, Kp [d] H H' → H' d = some (.ins (gA K "Draft") dx [("score", b), ("entries", .ref ea), ("uses", .int ((0 : Nat) : Int)), ("turns", .ref ta)]) → H' ea = some (.lst []) → H' ta = some (.lst []) → H ea = none → H ta = none → ea ≠ ta → Q .non H'
def spHere (K : PySem.W.Frag) : Sp := Sp1 fun a H Q _ => ∃ d sv ea ta das S, a = .ref d ∧ DAt K H d sv ea ta das S ∧ Q (.int (S.ents.length : Nat)) H
def spAdd (K : PySem.W.Frag) : Sp := Sp2 fun a b H Q _ => ∃ d sv ea ta das S e, a = .ref d ∧ DAt K H d sv ea ta das S ∧ Rp H b (Entry.d e) ∧ S.ents.length < 2000 ∧
  ∀ H', Kp [ea] H H' → DAt K H' d sv ea ta das (S.add e) → Q .non H'
def spAddO (K : PySem.W.Frag) : Sp := Sp1 fun a H Q _ => ∃ d sv ea ta das S, a = .ref d ∧ DAt K H d sv ea ta das S ∧ S.ents.length < 2000 ∧
  ∀ H', Kp [ea] H H' → DAt K H' d sv ea ta das (S.add (.turn [])) → Q (.int (S.ents.length : Nat)) H'
def spPut (K : PySem.W.Frag) : Sp := Sp3 fun a b c H Q _ => ∃ d sv ea ta das S i l gs, a = .ref d ∧ b = .int (i : Nat) ∧ c = .ref l ∧ DAt K H d sv ea ta das S ∧ i < S.ents.length ∧ H l = some (.lst (List.map V.int gs)) ∧
  ∀ H', Kp [ea] H H' → DAt K H' d sv ea ta das (S.put i gs) → Q .non H'
/-- the names in front of the texts -/
def headed (hs : List (Str × List PyData)) : PyData := .tuple (hs.map fun h => .tuple (.str h.1 :: h.2))
def spFound : Sp := Sp2 fun a b H Q _ => ∃ hs x r, Rp H a (headed hs) ∧ b = .str x ∧ hs.lookup x = some r ∧ ∀ v, Rp H v (.tuple (.str x :: r)) → Q v H
/-- a score: phrases and parts -/
def ScAt (H : Hp) (v : V) (ph pt : List (Str × List PyData)) : Prop := ∃ c, Rp H v (.tuple [c, headed ph, headed pt])
def spPhrase : Sp := Sp2 fun a b H Q _ => ∃ ph pt x r, ScAt H a ph pt ∧ b = .str x ∧ ph.lookup x = some r ∧ ∀ v, Rp H v (.tuple (.str x :: r)) → Q v H
def spPartOf : Sp := Sp2 fun a b H Q _ => ∃ ph pt x r, ScAt H a ph pt ∧ b = .str x ∧ pt.lookup x = some r ∧ ∀ v, Rp H v (.tuple (.str x :: r)) → Q v H
def spUsed (K : PySem.W.Frag) : Sp := Sp2 fun a b H Q _ => ∃ d sv ea ta das S ph pt x th r, a = .ref d ∧ DAt K H d sv ea ta das S ∧ ScAt H sv ph pt ∧ b = .str x ∧ ph.lookup x = some (th :: r) ∧ S.uses < 2000 ∧
  ∀ H' v, Kp [d] H H' → DAt K H' d sv ea ta das { S with uses := S.uses + 1 } → Rp H' v th → Q v H'
section
variable {P : Program} {w : World} {K : PySem.W.Frag} {mg : Str → Option Value} {base : Heap}
/- slots of Draft.__init__: 0 self, 1 score -/
theorem sc_Draft_init : FnScope ["self", "score"] ["self", "score"] (defScope s_Draft_init) := ⟨rfl, rfl, rfl, by decide +kernel, rfl, by decide +kernel, by decide +kernel⟩
theorem mk_Draft (T : Tx w K mg) : CalN P w K mg base CX0 (1) "Draft" ["self", "score"] (spInitD K) := by
  refine CalN.of T.f_Draft_init T.k_Draft T.g_Draft sc_Draft_init (fun _ _ _ _ _ _ us hl => match us, hl with | [_, _], _ => rfl) (fun vs H Q E h => by obtain ⟨x0, x1, rfl, _⟩ := h; rfl) (fun f cdv A outer s H vs Q E hr h => ?_)
  obtain ⟨v0, v1, rfl, h⟩ := h
  refine ⟨_, (pss_cons (ps_fld (pv 0) (pv 1) rfl)
    (pss_cons (ps_fld (pv 0) (pe_lst pa_nil) rfl)
    (pss_cons (ps_fld (pv 0) pe_int rfl)
    (pss_one (ps_fld (pv 0) (pe_lst pa_nil) rfl))))), ?_⟩
  obtain ⟨d, dx, rfl, hd, k⟩ := h
  refine ⟨_, rfl, _, rfl, d, _, dx, _, rfl, hd, T.c_Draft, T.n_Draft_score, (by decide), ?_⟩
  refine ⟨Nat.zero_le _, fun ea hea => ?_⟩
  have h1 : upd H d (.ins (gA K "Draft") dx (putF "score" v1 [])) d = _ := upd_same
  refine ⟨_, rfl, d, _, dx, _, rfl, new_ne h1 hea, T.c_Draft, T.n_Draft_entries, (by show 1 < 1000; decide), ?_⟩
  refine ⟨_, rfl, d, _, dx, _, rfl, upd_same, T.c_Draft, T.n_Draft_uses, (by show 2 < 1000; decide), ?_⟩
  refine ⟨Nat.zero_le _, fun ta hta => ?_⟩
  have hdd : d ≠ ea := ne_of_none h1 hea
  refine ⟨_, rfl, d, _, dx, _, rfl, new_ne upd_same hta, T.c_Draft, T.n_Draft_turns, (by show 3 < 1000; decide), ?_⟩
  have hdt : d ≠ ta := fun e => by rw [← e, upd_same] at hta; cases hta
  have het : ea ≠ ta := fun e => by rw [← e, upd_ne (Ne.symm hdd), upd_ne (Ne.symm hdd), upd_same] at hta; cases hta
  have hea0 : H ea = none := by rw [upd_ne (Ne.symm hdd)] at hea; exact hea
  have hta0 : H ta = none := by rw [upd_ne (Ne.symm hdt), upd_ne (Ne.symm hdt), upd_ne (Ne.symm het), upd_ne (Ne.symm hdt)] at hta; exact hta
  refine k _ ea ta ?_ upd_same ?_ ?_ hea0 hta0 het
  · intro b o hb m
    have hbd : b ≠ d := fun e => m (by rw [e]; exact List.mem_singleton.mpr rfl)
    rw [upd_ne hbd, upd_ne (ne_of_none hb hta0), upd_ne hbd, upd_ne hbd, upd_ne (ne_of_none hb hea0), upd_ne hbd]
    exact hb
  · rw [upd_ne (Ne.symm hdd), upd_ne het, upd_ne (Ne.symm hdd), upd_ne (Ne.symm hdd), upd_same]
  · rw [upd_ne (Ne.symm hdt), upd_same]
/- slots of Draft.here: 0 self -/
theorem sc_Draft_here : FnScope ["self"] ["self"] (defScope s_Draft_here) := ⟨rfl, rfl, rfl, by decide +kernel, rfl, by decide +kernel, by decide +kernel⟩
theorem met_Draft_here (T : Tx w K mg) : CalM P w K mg base CX0 (1) "Draft" "here" ["self"] (spHere K) := by
  refine CalM.of T.f_Draft_here T.m_Draft_here T.c_Draft sc_Draft_here (fun _ _ _ _ _ _ us hl => match us, hl with | [_], _ => rfl) (fun vs H Q E h => by obtain ⟨x0, rfl, _⟩ := h; rfl) (fun f cdv A outer s H vs Q E hr h => ?_)
  obtain ⟨v0, rfl, h⟩ := h
  refine ⟨_, (pss_one (ps_ret (pe_callB call_len_seq (by rfl) T.b_len PySem.boot_len (pa_cons (pe_fld (pv 0) rfl) pa_nil)))), ?_⟩
  obtain ⟨d, sv, ea, ta, das, S, rfl, D, k⟩ := h
  obtain ⟨dx, o⟩ := D.o
  obtain ⟨evs, e1, e2⟩ := D.e
  refine ⟨_, rfl, d, _, dx, _, _, rfl, o, T.c_Draft, T.n_Draft_entries, rfl, ?_⟩
  refine ⟨ea, evs, rfl, .inl (SqL.of e1), ?_⟩
  rw [D.elen e1]
  exact k
/- slots of Draft.add: 0 self, 1 entry -/
theorem sc_Draft_add : FnScope ["self", "entry"] ["self", "entry"] (defScope s_Draft_add) := ⟨rfl, rfl, rfl, by decide +kernel, rfl, by decide +kernel, by decide +kernel⟩
theorem met_Draft_add (T : Tx w K mg) : CalM P w K mg base CX0 (1) "Draft" "add" ["self", "entry"] (spAdd K) := by
  refine CalM.of T.f_Draft_add T.m_Draft_add T.c_Draft sc_Draft_add (fun _ _ _ _ _ _ us hl => match us, hl with | [_, _], _ => rfl) (fun vs H Q E h => by obtain ⟨x0, x1, rfl, _⟩ := h; rfl) (fun f cdv A outer s H vs Q E hr h => ?_)
  obtain ⟨v0, v1, rfl, h⟩ := h
  refine ⟨_, (pss_cons (ps_if (pt_cmpR op_ge (pe_callB call_len_seq (by rfl) T.b_len PySem.boot_len (pa_cons (pe_fld (pv 0) rfl) pa_nil)) (pe_gint T.i_MOST_ENTRIES) (nomark _)) (pss_one ps_never) pss_nil)
    (pss_one (ps_expr (pe_bm PySem.F.plainAttrs_list PySem.F.slot_list_append PySem.F.type_list_append mt_append (pe_fld (pv 0) rfl) (pa_cons (pv 1) pa_nil))))), ?_⟩
  obtain ⟨d, sv, ea, ta, das, S, e, rfl, D, re, hl, k⟩ := h
  obtain ⟨dx, o⟩ := D.o
  obtain ⟨evs, e1, e2⟩ := D.e
  have el := D.elen e1
  refine ⟨_, rfl, d, _, dx, _, _, rfl, o, T.c_Draft, T.n_Draft_entries, rfl, ?_⟩
  refine ⟨ea, evs, rfl, .inl (SqL.of e1), ?_⟩
  refine ⟨_, _, rfl, rfl, _, rfl, itF (dF (by rw [el]; omega)) ?_⟩
  refine ⟨_, rfl, d, _, dx, _, _, rfl, o, T.c_Draft, T.n_Draft_entries, rfl, .inl ⟨rfl, _, SqL.of e1⟩, ?_⟩
  refine ⟨_, rfl, ea, evs, _, rfl, rfl, e1, (by rw [el, sizeLine_eq]; omega), ?_⟩
  exact k _ kp_upd (D.ents (by rw [List.map_append]; exact e2.app (.cons re .nil)))
/- slots of Draft.add_open: 0 self -/
theorem sc_Draft_add_open : FnScope ["self"] ["self"] (defScope s_Draft_add_open) := ⟨rfl, rfl, rfl, by decide +kernel, rfl, by decide +kernel, by decide +kernel⟩
theorem met_Draft_add_open (T : Tx w K mg) : CalM P w K mg base CX0 (2) "Draft" "add_open" ["self"] (spAddO K) := by
  refine CalM.of T.f_Draft_add_open T.m_Draft_add_open T.c_Draft sc_Draft_add_open (fun _ _ _ _ _ _ us hl => match us, hl with | [_], _ => rfl) (fun vs H Q E h => by obtain ⟨x0, rfl, _⟩ := h; rfl) (fun f cdv A outer s H vs Q E hr h => ?_)
  obtain ⟨v0, rfl, h⟩ := h
  refine ⟨_, (pss_cons (ps_expr (pm (met_Draft_add T) hr (pv 0) (pa_cons (pe_tup (pa_cons pe_str (pa_cons (pe_tup pa_nil) pa_nil))) pa_nil)))
    (pss_one (ps_ret (pe_op op_sub (pe_callB call_len_seq (by rfl) T.b_len PySem.boot_len (pa_cons (pe_fld (pv 0) rfl) pa_nil)) pe_int)))), ?_⟩
  obtain ⟨d, sv, ea, ta, das, S, rfl, D, hl, k⟩ := h
  obtain ⟨dx, o⟩ := D.o
  refine ⟨_, rfl, d, dx, _, rfl, o, rfl, ?_⟩
  refine ⟨Nat.zero_le _, fun p hp => ⟨(by show 2 ≤ sizeLine; decide), fun q hq => ?_⟩⟩
  have s1 := (same_new (o := .tup []) hp).trans (same_new (o := .tup [.str "turn", .ref p]) hq)
  refine ⟨_, _, rfl, d, sv, ea, ta, das, S, .turn [], rfl, D.same s1, ?_, hl, fun H1 k1 D1 => ?_⟩
  · exact .tup upd_same (.cons (.str _) (.cons (.tup ((same_new hq).on upd_same) .nil) .nil))
  obtain ⟨dx1, o1⟩ := D1.o
  obtain ⟨evs1, e11, e12⟩ := D1.e
  have el := D1.elen e11
  refine ⟨_, rfl, d, _, dx1, _, _, rfl, o1, T.c_Draft, T.n_Draft_entries, rfl, ?_⟩
  refine ⟨ea, evs1, rfl, .inl (SqL.of e11), ?_⟩
  refine ⟨_, _, rfl, rfl, ?_⟩
  have e2 : ((evs1.length : Nat) : Int) - 1 = (S.ents.length : Nat) := by
    rw [el]
    show (((S.ents ++ [Entry.turn []]).length : Nat) : Int) - 1 = _
    rw [List.length_append]
    show ((S.ents.length + 1 : Nat) : Int) - 1 = _
    omega
  show Q (.int (((evs1.length : Nat) : Int) - 1)) H1
  rw [e2]
  exact k H1 ((Kp.of s1).trans k1) D1
/- slots of Draft.put: 0 self, 1 place, 2 goals -/
theorem sc_Draft_put : FnScope ["self", "place", "goals"] ["self", "place", "goals"] (defScope s_Draft_put) := ⟨rfl, rfl, rfl, by decide +kernel, rfl, by decide +kernel, by decide +kernel⟩
theorem met_Draft_put (T : Tx w K mg) : CalM P w K mg base CX0 (1) "Draft" "put" ["self", "place", "goals"] (spPut K) := by
  refine CalM.of T.f_Draft_put T.m_Draft_put T.c_Draft sc_Draft_put (fun _ _ _ _ _ _ us hl => match us, hl with | [_, _, _], _ => rfl) (fun vs H Q E h => by obtain ⟨x0, x1, x2, rfl, _⟩ := h; rfl) (fun f cdv A outer s H vs Q E hr h => ?_)
  obtain ⟨v0, v1, v2, rfl, h⟩ := h
  refine ⟨_, (pss_one (ps_asg (pe_tup (pa_cons pe_str (pa_cons (pe_callTy call_tuple_of (by rfl) T.b_tuple (by decide +kernel) (pa_cons (pv 2) pa_nil)) pa_nil))) (pg_sub (pe_fld (pv 0) rfl) (pv 1) set_list))), ?_⟩
  obtain ⟨d, sv, ea, ta, das, S, i, l, gs, rfl, rfl, rfl, D, hi, hl, k⟩ := h
  refine ⟨_, rfl, l, _, rfl, .inl ⟨SqL.of hl, fun p hp => ?_⟩⟩
  refine ⟨(by show 2 ≤ sizeLine; decide), fun q hq => ?_⟩
  have s1 := (same_new (o := .tup (gs.map V.int)) hp).trans (same_new (o := .tup [.str "turn", .ref p]) hq)
  have D1 := D.same s1
  obtain ⟨dx, o⟩ := D1.o
  obtain ⟨evs, e1, e2⟩ := D1.e
  have el := D1.elen e1
  refine ⟨_, rfl, d, _, dx, _, _, rfl, o, T.c_Draft, T.n_Draft_entries, rfl, _, rfl, ?_⟩
  refine ⟨ea, evs, (i : Int), i, rfl, rfl, e1, ixNn (by rw [el]; exact hi), ?_⟩
  refine k _ ((Kp.of s1).trans kp_upd) (D1.ents ?_)
  have r1 : Rp (upd (upd H p (.tup (gs.map V.int))) q (.tup [.str "turn", .ref p])) (.ref q) (Entry.turn gs).d := .tup upd_same (.cons (.str _) (.cons (rp_ints ((same_new hq).on upd_same)) .nil))
  have r2 := RpA.set i e2 r1
  rw [List.map_set]
  exact r2
/- slots of found_by: 0 things, 1 name, 2 thing -/
theorem sc_found_by : FnScope ["things", "name", "thing"] ["things", "name"] (defScope s_found_by) := ⟨rfl, rfl, rfl, by decide +kernel, rfl, by decide +kernel, by decide +kernel⟩
theorem cal_found_by (T : Tx w K mg) : Cal P w K mg base CX0 (1) "found_by" ["things", "name"] spFound := by
  refine Cal.of T.f_found_by T.g_found_by sc_found_by (fun _ _ _ _ _ _ us hl => match us, hl with | [_, _], _ => rfl) (fun vs H Q E h => by obtain ⟨x0, x1, rfl, _⟩ := h; rfl) (fun f cdv A outer s H vs Q E hr h => ?_)
  obtain ⟨v0, v1, rfl, h⟩ := h
  refine ⟨_, (pss_cons (ps_for PassesOwn.never rfl (pi_tup (pv 0)) (pg_name (i := 2) sc_found_by.nd rfl (Or.inl rfl)) (pss_one (ps_if (pt_cmpR op_eq (pe_ix ix_tup (pv 2) pe_int (fun _ _ => rfl)) (pv 1) (nomark _)) (pss_one (ps_ret (pv 2))) pss_nil)))
    (pss_one (ps_ret pe_non))), ?_⟩
  obtain ⟨hs, x, r, hr1, rfl, hx, k⟩ := h
  obtain ⟨a, vs, rfl, ha, rv⟩ := hr1.tup_inv
  refine ⟨_, rfl, a, rfl, ⟨vs, SqT.of ha⟩, for_it (walk_tup (xs := vs)) (fun i σ H' => ∃ c, σ = [some (.ref a), some (.str x), c] ∧ H' = H ∧ (hs.drop i).lookup x = some r) ⟨_, rfl, rfl, hx⟩ ?_ ?_ ?_⟩
  · rintro i σ H' _ ⟨c, rfl, rfl, _⟩
    exact SqT.of ha
  · rintro i v σ H' H2 hi ⟨c, rfl, rfl, hl⟩ ⟨rfl, hv⟩
    obtain ⟨d, h1, h2⟩ := rv.get hv
    rw [List.getElem?_map] at h1
    cases e : hs[i]? with
    | none => rw [e] at h1; cases h1
    | some y =>
      rw [e] at h1
      cases h1
      obtain ⟨b, us, rfl, hb, ru⟩ := h2.tup_inv
      obtain ⟨v1, r1, rfl, e1, _⟩ := ru.cons_inv
      cases e1.str_inv
      have ed : hs.drop i = y :: hs.drop (i + 1) := by
        obtain ⟨h3, h4⟩ := List.getElem?_eq_some_iff.mp e
        rw [List.drop_eq_getElem_cons h3, h4]
      rw [ed] at hl
      refine ⟨_, rfl, _, _, _, _, rfl, rfl, SqT.of (hb), atI_nat (j := 0) rfl, _, rfl, rfl, _, rfl, ?_⟩
      by_cases c : y.1 = x
      · refine itT (dT (by rw [c])) ?_
        refine ⟨_, rfl, k _ ?_⟩
        have hl2 : some y.2 = some r := by
          rw [← hl]
          show _ = List.lookup x ((y.1, y.2) :: _)
          rw [List.lookup_cons, c]
          simp
        cases hl2
        rw [← c]
        exact h2
      · refine itF (dF (fun z => c (V.str.inj z))) ?_
        refine ⟨_, rfl, rfl, ?_⟩
        rw [← hl]
        show _ = List.lookup x ((y.1, y.2) :: _)
        rw [List.lookup_cons]
        have : (x == y.1) = false := by
          rw [beq_eq_false_iff_ne]
          exact fun z => c z.symm
        rw [this]
  · rintro σ H' ⟨c, rfl, rfl, hl⟩
    have e : vs.length = hs.length := by rw [rv.len, List.length_map]
    rw [e, List.drop_length] at hl
    cases hl
/- slots of phrase_of: 0 score, 1 name -/
theorem sc_phrase_of : FnScope ["score", "name"] ["score", "name"] (defScope s_phrase_of) := ⟨rfl, rfl, rfl, by decide +kernel, rfl, by decide +kernel, by decide +kernel⟩
theorem cal_phrase_of (T : Tx w K mg) : Cal P w K mg base CX0 (2) "phrase_of" ["score", "name"] spPhrase := by
  refine Cal.of T.f_phrase_of T.g_phrase_of sc_phrase_of (fun _ _ _ _ _ _ us hl => match us, hl with | [_, _], _ => rfl) (fun vs H Q E h => by obtain ⟨x0, x1, rfl, _⟩ := h; rfl) (fun f cdv A outer s H vs Q E hr h => ?_)
  obtain ⟨v0, v1, rfl, h⟩ := h
  refine ⟨_, (pss_one (ps_ret (pc (cal_found_by T) hr (pa_cons (pe_ix ix_tup (pv 0) pe_int (fun _ _ => rfl)) (pa_cons (pv 1) pa_nil))))), ?_⟩
  obtain ⟨ph, pt, x, r, ⟨c, hs⟩, rfl, hl, k⟩ := h
  obtain ⟨a, vs, rfl, ha, rv⟩ := hs.tup_inv
  obtain ⟨v1, r1, rfl, e1, rv⟩ := rv.cons_inv
  obtain ⟨v2, r2, rfl, e2, rv⟩ := rv.cons_inv
  exact ⟨_, rfl, _, _, _, _, rfl, rfl, SqT.of (ha), atI_nat (j := 1) rfl, _, rfl, _, _, rfl, ph, x, r, e2, rfl, hl, k⟩
/- slots of part_of: 0 score, 1 name -/
theorem sc_part_of : FnScope ["score", "name"] ["score", "name"] (defScope s_part_of) := ⟨rfl, rfl, rfl, by decide +kernel, rfl, by decide +kernel, by decide +kernel⟩
theorem cal_part_of (T : Tx w K mg) : Cal P w K mg base CX0 (2) "part_of" ["score", "name"] spPartOf := by
  refine Cal.of T.f_part_of T.g_part_of sc_part_of (fun _ _ _ _ _ _ us hl => match us, hl with | [_, _], _ => rfl) (fun vs H Q E h => by obtain ⟨x0, x1, rfl, _⟩ := h; rfl) (fun f cdv A outer s H vs Q E hr h => ?_)
  obtain ⟨v0, v1, rfl, h⟩ := h
  refine ⟨_, (pss_one (ps_ret (pc (cal_found_by T) hr (pa_cons (pe_ix ix_tup (pv 0) pe_int (fun _ _ => rfl)) (pa_cons (pv 1) pa_nil))))), ?_⟩
  obtain ⟨ph, pt, x, r, ⟨c, hs⟩, rfl, hl, k⟩ := h
  obtain ⟨a, vs, rfl, ha, rv⟩ := hs.tup_inv
  obtain ⟨v1, r1, rfl, e1, rv⟩ := rv.cons_inv
  obtain ⟨v2, r2, rfl, e2, rv⟩ := rv.cons_inv
  obtain ⟨v3, r3, rfl, e3, rv⟩ := rv.cons_inv
  exact ⟨_, rfl, _, _, _, _, rfl, rfl, SqT.of (ha), atI_nat (j := 2) rfl, _, rfl, _, _, rfl, pt, x, r, e3, rfl, hl, k⟩
/- slots of Draft.used: 0 self, 1 name -/
theorem sc_Draft_used : FnScope ["self", "name"] ["self", "name"] (defScope s_Draft_used) := ⟨rfl, rfl, rfl, by decide +kernel, rfl, by decide +kernel, by decide +kernel⟩
theorem met_Draft_used (T : Tx w K mg) : CalM P w K mg base CX0 (3) "Draft" "used" ["self", "name"] (spUsed K) := by
  refine CalM.of T.f_Draft_used T.m_Draft_used T.c_Draft sc_Draft_used (fun _ _ _ _ _ _ us hl => match us, hl with | [_, _], _ => rfl) (fun vs H Q E h => by obtain ⟨x0, x1, rfl, _⟩ := h; rfl) (fun f cdv A outer s H vs Q E hr h => ?_)
  obtain ⟨v0, v1, rfl, h⟩ := h
  refine ⟨_, (pss_cons (ps_fldaug (pv 0) pe_int in_add)
    (pss_cons (ps_if (pt_cmpR op_gt (pe_fld (pv 0) rfl) (pe_gint T.i_MOST_USES) (nomark _)) (pss_one ps_never) pss_nil)
    (pss_one (ps_ret (pe_ix ix_tup (pc (cal_phrase_of T) hr (pa_cons (pe_fld (pv 0) rfl) (pa_cons (pv 1) pa_nil))) pe_int (fun _ _ => rfl)))))), ?_⟩
  obtain ⟨d, sv, ea, ta, das, S, ph, pt, x, th, r, rfl, D, hsc, rfl, hl, hu, k⟩ := h
  obtain ⟨dx, o⟩ := D.o
  have hn : ∀ b ∈ das, b ≠ d := fun b hb e => by
    obtain ⟨kvs, h1⟩ := D.das_kind hb
    rw [e, o] at h1
    cases h1
  refine ⟨_, rfl, d, _, dx, _, _, rfl, o, T.c_Draft, T.n_Draft_uses, rfl, _, _, rfl, rfl, dx, _, o, (by show 4 < 1000; decide), ?_⟩
  have kp : Kp [d] H (upd H d (.ins (gA K "Draft") dx [("score", sv), ("entries", .ref ea), ("uses", .int ((S.uses : Nat) + 1)), ("turns", .ref ta)])) := kp_upd
  have tk : Tk H (upd H d (.ins (gA K "Draft") dx [("score", sv), ("entries", .ref ea), ("uses", .int ((S.uses : Nat) + 1)), ("turns", .ref ta)])) := fun b xs hb => by
    rw [upd_ne (fun e => by rw [e, o] at hb; cases hb)]
    exact hb
  have D1 : DAt K (upd H d (.ins (gA K "Draft") dx [("score", sv), ("entries", .ref ea), ("uses", .int ((S.uses : Nat) + 1)), ("turns", .ref ta)])) d sv ea ta das { S with uses := S.uses + 1 } := by
    obtain ⟨evs, e1, e2⟩ := D.e
    obtain ⟨tvs, t1, t2⟩ := D.t
    refine ⟨⟨dx, upd_same⟩, ⟨evs, ?_, e2.mono tk⟩, ⟨tvs, ?_, t2.mono fun _ _ h => h.mono tk⟩, ?_, D.nd, D.ne⟩
    · rw [upd_ne (fun e => by rw [e, o] at e1; cases e1)]; exact e1
    · rw [upd_ne (fun e => by rw [e, o] at t1; cases t1)]; exact t1
    · refine D.k.mono fun a kvs h => ?_
      rw [upd_ne (fun e => by rw [e, o] at h; cases h)]; exact h
  refine ⟨_, rfl, d, _, dx, _, _, rfl, upd_same, T.c_Draft, T.n_Draft_uses, rfl, ?_⟩
  obtain ⟨tok, hmu⟩ := T.i_MOST_USES
  refine ⟨_, _, rfl, rfl, _, rfl, itF (dF (by omega)) ?_⟩
  refine ⟨_, rfl, d, _, dx, _, _, rfl, upd_same, T.c_Draft, T.n_Draft_score, rfl, _, rfl, ?_⟩
  obtain ⟨c, hs⟩ := hsc
  refine ⟨_, _, rfl, ph, pt, x, _, ⟨c, hs.mono tk⟩, rfl, hl, fun v rv => ?_⟩
  obtain ⟨a, vs, rfl, ha, rv⟩ := rv.tup_inv
  obtain ⟨v1, r1, rfl, e1, rv⟩ := rv.cons_inv
  obtain ⟨v2, r2, rfl, e2, rv⟩ := rv.cons_inv
  refine ⟨_, _, _, _, rfl, rfl, SqT.of (ha), atI_nat (j := 1) rfl, ?_⟩
  exact k _ _ kp D1 e2
end
/-! ### where a thing is laid -/
def WAt (K : PySem.W.Frag) (H : Hp) (v : V) (W : Wn) (das : List Addr) : Prop := ∃ a dx vw da vb, v = .ref a ∧ H a = some (.ins (gA K "Within") dx [("way", vw), ("signs", .ref da), ("up", .int W.up), ("by", vb)]) ∧ Rp H vw (iD W.way) ∧ das[W.sid]? = some da ∧ FAt H vb W.by_
def spInitW (K : PySem.W.Frag) : Sp := Sp5 fun a vw vs vu vb H Q _ => ∃ d dx, a = .ref d ∧ H d = some (.ins (gA K "Within") dx []) ∧
  ∀ H', Kp [d] H H' → H' d = some (.ins (gA K "Within") dx [("way", vw), ("signs", vs), ("up", vu), ("by", vb)]) → Q .non H'
def spDeeper (K : PySem.W.Frag) : Sp := Sp2 fun a b H Q _ => ∃ W das i, WAt K H a W das ∧ W.way.length ≤ 1000 ∧ b = .int i ∧
  ∀ H' v, Same H H' → WAt K H' v { W with way := W.way ++ [i] } das → Q v H'
theorem kp_make {H1 H' : Hp} {x dx : Addr} {o o' : HO} (hx : H1 x = none) (hdx : H1 dx = none) (k : Kp [x] (upd (upd H1 dx o) x o') H') : Same H1 H' := fun b u h => by
  have h1 : b ≠ x := ne_of_none h hx
  have h2 : b ≠ dx := ne_of_none h hdx
  exact k b u (by rw [upd_ne h1, upd_ne h2]; exact h) (fun m => h1 (List.mem_singleton.mp m))
section
variable {P : Program} {w : World} {K : PySem.W.Frag} {mg : Str → Option Value} {base : Heap}
/- slots of Within.__init__: 0 self, 1 way, 2 signs, 3 up, 4 by -/
theorem sc_Within_init : FnScope ["self", "way", "signs", "up", "by"] ["self", "way", "signs", "up", "by"] (defScope s_Within_init) := ⟨rfl, rfl, rfl, by decide +kernel, rfl, by decide +kernel, by decide +kernel⟩
theorem mk_Within (T : Tx w K mg) : CalN P w K mg base CX0 (1) "Within" ["self", "way", "signs", "up", "by"] (spInitW K) := by
  refine CalN.of T.f_Within_init T.k_Within T.g_Within sc_Within_init (fun _ _ _ _ _ _ us hl => match us, hl with | [_, _, _, _, _], _ => rfl) (fun vs H Q E h => by obtain ⟨x0, x1, x2, x3, x4, rfl, _⟩ := h; rfl) (fun f cdv A outer s H vs Q E hr h => ?_)
  obtain ⟨v0, v1, v2, v3, v4, rfl, h⟩ := h
  refine ⟨_, (pss_cons (ps_fld (pv 0) (pv 1) rfl)
    (pss_cons (ps_fld (pv 0) (pv 2) rfl)
    (pss_cons (ps_fld (pv 0) (pv 3) rfl)
    (pss_one (ps_fld (pv 0) (pv 4) rfl))))), ?_⟩
  obtain ⟨d, dx, rfl, hd, k⟩ := h
  refine ⟨_, rfl, _, rfl, d, _, dx, _, rfl, hd, T.c_Within, T.n_Within_way, (by decide), ?_⟩
  refine ⟨_, rfl, _, rfl, d, _, dx, _, rfl, upd_same, T.c_Within, T.n_Within_signs, (by show 1 < 1000; decide), ?_⟩
  refine ⟨_, rfl, _, rfl, d, _, dx, _, rfl, upd_same, T.c_Within, T.n_Within_up, (by show 2 < 1000; decide), ?_⟩
  refine ⟨_, rfl, _, rfl, d, _, dx, _, rfl, upd_same, T.c_Within, T.n_Within_by, (by show 3 < 1000; decide), ?_⟩
  refine k _ ?_ upd_same
  intro b o hb m
  have hbd : b ≠ d := fun e => m (by rw [e]; exact List.mem_singleton.mpr rfl)
  rw [upd_ne hbd, upd_ne hbd, upd_ne hbd, upd_ne hbd]
  exact hb
/- slots of Within.deeper: 0 self, 1 number -/
theorem sc_Within_deeper : FnScope ["self", "number"] ["self", "number"] (defScope s_Within_deeper) := ⟨rfl, rfl, rfl, by decide +kernel, rfl, by decide +kernel, by decide +kernel⟩
theorem met_Within_deeper (T : Tx w K mg) : CalM P w K mg base CX0 (3) "Within" "deeper" ["self", "number"] (spDeeper K) := by
  refine CalM.of T.f_Within_deeper T.m_Within_deeper T.c_Within sc_Within_deeper (fun _ _ _ _ _ _ us hl => match us, hl with | [_, _], _ => rfl) (fun vs H Q E h => by obtain ⟨x0, x1, rfl, _⟩ := h; rfl) (fun f cdv A outer s H vs Q E hr h => ?_)
  obtain ⟨v0, v1, rfl, h⟩ := h
  refine ⟨_, (pss_one (ps_ret (pn (mk_Within T) hr (pa_cons (pe_op op_catA (pe_fld (pv 0) rfl) (pe_tup (pa_cons (pv 1) pa_nil))) (pa_cons (pe_fld (pv 0) rfl) (pa_cons (pe_fld (pv 0) rfl) (pa_cons (pe_fld (pv 0) rfl) pa_nil))))))), ?_⟩
  obtain ⟨W, das, i, ⟨a, dx, vw, da, vb, rfl, ha, hw, hs, hb⟩, hl, rfl, k⟩ := h
  obtain ⟨wa, rfl, hwa⟩ := hw.ints
  refine ⟨_, rfl, a, _, dx, _, _, rfl, ha, T.c_Within, T.n_Within_way, rfl, ?_⟩
  refine ⟨_, rfl, (by show 1 ≤ sizeLine; decide), fun p hp => ?_⟩
  have s1 := same_new (o := .tup [.int i]) hp
  have hz : (W.way.map V.int).length + 1 ≤ sizeLine := by rw [List.length_map, sizeLine_eq]; omega
  refine ⟨wa, p, _, [.int i], rfl, rfl, SqT.of (s1.on hwa), SqT.of upd_same, hz, fun z => ?_, fun _ z => absurd z (List.cons_ne_nil _ _), fun _ _ q hq => ?_⟩
  · have e : W.way.map V.int ++ [V.int i] = (W.way ++ [i]).map V.int := by rw [List.map_append]; rfl
    refine ⟨_, rfl, a, _, dx, _, _, rfl, s1.on ha, T.c_Within, T.n_Within_signs, rfl, _, rfl, a, _, dx, _, _, rfl, s1.on ha, T.c_Within, T.n_Within_up, rfl, _, rfl, a, _, dx, _, _, rfl, s1.on ha, T.c_Within, T.n_Within_by, rfl, fun x dx2 hx hdx hne => ?_⟩
    refine ⟨_, _, _, _, _, rfl, x, dx2, rfl, upd_same, fun H' kp hi => ⟨rfl, ?_⟩⟩
    have s2 := s1.trans (kp_make hx hdx kp)
    refine k H' _ s2 ⟨x, dx2, _, da, vb, rfl, hi, rp_ints ?_, hs, hb.mono s2.tk⟩
    rw [← e, z]
    exact (kp_make hx hdx kp).on upd_same
  · have s3 := s1.trans (same_new (o := .tup (W.way.map V.int ++ [.int i])) hq)
    refine ⟨_, rfl, a, _, dx, _, _, rfl, s3.on ha, T.c_Within, T.n_Within_signs, rfl, _, rfl, a, _, dx, _, _, rfl, s3.on ha, T.c_Within, T.n_Within_up, rfl, _, rfl, a, _, dx, _, _, rfl, s3.on ha, T.c_Within, T.n_Within_by, rfl, fun x dx2 hx hdx hne => ?_⟩
    refine ⟨_, _, _, _, _, rfl, x, dx2, rfl, upd_same, fun H' kp hi => ⟨rfl, ?_⟩⟩
    have s2 := s3.trans (kp_make hx hdx kp)
    refine k H' _ s2 ⟨x, dx2, _, da, vb, rfl, hi, rp_ints ?_, hs, hb.mono s2.tk⟩
    rw [List.map_append]
    exact (kp_make hx hdx kp).on upd_same
end
end MC
set_option Elab.async false
set_option linter.all false
set_option maxRecDepth 100000
set_option maxHeartbeats 4000000
namespace MC
open PySem PySem.Spec PyProof.Rows L2
theorem All2.of_get {α β : Type} {R : α → β → Prop} : ∀ {l : List α} {r : List β}, l.length = r.length → (∀ (i : Nat) (a : α) (b : β), l[i]? = some a → r[i]? = some b → R a b) → All2 R l r
  | [], [], _, _ => .nil
  | [], _ :: _, h, _ => by cases h
  | _ :: _, [], h, _ => by cases h
  | a :: l, b :: r, h, k => .cons (k 0 a b rfl rfl) (All2.of_get (by simpa using h) fun i x y hx hy => k (i + 1) x y (by simpa using hx) (by simpa using hy))
/-! ### things in the heap -/
section
variable {H : Hp} {v : V}
theorem Rp.sign_inv {s : Str} (h : Rp H v (Thing.sign s).d) : ∃ a, v = .ref a ∧ H a = some (.tup [.str "sign", .str s]) := by
  rw [Thing.d] at h
  obtain ⟨a, vs, rfl, h1, r⟩ := h.tup_inv
  obtain ⟨v1, r1, rfl, e1, r⟩ := r.cons_inv
  obtain ⟨v2, r2, rfl, e2, r⟩ := r.cons_inv
  cases r.nil_inv
  cases e1.str_inv
  cases e2.str_inv
  exact ⟨a, rfl, h1⟩
theorem Rp.turn_inv {goals : List (Option Str)} (h : Rp H v (Thing.turn goals).d) : ∃ a g, v = .ref a ∧ H a = some (.tup [.str "turn", g]) ∧ Rp H g (.tuple (goals.map goalD)) := by
  rw [Thing.d] at h
  obtain ⟨a, vs, rfl, h1, r⟩ := h.tup_inv
  obtain ⟨v1, r1, rfl, e1, r⟩ := r.cons_inv
  obtain ⟨v2, r2, rfl, e2, r⟩ := r.cons_inv
  cases r.nil_inv
  cases e1.str_inv
  exact ⟨a, v2, rfl, h1, e2⟩
theorem Rp.use_inv {f : Str} {up : Int} {by_ : Frac} (h : Rp H v (Thing.use f up by_).d) : ∃ a vb, v = .ref a ∧ H a = some (.tup [.str "use", .str f, .int up, vb]) ∧ FAt H vb by_ := by
  rw [Thing.d] at h
  obtain ⟨a, vs, rfl, h1, r⟩ := h.tup_inv
  obtain ⟨v1, r1, rfl, e1, r⟩ := r.cons_inv
  obtain ⟨v2, r2, rfl, e2, r⟩ := r.cons_inv
  obtain ⟨v3, r3, rfl, e3, r⟩ := r.cons_inv
  obtain ⟨v4, r4, rfl, e4, r⟩ := r.cons_inv
  cases r.nil_inv
  cases e1.str_inv
  cases e2.str_inv
  cases e3.int_inv
  exact ⟨a, v4, rfl, h1, e4.fat⟩
theorem Rp.rep_inv {many : Nat} {ths : List Thing} {ends : List (List Nat × List Thing)} (h : Rp H v (Thing.rep many ths ends).d) : ∃ a vt ve, v = .ref a ∧ H a = some (.tup [.str "repeat", .int (many : Nat), vt, ve]) ∧ Rp H vt (.tuple (thingsD ths)) ∧ Rp H ve (.tuple (endsD ends)) := by
  rw [Thing.d] at h
  obtain ⟨a, vs, rfl, h1, r⟩ := h.tup_inv
  obtain ⟨v1, r1, rfl, e1, r⟩ := r.cons_inv
  obtain ⟨v2, r2, rfl, e2, r⟩ := r.cons_inv
  obtain ⟨v3, r3, rfl, e3, r⟩ := r.cons_inv
  obtain ⟨v4, r4, rfl, e4, r⟩ := r.cons_inv
  cases r.nil_inv
  cases e1.str_inv
  cases e2.int_inv
  exact ⟨a, v3, v4, rfl, h1, e3, e4⟩
theorem rpa_things_get {vs : List V} {ths : List Thing} {i : Nat} {x : V} (r : RpA H vs (thingsD ths)) (h : vs[i]? = some x) : ∃ t, ths[i]? = some t ∧ Rp H x t.d := by
  obtain ⟨d, h1, h2⟩ := r.get h
  rw [thingsD_map, List.getElem?_map] at h1
  cases e : ths[i]? with
  | none => rw [e] at h1; cases h1
  | some it => rw [e] at h1; cases h1; exact ⟨it, rfl, h2⟩
theorem rpa_nats_inv {vs : List V} : ∀ {ns : List Nat}, RpA H vs (ns.map fun n => .int (n : Nat)) → vs = ns.map fun n => .int (n : Nat) := by
  intro ns h
  have e : (ns.map fun n => PyData.int (n : Nat)) = (ns.map fun n => ((n : Nat) : Int)).map PyData.int := by rw [List.map_map]; rfl
  rw [e] at h
  rw [rpa_ints_inv _ h, List.map_map]
  rfl
theorem Rp.nats {ns : List Nat} (h : Rp H v (natsD ns)) : ∃ a, v = .ref a ∧ H a = some (.tup (ns.map fun n => .int (n : Nat))) := by
  obtain ⟨a, vs, rfl, h1, r⟩ := h.tup_inv
  rw [rpa_nats_inv r] at h1
  exact ⟨a, rfl, h1⟩
end
/-! ### laying keeps the rest -/
structure Laid (K : PySem.W.Frag) (H H' : Hp) (d : Addr) (sv : V) (ea ta : Addr) (das das' : List Addr) (S' : DS) : Prop where
  k : Kp (d :: ea :: ta :: das) H H'
  D : DAt K H' d sv ea ta das' S'
  p : ∃ r, das' = das ++ r ∧ ∀ b ∈ r, H b = none
def BookAt (ph : List (Str × List PyData)) (book : Str → Option (List Thing)) : Prop := ∀ x ths, book x = some ths → ph.lookup x = some [.tuple (thingsD ths)]
structure LC (K : PySem.W.Frag) (H : Hp) (book : Str → Option (List Thing)) (d : Addr) (sv : V) (ea ta : Addr) (das : List Addr) (S : DS) : Prop where
  D : DAt K H d sv ea ta das S
  sc : ∃ ph pt, ScAt H sv ph pt ∧ BookAt ph book
structure WC (K : PySem.W.Frag) (H : Hp) (v : V) (w : Wn) (das : List Addr) (B n q : Nat) : Prop where
  a : WAt K H v w das
  f : FB B w.by_
  b0 : 0 < B
  b : B + 2 * n ≤ 60
  l : w.way.length + 2 * n ≤ q
section
variable {K : PySem.W.Frag} {H H' H1 H2 : Hp} {d ea ta : Addr} {sv v : V} {das das1 das2 das' : List Addr} {S S1 S2 S' : DS} {book : Str → Option (List Thing)} {w : Wn} {B n q : Nat}
theorem DAt.own (D : DAt K H d sv ea ta das S) {b : Addr} (h : b ∈ d :: ea :: ta :: das) : ∃ o, H b = some o := by
  rcases List.mem_cons.mp h with rfl | m
  · obtain ⟨dx, o⟩ := D.o; exact ⟨_, o⟩
  rcases List.mem_cons.mp m with rfl | m
  · obtain ⟨_, o, _⟩ := D.e; exact ⟨_, o⟩
  rcases List.mem_cons.mp m with rfl | m
  · obtain ⟨_, o, _⟩ := D.t; exact ⟨_, o⟩
  · obtain ⟨kvs, o⟩ := D.das_kind m; exact ⟨_, o⟩
theorem Laid.trans (a : Laid K H H1 d sv ea ta das das1 S1) (b : Laid K H1 H2 d sv ea ta das1 das2 S2) : Laid K H H2 d sv ea ta das das2 S2 := by
  obtain ⟨r1, e1, n1⟩ := a.p
  obtain ⟨r2, e2, n2⟩ := b.p
  refine ⟨fun c o h m => b.k c o (a.k c o h m) fun z => ?_, b.D, r1 ++ r2, by rw [e2, e1, List.append_assoc], fun c hc => ?_⟩
  · rw [e1] at z
    have z' : c ∈ (d :: ea :: ta :: das) ++ r1 := z
    rcases List.mem_append.mp z' with z | z
    · exact m z
    · rw [n1 c z] at h; cases h
  · rcases List.mem_append.mp hc with hc | hc
    · exact n1 c hc
    · have h2 := n2 c hc
      cases e : H c with
      | none => rfl
      | some o =>
        by_cases m : c ∈ d :: ea :: ta :: das
        · obtain ⟨o', h3⟩ := a.D.own (b := c) (by
            rw [e1]
            have : c ∈ (d :: ea :: ta :: das) ++ r1 := List.mem_append_left _ m
            exact this)
          rw [h2] at h3; cases h3
        · rw [a.k c o e m] at h2; cases h2
theorem Laid.kp (k : Kp [ea] H H') (D : DAt K H' d sv ea ta das S') : Laid K H H' d sv ea ta das das S' :=
  ⟨k.sub fun b hb => by rw [List.mem_singleton.mp hb]; simp, D, [], by simp, fun _ h => by cases h⟩
theorem Laid.same (s : Same H H') (D : DAt K H d sv ea ta das S) : Laid K H H' d sv ea ta das das S :=
  ⟨Kp.of s, D.same s, [], by simp, fun _ h => by cases h⟩
theorem Laid.refl (D : DAt K H d sv ea ta das S) : Laid K H H d sv ea ta das das S := Laid.same (same_refl H) D
theorem ScAt.mono {ph pt : List (Str × List PyData)} (h : ScAt H sv ph pt) (tk : Tk H H') : ScAt H' sv ph pt := by
  obtain ⟨c, h⟩ := h
  exact ⟨c, h.mono tk⟩
theorem LC.laid (c : LC K H book d sv ea ta das S) (l : Laid K H H' d sv ea ta das das' S') : LC K H' book d sv ea ta das' S' := by
  obtain ⟨ph, pt, h1, h2⟩ := c.sc
  exact ⟨l.D, ph, pt, h1.mono (c.D.tk l.k), h2⟩
theorem pre_get {r : List Addr} {i : Nat} {a : Addr} (h : das[i]? = some a) : (das ++ r)[i]? = some a := by
  rw [List.getElem?_append_left (List.getElem?_eq_some_iff.mp h).1]
  exact h
theorem ne_name {a b : Addr} {C C' dx dx' : Addr} {fs fs' : List (Str × V)} {x x' : Str} {y y' : V} (h1 : H a = some (.ins C dx ((x, y) :: fs))) (h2 : H b = some (.ins C' dx' ((x', y') :: fs'))) (hx : x ≠ x') : a ≠ b := fun e => by
  rw [e, h2] at h1
  injection h1 with h1
  injection h1 with _ _ h1
  injection h1 with h1
  exact hx (congrArg Prod.fst h1).symm
theorem WAt.laid (W : WAt K H v w das) (D : DAt K H d sv ea ta das S) (l : Laid K H H' d sv ea ta das das' S') : WAt K H' v w das' := by
  obtain ⟨a, dx, vw, da, vb, rfl, ha, hw, hs, hb⟩ := W
  obtain ⟨r, e, _⟩ := l.p
  have tk := D.tk l.k
  refine ⟨a, dx, vw, da, vb, rfl, l.k a _ ha fun m => ?_, hw.mono tk, by rw [e]; exact pre_get hs, hb.mono tk⟩
  rcases List.mem_cons.mp m with rfl | m
  · obtain ⟨dx', o⟩ := D.o
    exact ne_name ha o (by decide) rfl
  rcases List.mem_cons.mp m with rfl | m
  · obtain ⟨_, o, _⟩ := D.e; rw [o] at ha; cases ha
  rcases List.mem_cons.mp m with rfl | m
  · obtain ⟨_, o, _⟩ := D.t; rw [o] at ha; cases ha
  · obtain ⟨kvs, o⟩ := D.das_kind m; rw [o] at ha; cases ha
theorem WC.laid (W : WC K H v w das B n q) (D : DAt K H d sv ea ta das S) (l : Laid K H H' d sv ea ta das das' S') : WC K H' v w das' B n q :=
  ⟨W.a.laid D l, W.f, W.b0, W.b, W.l⟩
/-- a sign put into its dict -/
theorem DAt.dput (D : DAt K H d sv ea ta das S) {i : Nat} {da : Addr} (h : das[i]? = some da) (x : Str) : ∃ kvs, H da = some (.dK kvs) ∧ S.dicts[i]? = some kvs ∧
    DAt K (upd H da (.dK (putK kvs (.inr x) (.int (S.ents.length : Nat))))) d sv ea ta das (S.dput i x) := by
  obtain ⟨kvs, h1, h2⟩ := D.k.get h
  refine ⟨kvs, h2, h1, ?_⟩
  have tk : Tk H (upd H da (.dK (putK kvs (.inr x) (.int (S.ents.length : Nat))))) := fun b xs hb => by
    rw [upd_ne (fun e => by rw [e, h2] at hb; cases hb)]
    exact hb
  obtain ⟨⟨dx, o⟩, ⟨evs, e1, e2⟩, ⟨tvs, t1, t2⟩, k, nd, ne⟩ := D
  refine ⟨⟨dx, ?_⟩, ⟨evs, ?_, e2.mono tk⟩, ⟨tvs, ?_, t2.mono fun _ _ h => h.mono tk⟩, ?_, nd, ne⟩
  · rw [upd_ne (fun e => by rw [e, h2] at o; cases o)]; exact o
  · rw [upd_ne (fun e => by rw [e, h2] at e1; cases e1)]; exact e1
  · rw [upd_ne (fun e => by rw [e, h2] at t1; cases t1)]; exact t1
  · refine All2.of_get (by rw [DS.dput, List.length_modify]; exact k.len) fun j a b ha hb => ?_
    rw [DS.dput, List.getElem?_modify] at hb
    by_cases c : i = j
    · subst c
      rw [h] at ha
      cases ha
      rw [h1] at hb
      have hb : (if i = i then putK kvs (.inr x) (.int (S.ents.length : Nat)) else kvs) = b := Option.some.inj hb
      rw [if_pos rfl] at hb
      rw [← hb]
      exact upd_same
    · have hne : a ≠ da := fun e => by
        subst e
        have h3 := (List.getElem?_eq_some_iff.mp h)
        have h4 := (List.getElem?_eq_some_iff.mp ha)
        exact c ((List.getElem_inj nd (h₀ := h3.1) (h₁ := h4.1)).mp (h3.2.trans h4.2.symm))
      obtain ⟨b', hb1, hb2⟩ := k.get ha
      rw [hb1] at hb
      have hb : (if i = j then putK b' (.inr x) (.int (S.ents.length : Nat)) else b') = b := Option.some.inj hb
      rw [if_neg c] at hb
      rw [← hb, upd_ne hne]
      exact hb2
theorem Laid.dput (D : DAt K H d sv ea ta das S) {i : Nat} {da : Addr} (h : das[i]? = some da) (x : Str) : ∃ kvs, H da = some (.dK kvs) ∧ Laid K H (upd H da (.dK (putK kvs (.inr x) (.int (S.ents.length : Nat))))) d sv ea ta das das (S.dput i x) := by
  obtain ⟨kvs, h1, h2, h3⟩ := D.dput h x
  refine ⟨kvs, h1, kp_upd.sub fun b hb => ?_, h3, [], by simp, fun _ h => by cases h⟩
  rw [List.mem_singleton.mp hb]
  simp [List.mem_of_getElem? h]
end
/-! ### pure facts of laying -/
/-- a layer that only adds -/
def Gr (f : LayF) : Prop := ∀ ths w k S, S.ents.length ≤ (f ths w k S).ents.length
theorem len_putOpens (many begin behind : Nat) : ∀ (l : List (Nat × List Nat)) (s : DS), (putOpens many begin behind l s).ents.length = s.ents.length
  | [], s => rfl
  | (p, ns) :: r, s => by
    rw [putOpens, len_putOpens many begin behind r]
    exact List.length_set
theorem len_add (s : DS) (e : Entry) : (s.add e).ents.length = s.ents.length + 1 := List.length_append
theorem len_put (s : DS) (i : Nat) (gs : List Int) : (s.put i gs).ents.length = s.ents.length := List.length_set
theorem len_layEnds {f : LayF} (hf : Gr f) (w : Wn) : ∀ (ends : List (List Nat × List Thing)) (x : ES), x.s.ents.length ≤ (layEnds f w ends x).s.ents.length
  | [], x => Nat.le_refl _
  | e :: r, x => by
    rw [layEnds]
    refine Nat.le_trans ?_ (len_layEnds hf w r _)
    show _ ≤ ((f e.2 w x.number x.s).add _).ents.length
    rw [len_add]
    exact Nat.le_succ_of_le (hf _ _ _ _)
theorem len_layThing {book : Str → Option (List Thing)} {f : LayF} (hf : Gr f) (t : Thing) (w : Wn) (S : DS) : S.ents.length ≤ (layThing book f t w S).ents.length := by
  cases t with
  | bar size vss => rw [layThing, len_add]; exact Nat.le_succ _
  | sign x => exact Nat.le_refl _
  | turn goals =>
    show _ ≤ (S.add _).ents.length
    rw [len_add]; exact Nat.le_succ _
  | use x up by_ => exact hf _ _ _ { S with uses := S.uses + 1, dicts := S.dicts ++ [[]] }
  | rep many ths ends =>
    rw [layThing, layRep]
    by_cases e : ends.length = 0
    · rw [if_pos e, len_put, len_add]
      exact Nat.le_succ_of_le (hf _ _ _ _)
    · rw [if_neg e, layEndings, len_putOpens, len_put]
      refine Nat.le_trans ?_ (len_layEnds hf w _ _)
      show _ ≤ ((f ths w 0 S).add _).ents.length
      rw [len_add]
      exact Nat.le_succ_of_le (hf _ _ _ _)
theorem len_layThings {book : Str → Option (List Thing)} {f : LayF} (hf : Gr f) : ∀ ths w k S, S.ents.length ≤ (layThings book f ths w k S).ents.length
  | [], w, k, S => Nat.le_refl _
  | t :: r, w, k, S => by
    rw [layThings]
    exact Nat.le_trans (len_layThing hf t _ S) (len_layThings hf r _ _ _)
theorem gr_layF (book : Str → Option (List Thing)) : ∀ n, Gr (layF book n)
  | 0 => fun _ _ _ _ => Nat.le_refl _
  | n + 1 => len_layThings (gr_layF book n)
theorem begun_len (here : Nat) : ∀ (ns : List Nat) (b : List (Key × V)), (begun here ns b).length ≤ b.length + ns.length
  | [], b => Nat.le_refl _
  | k :: r, b => by
    rw [begun]
    have h1 := begun_len here r (putK b (.inl (k : Nat)) (.int (here : Nat)))
    have h2 := putK_len b (.inl (k : Nat)) (.int (here : Nat))
    show _ ≤ b.length + (r.length + 1)
    omega
/-- the numbers that have begun, each at most at top -/
def Begun (b : List (Key × V)) (top : Nat) (k : Nat) : Prop := ∃ z : Nat, z ≤ top ∧ valV b (.inl (k : Int)) = some (.int (z : Nat))
theorem begun_keep {here top k : Nat} (hh : here ≤ top) : ∀ (ns : List Nat) (b : List (Key × V)), Begun b top k → Begun (begun here ns b) top k
  | [], b, h => h
  | j :: r, b, h => by
    rw [begun]
    refine begun_keep hh r _ ?_
    obtain ⟨z, h0, h⟩ := h
    by_cases c : (Sum.inl (k : Int) : Key) = .inl (j : Int)
    · exact ⟨here, hh, by rw [valV_put, if_pos c]⟩
    · exact ⟨z, h0, by rw [valV_put, if_neg c]; exact h⟩
theorem begun_has {here top k : Nat} (hh : here ≤ top) : ∀ (ns : List Nat) (b : List (Key × V)), k ∈ ns → Begun (begun here ns b) top k
  | j :: r, b, h => by
    rw [begun]
    rcases List.mem_cons.mp h with rfl | h
    · exact begun_keep hh r _ ⟨here, hh, by rw [valV_put, if_pos rfl]⟩
    · exact begun_has hh r _ h
theorem Begun.mono {b : List (Key × V)} {m n k : Nat} (h : Begun b m k) (l : m ≤ n) : Begun b n k := by
  obtain ⟨z, h1, h2⟩ := h
  exact ⟨z, by omega, h2⟩
theorem layEnds_keep {f : LayF} (hf : Gr f) (w : Wn) {k : Nat} : ∀ (ends : List (List Nat × List Thing)) (x : ES), Begun x.begins x.s.ents.length k → Begun (layEnds f w ends x).begins (layEnds f w ends x).s.ents.length k
  | [], x, h => h
  | e :: r, x, h => by
    rw [layEnds]
    refine layEnds_keep hf w r _ ?_
    have h1 := hf e.2 w x.number x.s
    refine (begun_keep (Nat.le_refl _) e.1 x.begins h).mono ?_
    show _ ≤ ((f e.2 w x.number x.s).add _).ents.length
    rw [len_add]
    omega
theorem layEnds_has {f : LayF} (hf : Gr f) (w : Wn) {k : Nat} : ∀ (ends : List (List Nat × List Thing)) (x : ES), (∃ e ∈ ends, k ∈ e.1) → Begun (layEnds f w ends x).begins (layEnds f w ends x).s.ents.length k
  | e :: r, x, h => by
    rw [layEnds]
    have h1 := hf e.2 w x.number x.s
    obtain ⟨e', he, hk⟩ := h
    rcases List.mem_cons.mp he with rfl | he
    · refine layEnds_keep hf w r _ ((begun_has (Nat.le_refl _) e'.1 x.begins hk).mono ?_)
      show _ ≤ ((f e'.2 w x.number x.s).add _).ents.length
      rw [len_add]
      omega
    · exact layEnds_has hf w r _ ⟨e', he, hk⟩
/-- an ending that waits, in the heap -/
def OpenV (H : Hp) (v : V) (o : Nat × List Nat) : Prop := ∃ q g, v = .ref q ∧ H q = some (.tup [.int (o.1 : Nat), .ref g]) ∧ H g = some (.tup (o.2.map fun n => .int (n : Nat)))
theorem OpenV.mono {H H' : Hp} {v : V} {o : Nat × List Nat} (h : OpenV H v o) (tk : Tk H H') : OpenV H' v o := by
  obtain ⟨q, g, e, h1, h2⟩ := h
  exact ⟨q, g, e, tk _ _ h1, tk _ _ h2⟩
theorem rep_flat (n : Nat) (i : Int) : (List.replicate n [V.int i]).flatten = (List.replicate n i).map V.int := by
  induction n with
  | zero => rfl
  | succ n ih => rw [List.replicate_succ, List.flatten_cons, ih, List.replicate_succ, List.map_cons]; rfl
section
variable {K : PySem.W.Frag} {H H' H1 H2 : Hp} {d ea ta : Addr} {sv v : V} {das das1 das2 das' : List Addr} {S S1 S2 S' : DS} {book : Str → Option (List Thing)} {w : Wn} {B n q : Nat}
theorem DAt.kp1 (D : DAt K H d sv ea ta das S) {b : Addr} (k : Kp [b] H H') (hb : b ∉ d :: ea :: ta :: das) (tk : Tk H H') : DAt K H' d sv ea ta das S := by
  have st : ∀ c o, H c = some o → c ∈ d :: ea :: ta :: das → H' c = some o := fun c o h m => k c o h fun z => hb (by rw [← List.mem_singleton.mp z]; exact m)
  obtain ⟨⟨dx, o⟩, ⟨evs, e1, e2⟩, ⟨tvs, t1, t2⟩, kk, nd, ne⟩ := D
  refine ⟨⟨dx, st _ _ o (by simp)⟩, ⟨evs, st _ _ e1 (by simp), e2.mono tk⟩, ⟨tvs, st _ _ t1 (by simp), t2.mono fun _ _ h => h.mono tk⟩, ?_, nd, ne⟩
  refine All2.of_get kk.len fun i a b ha hb => ?_
  obtain ⟨b', h1, h2⟩ := kk.get ha
  rw [hb] at h1
  cases h1
  exact st _ _ h2 (by simp [List.mem_of_getElem? ha])
theorem Laid.kpM {M : List Addr} (k : Kp M H H') (hM : ∀ b ∈ M, b ∈ d :: ea :: ta :: das) (D : DAt K H' d sv ea ta das S') : Laid K H H' d sv ea ta das das S' :=
  ⟨k.sub hM, D, [], by simp, fun _ h => by cases h⟩
theorem DAt.dnew (D : DAt K H d sv ea ta das S) {p : Addr} (hp : H p = none) : DAt K (upd H p (.dK [])) d sv ea ta (das ++ [p]) { S with dicts := S.dicts ++ [[]] } := by
  have s := same_new (o := .dK []) hp
  obtain ⟨⟨dx, o⟩, ⟨evs, e1, e2⟩, ⟨tvs, t1, t2⟩, k, nd, ne⟩ := D.same s
  refine ⟨⟨dx, o⟩, ⟨evs, e1, e2⟩, ⟨tvs, t1, t2.mono fun v t h => ?_⟩, k.app (.cons upd_same .nil), ?_, ne⟩
  · obtain ⟨q, g, da, h1, h2, h3, h4⟩ := h
    exact ⟨q, g, da, h1, h2, h3, pre_get h4⟩
  · rw [List.nodup_append]
    refine ⟨nd, by simp, fun a ha b hb => ?_⟩
    rw [List.mem_singleton.mp hb]
    obtain ⟨kvs, h⟩ := D.das_kind ha
    exact ne_of_none h hp
theorem Laid.dnew (D : DAt K H d sv ea ta das S) {p : Addr} (hp : H p = none) : Laid K H (upd H p (.dK [])) d sv ea ta das (das ++ [p]) { S with dicts := S.dicts ++ [[]] } :=
  ⟨Kp.of (same_new hp), D.dnew hp, [p], rfl, fun b hb => by rw [List.mem_singleton.mp hb]; exact hp⟩
end
/-! ### the promises -/
section
variable (K : PySem.W.Frag) (book : Str → Option (List Thing))
def spLay (n : Nat) : Sp := Sp4 fun a b c e H Q _ => ∃ d sv ea ta das S ths w first Sg W B, a = .ref d ∧ LC K H book d sv ea ta das S ∧ Rp H b (.tuple (thingsD ths)) ∧ WC K H c w das B n 100 ∧ e = .int (first : Nat) ∧
  ThsOk book Sg n ths W ∧ ths.length ≤ 100 ∧ Fit S W ths.length ∧ ∀ H' das', Laid K H H' d sv ea ta das das' (layN book n ths w first S) → Q .non H'
def spThing (n : Nat) : Sp := Sp3 fun a b c H Q _ => ∃ d sv ea ta das S t w Sg W B, a = .ref d ∧ LC K H book d sv ea ta das S ∧ Rp H b t.d ∧ WC K H c w das B n 101 ∧
  TOk book Sg n t W ∧ Fit S W 1 ∧ ∀ H' das', Laid K H H' d sv ea ta das das' (layThing book (layF book n) t w S) → Q .non H'
def spUse (n : Nat) : Sp := Sp3 fun a b c H Q _ => ∃ d sv ea ta das S x up by_ w Sg W B, a = .ref d ∧ LC K H book d sv ea ta das S ∧ Rp H b (Thing.use x up by_).d ∧ WC K H c w das B n 101 ∧
  TOk book Sg n (.use x up by_) W ∧ Fit S W 1 ∧ ∀ H' das', Laid K H H' d sv ea ta das das' (layThing book (layF book n) (.use x up by_) w S) → Q .non H'
def spRep (n : Nat) : Sp := Sp3 fun a b c H Q _ => ∃ d sv ea ta das S many ths ends w Sg W B, a = .ref d ∧ LC K H book d sv ea ta das S ∧ Rp H b (Thing.rep many ths ends).d ∧ WC K H c w das B n 101 ∧
  TOk book Sg n (.rep many ths ends) W ∧ Fit S W 1 ∧ ∀ H' das', Laid K H H' d sv ea ta das das' (layThing book (layF book n) (.rep many ths ends) w S) → Q .non H'
def spEnds (n : Nat) : Sp := Sp4 fun a b c e H Q _ => ∃ d sv ea ta das S many ths ends begin w Sg W B, a = .ref d ∧ LC K H book d sv ea ta das S ∧ Rp H b (Thing.rep many ths ends).d ∧ c = .int (begin : Nat) ∧ WC K H e w das B n 100 ∧
  EndsOk book Sg n ends W ∧ ends.length ≤ 100 ∧ ths.length ≤ 100 ∧ many ≤ 9 ∧ ends ≠ [] ∧ EndsTell many ends ∧ sz S + (1 + W) ≤ 2000 ∧ mz S + 100 * W ≤ 300000 ∧
  ∀ H' das', Laid K H H' d sv ea ta das das' (layEndings (layN book n) w many ths ends begin S) → Q .non H'
end
section
variable {P : Program} {w : World} {K : PySem.W.Frag} {mg : Str → Option Value} {base : Heap} {book : Str → Option (List Thing)}
/- slots of lay_things: 0 draft, 1 things, 2 within, 3 first, 4 k, 5 thing -/
theorem sc_lay_things : FnScope ["draft", "things", "within", "first", "k", "thing"] ["draft", "things", "within", "first"] (defScope s_lay_things) := ⟨rfl, rfl, rfl, by decide +kernel, rfl, by decide +kernel, by decide +kernel⟩
theorem lay_things_of (T : Tx w K mg) {n : Nat} (hT : Cal P w K mg base CX0 (4 * n + 23) "lay_thing" ["draft", "thing", "within"] (spThing K book n)) :
    Cal P w K mg base CX0 (4 * n + 24) "lay_things" ["draft", "things", "within", "first"] (spLay K book n) := by
  refine Cal.of T.f_lay_things T.g_lay_things sc_lay_things (fun _ _ _ _ _ _ us hl => match us, hl with | [_, _, _, _], _ => rfl) (fun vs H Q E h => by obtain ⟨x0, x1, x2, x3, rfl, _⟩ := h; rfl) (fun f cdv A outer s H vs Q E hr h => ?_)
  obtain ⟨v0, v1, v2, v3, rfl, h⟩ := h
  refine ⟨_, (pss_one (ps_for PassesOwn.never rfl (pi_enumT (by rfl) T.b_enumerate (pa_cons (pv 1) pa_nil)) (pg_tup (by rfl) (pgs_cons (pg_name (i := 4) sc_lay_things.nd rfl (Or.inl rfl)) (pgs_cons (pg_name (i := 5) sc_lay_things.nd rfl (Or.inl rfl)) pgs_nil))) (pss_one (ps_expr (pc (hT) hr (pa_cons (pv 0) (pa_cons (pv 5) (pa_cons (pm (met_Within_deeper T) hr (pv 2) (pa_cons (pe_op op_add (pv 3) (pv 4)) pa_nil)) pa_nil)))))))), ?_⟩
  obtain ⟨d, sv, ea, ta, das, S, ths, w, first, Sg, W, B, rfl, C, hths, wc, rfl, ok, hlen, hz, k⟩ := h
  obtain ⟨a, vs, rfl, ha, rv⟩ := hths.tup_inv
  have hvl : vs.length = ths.length := by rw [rv.len, thingsD_map, List.length_map]
  refine ⟨_, rfl, a, vs, rfl, SqT.of ha, ?_⟩
  refine for_it (walk_enumT (xs := vs)) (fun i σ H' => ∃ c4 c5 das' S' W', σ = [some (.ref d), some (.ref a), some v2, some (.int (first : Nat)), c4, c5] ∧ Laid K H H' d sv ea ta das das' S' ∧
      layThings book (layF book n) (ths.drop i) w (first + i) S' = layN book n ths w first S ∧ ThsOk book Sg n (ths.drop i) W' ∧ Fit S' W' (ths.drop i).length)
    ⟨_, _, das, S, W, rfl, Laid.refl C.D, rfl, ok, hz⟩ ?_ ?_ ?_
  · rintro i σ H' _ ⟨c4, c5, das', S', W', rfl, l, _⟩
    exact SqT.of (C.D.tk l.k _ _ ha)
  · rintro i v σ H1 H2 hi ⟨c4, c5, das', S', W', rfl, l, el, ok', hz'⟩ ⟨t, x, y, rfl, ht, rfl, hx, hy⟩
    cases hx
    have tk1 := C.D.tk l.k
    obtain ⟨th, hth, rth⟩ := rpa_things_get rv hy
    have ed : ths.drop i = th :: ths.drop (i + 1) := by
      obtain ⟨h3, h4⟩ := List.getElem?_eq_some_iff.mp hth
      rw [List.drop_eq_getElem_cons h3, h4]
    rw [ed] at el ok' hz'
    have hz1 := hz'.a
    have hz2 : mz S' + ((ths.drop (i + 1)).length + 1) + 100 * W' ≤ 300000 := hz'.b
    cases ok' with
    | cons okt okr =>
    rename_i Wt Wr
    have q1 := sz_layThing (wt_layF book n) okt { w with way := w.way ++ [((first + i : Nat) : Int)] } S'
    have q2 := mz_layThing (mt_layF book n) okt { w with way := w.way ++ [((first + i : Nat) : Int)] } S'
    have s1 := same_new (o := .tup [.int (i : Nat), y]) ht
    refine ⟨t, _, rfl, SqT.of upd_same, rfl, _, _, rfl, _, _, rfl, rfl, ?_⟩
    have l1 := l.trans (Laid.same s1 l.D)
    have wc1 := wc.laid C.D l1
    obtain ⟨wa, wdx, wvw, wda, wvb, rfl, hwa, hww, hws, hwb⟩ := wc1.a
    refine ⟨_, rfl, _, rfl, _, rfl, wa, wdx, _, rfl, hwa, rfl, _, rfl, _, rfl, _, _, rfl, rfl, ?_⟩
    have e1 : (first : Int) + (i : Int) = ((first + i : Nat) : Int) := by omega
    refine ⟨_, _, rfl, w, das', _, wc1.a, (by have := wc.l; omega), rfl, fun H3 v3 s3 w3 => ?_⟩
    rw [e1] at w3
    have l2 := l1.trans (Laid.same s3 l1.D)
    have C2 := C.laid l2
    refine ⟨_, _, _, rfl, d, sv, ea, ta, das', S', th, { w with way := w.way ++ [((first + i : Nat) : Int)] }, Sg, Wt, B, rfl, C2, rth.mono (C.D.tk l2.k), ⟨w3, wc.f, wc.b0, wc.b, ?_⟩, okt, ⟨by omega, by omega⟩, fun H4 das4 l4 => ?_⟩
    · show (w.way ++ [_]).length + 2 * n ≤ 101
      rw [List.length_append]
      have := wc.l
      show w.way.length + 1 + 2 * n ≤ 101
      omega
    refine ⟨_, _, das4, _, Wr, rfl, l2.trans l4, ?_, okr, ?_⟩
    · rw [← el, layThings, Nat.add_assoc]
    · exact ⟨by omega, by omega⟩
  · rintro σ H' ⟨c4, c5, das', S', W', rfl, l, el, _⟩
    rw [hvl, List.drop_length] at el
    rw [layThings] at el
    rw [el] at l
    exact k H' das' l
/- slots of lay_use: 0 draft, 1 use, 2 within, 3 word, 4 name, 5 up, 6 by, 7 inner -/
theorem sc_lay_use : FnScope ["draft", "use", "within", "word", "name", "up", "by", "inner"] ["draft", "use", "within"] (defScope s_lay_use) := ⟨rfl, rfl, rfl, by decide +kernel, rfl, by decide +kernel, by decide +kernel⟩
theorem lay_use_of (T : Tx w K mg) {n : Nat} (ih : Cal P w K mg base CX0 (4 * n + 24) "lay_things" ["draft", "things", "within", "first"] (spLay K book n)) :
    Cal P w K mg base CX0 (4 * n + 26) "lay_use" ["draft", "use", "within"] (spUse K book (n + 1)) := by
  refine Cal.of T.f_lay_use T.g_lay_use sc_lay_use (fun _ _ _ _ _ _ us hl => match us, hl with | [_, _, _], _ => rfl) (fun vs H Q E h => by obtain ⟨x0, x1, x2, rfl, _⟩ := h; rfl) (fun f cdv A outer s H vs Q E hr h => ?_)
  obtain ⟨v0, v1, v2, rfl, h⟩ := h
  refine ⟨_, (pss_cons (ps_asg (pv 1) (pg_tup (by rfl) (pgs_cons (pg_name (i := 3) sc_lay_use.nd rfl (Or.inl rfl)) (pgs_cons (pg_name (i := 4) sc_lay_use.nd rfl (Or.inl rfl)) (pgs_cons (pg_name (i := 5) sc_lay_use.nd rfl (Or.inl rfl)) (pgs_cons (pg_name (i := 6) sc_lay_use.nd rfl (Or.inl rfl)) pgs_nil))))))
    (pss_cons (ps_set (i := 7) sc_lay_use.nd rfl (Or.inl rfl) (pn (mk_Within T) hr (pa_cons (pe_fld (pv 2) rfl) (pa_cons pe_dnewK (pa_cons (pe_op op_add (pe_fld (pv 2) rfl) (pv 5)) (pa_cons (pc (cal_times T) hr (pa_cons (pe_fld (pv 2) rfl) (pa_cons (pv 6) pa_nil))) pa_nil))))))
    (pss_one (ps_expr (pc (ih) hr (pa_cons (pv 0) (pa_cons (pm (met_Draft_used T) hr (pv 0) (pa_cons (pv 4) pa_nil)) (pa_cons (pv 7) (pa_cons pe_int pa_nil))))))))), ?_⟩
  obtain ⟨d, sv, ea, ta, das, S, x, up, by_, W, Sg, Wt0, B, rfl, C, hu, wc, ok, hz, k⟩ := h
  obtain ⟨a, vb, rfl, ha, hb⟩ := hu.use_inv
  cases ok with
  | use fb2 hbk okt hla hlen =>
  rename_i Sg' W1 ths
  obtain ⟨wa, wdx, wvw, wda, wvb, rfl, hwa, hww, hws, hwb⟩ := wc.a
  refine ⟨_, rfl, a, _, rfl, SqT.of ha, rfl, _, _, rfl, _, _, rfl, _, _, rfl, _, _, rfl, rfl, ?_⟩
  refine ⟨_, rfl, wa, _, wdx, _, _, rfl, hwa, T.c_Within, T.n_Within_way, rfl, fun p hp => ?_⟩
  have l1 := Laid.dnew C.D hp
  have s1 := same_new (o := .dK []) hp
  refine ⟨_, rfl, wa, _, wdx, _, _, rfl, s1.on hwa, T.c_Within, T.n_Within_up, rfl, _, rfl, _, _, rfl, rfl, ?_⟩
  refine ⟨_, rfl, wa, _, wdx, _, _, rfl, s1.on hwa, T.c_Within, T.n_Within_by, rfl, _, rfl, ?_⟩
  have hB := wc.b
  have hB0 := wc.b0
  refine ⟨_, _, rfl, W.by_, by_, B, 2, hwb.mono s1.tk, hb.mono s1.tk, wc.f, fb2, wc.b0, by omega, (by show B + 2 ≤ 9000; omega), fun bq q hq => ?_⟩
  have s2 := same_new (o := .tup (fV (ftimes W.by_ by_))) hq
  intro y dy hy hdy hne
  refine ⟨_, _, _, _, _, rfl, y, dy, rfl, upd_same, fun H3 kp hi => ⟨rfl, ?_⟩⟩
  have s3 := s2.trans (kp_make hy hdy kp)
  have l3 := l1.trans (Laid.same s3 l1.D)
  have C3 := C.laid l3
  obtain ⟨ph, pt, hsc, hbook⟩ := C3.sc
  obtain ⟨dx3, o3⟩ := C3.D.o
  refine ⟨_, rfl, _, rfl, d, dx3, _, rfl, o3, rfl, _, rfl, ?_⟩
  refine ⟨_, _, rfl, d, sv, ea, ta, das ++ [p], _, ph, pt, x, _, [], rfl, C3.D, hsc, rfl, hbook x ths hbk, ?_, fun H4 v4 k4 D4 rv => ?_⟩
  · show S.uses < 2000
    have : S.ents.length + S.uses + (1 + W1) ≤ 2000 := hz.a
    omega
  have l4 := l3.trans (Laid.kpM k4 (by simp) D4)
  have C4 := C.laid l4
  have tk4 := C3.D.tk (Laid.kpM k4 (by simp) D4).k
  have fbw : FB (B + 2) (ftimes W.by_ by_) := bq
  have hla : das.length = S.dicts.length := C.D.k.len
  have hw4 : WAt K H4 (.ref y) ⟨W.way, S.dicts.length, W.up + up, ftimes W.by_ by_⟩ (das ++ [p]) := by
    refine ⟨y, dy, wvw, p, .ref q, rfl, k4 _ _ hi ?_, (hww.mono (s1.trans s3).tk).mono tk4, ?_, ⟨q, rfl, tk4 _ _ ?_⟩⟩
    · intro m
      exact ne_name hi o3 (by decide) (List.mem_singleton.mp m)
    · show (das ++ [p])[S.dicts.length]? = some p
      rw [← hla, List.getElem?_append_right (Nat.le_refl _), Nat.sub_self]
      rfl
    · exact (kp_make hy hdy kp).on upd_same
  refine ⟨_, rfl, ?_⟩
  refine ⟨_, _, _, _, rfl, d, sv, ea, ta, das ++ [p], _, ths, _, 0, Sg', W1, B + 2, rfl, C4, rv, ⟨hw4, fbw, by omega, by omega, ?_⟩, rfl, okt, hlen, ?_, fun H5 das5 l5 => ?_⟩
  · have h9 := wc.l
    show W.way.length + 2 * n ≤ 100
    omega
  · have e1 : S.ents.length + S.uses + (1 + W1) ≤ 2000 := hz.a
    have e2 : S.turns.length + dl S.dicts + 1 + 100 * (1 + W1) ≤ 300000 := hz.b
    refine ⟨?_, ?_⟩
    · show S.ents.length + (S.uses + 1) + W1 ≤ 2000
      omega
    · show S.turns.length + dl (S.dicts ++ [[]]) + ths.length + 100 * W1 ≤ 300000
      rw [dl_new]
      omega
  refine k H5 das5 ?_
  have e : layThing book (layF book (n + 1)) (.use x up by_) W S = layN book n ths ⟨W.way, S.dicts.length, W.up + up, ftimes W.by_ by_⟩ 0 { S with uses := S.uses + 1, dicts := S.dicts ++ [[]] } := by
    show layF book (n + 1) ((book x).getD []) _ _ _ = _
    rw [hbk]
    rfl
  rw [e]
  exact l4.trans l5
/- slots of lay_repeat: 0 draft, 1 repeat, 2 within, 3 word, 4 many, 5 things, 6 endings, 7 begin, 8 place -/
theorem sc_lay_repeat : FnScope ["draft", "repeat", "within", "word", "many", "things", "endings", "begin", "place"] ["draft", "repeat", "within"] (defScope s_lay_repeat) := ⟨rfl, rfl, rfl, by decide +kernel, rfl, by decide +kernel, by decide +kernel⟩
theorem lay_repeat_of (T : Tx w K mg) {n : Nat} (ih : Cal P w K mg base CX0 (4 * n + 24) "lay_things" ["draft", "things", "within", "first"] (spLay K book n))
    (ie : Cal P w K mg base CX0 (4 * n + 25) "lay_endings" ["draft", "repeat", "begin", "within"] (spEnds K book n)) :
    Cal P w K mg base CX0 (4 * n + 26) "lay_repeat" ["draft", "repeat", "within"] (spRep K book (n + 1)) := by
  refine Cal.of T.f_lay_repeat T.g_lay_repeat sc_lay_repeat (fun _ _ _ _ _ _ us hl => match us, hl with | [_, _, _], _ => rfl) (fun vs H Q E h => by obtain ⟨x0, x1, x2, rfl, _⟩ := h; rfl) (fun f cdv A outer s H vs Q E hr h => ?_)
  obtain ⟨v0, v1, v2, rfl, h⟩ := h
  refine ⟨_, (pss_cons (ps_asg (pv 1) (pg_tup (by rfl) (pgs_cons (pg_name (i := 3) sc_lay_repeat.nd rfl (Or.inl rfl)) (pgs_cons (pg_name (i := 4) sc_lay_repeat.nd rfl (Or.inl rfl)) (pgs_cons (pg_name (i := 5) sc_lay_repeat.nd rfl (Or.inl rfl)) (pgs_cons (pg_name (i := 6) sc_lay_repeat.nd rfl (Or.inl rfl)) pgs_nil))))))
    (pss_cons (ps_set (i := 7) sc_lay_repeat.nd rfl (Or.inl rfl) (pm0 (met_Draft_here T) hr (pv 0)))
    (pss_cons (ps_expr (pc (ih) hr (pa_cons (pv 0) (pa_cons (pv 5) (pa_cons (pv 2) (pa_cons pe_int pa_nil))))))
    (pss_one (ps_if (pt_cmpR op_eq (pe_callB call_len_seq (by rfl) T.b_len PySem.boot_len (pa_cons (pv 6) pa_nil)) pe_int (nomark _)) (pss_cons (ps_set (i := 8) sc_lay_repeat.nd rfl (Or.inl rfl) (pm0 (met_Draft_add_open T) hr (pv 0)))
      (pss_one (ps_expr (pm (met_Draft_put T) hr (pv 0) (pa_cons (pv 8) (pa_cons (pe_op op_cat (pe_op op_rep (pe_lst (pa_cons (pv 7) pa_nil)) (pe_op op_sub (pv 4) pe_int)) (pe_lst (pa_cons (pe_op op_add (pv 8) pe_int) pa_nil))) pa_nil)))))) (pss_one (ps_expr (pc (ie) hr (pa_cons (pv 0) (pa_cons (pv 1) (pa_cons (pv 7) (pa_cons (pv 2) pa_nil)))))))))))), ?_⟩
  obtain ⟨d, sv, ea, ta, das, S, many, ths, ends, W, Sg, Wt0, B, rfl, C, hu, wc, ok, hz, k⟩ := h
  obtain ⟨a, vt, ve, rfl, ha, hvt, hve⟩ := hu.rep_inv
  cases ok with
  | rep m1 m9 okt tl oke el ht =>
  rename_i W1 W2
  have hz' : S.ents.length + S.uses + (1 + W1 + W2) ≤ 2000 := hz.a
  have hm' : mz S + 1 + 100 * (1 + W1 + W2) ≤ 300000 := hz.b
  obtain ⟨dx, o⟩ := C.D.o
  obtain ⟨ae, ves, rfl, hae, rve⟩ := hve.tup_inv
  have hvel : ves.length = ends.length := by rw [rve.len, endsD_map, List.length_map]
  refine ⟨_, rfl, a, _, rfl, SqT.of ha, rfl, _, _, rfl, _, _, rfl, _, _, rfl, _, _, rfl, rfl, ?_⟩
  refine ⟨_, rfl, d, dx, _, rfl, o, rfl, ?_⟩
  refine ⟨_, rfl, d, sv, ea, ta, das, S, rfl, C.D, ?_⟩
  have wc1 : WC K H v2 W das B n 100 := ⟨wc.a, wc.f, wc.b0, by have := wc.b; omega, by have := wc.l; omega⟩
  refine ⟨_, rfl, _, rfl, _, rfl, ?_⟩
  refine ⟨_, _, _, _, rfl, d, sv, ea, ta, das, S, ths, W, 0, Sg, W1, B, rfl, C, hvt, wc1, rfl, okt, tl, ⟨by show S.ents.length + S.uses + W1 ≤ 2000; omega, by omega⟩, fun H1 das1 l1 => ?_⟩
  have C1 := C.laid l1
  have tk1 := C.D.tk l1.k
  have wc2 := wc1.laid C.D l1
  have z1 : sz (layN book n ths W 0 S) = sz S + W1 := wt_layF book (n + 1) Sg ths W1 n rfl okt W 0 S
  have z3 : mz (layN book n ths W 0 S) ≤ mz S + ths.length + 100 * W1 := mt_layF book (n + 1) Sg ths W1 n rfl okt W 0 S
  have z2 : (layN book n ths W 0 S).ents.length + (layN book n ths W 0 S).uses = S.ents.length + S.uses + W1 := z1
  obtain ⟨dx1, o1⟩ := C1.D.o
  refine ⟨_, rfl, ae, ves, rfl, .inr (SqT.of (tk1 _ _ hae)), ?_⟩
  refine ⟨rfl, _, rfl, ?_⟩
  by_cases e0 : ends.length = 0
  · refine itT (dT (by rw [hvel, e0]; rfl)) ?_
    refine ⟨_, rfl, d, dx1, _, rfl, o1, rfl, ?_⟩
    refine ⟨_, rfl, d, sv, ea, ta, das1, _, rfl, C1.D, (by omega), fun H2 k2 D2 => ?_⟩
    have l2 := l1.trans (Laid.kp k2 D2)
    obtain ⟨dx2, o2⟩ := l2.D.o
    refine ⟨_, rfl, d, dx2, _, rfl, o2, rfl, _, rfl, ?_⟩
    refine ⟨_, rfl, (by show 1 ≤ sizeLine; decide), fun p1 hp1 => ?_⟩
    refine ⟨_, rfl, _, _, rfl, rfl, ?_⟩
    have em : ((many : Int) - 1).toNat = many - 1 := by omega
    refine ⟨p1, _, _, rfl, rfl, upd_same, by omega, by omega, (by rw [em]; show 1 * (many - 1) ≤ sizeLine; rw [sizeLine_eq]; omega), fun p2 hp2 => ?_⟩
    rw [em, rep_flat]
    refine ⟨_, rfl, _, _, rfl, rfl, (by show 1 ≤ sizeLine; decide), fun p3 hp3 => ?_⟩
    have s3 := same_new (o := .lst [.int (((layN book n ths W 0 S).ents.length : Int) + 1)]) hp3
    refine ⟨p2, p3, _, _, rfl, rfl, s3.on upd_same, upd_same, ?_, fun p4 hp4 => ?_⟩
    · rw [List.length_map, List.length_replicate]
      show many - 1 + 1 ≤ sizeLine
      rw [sizeLine_eq]; omega
    have s4 := ((same_new (o := .lst [.int (S.ents.length : Int)]) hp1).trans (same_new (o := .lst ((List.replicate (many - 1) (S.ents.length : Int)).map V.int)) hp2)).trans (s3.trans (same_new (o := .lst ((List.replicate (many - 1) (S.ents.length : Int)).map V.int ++ [.int (((layN book n ths W 0 S).ents.length : Int) + 1)])) hp4))
    have l4 := l2.trans (Laid.same s4 l2.D)
    refine ⟨_, _, _, rfl, d, sv, ea, ta, das1, _, (layN book n ths W 0 S).ents.length, p4, List.replicate (many - 1) (S.ents.length : Int) ++ [((layN book n ths W 0 S).ents.length : Int) + 1], rfl, rfl, rfl, l4.D, ?_, ?_, fun H5 k5 D5 => ?_⟩
    · rw [len_add]; exact Nat.lt_succ_self _
    · rw [List.map_append]; exact upd_same
    refine k H5 das1 ?_
    have e : layThing book (layF book (n + 1)) (.rep many ths ends) W S = ((layN book n ths W 0 S).add (.turn [])).put (layN book n ths W 0 S).ents.length (List.replicate (many - 1) (S.ents.length : Int) ++ [((layN book n ths W 0 S).ents.length : Int) + 1]) := by
      show layRep _ _ _ _ _ _ = _
      rw [layRep]
      exact if_pos e0
    rw [e]
    exact l4.trans (Laid.kp k5 D5)
  · refine itF (dF (fun z => e0 (by rw [hvel] at z; have := V.int.inj z; omega))) ?_
    refine ⟨_, rfl, _, rfl, _, rfl, _, rfl, ?_⟩
    refine ⟨_, _, _, _, rfl, d, sv, ea, ta, das1, _, many, ths, ends, S.ents.length, W, Sg, W2, B, rfl, C1, hu.mono tk1, rfl, wc2, oke, el, tl, m9, ?_, ht, (by rw [z1]; show S.ents.length + S.uses + W1 + (1 + W2) ≤ 2000; omega), by omega, fun H5 das5 l5 => ?_⟩
    · intro z; rw [z] at e0; exact e0 rfl
    refine k H5 das5 ?_
    have e : layThing book (layF book (n + 1)) (.rep many ths ends) W S = layEndings (layN book n) W many ths ends S.ents.length (layN book n ths W 0 S) := by
      show layRep _ _ _ _ _ _ = _
      rw [layRep]
      exact if_neg e0
    rw [e]
    exact l1.trans l5
/- slots of lay_thing: 0 draft, 1 thing, 2 within -/
theorem sc_lay_thing : FnScope ["draft", "thing", "within"] ["draft", "thing", "within"] (defScope s_lay_thing) := ⟨rfl, rfl, rfl, by decide +kernel, rfl, by decide +kernel, by decide +kernel⟩
theorem lay_thing_of (T : Tx w K mg) {n : Nat} (iu : Cal P w K mg base CX0 (4 * n + 22) "lay_use" ["draft", "use", "within"] (spUse K book n))
    (ir : Cal P w K mg base CX0 (4 * n + 22) "lay_repeat" ["draft", "repeat", "within"] (spRep K book n)) :
    Cal P w K mg base CX0 (4 * n + 23) "lay_thing" ["draft", "thing", "within"] (spThing K book n) := by
  refine Cal.of T.f_lay_thing T.g_lay_thing sc_lay_thing (fun _ _ _ _ _ _ us hl => match us, hl with | [_, _, _], _ => rfl) (fun vs H Q E h => by obtain ⟨x0, x1, x2, rfl, _⟩ := h; rfl) (fun f cdv A outer s H vs Q E hr h => ?_)
  obtain ⟨v0, v1, v2, rfl, h⟩ := h
  refine ⟨_, (pss_one (ps_if (pt_cmpR op_eq (pe_ix ix_tup (pv 1) pe_int (fun _ _ => rfl)) pe_str (nomark _)) (pss_one (ps_expr (pm (met_Draft_add T) hr (pv 0) (pa_cons (pe_tup (pa_cons pe_str (pa_cons (pc (cal_bar_turned T) hr (pa_cons (pv 1) (pa_cons (pe_fld (pv 2) rfl) (pa_cons (pe_fld (pv 2) rfl) pa_nil)))) (pa_cons (pe_fld (pv 2) rfl) pa_nil)))) pa_nil)))) (pss_one (ps_if (pt_cmpR op_eq (pe_ix ix_tup (pv 1) pe_int (fun _ _ => rfl)) pe_str (nomark _)) (pss_one (ps_dput (hu_of hr) (pe_fld (pv 2) rfl) (pe_ix ix_tup (pv 1) pe_int (fun _ _ => rfl)) (pm0 (met_Draft_here T) hr (pv 0)) rfl)) (pss_one (ps_if (pt_cmpR op_eq (pe_ix ix_tup (pv 1) pe_int (fun _ _ => rfl)) pe_str (nomark _)) (pss_one (ps_expr (pe_bm PySem.F.plainAttrs_list PySem.F.slot_list_append PySem.F.type_list_append mt_append (pe_fld (pv 0) rfl) (pa_cons (pe_tup (pa_cons (pm0 (met_Draft_add_open T) hr (pv 0)) (pa_cons (pe_ix ix_tup (pv 1) pe_int (fun _ _ => rfl)) (pa_cons (pe_fld (pv 2) rfl) pa_nil)))) pa_nil)))) (pss_one (ps_if (pt_cmpR op_eq (pe_ix ix_tup (pv 1) pe_int (fun _ _ => rfl)) pe_str (nomark _)) (pss_one (ps_expr (pc (iu) hr (pa_cons (pv 0) (pa_cons (pv 1) (pa_cons (pv 2) pa_nil)))))) (pss_one (ps_expr (pc (ir) hr (pa_cons (pv 0) (pa_cons (pv 1) (pa_cons (pv 2) pa_nil)))))))))))))), ?_⟩
  obtain ⟨d, sv, ea, ta, das, S, t, W, Sg, Wt0, B, rfl, C, hu, wc, ok, hz, k⟩ := h
  obtain ⟨dx, o⟩ := C.D.o
  have hB := wc.b
  have hB0 := wc.b0
  cases t with
  | bar size vss =>
    cases ok with
    | bar fs vok fv =>
    have hz' : S.ents.length + S.uses + 1 ≤ 2000 := hz.a
    have hm' : S.turns.length + dl S.dicts + 1 + 100 * 1 ≤ 300000 := hz.b
    obtain ⟨wa, wdx, wvw, wda, wvb, rfl, hwa, hww, hws, hwb⟩ := wc.a
    have hu' : Rp H v1 (barD size vss) := by rw [Thing.d] at hu; exact hu
    obtain ⟨a, vl, vv, rfl, ha, _, _⟩ := hu'.bar_inv
    refine ⟨_, rfl, _, _, _, _, rfl, rfl, SqT.of (ha), atI_nat (j := 0) rfl, ⟨rfl, _, rfl, itT (dT rfl) ?_⟩⟩
    refine ⟨_, rfl, d, dx, _, rfl, o, rfl, _, rfl, ?_⟩
    refine ⟨_, rfl, wa, _, wdx, _, _, rfl, hwa, T.c_Within, T.n_Within_up, rfl, ?_⟩
    refine ⟨_, rfl, wa, _, wdx, _, _, rfl, hwa, T.c_Within, T.n_Within_by, rfl, ?_⟩
    refine ⟨_, _, _, rfl, 200, B, 200, size, vss, W.up, W.by_, hu', rfl, hwb, wc.f, fs, vok, by omega, hB0, by omega, by omega, by omega, fun H1 v1 s1 r1 => ?_⟩
    refine ⟨_, rfl, wa, _, wdx, _, _, rfl, s1.on hwa, T.c_Within, T.n_Within_way, rfl, ?_⟩
    refine ⟨(by show 3 ≤ sizeLine; decide), fun q hq => ?_⟩
    have s2 := s1.trans (same_new (o := .tup [.str "bar", v1, wvw]) hq)
    refine ⟨_, _, rfl, d, sv, ea, ta, das, S, .bar (ftimes size W.by_) (vss.map (turnedI W.up W.by_)) W.way, rfl, C.D.same s2, ?_, by omega, fun H3 k3 D3 => ?_⟩
    · rw [Entry.d]
      exact .tup upd_same (.cons (.str _) (.cons (r1.mono (tk_new hq)) (.cons (hww.mono s2.tk) .nil)))
    exact k H3 das ((Laid.same s2 C.D).trans (Laid.kp k3 D3))
  | sign x =>
    obtain ⟨wa, wdx, wvw, wda, wvb, rfl, hwa, hww, hws, hwb⟩ := wc.a
    obtain ⟨a, rfl, ha⟩ := hu.sign_inv
    refine ⟨_, rfl, _, _, _, _, rfl, rfl, SqT.of (ha), atI_nat (j := 0) rfl, ⟨rfl, _, rfl, itF (bF (by decide +kernel)) ?_⟩⟩
    refine ⟨_, rfl, _, _, _, _, rfl, rfl, SqT.of (ha), atI_nat (j := 0) rfl, ⟨rfl, _, rfl, itT (dT rfl) ?_⟩⟩
    refine ⟨_, rfl, d, dx, _, rfl, o, rfl, ?_⟩
    refine ⟨_, rfl, d, sv, ea, ta, das, S, rfl, C.D, ?_⟩
    refine ⟨_, rfl, wa, _, wdx, _, _, rfl, hwa, T.c_Within, T.n_Within_signs, rfl, ?_⟩
    obtain ⟨kvs, h1, l1⟩ := Laid.dput C.D hws x
    have hm' : S.turns.length + dl S.dicts + 1 + 100 * Wt0 ≤ 300000 := hz.b
    have hkl : kvs.length < sizeLine := by
      obtain ⟨kvs', h2, h3⟩ := C.D.k.get hws
      rw [h1] at h3
      cases h3
      have := dl_get h2
      rw [sizeLine_eq]
      omega
    exact ⟨_, rfl, _, _, _, _, rfl, rfl, SqT.of (ha), atI_nat (j := 1) rfl, wda, _, rfl, DPut.k (k := .inr x) h1 hkl, k _ das l1⟩
  | turn goals =>
    cases ok with
    | turn g0 g1 g2 =>
    have hz' : S.ents.length + S.uses + 1 ≤ 2000 := hz.a
    have hm' : S.turns.length + dl S.dicts + 1 + 100 * 1 ≤ 300000 := hz.b
    obtain ⟨wa, wdx, wvw, wda, wvb, rfl, hwa, hww, hws, hwb⟩ := wc.a
    obtain ⟨a, g, rfl, ha, hg⟩ := hu.turn_inv
    obtain ⟨tvs, t1, t2⟩ := C.D.t
    refine ⟨_, rfl, _, _, _, _, rfl, rfl, SqT.of (ha), atI_nat (j := 0) rfl, ⟨rfl, _, rfl, itF (bF (by decide +kernel)) ?_⟩⟩
    refine ⟨_, rfl, _, _, _, _, rfl, rfl, SqT.of (ha), atI_nat (j := 0) rfl, ⟨rfl, _, rfl, itF (bF (by decide +kernel)) ?_⟩⟩
    refine ⟨_, rfl, _, _, _, _, rfl, rfl, SqT.of (ha), atI_nat (j := 0) rfl, ⟨rfl, _, rfl, itT (dT rfl) ?_⟩⟩
    refine ⟨_, rfl, d, _, dx, _, _, rfl, o, T.c_Draft, T.n_Draft_turns, rfl, .inl ⟨rfl, _, SqL.of t1⟩, ?_⟩
    refine ⟨_, rfl, d, dx, _, rfl, o, rfl, ?_⟩
    refine ⟨_, rfl, d, sv, ea, ta, das, S, rfl, C.D, by omega, fun H1 k1 D1 => ?_⟩
    have l1 := Laid.kp k1 D1
    have tk1 := C.D.tk l1.k
    obtain ⟨wa', wdx', wvw', wda', wvb', e', hwa', hww', hws', hwb'⟩ := wc.a.laid C.D l1
    cases e'
    refine ⟨_, rfl, _, _, _, _, rfl, rfl, SqT.of (tk1 _ _ ha), atI_nat (j := 1) rfl, _, rfl, wa, _, wdx', _, _, rfl, hwa', T.c_Within, T.n_Within_signs, rfl, ?_⟩
    refine ⟨(by show 3 ≤ sizeLine; decide), fun q hq => ?_⟩
    have s2 := same_new (o := .tup [.int (S.ents.length : Nat), g, .ref wda']) hq
    have l2 := l1.trans (Laid.same s2 l1.D)
    obtain ⟨tvs2, t12, t22⟩ := l2.D.t
    have ht : tvs2.length < sizeLine := by
      have e : tvs2.length = S.turns.length := t22.len
      rw [e, sizeLine_eq]
      omega
    refine ⟨ta, tvs2, _, rfl, rfl, t12, ht, ?_⟩
    refine k _ das (l2.trans (Laid.kpM (kp_upd) (by simp) (l2.D.tns (t22.app (.cons ?_ .nil)))))
    exact ⟨q, g, wda', rfl, upd_same, (hg.mono tk1).mono s2.tk, hws'⟩
  | use x up by_ =>
    obtain ⟨a, vb, rfl, ha, hb⟩ := hu.use_inv
    refine ⟨_, rfl, _, _, _, _, rfl, rfl, SqT.of (ha), atI_nat (j := 0) rfl, ⟨rfl, _, rfl, itF (bF (by decide +kernel)) ?_⟩⟩
    refine ⟨_, rfl, _, _, _, _, rfl, rfl, SqT.of (ha), atI_nat (j := 0) rfl, ⟨rfl, _, rfl, itF (bF (by decide +kernel)) ?_⟩⟩
    refine ⟨_, rfl, _, _, _, _, rfl, rfl, SqT.of (ha), atI_nat (j := 0) rfl, ⟨rfl, _, rfl, itF (bF (by decide +kernel)) ?_⟩⟩
    refine ⟨_, rfl, _, _, _, _, rfl, rfl, SqT.of (ha), atI_nat (j := 0) rfl, ⟨rfl, _, rfl, itT (dT rfl) ?_⟩⟩
    exact ⟨_, rfl, _, rfl, _, rfl, _, _, _, rfl, d, sv, ea, ta, das, S, x, up, by_, W, Sg, Wt0, B, rfl, C, hu, wc, ok, hz, k⟩
  | rep many ths ends =>
    obtain ⟨a, vt, ve, rfl, ha, hb⟩ := hu.rep_inv
    refine ⟨_, rfl, _, _, _, _, rfl, rfl, SqT.of (ha), atI_nat (j := 0) rfl, ⟨rfl, _, rfl, itF (bF (by decide +kernel)) ?_⟩⟩
    refine ⟨_, rfl, _, _, _, _, rfl, rfl, SqT.of (ha), atI_nat (j := 0) rfl, ⟨rfl, _, rfl, itF (bF (by decide +kernel)) ?_⟩⟩
    refine ⟨_, rfl, _, _, _, _, rfl, rfl, SqT.of (ha), atI_nat (j := 0) rfl, ⟨rfl, _, rfl, itF (bF (by decide +kernel)) ?_⟩⟩
    refine ⟨_, rfl, _, _, _, _, rfl, rfl, SqT.of (ha), atI_nat (j := 0) rfl, ⟨rfl, _, rfl, itF (bF (by decide +kernel)) ?_⟩⟩
    exact ⟨_, rfl, _, rfl, _, rfl, _, _, _, rfl, d, sv, ea, ta, das, S, many, ths, ends, W, Sg, Wt0, B, rfl, C, hu, wc, ok, hz, k⟩
end
end MC
set_option Elab.async false
set_option linter.all false
set_option maxRecDepth 100000
set_option maxHeartbeats 4000000
namespace MC
open PySem PySem.Spec PyProof.Rows L2
theorem rpa_ends_get {H : Hp} {vs : List V} {ends : List (List Nat × List Thing)} {i : Nat} {x : V} (r : RpA H vs (endsD ends)) (h : vs[i]? = some x) : ∃ e a vn vt, ends[i]? = some e ∧ x = .ref a ∧ H a = some (.tup [vn, vt]) ∧ Rp H vn (natsD e.1) ∧ Rp H vt (.tuple (thingsD e.2)) := by
  obtain ⟨d, h1, h2⟩ := r.get h
  rw [endsD_map, List.getElem?_map] at h1
  cases e : ends[i]? with
  | none => rw [e] at h1; cases h1
  | some y =>
    rw [e] at h1
    cases h1
    obtain ⟨a, us, rfl, h3, r⟩ := h2.tup_inv
    obtain ⟨v1, r1, rfl, e1, r⟩ := r.cons_inv
    obtain ⟨v2, r2, rfl, e2, r⟩ := r.cons_inv
    cases r.nil_inv
    exact ⟨y, a, v1, v2, rfl, rfl, h3, e1, e2⟩
theorem drop_of_get {α : Type} {l : List α} {i : Nat} {x : α} (h : l[i]? = some x) : l.drop i = x :: l.drop (i + 1) := by
  obtain ⟨h3, h4⟩ := List.getElem?_eq_some_iff.mp h
  rw [List.drop_eq_getElem_cons h3, h4]
theorem tk_dict {H : Hp} {l : Addr} {xs : List (Key × V)} {o : HO} (h : H l = some (.dK xs)) : Tk H (upd H l o) := fun b us q => by
  rw [upd_ne (fun e => by rw [e] at q; rw [h] at q; cases q)]
  exact q
theorem ends_mem {book : Str → Option (List Thing)} {Sg : List Str} {n : Nat} : ∀ {ends : List (List Nat × List Thing)} {W : Nat}, EndsOk book Sg n ends W → ∀ e ∈ ends, e.1.length ≤ 100
  | _, _, .nil, e, h => by cases h
  | _, _, .cons (ns := ns) (ths := ths) _ h1 _ _ r, e, h => by
    rcases List.mem_cons.mp h with rfl | h
    · exact h1
    · exact ends_mem r e h
section
variable {P : Program} {w : World} {K : PySem.W.Frag} {mg : Str → Option Value} {base : Heap} {book : Str → Option (List Thing)}
/- slots of lay_endings: 0 draft, 1 repeat, 2 begin*, 3 within, 4 word, 5 many*, 6 things, 7 endings, 8 choice, 9 number, 10 begins*, 11 turns, 12 numbers, 13 inner, 14 k, 15 behind*, 16 place -/
theorem sc_lay_endings : FnScope ["draft", "repeat", "begin", "within", "word", "many", "things", "endings", "choice", "number", "begins", "turns", "numbers", "inner", "k", "behind", "place"] ["draft", "repeat", "begin", "within"] (defScope s_lay_endings) := ⟨rfl, rfl, rfl, by decide +kernel, rfl, by decide +kernel, by decide +kernel⟩
theorem lay_endings_of (T : Tx w K mg) {n : Nat} (ih : Cal P w K mg base CX0 (4 * n + 24) "lay_things" ["draft", "things", "within", "first"] (spLay K book n)) :
    Cal P w K mg base CX0 (4 * n + 25) "lay_endings" ["draft", "repeat", "begin", "within"] (spEnds K book n) := by
  refine Cal.of T.f_lay_endings T.g_lay_endings sc_lay_endings (fun _ _ _ _ _ _ us hl => match us, hl with | [_, _, _, _], _ => rfl) (fun vs H Q E h => by obtain ⟨x0, x1, x2, x3, rfl, _⟩ := h; rfl) (fun f cdv A outer s H vs Q E hr h => ?_)
  obtain ⟨v0, v1, v2, v3, rfl, h⟩ := h
  refine ⟨_, (pss_cons (ps_asg (pv 1) (pg_tup (by rfl) (pgs_cons (pg_name (i := 4) sc_lay_endings.nd rfl (Or.inl rfl)) (pgs_cons (pg_name (i := 5) sc_lay_endings.nd rfl (Or.inr rfl)) (pgs_cons (pg_name (i := 6) sc_lay_endings.nd rfl (Or.inl rfl)) (pgs_cons (pg_name (i := 7) sc_lay_endings.nd rfl (Or.inl rfl)) pgs_nil))))))
    (pss_cons (ps_set (i := 8) sc_lay_endings.nd rfl (Or.inl rfl) (pm0 (met_Draft_add_open T) hr (pv 0)))
    (pss_cons (ps_set (i := 9) sc_lay_endings.nd rfl (Or.inl rfl) (pe_callB call_len_seq (by rfl) T.b_len PySem.boot_len (pa_cons (pv 6) pa_nil)))
    (pss_cons (ps_set (i := 10) sc_lay_endings.nd rfl (Or.inr rfl) pe_dnewK)
    (pss_cons (ps_set (i := 11) sc_lay_endings.nd rfl (Or.inl rfl) (pe_lst pa_nil))
    (pss_cons (ps_for PassesOwn.never rfl (pi_tup (pv 7)) (pg_tup (by rfl) (pgs_cons (pg_name (i := 12) sc_lay_endings.nd rfl (Or.inl rfl)) (pgs_cons (pg_name (i := 13) sc_lay_endings.nd rfl (Or.inl rfl)) pgs_nil))) (pss_cons (ps_for PassesOwn.never rfl (pi_tup (pv 12)) (pg_name (i := 14) sc_lay_endings.nd rfl (Or.inl rfl)) (pss_one (ps_dput (hu_of hr) (pv 10) (pv 14) (pm0 (met_Draft_here T) hr (pv 0)) rfl)))
      (pss_cons (ps_expr (pc (ih) hr (pa_cons (pv 0) (pa_cons (pv 13) (pa_cons (pv 3) (pa_cons (pv 9) pa_nil))))))
      (pss_cons (ps_aug (i := 9) sc_lay_endings.nd rfl (Or.inl rfl) (pe_callB call_len_seq (by rfl) T.b_len PySem.boot_len (pa_cons (pv 13) pa_nil)) ip_add)
      (pss_one (ps_expr (pe_bm PySem.F.plainAttrs_list PySem.F.slot_list_append PySem.F.type_list_append mt_append (pv 11) (pa_cons (pe_tup (pa_cons (pm0 (met_Draft_add_open T) hr (pv 0)) (pa_cons (pv 12) pa_nil))) pa_nil))))))))
    (pss_cons (ps_set (i := 15) sc_lay_endings.nd rfl (Or.inr rfl) (pm0 (met_Draft_here T) hr (pv 0)))
    (pss_cons (ps_expr (pm (met_Draft_put T) hr (pv 0) (pa_cons (pv 8) (pa_cons (pe_lc (own := [("k", 14)]) (by rfl) sc_lay_endings.nd (pi_range1 (by rfl) T.b_range (pa_cons (pv 5) pa_nil)) (blkOk_by (own := [("k", 14)]) (N := ["draft", "repeat", "begin", "within", "word", "many", "things", "endings", "choice", "number", "begins", "turns", "numbers", "inner", "k", "behind", "place"]) (sc := defScope s_lay_endings) (by decide +kernel)) (fun _ _ _ _ _ => (pg_name (i := 14) sc_lay_endings.nd rfl (Or.inl rfl))) (fun _ _ _ _ _ => pts_nil) (fun _ _ _ _ _ => (pe_dget (hu_of hr) (pv 10) (pe_op op_add (pv 14) pe_int) (fun _ _ => rfl)))) pa_nil))))
    (pss_one (ps_for PassesOwn.never rfl (pi_list (pv 11)) (pg_tup (by rfl) (pgs_cons (pg_name (i := 16) sc_lay_endings.nd rfl (Or.inl rfl)) (pgs_cons (pg_name (i := 12) sc_lay_endings.nd rfl (Or.inl rfl)) pgs_nil))) (pss_one (ps_expr (pm (met_Draft_put T) hr (pv 0) (pa_cons (pv 16) (pa_cons (pe_lc (own := [("k", 14)]) (by rfl) sc_lay_endings.nd (pi_tup (pv 12)) (blkOk_by (own := [("k", 14)]) (N := ["draft", "repeat", "begin", "within", "word", "many", "things", "endings", "choice", "number", "begins", "turns", "numbers", "inner", "k", "behind", "place"]) (sc := defScope s_lay_endings) (by decide +kernel)) (fun _ _ _ _ _ => (pg_name (i := 14) sc_lay_endings.nd rfl (Or.inl rfl))) (fun _ _ _ _ _ => pts_nil) (fun _ _ _ _ _ => (pe_ifExp (pt_cmpR op_eq (pv 14) (pv 5) (nomark _)) (pv 15) (pv 2)))) pa_nil))))))))))))))), ?_⟩
  obtain ⟨d, sv, ea, ta, das, S, many, ths, ends, begin, W, Sg, W2, B, rfl, C, hu, rfl, wc, ok, el, tl, m9, e0, ht, hz, hm, k⟩ := h
  have gr : Gr (layN book n) := gr_layF book (n + 1)
  obtain ⟨a, vt, ve, rfl, ha, hvt, hve⟩ := hu.rep_inv
  obtain ⟨dx, o⟩ := C.D.o
  obtain ⟨ae, ves, rfl, hae, rve⟩ := hve.tup_inv
  obtain ⟨at_, vts, rfl, hat, rvt⟩ := hvt.tup_inv
  have hvel : ves.length = ends.length := by rw [rve.len, endsD_map, List.length_map]
  have hvtl : vts.length = ths.length := by rw [rvt.len, thingsD_map, List.length_map]
  have hz' : S.ents.length + S.uses + (1 + W2) ≤ 2000 := hz
  refine ⟨_, rfl, a, _, rfl, SqT.of ha, rfl, _, _, rfl, _, _, rfl, _, _, rfl, _, _, rfl, rfl, ?_⟩
  refine ⟨_, rfl, d, dx, _, rfl, o, rfl, ?_⟩
  refine ⟨_, rfl, d, sv, ea, ta, das, S, rfl, C.D, by omega, fun H1 k1 D1 => ?_⟩
  have l1 := Laid.kp k1 D1
  have tk1 := C.D.tk l1.k
  refine ⟨_, rfl, at_, vts, rfl, .inr (SqT.of (tk1 _ _ hat)), ?_⟩
  rw [hvtl]
  intro bd hbd
  refine ⟨Nat.zero_le _, fun tl0 htl => ?_⟩
  have s2 := (same_new (o := .dK []) hbd).trans (same_new (o := .lst []) htl)
  have l2 := l1.trans (Laid.same s2 l1.D)
  have hbd0 : H bd = none := by
    cases e : H bd with
    | none => rfl
    | some o' =>
      by_cases m : bd ∈ d :: ea :: ta :: das
      · obtain ⟨o2, h2⟩ := l1.D.own m; rw [hbd] at h2; cases h2
      · rw [l1.k bd o' e m] at hbd; cases hbd
  have hbdm : bd ∉ d :: ea :: ta :: das := fun m => by obtain ⟨o2, h2⟩ := C.D.own m; rw [hbd0] at h2; cases h2
  have htl0 : H tl0 = none := by
    have h3 : H1 tl0 = none := none_of_same (same_new hbd) htl
    cases e : H tl0 with
    | none => rfl
    | some o' =>
      by_cases m : tl0 ∈ d :: ea :: ta :: das
      · obtain ⟨o2, h2⟩ := l1.D.own m; rw [h3] at h2; cases h2
      · rw [l1.k tl0 o' e m] at h3; cases h3
  have htlm : tl0 ∉ d :: ea :: ta :: das := fun m => by obtain ⟨o2, h2⟩ := C.D.own m; rw [htl0] at h2; cases h2
  have hbt : bd ≠ tl0 := fun e => by rw [← e, upd_same] at htl; cases htl
  have hb2 : (upd (upd H1 bd (.dK [])) tl0 (.lst [])) bd = some (.dK []) := by rw [upd_ne hbt, upd_same]
  refine ⟨_, rfl, ae, rfl, ⟨ves, SqT.of (s2.tk _ _ (tk1 _ _ hae))⟩, ?_⟩
  refine for_it (walk_tup (xs := ves)) (fun i σ H' => ∃ c12 c13 c14 c15 c16 das' W' tvs, ∃ x : ES, σ = [some (.ref d), some (.ref a), some (.int (begin : Nat)), some v3, some (.str "repeat"), some (.int (many : Nat)), some (.ref at_), some (.ref ae), some (.int (S.ents.length : Nat)), some (.int (x.number : Nat)), some (.ref bd), some (.ref tl0), c12, c13, c14, c15, c16] ∧
      Laid K H H' d sv ea ta das das' x.s ∧ H' bd = some (.dK x.begins) ∧ bd ∉ das' ∧ H' tl0 = some (.lst tvs) ∧ All2 (OpenV H') tvs x.opens ∧
      layEnds (layN book n) W (ends.drop i) x = layEnds (layN book n) W ends ⟨S.add (.turn []), ths.length, [], []⟩ ∧ EndsOk book Sg n (ends.drop i) W' ∧ sz x.s + W' ≤ 2000 ∧ mz x.s + 100 * W' ≤ 300000 ∧
      x.begins.length ≤ i * 100 ∧ x.opens.length ≤ i ∧ (∀ o ∈ x.opens, o.1 < x.s.ents.length ∧ o.2.length ≤ 100) ∧ S.ents.length < x.s.ents.length)
    ⟨_, _, _, _, _, das, W2, [], ⟨S.add (.turn []), ths.length, [], []⟩, rfl, l2, hb2, fun m => hbdm (by simp [m]), upd_same, .nil, rfl, ok, ?_, ?_, Nat.zero_le _, Nat.zero_le _, (fun o h => absurd h (List.not_mem_nil)), ?_⟩ ?_ ?_ ?_
  · rw [sz_add]
    show S.ents.length + S.uses + 1 + W2 ≤ 2000
    omega
  · exact hm
  · rw [len_add]; exact Nat.lt_succ_self _
  · rintro i σ H' _ ⟨c12, c13, c14, c15, c16, das', W', tvs, x, rfl, l, _⟩
    exact SqT.of (C.D.tk l.k _ _ hae)
  · rintro i v σ H3 H4 hi ⟨c12, c13, c14, c15, c16, das', W', tvs, x, rfl, l, hb, hbn, htv, rtv, efin, okd, hz3, hm3, hbl, hol, hop, hsl⟩ ⟨rfl, hv⟩
    have tk3 := C.D.tk l.k
    obtain ⟨en, b, vn, vth, hen, rfl, hbb, hn, hth⟩ := rpa_ends_get rve hv
    obtain ⟨an, rfl, han⟩ := hn.nats
    have ed := drop_of_get hen
    rw [ed] at efin okd
    obtain ⟨ns, eths⟩ := en
    cases okd with
    | cons ns0 nsl okt etl okr =>
    rename_i Wa Wb
    have hbdo : bd ∉ d :: ea :: ta :: das' := fun m => by
      rcases List.mem_cons.mp m with e | m
      · exact hbdm (by rw [e]; simp)
      rcases List.mem_cons.mp m with e | m
      · exact hbdm (by rw [e]; simp)
      rcases List.mem_cons.mp m with e | m
      · exact hbdm (by rw [e]; simp)
      · exact hbn m
    refine ⟨b, _, rfl, SqT.of (tk3 _ _ hbb), rfl, _, _, rfl, _, _, rfl, rfl, ?_⟩
    refine ⟨_, rfl, an, rfl, ⟨_, SqT.of (tk3 _ _ han)⟩, ?_⟩
    refine for_it (walk_tup (xs := ns.map fun n => V.int (n : Nat))) (fun j σ H' => ∃ c14 bb, σ = [some (.ref d), some (.ref a), some (.int (begin : Nat)), some v3, some (.str "repeat"), some (.int (many : Nat)), some (.ref at_), some (.ref ae), some (.int (S.ents.length : Nat)), some (.int (x.number : Nat)), some (.ref bd), some (.ref tl0), some (.ref an), some vth, c14, c15, c16] ∧
        Kp [bd] H4 H' ∧ H' bd = some (.dK bb) ∧ begun x.s.ents.length (ns.drop j) bb = begun x.s.ents.length ns x.begins ∧ bb.length ≤ i * 100 + j ∧ Tk H4 H')
      ⟨_, x.begins, rfl, Kp.refl _ _, hb, rfl, hbl, Tk.refl _⟩ ?_ ?_ ?_
    · rintro j σ H' _ ⟨c14, bb, rfl, _, _, _, _, tk⟩
      exact SqT.of (tk _ _ (tk3 _ _ han))
    · rintro j v σ H5 H6 hj ⟨c14, bb, rfl, k5, hb5, eb, hbbl, tk5⟩ ⟨rfl, hv2⟩
      rw [List.getElem?_map] at hv2
      cases enj : ns[j]? with
      | none => rw [enj] at hv2; cases hv2
      | some kn =>
        rw [enj] at hv2
        cases hv2
        have edn := drop_of_get enj
        rw [edn] at eb
        have D5 : DAt K H6 d sv ea ta das' x.s := l.D.kp1 k5 hbdo tk5
        obtain ⟨dx5, o5⟩ := D5.o
        refine ⟨_, rfl, d, dx5, _, rfl, o5, rfl, ?_⟩
        refine ⟨_, rfl, d, sv, ea, ta, das', x.s, rfl, D5, ?_⟩
        have hjl : j < ns.length := (List.getElem?_eq_some_iff.mp enj).1
        have hil : i < ends.length := by rw [hvel] at hi; exact hi
        refine ⟨_, rfl, _, rfl, bd, _, rfl, DPut.k (k := .inl (kn : Nat)) hb5 (by rw [sizeLine_eq]; omega), ?_⟩
        refine ⟨_, putK bb (.inl (kn : Nat)) (.int (x.s.ents.length : Nat)), rfl, k5.trans kp_upd, upd_same, eb, ?_, tk5.trans (tk_dict hb5)⟩
        have := putK_len bb (.inl (kn : Nat)) (.int (x.s.ents.length : Nat))
        omega
    · rintro σ H5 ⟨c14', bb, rfl, k5, hb5, eb, hbbl, tk5⟩
      rw [List.length_map] at eb hbbl
      rw [List.drop_length] at eb
      have eb : bb = begun x.s.ents.length ns x.begins := eb
      have D5 : DAt K H5 d sv ea ta das' x.s := l.D.kp1 k5 hbdo tk5
      have l5 : Laid K H H5 d sv ea ta das das' x.s := ⟨fun c o h m => k5 c o (l.k c o h m) fun z => (by
        rw [List.mem_singleton.mp z, hbd0] at h; cases h), D5, l.p⟩
      have C5 := C.laid l5
      have wc5 := wc.laid C.D l5
      refine ⟨_, rfl, _, rfl, _, rfl, _, rfl, ?_⟩
      refine ⟨_, _, _, _, rfl, d, sv, ea, ta, das', x.s, eths, W, x.number, Sg, Wa, B, rfl, C5, hth.mono (C.D.tk l5.k), wc5, rfl, okt, etl, ⟨by omega, by omega⟩, fun H6 das6 l6 => ?_⟩
      have zz : sz (layN book n eths W x.number x.s) = sz x.s + Wa := wt_layF book (n + 1) Sg eths Wa n rfl okt W x.number x.s
      have mm : mz (layN book n eths W x.number x.s) ≤ mz x.s + eths.length + 100 * Wa := mt_layF book (n + 1) Sg eths Wa n rfl okt W x.number x.s
      have gg : x.s.ents.length ≤ (layN book n eths W x.number x.s).ents.length := gr _ _ _ _
      have zz' : (layN book n eths W x.number x.s).ents.length + (layN book n eths W x.number x.s).uses = x.s.ents.length + x.s.uses + Wa := zz
      have hz4 : x.s.ents.length + x.s.uses + (1 + Wa + Wb) ≤ 2000 := hz3
      have l56 := l5.trans l6
      have tk56 := D5.tk l6.k
      have tk06 := C.D.tk l56.k
      obtain ⟨athi, vthi, rfl, hathi, rthi⟩ := hth.tup_inv
      have hthl : vthi.length = eths.length := by rw [rthi.len, thingsD_map, List.length_map]
      refine ⟨_, rfl, _, rfl, athi, vthi, rfl, .inr (SqT.of (tk06 _ _ hathi)), ?_⟩
      rw [hthl]
      refine ⟨_, _, rfl, rfl, ?_⟩
      have hb6 : H6 bd = some (.dK bb) := l6.k bd _ hb5 hbdo
      have htl5 : H5 tl0 = some (.lst tvs) := k5 tl0 _ htv (fun z => hbt (List.mem_singleton.mp z).symm)
      have htldas : tl0 ∉ d :: ea :: ta :: das' := fun m => by
        rcases List.mem_cons.mp m with e | m
        · exact htlm (by rw [e]; simp)
        rcases List.mem_cons.mp m with e | m
        · exact htlm (by rw [e]; simp)
        rcases List.mem_cons.mp m with e | m
        · exact htlm (by rw [e]; simp)
        · obtain ⟨kvs, h⟩ := D5.das_kind m; rw [htl5] at h; cases h
      have htl6 : H6 tl0 = some (.lst tvs) := l6.k tl0 _ htl5 htldas
      have hbn6 : bd ∉ das6 := fun m => by
        obtain ⟨r, er, hr⟩ := l6.p
        rw [er] at m
        rcases List.mem_append.mp m with m | m
        · exact hbn m
        · rw [hr bd m] at hb5; cases hb5
      refine ⟨_, rfl, .inl ⟨rfl, _, SqL.of htl6⟩, ?_⟩
      obtain ⟨dx6, o6⟩ := l56.D.o
      refine ⟨_, rfl, d, dx6, _, rfl, o6, rfl, ?_⟩
      refine ⟨_, rfl, d, sv, ea, ta, das6, _, rfl, l56.D, by omega, fun H7 k7 D7 => ?_⟩
      have l67 := Laid.kp k7 D7
      have l7 := l56.trans l67
      have tk7 := l56.D.tk l67.k
      refine ⟨_, rfl, (by show 2 ≤ sizeLine; decide), fun q hq => ?_⟩
      have s8 := same_new (o := .tup [.int ((layN book n eths W x.number x.s).ents.length : Nat), .ref an]) hq
      have hea6 : ∀ {c o}, H6 c = some o → c ≠ ea → upd H7 q (.tup [.int ((layN book n eths W x.number x.s).ents.length : Nat), .ref an]) c = some o := fun {c o} h hc => s8.on (k7 c o h fun z => hc (List.mem_singleton.mp z))
      have htl8 := hea6 htl6 (fun e => htlm (by rw [e]; simp))
      have hb8 := hea6 hb6 (fun e => hbdm (by rw [e]; simp))
      have htvl : tvs.length = x.opens.length := rtv.len
      have hil : i < ends.length := by rw [hvel] at hi; exact hi
      refine ⟨tl0, tvs, _, rfl, rfl, htl8, (by rw [htvl, sizeLine_eq]; omega), ?_⟩
      have tk8 := tk_lst (o := .lst (tvs ++ [.ref q])) htl8
      have l8 := l7.trans (Laid.same s8 l7.D)
      have htl9 : tl0 ∉ d :: ea :: ta :: das6 := fun m => by
        rcases List.mem_cons.mp m with e | m
        · exact htlm (by rw [e]; simp)
        rcases List.mem_cons.mp m with e | m
        · exact htlm (by rw [e]; simp)
        rcases List.mem_cons.mp m with e | m
        · exact htlm (by rw [e]; simp)
        · obtain ⟨kvs, h⟩ := l56.D.das_kind m; rw [htl6] at h; cases h
      have D9 := l8.D.kp1 (kp_upd (o := .lst (tvs ++ [.ref q]))) htl9 tk8
      have l9 : Laid K H (upd (upd H7 q (.tup [.int ((layN book n eths W x.number x.s).ents.length : Nat), .ref an])) tl0 (.lst (tvs ++ [.ref q]))) d sv ea ta das das6 ((layN book n eths W x.number x.s).add (.turn [])) := ⟨fun c o h m => by
        rw [upd_ne (ne_of_none h htl0)]
        exact l8.k c o h m, D9, l8.p⟩
      have tk09 := C.D.tk l9.k
      refine ⟨_, _, _, _, _, das6, Wb, tvs ++ [.ref q], layEnd (layN book n) W (ns, eths) x, rfl, l9, ?_, hbn6, upd_same, ?_, efin, okr, ?_, ?_, ?_, ?_, ?_, ?_⟩
      · rw [upd_ne hbt, hb8, eb]
        rfl
      · refine All2.app ?_ (.cons ?_ .nil)
        · exact rtv.mono fun _ _ h => h.mono (((tk5.trans tk56).trans tk7).trans (s8.tk.trans tk8))
        · exact ⟨q, an, rfl, tk8 _ _ upd_same, tk09 _ _ han⟩
      · show sz ((layN book n eths W x.number x.s).add _) + Wb ≤ 2000
        rw [sz_add, zz]
        omega
      · show mz (layN book n eths W x.number x.s) + 100 * Wb ≤ 300000
        omega
      · show (begun x.s.ents.length ns x.begins).length ≤ (i + 1) * 100
        rw [← eb]
        omega
      · show (x.opens ++ [_]).length ≤ i + 1
        rw [List.length_append]
        show x.opens.length + 1 ≤ i + 1
        omega
      · intro o ho
        show o.1 < ((layN book n eths W x.number x.s).add _).ents.length ∧ _
        rw [len_add]
        rcases List.mem_append.mp ho with ho | ho
        · have := hop o ho
          exact ⟨by omega, this.2⟩
        · rw [List.mem_singleton.mp ho]
          exact ⟨Nat.lt_succ_self _, nsl⟩
      · show S.ents.length < ((layN book n eths W x.number x.s).add _).ents.length
        rw [len_add]
        omega
  · rintro σ H3 ⟨c12, c13, c14, c15, c16, das', W', tvs, x, rfl, l, hb, hbn, htv, rtv, efin, okd, hz3, hm3, hbl, hol, hop, hsl⟩
    rw [hvel, List.drop_length] at efin
    have efin : x = layEnds (layN book n) W ends ⟨S.add (.turn []), ths.length, [], []⟩ := efin
    have C3 := C.laid l
    obtain ⟨dx3, o3⟩ := C3.D.o
    refine ⟨_, rfl, d, dx3, _, rfl, o3, rfl, ?_⟩
    refine ⟨_, rfl, d, sv, ea, ta, das', x.s, rfl, C3.D, ?_⟩
    refine ⟨_, rfl, d, dx3, _, rfl, o3, rfl, _, rfl, ?_⟩
    refine ⟨_, rfl, (many : Nat), rfl, by omega, by omega, fun p hp => ?_⟩
    have emt : ((many : Nat) : Int).toNat = many := by omega
    refine lc_rp (walk_range (lo := 0) (n := ((many : Nat) : Int).toNat)) hp (((List.range many).map fun k => intOf (valV x.begins (.inl ((k : Nat) + 1 : Int)))).map PyData.int) (by rw [List.length_map, List.length_map, List.length_range, emt]) (by rw [emt, sizeLine_eq]; omega) (fun H s => trivial) ?_ ?_
    · rintro i v H4 H5 dd hi s e ⟨rfl, rfl⟩ Cc N kk
      have hi' : i < many := by omega
      have he : (∃ e ∈ ends, i + 1 ∈ e.1) := ht e0 (i + 1) (by omega) (by omega)
      obtain ⟨z, hzt, hzv⟩ := layEnds_has gr W ends ⟨S.add (.turn []), ths.length, [], []⟩ he
      rw [← efin] at hzv
      have hk : ((i + 1 : Nat) : Int) = (i : Int) + 1 := by omega
      rw [hk] at hzv
      rw [List.getElem?_map, List.getElem?_map, List.getElem?_range hi'] at e
      have e : PyData.int (intOf (valV x.begins (.inl ((i : Int) + 1)))) = dd := Option.some.inj e
      rw [hzv] at e
      refine ⟨rfl, yesT ?_⟩
      have hb5 := s.on hb
      have hg := DGet.k (k := .inl ((i : Int) + 1)) hb5
      rw [hzv] at hg
      refine ⟨_, rfl, _, rfl, _, _, rfl, rfl, bd, .int (z : Nat), rfl, ?_, ?_⟩
      · show DGet _ bd (V.int (0 + (i : Int) + 1)) (some (V.int (z : Nat)))
        rw [Int.zero_add]
        exact hg
      · refine kk _ _ (same_refl _) ?_
        rw [← e]
        exact .int _
    · intro H4 us s4 hus rus
      have eu := rpa_ints_inv _ rus
      rw [eu] at hus
      have l4 := l.trans (Laid.same s4 l.D)
      refine ⟨_, _, _, rfl, d, sv, ea, ta, das', x.s, S.ents.length, p, _, rfl, rfl, rfl, l4.D, hsl, hus, fun H5 k5 D5 => ?_⟩
      have l5 := l4.trans (Laid.kp k5 D5)
      have tk5 := l4.D.tk (Laid.kp k5 D5).k
      have htl5 : H5 tl0 = some (.lst tvs) := k5 _ _ (s4.on htv) fun z => htlm (by rw [List.mem_singleton.mp z]; simp)
      have rtv5 : All2 (OpenV H5) tvs x.opens := rtv.mono fun _ _ h => (h.mono s4.tk).mono tk5
      refine ⟨_, rfl, tl0, rfl, ⟨tvs, SqL.of htl5⟩, ?_⟩
      refine for_it (walk_list (xs := tvs)) (fun i σ H' => ∃ c12 c14 c16 S', σ = [some (.ref d), some (.ref a), some (.int (begin : Nat)), some v3, some (.str "repeat"), some (.int (many : Nat)), some (.ref at_), some (.ref ae), some (.int (S.ents.length : Nat)), some (.int (x.number : Nat)), some (.ref bd), some (.ref tl0), c12, c13, c14, some (.int (x.s.ents.length : Nat)), c16] ∧
          Laid K H5 H' d sv ea ta das' das' S' ∧ Kp [ea] H5 H' ∧ S'.ents.length = x.s.ents.length ∧
          putOpens many begin x.s.ents.length (x.opens.drop i) S' = putOpens many begin x.s.ents.length x.opens (x.s.put S.ents.length ((List.range many).map fun k => intOf (valV x.begins (.inl ((k : Nat) + 1 : Int))))))
        ⟨_, _, _, _, rfl, Laid.refl l5.D, Kp.refl _ _, len_put _ _ _, rfl⟩ ?_ ?_ ?_
      · rintro i σ H' _ ⟨c12, c14, c16, S', rfl, l', k', _⟩
        exact SqL.of (k' _ _ htl5 fun z => htlm (by rw [List.mem_singleton.mp z]; simp))
      · rintro i v σ H6 H7 hi ⟨c12, c14, c16, S', rfl, l6, k6, len6, e6⟩ ⟨rfl, hv⟩
        obtain ⟨op, hop1, q, g, rfl, hq, hg⟩ := rtv5.get hv
        obtain ⟨pl, ns⟩ := op
        have ed := drop_of_get hop1
        rw [ed] at e6
        have tk6 := l5.D.tk l6.k
        have hopb := hop _ (List.mem_of_getElem? hop1)
        have hop2 : ns.length ≤ 100 := hopb.2
        refine ⟨q, _, rfl, SqT.of (tk6 _ _ hq), rfl, _, _, rfl, _, _, rfl, rfl, ?_⟩
        obtain ⟨dx6, o6⟩ := l6.D.o
        refine ⟨_, rfl, d, dx6, _, rfl, o6, rfl, _, rfl, ?_⟩
        refine ⟨_, rfl, g, rfl, ⟨_, SqT.of (tk6 _ _ hg)⟩, fun p2 hp2 => ?_⟩
        refine lc_rp (walk_tup (xs := ns.map fun n => V.int (n : Nat))) hp2 ((ns.map fun k => if k = many then (x.s.ents.length : Int) else (begin : Int)).map PyData.int) (by simp) (by rw [List.length_map, sizeLine_eq]; omega) (fun H s => SqT.of (s.on (tk6 _ _ hg))) ?_ ?_
        · rintro j v H8 H9 dd hj s e ⟨rfl, hv2⟩ Cc N kk
          rw [List.getElem?_map] at hv2 e
          rw [List.getElem?_map] at e
          cases enj : ns[j]? with
          | none => rw [enj] at hv2; cases hv2
          | some kn =>
            rw [enj] at hv2 e
            cases hv2
            have e := Option.some.inj e
            refine ⟨rfl, yesT ?_⟩
            refine ⟨_, rfl, _, rfl, rfl, _, rfl, ?_⟩
            by_cases c : kn = many
            · refine itT (dT (by rw [c])) ?_
              refine ⟨_, rfl, kk _ _ (same_refl _) ?_⟩
              rw [← e]
              show Rp _ _ (PyData.int (if kn = many then _ else _))
              rw [if_pos c]
              exact .int _
            · refine itF (dF (fun z => c (by have := V.int.inj z; omega))) ?_
              refine ⟨_, rfl, kk _ _ (same_refl _) ?_⟩
              rw [← e]
              show Rp _ _ (PyData.int (if kn = many then _ else _))
              rw [if_neg c]
              exact .int _
        · intro H8 us2 s8 hus2 rus2
          have eu2 := rpa_ints_inv _ rus2
          rw [eu2] at hus2
          have l8 := l6.trans (Laid.same s8 l6.D)
          refine ⟨_, _, _, rfl, d, sv, ea, ta, das', S', pl, p2, _, rfl, rfl, rfl, l8.D, (by rw [len6]; exact hopb.1), hus2, fun H9 k9 D9 => ?_⟩
          refine ⟨_, _, _, _, rfl, l8.trans (Laid.kp k9 D9), (k6.trans (Kp.of s8)).trans k9, ?_, e6⟩
          rw [len_put, len6]
      · rintro σ H6 ⟨c12, c14, c16, S', rfl, l6, k6, len6, e6⟩
        have e8 : tvs.length = x.opens.length := rtv.len
        rw [e8, List.drop_length] at e6
        have e6 : S' = _ := e6
        refine k H6 das' ?_
        have e9 : layEndings (layN book n) W many ths ends begin S = S' := by
          rw [e6, layEndings, ← efin]
        rw [e9]
        exact l5.trans l6
theorem cal_lay_things (T : Tx w K mg) : ∀ n, Cal P w K mg base CX0 (4 * n + 24) "lay_things" ["draft", "things", "within", "first"] (spLay K book n) := by
  intro n
  induction n with
  | zero =>
    have hu : Cal P w K mg base CX0 (4 * 0 + 22) "lay_use" ["draft", "use", "within"] (spUse K book 0) := by
      have no : ∀ vs H Q E, ¬ spUse K book 0 vs H Q E := by
        rintro vs H Q E ⟨a, b, c, _, d, sv, ea, ta, das, S, x, up, by_, w, Sg, W, B, _, _, _, _, h, _⟩
        cases h
      exact Cal.of T.f_lay_use T.g_lay_use sc_lay_use (fun _ _ _ _ _ _ us hl => match us, hl with | [_, _, _], _ => rfl) (fun vs H Q E h => (no vs H Q E h).elim) (fun _ _ _ _ _ H vs Q E _ h => (no vs H Q E h).elim)
    have hr : Cal P w K mg base CX0 (4 * 0 + 22) "lay_repeat" ["draft", "repeat", "within"] (spRep K book 0) := by
      have no : ∀ vs H Q E, ¬ spRep K book 0 vs H Q E := by
        rintro vs H Q E ⟨a, b, c, _, d, sv, ea, ta, das, S, many, ths, ends, w, Sg, W, B, _, _, _, _, h, _⟩
        cases h
      exact Cal.of T.f_lay_repeat T.g_lay_repeat sc_lay_repeat (fun _ _ _ _ _ _ us hl => match us, hl with | [_, _, _], _ => rfl) (fun vs H Q E h => (no vs H Q E h).elim) (fun _ _ _ _ _ H vs Q E _ h => (no vs H Q E h).elim)
    exact lay_things_of T (lay_thing_of T hu hr)
  | succ n ih => exact lay_things_of T (lay_thing_of T (lay_use_of T ih) (lay_repeat_of T ih (lay_endings_of T ih)))
end
/-! ### the turns' ends -/
def TurnsOk (dicts : List (List (Key × V))) (len : Nat) (t : Nat × List (Option Str) × Nat) : Prop :=
  t.1 < len ∧ t.2.1.length ≤ 100 ∧ ∃ kvs, dicts[t.2.2]? = some kvs ∧ ∀ x, some x ∈ t.2.1 → ∃ i : Int, valV kvs (.inr x) = some (.int i)
def spEnd (K : PySem.W.Frag) : Sp := Sp1 fun a H Q _ => ∃ d sv ea ta das S, a = .ref d ∧ DAt K H d sv ea ta das S ∧ (∀ t ∈ S.turns, TurnsOk S.dicts S.ents.length t) ∧
  ∀ H', Kp [ea] H H' → DAt K H' d sv ea ta das { S with ents := endTurns S.dicts S.turns S.ents } → Q .non H'
section
variable {P : Program} {w : World} {K : PySem.W.Frag} {mg : Str → Option Value} {base : Heap} {book : Str → Option (List Thing)}
/- slots of Draft.end_turns: 0 self, 1 place*, 2 goals, 3 signs*, 4 goal -/
theorem sc_Draft_end_turns : FnScope ["self", "place", "goals", "signs", "goal"] ["self"] (defScope s_Draft_end_turns) := ⟨rfl, rfl, rfl, by decide +kernel, rfl, by decide +kernel, by decide +kernel⟩
theorem met_Draft_end_turns (T : Tx w K mg) : CalM P w K mg base CX0 (3) "Draft" "end_turns" ["self"] (spEnd K) := by
  refine CalM.of T.f_Draft_end_turns T.m_Draft_end_turns T.c_Draft sc_Draft_end_turns (fun _ _ _ _ _ _ us hl => match us, hl with | [_], _ => rfl) (fun vs H Q E h => by obtain ⟨x0, rfl, _⟩ := h; rfl) (fun f cdv A outer s H vs Q E hr h => ?_)
  obtain ⟨v0, rfl, h⟩ := h
  refine ⟨_, (pss_one (ps_for PassesOwn.never rfl (pi_list (pe_fld (pv 0) rfl)) (pg_tup (by rfl) (pgs_cons (pg_name (i := 1) sc_Draft_end_turns.nd rfl (Or.inr rfl)) (pgs_cons (pg_name (i := 2) sc_Draft_end_turns.nd rfl (Or.inl rfl)) (pgs_cons (pg_name (i := 3) sc_Draft_end_turns.nd rfl (Or.inr rfl)) pgs_nil)))) (pss_one (ps_expr (pm (met_Draft_put T) hr (pv 0) (pa_cons (pv 1) (pa_cons (pe_lc (own := [("goal", 4)]) (by rfl) sc_Draft_end_turns.nd (pi_tup (pv 2)) (blkOk_by (own := [("goal", 4)]) (N := ["self", "place", "goals", "signs", "goal"]) (sc := defScope s_Draft_end_turns) (by decide +kernel)) (fun _ _ _ _ _ => (pg_name (i := 4) sc_Draft_end_turns.nd rfl (Or.inl rfl))) (fun _ _ _ _ _ => pts_nil) (fun _ _ _ _ _ => (pe_ifExp (pt_cmpR op_isN (pv 4) pe_non (nomark _)) (pe_op op_add (pv 1) pe_int) (pe_dget (hu_of hr) (pv 3) (pv 4) (fun _ _ => rfl))))) pa_nil))))))), ?_⟩
  obtain ⟨d, sv, ea, ta, das, S, rfl, D, ok, k⟩ := h
  obtain ⟨dx, o⟩ := D.o
  obtain ⟨tvs, t1, t2⟩ := D.t
  have tk : ∀ {H'}, Kp [ea] H H' → Tk H H' := fun {H'} k => D.tk (k.sub fun b hb => by rw [List.mem_singleton.mp hb]; simp)
  refine ⟨_, rfl, d, _, dx, _, _, rfl, o, T.c_Draft, T.n_Draft_turns, rfl, ta, rfl, ⟨tvs, SqL.of t1⟩, ?_⟩
  refine for_it (walk_list (xs := tvs)) (fun i σ H' => ∃ c1 c2 c3 c4 es, σ = [some (.ref d), c1, c2, c3, c4] ∧ Kp [ea] H H' ∧ DAt K H' d sv ea ta das { S with ents := es } ∧ es.length = S.ents.length ∧ endTurns S.dicts (S.turns.drop i) es = endTurns S.dicts S.turns S.ents)
    ⟨_, _, _, _, S.ents, rfl, Kp.refl _ _, D, rfl, rfl⟩ ?_ ?_ ?_
  · rintro i σ H' _ ⟨c1, c2, c3, c4, es, rfl, k', _⟩
    exact SqL.of (k' _ _ t1 fun z => D.ne (List.mem_singleton.mp z).symm)
  · rintro i v σ H1 H2 hi ⟨c1, c2, c3, c4, es, rfl, k1, D1, len, ee⟩ ⟨rfl, hv⟩
    obtain ⟨t, ht, q, g, da, rfl, hq, hg, hda⟩ := t2.get hv
    obtain ⟨p, gs, sid⟩ := t
    have ed := drop_of_get ht
    rw [ed] at ee
    obtain ⟨h1, h2, kvs, h3, h4⟩ := ok _ (List.mem_of_getElem? ht)
    obtain ⟨dx1, o1⟩ := D1.o
    have tk1 := tk k1
    refine ⟨q, _, rfl, SqT.of (tk1 _ _ hq), rfl, _, _, rfl, _, _, rfl, _, _, rfl, rfl, ?_⟩
    refine ⟨_, rfl, d, dx1, _, rfl, o1, rfl, _, rfl, ?_⟩
    obtain ⟨ga, gvs, rfl, hga, rg⟩ := hg.tup_inv
    refine ⟨_, rfl, ga, rfl, ⟨_, SqT.of (tk1 _ _ hga)⟩, fun pn hpn => ?_⟩
    have hgl : gvs.length = gs.length := by rw [rg.len, List.length_map]
    have hk1 : H2 da = some (.dK kvs) := by
      obtain ⟨kvs', e1, e2⟩ := D1.k.get hda
      have e1 : S.dicts[sid]? = some kvs' := e1
      have h3 : S.dicts[sid]? = some kvs := h3
      rw [h3] at e1
      cases e1
      exact e2
    refine lc_rp (walk_tup (xs := gvs)) hpn ((gs.map (endGoal p kvs)).map PyData.int) (by rw [List.length_map, List.length_map, hgl]) (by rw [hgl]; exact size100 h2) (fun H s => SqT.of (s.on (tk1 _ _ hga))) ?_ ?_
    · rintro j v H3 H4 dd hj s e ⟨rfl, hv2⟩ C N kk
      obtain ⟨gd, hgd, rgd⟩ := rg.get hv2
      rw [List.getElem?_map] at hgd
      rw [List.getElem?_map, List.getElem?_map] at e
      cases egs : gs[j]? with
      | none => rw [egs] at hgd; cases hgd
      | some g0 =>
        rw [egs] at hgd e
        cases hgd
        have e := Option.some.inj e
        refine ⟨rfl, yesT ?_⟩
        cases g0 with
        | none =>
          cases rgd.non_inv
          refine ⟨_, rfl, rfl, _, rfl, itT (dT rfl) ?_⟩
          refine ⟨_, rfl, _, _, rfl, rfl, kk _ _ (same_refl _) ?_⟩
          rw [← e]
          exact .int _
        | some x =>
          cases rgd.str_inv
          obtain ⟨z, hz⟩ := h4 x (List.mem_of_getElem? egs)
          refine ⟨_, rfl, rfl, _, rfl, itF (dF (fun z => nomatch z)) ?_⟩
          have hgt := DGet.k (k := .inr x) (s.on hk1)
          rw [hz] at hgt
          refine ⟨_, rfl, _, rfl, da, _, rfl, hgt, kk _ _ (same_refl _) ?_⟩
          rw [← e]
          show Rp _ _ (PyData.int (intOf (valV kvs (.inr x))))
          rw [hz]
          exact .int _
    · intro H3 us s3 hus rus
      have eu := rpa_ints_inv _ rus
      rw [eu] at hus
      refine ⟨_, _, _, rfl, d, sv, ea, ta, das, _, p, pn, _, rfl, rfl, rfl, D1.same s3, ?_, hus, fun H4 k4 D4 => ?_⟩
      · show p < es.length
        rw [len]; exact h1
      refine ⟨_, _, _, _, _, rfl, (k1.trans (Kp.of s3)).trans k4, D4, ?_, ?_⟩
      · rw [List.length_set]; exact len
      · rw [← ee]
        show _ = endTurns S.dicts (S.turns.drop (i + 1)) (es.set p (.turn (gs.map (endGoal p (S.dicts.getD sid [])))))
        have e5 : S.dicts.getD sid [] = kvs := by
          have h3 : S.dicts[sid]? = some kvs := h3
          rw [List.getD_eq_getElem?_getD, h3]
          rfl
        rw [e5]
  · rintro σ H1 ⟨c1, c2, c3, c4, es, rfl, k1, D1, len, ee⟩
    have e : tvs.length = S.turns.length := t2.len
    rw [e, List.drop_length] at ee
    have ee : es = _ := ee
    rw [ee] at D1
    exact k H1 k1 D1
end
/-- a score with its book: phrases are rows of things; the part by its name -/
structure Song where
  phrases : List (Str × List Thing)
  name : Str
  ths : List Thing
def Song.book (s : Song) : Str → Option (List Thing) := fun x => s.phrases.lookup x
/-- the score at a value -/
def SongAt (H : Hp) (v : V) (s : Song) : Prop := ∃ ph pt x y r, ScAt H v ph pt ∧ BookAt ph s.book ∧ pt.lookup s.name = some (x :: y :: .tuple (thingsD s.ths) :: r)
def Song.lays (s : Song) : DS := layN s.book 25 s.ths ⟨[], 0, 0, (1, 1)⟩ 0 DS0
def Song.line (s : Song) : List Entry := endTurns s.lays.dicts s.lays.turns s.lays.ents
/-- a song within bounds -/
structure SongOk (s : Song) : Prop where
  ths : ∃ Sg W, ThsOk s.book Sg 25 s.ths W ∧ W ≤ 2000 ∧ (∀ y ∈ Sg, Lays y s.ths)
  len : s.ths.length ≤ 100
def spLine : Sp := Sp2 fun a b H Q _ => ∃ s, SongAt H a s ∧ b = .str s.name ∧ SongOk s ∧ (∀ t ∈ s.lays.turns, TurnsOk s.lays.dicts s.lays.ents.length t) ∧
  ∀ H' l vs, Same H H' → H l = none → H' l = some (.lst vs) → RpA H' vs (s.line.map Entry.d) → Q (.ref l) H'
section
variable {P : Program} {w : World} {K : PySem.W.Frag} {mg : Str → Option Value} {base : Heap}
theorem cal_lay25 (T : Tx w K mg) (s : Song) : Cal P w K mg base CX0 124 "lay_things" ["draft", "things", "within", "first"] (spLay K s.book 25) := cal_lay_things T 25
end
section
variable {P : Program} {w : World} {K : PySem.W.Frag} {mg : Str → Option Value} {base : Heap}
/- slots of line: 0 score, 1 name, 2 draft -/
theorem sc_line : FnScope ["score", "name", "draft"] ["score", "name"] (defScope s_line) := ⟨rfl, rfl, rfl, by decide +kernel, rfl, by decide +kernel, by decide +kernel⟩
theorem cal_line (T : Tx w K mg) : Cal P w K mg base CX0 (125) "line" ["score", "name"] spLine := by
  refine Cal.of T.f_line T.g_line sc_line (fun _ _ _ _ _ _ us hl => match us, hl with | [_, _], _ => rfl) (fun vs H Q E h => by obtain ⟨x0, x1, rfl, _⟩ := h; rfl) (fun f cdv A outer s H vs Q E hr h => ?_)
  obtain ⟨v0, v1, rfl, h⟩ := h
  obtain ⟨s, ⟨ph, pt, x, y, r, hsc, hbook, hpart⟩, rfl, ⟨⟨Sg, W, ok, hW, _⟩, hlen⟩, hturns, k⟩ := h
  refine ⟨_, (pss_cons (ps_set (i := 2) sc_line.nd rfl (Or.inl rfl) (pn (mk_Draft T) hr (pa_cons (pv 0) pa_nil)))
    (pss_cons (ps_expr (pc (cal_lay25 T s) hr (pa_cons (pv 2) (pa_cons (pe_ix ix_tup (pc (cal_part_of T) hr (pa_cons (pv 0) (pa_cons (pv 1) pa_nil))) pe_int (fun _ _ => rfl)) (pa_cons (pn (mk_Within T) hr (pa_cons (pe_tup pa_nil) (pa_cons pe_dnewK (pa_cons pe_int (pa_cons (pe_tup (pa_cons pe_int (pa_cons pe_int pa_nil))) pa_nil))))) (pa_cons pe_int pa_nil))))))
    (pss_cons (ps_expr (pm0 (met_Draft_end_turns T) hr (pv 2)))
    (pss_one (ps_ret (pe_fld (pv 2) rfl)))))), ?_⟩
  refine ⟨_, rfl, fun d dd hd hdd hne => ?_⟩
  refine ⟨_, _, rfl, d, dd, rfl, upd_same, fun H1 ea ta kp1 o1 e1 t1 hea hta hne2 => ⟨rfl, ?_⟩⟩
  have s1 := kp_make hd hdd kp1
  have D1 : DAt K H1 d v0 ea ta [] ⟨[], 0, [], []⟩ := ⟨⟨dd, o1⟩, ⟨[], e1, .nil⟩, ⟨[], t1, .nil⟩, .nil, List.nodup_nil, hne2⟩
  have hea0 : H ea = none := none_of_same (by
    intro b o hb
    rw [upd_ne (ne_of_none hb hd), upd_ne (ne_of_none hb hdd)]; exact hb) hea
  have hta0 : H ta = none := none_of_same (by
    intro b o hb
    rw [upd_ne (ne_of_none hb hd), upd_ne (ne_of_none hb hdd)]; exact hb) hta
  refine ⟨_, rfl, _, rfl, _, rfl, ?_⟩
  refine ⟨_, _, rfl, ph, pt, s.name, _, hsc.mono s1.tk, rfl, hpart, fun v rv => ?_⟩
  obtain ⟨a, vs, rfl, ha, rv⟩ := rv.tup_inv
  obtain ⟨v1, r1, rfl, e1', rv⟩ := rv.cons_inv
  obtain ⟨v2, r2, rfl, e2', rv⟩ := rv.cons_inv
  obtain ⟨v3, r3, rfl, e3', rv⟩ := rv.cons_inv
  obtain ⟨v4, r4, rfl, e4', rv⟩ := rv.cons_inv
  refine ⟨_, _, _, _, rfl, rfl, SqT.of (ha), atI_nat (j := 3) rfl, ?_⟩
  refine ⟨Nat.zero_le _, fun p hp => ?_⟩
  have s2 := same_new (o := .tup []) hp
  intro da hda
  have l3 := Laid.dnew (D1.same s2) hda
  have s3 := same_new (o := .dK []) hda
  refine ⟨(by show 2 ≤ sizeLine; decide), fun q hq => ?_⟩
  have s4 := same_new (o := .tup [.int 1, .int 1]) hq
  intro wv wd hwv hwd hwne
  refine ⟨_, _, _, _, _, rfl, wv, wd, rfl, upd_same, fun H5 kp5 o5 => ⟨rfl, ?_⟩⟩
  have s5 := s4.trans (kp_make hwv hwd kp5)
  have l5 := l3.trans (Laid.same s5 l3.D)
  have s25 := s2.trans (s3.trans s5)
  have C5 : LC K H5 s.book d v0 ea ta [da] DS0 := ⟨l5.D, ph, pt, (hsc.mono s1.tk).mono s25.tk, hbook⟩
  have w5 : WAt K H5 (.ref wv) ⟨[], 0, 0, (1, 1)⟩ [da] := ⟨wv, wd, _, da, _, rfl, o5, .tup ((s3.trans s5).on upd_same) .nil, rfl, ⟨q, rfl, (kp_make hwv hwd kp5).on upd_same⟩⟩
  refine ⟨_, _, _, _, rfl, d, v0, ea, ta, [da], DS0, s.ths, ⟨[], 0, 0, (1, 1)⟩, 0, Sg, W, 1, rfl, C5, e4'.mono s25.tk, ⟨w5, FB11, by omega, by omega, by decide⟩, rfl, ok, hlen, ⟨?_, ?_⟩, fun H6 das6 l6 => ?_⟩
  · show 0 + 0 + W ≤ 2000
    omega
  · show 0 + 0 + s.ths.length + 100 * W ≤ 300000
    omega
  obtain ⟨dx6, o6⟩ := l6.D.o
  refine ⟨_, rfl, d, dx6, _, rfl, o6, rfl, ?_⟩
  refine ⟨_, rfl, d, v0, ea, ta, das6, s.lays, rfl, l6.D, hturns, fun H7 k7 D7 => ?_⟩
  obtain ⟨dx7, o7⟩ := D7.o
  obtain ⟨evs, h7, r7⟩ := D7.e
  refine ⟨_, rfl, d, _, dx7, _, _, rfl, o7, T.c_Draft, T.n_Draft_entries, rfl, ?_⟩
  refine k H7 ea evs ?_ hea0 h7 r7
  intro b o hb
  have h1 := s1 b o hb
  have hbd : b ≠ d := ne_of_none hb hd
  have hbe : b ≠ ea := ne_of_none hb hea0
  have hbt : b ≠ ta := ne_of_none hb hta0
  have hbda : b ≠ da := ne_of_none (s2 b o h1) hda
  refine k7 b o (l6.k b o (s25 b o h1) ?_) ?_
  · intro m
    simp at m
    rcases m with m | m | m | m
    · exact hbd m
    · exact hbe m
    · exact hbt m
    · exact hbda m
  · intro m
    exact hbe (List.mem_singleton.mp m)
end
end MC
set_option Elab.async false
set_option linter.all false
set_option maxRecDepth 100000
set_option maxHeartbeats 4000000
namespace MC
open PySem PySem.Spec PyProof.Rows L2
/-! ### lines within bounds -/
def natV (n : Nat) : V := .int (n : Int)
def EOk (len : Nat) : Entry → Prop
  | .bar _ (its :: _) _ => BOk its ∧ 1 ≤ notesI its ∧ notesI its ≤ 40
  | .bar _ [] _ => False
  | .turn gs => gs ≠ [] ∧ gs.length ≤ 100 ∧ ∀ g ∈ gs, 0 ≤ g ∧ g ≤ (len : Int)
structure LineOk (es : List Entry) : Prop where
  ok : ∀ e ∈ es, EOk es.length e
  len : es.length ≤ 2000
theorem EOk.ok {len : Nat} : ∀ {e : Entry}, EOk len e → e.ok
  | .bar _ (its :: _) _, h => h.1
  | .bar _ [] _, h => h.elim
  | .turn _, _ => trivial
theorem EOk.things {len : Nat} : ∀ {e : Entry}, EOk len e → e.things.length ≤ 40
  | .bar _ (its :: _) way, h => by
    show (things0 its way).length ≤ 40
    rw [things0_len]
    exact h.2.2
  | .bar _ [] _, h => h.elim
  | .turn _, _ => Nat.zero_le _
def Entry.n (e : Entry) : Nat := e.things.length
/-- how many things stand before a place -/
def pre (es : List Entry) (i : Nat) : Nat := ((es.take i).map Entry.n).sum
def total (es : List Entry) : Nat := (es.map Entry.n).sum
def firstsOf (es : List Entry) : List Nat := (List.range (es.length + 1)).map (pre es)
theorem pre_len (es : List Entry) : pre es es.length = total es := by rw [pre, List.take_length, total]
theorem pre_succ {es : List Entry} {i : Nat} {e : Entry} (h : es[i]? = some e) : pre es (i + 1) = pre es i + e.n := by
  rw [pre, pre, take_succ h, List.map_append, List.sum_append]
  simp
theorem pre_le_total (es : List Entry) (i : Nat) : pre es i ≤ total es := by
  have h : total es = pre es i + ((es.drop i).map Entry.n).sum := by
    rw [total, pre, ← List.sum_append, ← List.map_append, List.take_append_drop]
  omega
theorem sum_le40 : ∀ {es : List Entry} {m : Nat}, (∀ e ∈ es, EOk m e) → (es.map Entry.n).sum ≤ es.length * 40
  | [], _, _ => Nat.le_refl _
  | e :: r, m, h => by
    have h1 := sum_le40 (es := r) (m := m) fun x hx => h x (List.mem_cons_of_mem _ hx)
    have h2 := (h e (List.mem_cons_self ..)).things
    show e.n + (r.map Entry.n).sum ≤ (r.length + 1) * 40
    have h3 : e.n ≤ 40 := h2
    omega
theorem LineOk.total {es : List Entry} (h : LineOk es) : total es ≤ 80000 := by
  have := sum_le40 h.ok
  have := h.len
  show (es.map Entry.n).sum ≤ 80000
  omega
theorem firstsOf_get {es : List Entry} {i : Nat} (h : i ≤ es.length) : (firstsOf es)[i]? = some (pre es i) := by
  rw [firstsOf, List.getElem?_map, List.getElem?_range (by omega)]
  rfl
/-! ### where a turn may lead -/
inductive Reach (es : List Entry) (b : Nat) : Nat → Prop
  | here : Reach es b b
  | go {p : Nat} {gs : List Int} {g : Nat} : Reach es b p → es[p]? = some (.turn gs) → (g : Int) ∈ gs → Reach es b g
def Ends0 (es : List Entry) (p : Nat) : Prop := p = es.length ∨ ∃ s v w, es[p]? = some (.bar s v w)
def Fnd (es : List Entry) (b n : Nat) : Prop := ∃ p, Reach es b p ∧ Ends0 es p ∧ pre es p = n
noncomputable section
open Classical
def ledSet (es : List Entry) (b : Nat) : List Nat := (List.range (total es + 1)).filter fun n => decide (Fnd es b n)
def ledOf (es : List Entry) (b : Nat) : List Nat := if ledSet es b = [] then [total es] else ledSet es b
def nextsBar (es : List Entry) (p : Nat) (e : Entry) : List (List Nat) := (List.range e.n).map fun j => if j + 1 < e.n then [pre es p + j + 1] else ledOf es (p + 1)
def nextsUp (es : List Entry) : Nat → List (List Nat)
  | 0 => []
  | p + 1 => nextsUp es p ++ match es[p]? with
    | some e => nextsBar es p e
    | none => []
def nextsOf (es : List Entry) : List (List Nat) := nextsUp es es.length
end
def thingsL (es : List Entry) : List Nt := (es.map Entry.things).flatten
theorem thingsL_len (es : List Entry) : (thingsL es).length = total es := by
  rw [thingsL, List.length_flatten, List.map_map]
  rfl
theorem mem_ledSet {es : List Entry} {b n : Nat} : n ∈ ledSet es b ↔ Fnd es b n := by
  rw [ledSet, List.mem_filter, List.mem_range]
  refine ⟨fun h => by simpa using h.2, fun h => ⟨?_, by simpa using h⟩⟩
  obtain ⟨p, _, _, e⟩ := h
  have := pre_le_total es p
  omega
theorem ledSet_sorted (es : List Entry) (b : Nat) : (ledSet es b).Pairwise (· < ·) := List.Pairwise.filter _ List.pairwise_lt_range
/-- strictly rising lists with the same items are the same -/
theorem sorted_ext : ∀ {l r : List Int}, l.Pairwise (· < ·) → r.Pairwise (· < ·) → (∀ x, x ∈ l ↔ x ∈ r) → l = r
  | [], [], _, _, _ => rfl
  | [], b :: r, _, _, h => absurd ((h b).mpr (List.mem_cons_self ..)) (List.not_mem_nil)
  | a :: l, [], _, _, h => absurd ((h a).mp (List.mem_cons_self ..)) (List.not_mem_nil)
  | a :: l, b :: r, hl, hr, h => by
    have hl' := List.pairwise_cons.mp hl
    have hr' := List.pairwise_cons.mp hr
    have e : a = b := by
      rcases List.mem_cons.mp ((h a).mp (List.mem_cons_self ..)) with e | h1
      · exact e
      rcases List.mem_cons.mp ((h b).mpr (List.mem_cons_self ..)) with e | h2
      · exact e.symm
      have := hl'.1 _ h2
      have := hr'.1 _ h1
      omega
    subst e
    rw [sorted_ext hl'.2 hr'.2 fun x => ?_]
    constructor
    · intro hx
      rcases List.mem_cons.mp ((h x).mp (List.mem_cons_of_mem _ hx)) with e | h1
      · subst e; exact absurd (hl'.1 _ hx) (by omega)
      · exact h1
    · intro hx
      rcases List.mem_cons.mp ((h x).mpr (List.mem_cons_of_mem _ hx)) with e | h1
      · subst e; exact absurd (hr'.1 _ hx) (by omega)
      · exact h1
/-! ### dicts whose keys are numbers, all told true -/
def dk (ks : List Nat) : List (Key × V) := ks.map fun (n : Nat) => (Sum.inl (n : Int), V.bl true)
theorem dk_val (ks : List Nat) (n : Nat) : valV (dk ks) (.inl (n : Int)) = if n ∈ ks then some (.bl true) else none := by
  induction ks with
  | nil => rfl
  | cons k r ih =>
    show valV ((Sum.inl (k : Int), V.bl true) :: dk r) _ = _
    by_cases c : k = n
    · subst c
      rw [valV_pos rfl, if_pos (List.mem_cons_self ..)]
    · have c' : ¬ (Sum.inl (k : Int) : Key) = .inl (n : Int) := fun z => c (by have := Sum.inl.inj z; omega)
      rw [valV_neg c', ih]
      by_cases m : n ∈ r
      · rw [if_pos m, if_pos (List.mem_cons_of_mem _ m)]
      · rw [if_neg m, if_neg (fun z => by
          rcases List.mem_cons.mp z with z | z
          · exact c z.symm
          · exact m z)]
theorem dk_put_new {ks : List Nat} {n : Nat} (h : n ∉ ks) : putK (dk ks) (.inl (n : Int)) (.bl true) = dk (ks ++ [n]) := by
  rw [putK_new _ (by rw [dk_val, if_neg h]), dk, dk, List.map_append]
  rfl
theorem dk_put_old {ks : List Nat} {n : Nat} (h : n ∈ ks) : putK (dk ks) (.inl (n : Int)) (.bl true) = dk ks := by
  unfold putK
  rw [if_pos (by rw [valV_any, dk_val, if_pos h]; rfl)]
  rw [dk, List.map_map]
  refine List.map_congr_left fun k _ => ?_
  show (if Sum.inl (k : Int) = Sum.inl (n : Int) then _ else _) = _
  split <;> rfl
/-! ### promises -/
def EsAt (H : Hp) (l : Addr) (es : List Entry) : Prop := ∃ vs, H l = some (.lst vs) ∧ RpA H vs (es.map Entry.d)
theorem EsAt.mono {H H' : Hp} {l : Addr} {es : List Entry} (h : EsAt H l es) (s : Same H H') : EsAt H' l es := by
  obtain ⟨vs, h1, h2⟩ := h
  exact ⟨vs, s.on h1, h2.mono s.tk⟩
theorem EsAt.get {H : Hp} {l : Addr} {es : List Entry} {i : Nat} {e : Entry} (h : EsAt H l es) (he : es[i]? = some e) : ∃ vs v, H l = some (.lst vs) ∧ vs[i]? = some v ∧ Rp H v e.d ∧ vs.length = es.length := by
  obtain ⟨vs, h1, h2⟩ := h
  obtain ⟨v, h3, h4⟩ := h2.getD (i := i) (d := e.d) (by rw [List.getElem?_map, he]; rfl)
  exact ⟨vs, v, h1, h3, h4, by rw [h2.len, List.length_map]⟩
/-- a song that can be drafted, with a line within bounds -/
structure SongGood (s : Song) : Prop where
  ok : SongOk s
  turns : ∀ t ∈ s.lays.turns, TurnsOk s.lays.dicts s.lays.ents.length t
  line : LineOk s.line
def spLineG : Sp := Sp2 fun a b H Q _ => ∃ s, SongAt H a s ∧ b = .str s.name ∧ SongGood s ∧ ∀ H' l, Same H H' → H l = none → EsAt H' l s.line → Q (.ref l) H'
def spWritten : Sp := Sp2 fun a b H Q _ => ∃ s, SongAt H a s ∧ b = .str s.name ∧ SongGood s ∧ ∀ H' l vs, Same H H' → H l = none → H' l = some (.lst vs) → RpA H' vs ((thingsL s.line).map Nt.d) → Q (.ref l) H'
def spFirsts : Sp := Sp1 fun a H Q _ => ∃ l es, a = .ref l ∧ EsAt H l es ∧ LineOk es ∧ ∀ H' q, Same H H' → H q = none → H' q = some (.lst ((firstsOf es).map natV)) → Q (.ref q) H'
theorem atI_last {xs : List V} {x : V} (h : xs.getLast? = some x) : atI xs (-1) = some x := by
  have hne : xs ≠ [] := fun e => by rw [e] at h; cases h
  have hl : 0 < xs.length := List.length_pos_iff.mpr hne
  unfold atI ixN
  rw [if_neg (by omega), if_pos (by omega)]
  have e : ((-1 : Int) + (xs.length : Int)).toNat = xs.length - 1 := by omega
  show xs[_]? = _
  rw [List.getLast?_eq_getElem?] at h
  rw [← h]
  congr 1
section
variable {P : Program} {w : World} {K : PySem.W.Frag} {mg : Str → Option Value} {base : Heap}
theorem cal_lineG (T : Tx w K mg) : Cal P w K mg base CX0 125 "line" ["score", "name"] spLineG := by
  refine (cal_line T).imp ?_
  rintro vs H Q E ⟨a, b, rfl, s, h1, h2, h3, k⟩
  exact ⟨a, b, rfl, s, h1, h2, h3.ok, h3.turns, fun H' l vs s1 h4 h5 h6 => k H' l s1 h4 ⟨vs, h5, h6⟩⟩
/- slots of written: 0 score, 1 name, 2 found, 3 entry -/
theorem sc_written : FnScope ["score", "name", "found", "entry"] ["score", "name"] (defScope s_written) := ⟨rfl, rfl, rfl, by decide +kernel, rfl, by decide +kernel, by decide +kernel⟩
theorem cal_written (T : Tx w K mg) : Cal P w K mg base CX0 (126) "written" ["score", "name"] spWritten := by
  refine Cal.of T.f_written T.g_written sc_written (fun _ _ _ _ _ _ us hl => match us, hl with | [_, _], _ => rfl) (fun vs H Q E h => by obtain ⟨x0, x1, rfl, _⟩ := h; rfl) (fun f cdv A outer s H vs Q E hr h => ?_)
  obtain ⟨v0, v1, rfl, h⟩ := h
  refine ⟨_, (pss_cons (ps_set (i := 2) sc_written.nd rfl (Or.inl rfl) (pe_lst pa_nil))
    (pss_cons (ps_for PassesOwn.never rfl (pi_list (pc (cal_lineG T) hr (pa_cons (pv 0) (pa_cons (pv 1) pa_nil)))) (pg_name (i := 3) sc_written.nd rfl (Or.inl rfl)) (pss_one (ps_expr (pe_bm PySem.F.plainAttrs_list PySem.F.slot_list_extend PySem.F.type_list_extend mt_extend (pv 2) (pa_cons (pc (cal_things_of T) hr (pa_cons (pv 3) pa_nil)) pa_nil)))))
    (pss_one (ps_ret (pv 2))))), ?_⟩
  obtain ⟨s, hs, rfl, good, k⟩ := h
  refine ⟨Nat.zero_le _, fun p hp => ?_⟩
  have s0 := same_new (o := .lst []) hp
  have hs1 : SongAt (upd H p (.lst [])) v0 s := by
    obtain ⟨ph, pt, x, y, r, h1, h2, h3⟩ := hs
    exact ⟨ph, pt, x, y, r, h1.mono s0.tk, h2, h3⟩
  refine ⟨_, rfl, _, rfl, ?_⟩
  refine ⟨_, _, rfl, s, hs1, rfl, good, fun H1 l s1 hl he => ?_⟩
  obtain ⟨evs, he1, he2⟩ := he
  have hp1 := s1.on (upd_same (H := H) (a := p) (o := .lst []))
  have hlen : evs.length = s.line.length := by rw [he2.len, List.length_map]
  refine ⟨l, rfl, ⟨evs, SqL.of he1⟩, ?_⟩
  refine for_it (walk_list (xs := evs)) (fun i σ H' => ∃ c3 vs, σ = [some v0, some (.str s.name), some (.ref p), c3] ∧ Same H H' ∧ H' l = some (.lst evs) ∧ RpA H' evs (s.line.map Entry.d) ∧ H' p = some (.lst vs) ∧ RpA H' vs ((thingsL (s.line.take i)).map Nt.d))
    ⟨_, [], rfl, s0.trans s1, he1, he2, hp1, .nil⟩ ?_ ?_ ?_
  · rintro i σ H' _ ⟨c3, vs, rfl, _, h, _⟩
    exact SqL.of h
  · rintro i v σ H2 H3 hi ⟨c3, vs, rfl, s2, hl2, re2, hp2, rv2⟩ ⟨rfl, hv⟩
    obtain ⟨d, hd, rd⟩ := re2.get hv
    rw [List.getElem?_map] at hd
    cases ee : s.line[i]? with
    | none => rw [ee] at hd; cases hd
    | some e =>
      rw [ee] at hd
      cases hd
      have eok := good.line.ok e (List.mem_of_getElem? ee)
      refine ⟨_, rfl, .inl ⟨rfl, _, SqL.of hp2⟩, ?_⟩
      refine ⟨_, rfl, _, rfl, e, rd, eok.ok, fun H4 q ts s4 hq hts rts => ?_⟩
      have hlt : (thingsL (s.line.take i)).length ≤ 80000 := by
        rw [thingsL_len]
        exact Nat.le_trans (pre_le_total s.line i) good.line.total
      have htl : ts.length ≤ 40 := by rw [rts.len, List.length_map]; exact eok.things
      have hvl : vs.length ≤ 80000 := by rw [rv2.len, List.length_map]; exact hlt
      refine ⟨p, q, vs, ts, rfl, rfl, s4.on hp2, hts, (by rw [sizeLine_eq]; omega), ?_⟩
      have tk := tk_lst (o := .lst (vs ++ ts)) (s4.on hp2)
      refine ⟨_, vs ++ ts, rfl, same_up (s2.trans s4) hp, ?_, (re2.mono s4.tk).mono tk, upd_same, ?_⟩
      · have hne : l ≠ p := fun e => by
          rw [e] at hl
          rw [upd_same] at hl
          cases hl
        rw [upd_ne hne]
        exact s4.on hl2
      · have e2 : thingsL (s.line.take (i + 1)) = thingsL (s.line.take i) ++ e.things := by
          rw [thingsL, take_succ ee, List.map_append, List.flatten_append]
          simp [thingsL]
        rw [e2, List.map_append]
        exact ((rv2.mono s4.tk).mono tk).app (rts.mono tk)
  · rintro σ H2 ⟨c3, vs, rfl, s2, hl2, re2, hp2, rv2⟩
    rw [hlen, List.take_length] at rv2
    exact ⟨_, rfl, k H2 p vs s2 hp hp2 rv2⟩
/- slots of firsts: 0 entries, 1 numbers, 2 entry -/
theorem sc_firsts : FnScope ["entries", "numbers", "entry"] ["entries"] (defScope s_firsts) := ⟨rfl, rfl, rfl, by decide +kernel, rfl, by decide +kernel, by decide +kernel⟩
theorem cal_firsts (T : Tx w K mg) : Cal P w K mg base CX0 (15) "firsts" ["entries"] spFirsts := by
  refine Cal.of T.f_firsts T.g_firsts sc_firsts (fun _ _ _ _ _ _ us hl => match us, hl with | [_], _ => rfl) (fun vs H Q E h => by obtain ⟨x0, rfl, _⟩ := h; rfl) (fun f cdv A outer s H vs Q E hr h => ?_)
  obtain ⟨v0, rfl, h⟩ := h
  refine ⟨_, (pss_cons (ps_set (i := 1) sc_firsts.nd rfl (Or.inl rfl) (pe_lst (pa_cons pe_int pa_nil)))
    (pss_cons (ps_for PassesOwn.never rfl (pi_list (pv 0)) (pg_name (i := 2) sc_firsts.nd rfl (Or.inl rfl)) (pss_one (ps_expr (pe_bm PySem.F.plainAttrs_list PySem.F.slot_list_append PySem.F.type_list_append mt_append (pv 1) (pa_cons (pe_op op_add (pe_ix ix_list (pv 1) (pe_un un_neg pe_int) (fun _ _ => rfl)) (pe_callB call_len_seq (by rfl) T.b_len PySem.boot_len (pa_cons (pc (cal_things_of T) hr (pa_cons (pv 2) pa_nil)) pa_nil))) pa_nil)))))
    (pss_one (ps_ret (pv 1))))), ?_⟩
  obtain ⟨l, es, rfl, ⟨evs, he1, he2⟩, ok, k⟩ := h
  have hlen : evs.length = es.length := by rw [he2.len, List.length_map]
  refine ⟨(by show 1 ≤ sizeLine; decide), fun p hp => ?_⟩
  have s0 := same_new (o := .lst [.int 0]) hp
  refine ⟨_, rfl, l, rfl, ⟨evs, SqL.of (s0.on he1)⟩, ?_⟩
  refine for_it (walk_list (xs := evs)) (fun i σ H' => ∃ c2, σ = [some (.ref l), some (.ref p), c2] ∧ Same H H' ∧ H' p = some (.lst (((List.range (i + 1)).map (pre es)).map natV)))
    ⟨_, rfl, s0, upd_same⟩ ?_ ?_ ?_
  · rintro i σ H' _ ⟨c2, rfl, s, _⟩
    exact SqL.of (s.on he1)
  · rintro i v σ H2 H3 hi ⟨c2, rfl, s2, hp2⟩ ⟨rfl, hv⟩
    obtain ⟨d, hd, rd⟩ := he2.get hv
    rw [List.getElem?_map] at hd
    cases ee : es[i]? with
    | none => rw [ee] at hd; cases hd
    | some e =>
      rw [ee] at hd
      cases hd
      have eok := ok.ok e (List.mem_of_getElem? ee)
      have hlast : (((List.range (i + 1)).map (pre es)).map natV).getLast? = some (natV (pre es i)) := by
        rw [List.range_succ]
        simp
      refine ⟨_, rfl, .inl ⟨rfl, _, SqL.of hp2⟩, ?_⟩
      refine ⟨_, rfl, _, rfl, p, _, _, _, rfl, rfl, SqL.of hp2, atI_last hlast, ?_⟩
      refine ⟨_, rfl, _, rfl, e, rd.mono s2.tk, eok.ok, fun H4 q ts s4 hq hts rts => ?_⟩
      have htl : ts.length = e.n := by rw [rts.len, List.length_map]; rfl
      refine ⟨q, ts, rfl, .inl (SqL.of hts), ?_⟩
      rw [htl]
      refine ⟨_, _, rfl, rfl, ?_⟩
      refine ⟨p, _, _, rfl, rfl, s4.on hp2, ?_, ?_⟩
      · rw [List.length_map, List.length_map, List.length_range, sizeLine_eq]
        have := ok.len
        omega
      refine ⟨_, rfl, same_up (s2.trans s4) hp, ?_⟩
      rw [upd_same]
      have e3 : (((List.range (i + 1 + 1)).map (pre es)).map natV) = ((List.range (i + 1)).map (pre es)).map natV ++ [.int ((pre es i : Nat) + (e.n : Nat))] := by
        rw [List.range_succ (n := i + 1), List.map_append, List.map_append, List.map_singleton, List.map_singleton, pre_succ ee, natV]
        rfl
      rw [e3]
  · rintro σ H2 ⟨c2, rfl, s2, hp2⟩
    rw [hlen] at hp2
    exact ⟨_, rfl, k H2 p s2 hp hp2⟩
end
end MC
set_option Elab.async false
set_option linter.all false
set_option maxRecDepth 100000
set_option maxHeartbeats 4000000
namespace MC
open PySem PySem.Spec PyProof.Rows L2
/-! ### data that may be compared -/
def Dep (n : Nat) (d : PyData) : Prop := d.canLay0 = true ∧ d.depth ≤ n
theorem Dep.mono {m n : Nat} {d : PyData} (h : Dep m d) (l : m ≤ n) : Dep n d := ⟨h.1, Nat.le_trans h.2 l⟩
theorem Dep.int (n : Nat) (i : Int) : Dep (n + 1) (.int i) := ⟨rfl, by simp [PyData.depth]⟩
theorem Dep.non (n : Nat) : Dep (n + 1) .none := ⟨rfl, by simp [PyData.depth]⟩
theorem Dep.str (n : Nat) {x : Str} (h : PyData.strOk x = true) : Dep (n + 1) (.str x) := ⟨by simpa [PyData.canLay0] using h, by simp [PyData.depth]⟩
theorem Dep.all {n : Nat} : ∀ {ds : List PyData}, (∀ d ∈ ds, Dep n d) → PyData.canLayAll0 ds = true ∧ PyData.depthAll ds ≤ n
  | [], _ => ⟨rfl, by simp [PyData.depthAll]⟩
  | d :: r, h => by
    have h1 := h d (List.mem_cons_self ..)
    have h2 := Dep.all (ds := r) fun x hx => h x (List.mem_cons_of_mem _ hx)
    refine ⟨by simp only [PyData.canLayAll0, h1.1, h2.1, Bool.and_self], ?_⟩
    have a1 := h1.2
    have a2 := h2.2
    simp only [PyData.depthAll]
    omega
theorem Dep.tup {n : Nat} {ds : List PyData} (h : ∀ d ∈ ds, Dep n d) : Dep (n + 1) (.tuple ds) := by
  have q := Dep.all h
  refine ⟨by simpa [PyData.canLay0] using q.1, ?_⟩
  have := q.2
  simp only [PyData.depth]
  omega
theorem Dep.lst {n : Nat} {ds : List PyData} (h : ∀ d ∈ ds, Dep n d) : Dep (n + 1) (.list ds) := by
  have q := Dep.all h
  refine ⟨by simpa [PyData.canLay0] using q.1, ?_⟩
  have := q.2
  simp only [PyData.depth]
  omega
theorem Dep.shaped {n : Nat} {d : PyData} (h : Dep n d) (hn : n ≤ 64) : SeqAt.shaped d = true := by
  show (d.canLay0 && decide (d.depth ≤ 64)) = true
  rw [h.1, decide_eq_true (Nat.le_trans h.2 hn)]
  rfl
theorem Dep.ints (n : Nat) (ns : List Int) : Dep (n + 2) (iD ns) := Dep.tup fun d hd => by
  obtain ⟨i, _, rfl⟩ := List.mem_map.mp hd
  exact Dep.int _ _
theorem Dep.frac (n : Nat) (f : Frac) : Dep (n + 2) (fD f) := Dep.ints n [f.1, f.2]
theorem nodup_lt : ∀ (n : Nat) (l : List Nat), l.Nodup → (∀ x ∈ l, x < n) → l.length ≤ n
  | 0, [], _, _ => Nat.le_refl _
  | 0, x :: l, _, h => absurd (h x (List.mem_cons_self ..)) (Nat.not_lt_zero _)
  | n + 1, l, nd, h => by
    have h1 := nodup_lt n (l.erase n) (nd.erase n) fun x hx => by
      have h2 := (List.Nodup.mem_erase_iff nd).mp hx
      have := h x h2.2
      have := h2.1
      omega
    have h2 := List.length_erase (l := l) (a := n)
    by_cases c : n ∈ l
    · rw [if_pos c] at h2; omega
    · rw [if_neg c] at h2; omega
theorem ite2T {c A B U : Prop} [Decidable c] (hU : ¬ c → A → U) (hA : A) : if c then (if true = true then A else B) else U := by
  by_cases h : c
  · rw [if_pos h, if_pos rfl]; exact hA
  · rw [if_neg h]; exact hU h hA
/-! ### the search of led_from -/
structure LedI (es : List Entry) (b : Nat) (S W F : List Nat) (X : Nat → Prop) : Prop where
  nS : S.Nodup
  nW : W.Nodup
  nF : F.Nodup
  sub : ∀ p ∈ W, p ∈ S
  reach : ∀ p ∈ S, Reach es b p
  le : ∀ p ∈ S, p ≤ es.length
  b : b ∈ S
  done : ∀ p ∈ S, p ∉ W → ¬ X p → (∀ gs g, es[p]? = some (.turn gs) → ((g : Nat) : Int) ∈ gs → g ∈ S) ∧ (Ends0 es p → pre es p ∈ F)
  fnd : ∀ n ∈ F, ∃ p ∈ S, Ends0 es p ∧ pre es p = n
theorem LedI.seen_le {es : List Entry} {b : Nat} {S W F : List Nat} {X : Nat → Prop} (h : LedI es b S W F X) : S.length ≤ es.length + 1 := by
  exact nodup_lt _ _ h.nS fun p hp => Nat.lt_succ_of_le (h.le p hp)
/-- all is done: the found numbers are those that can be led to -/
theorem LedI.fin {es : List Entry} {b : Nat} {S F : List Nat} (h : LedI es b S [] F fun _ => False) (n : Nat) : n ∈ F ↔ Fnd es b n := by
  have cl : ∀ p, Reach es b p → p ∈ S := fun p hp => by
    induction hp with
    | here => exact h.b
    | go hp he hg ih => exact (h.done _ ih (List.not_mem_nil) (fun z => z)).1 _ _ he hg
  constructor
  · intro hn
    obtain ⟨p, h1, h2, h3⟩ := h.fnd n hn
    exact ⟨p, h.reach p h1, h2, h3⟩
  · rintro ⟨p, h1, h2, rfl⟩
    exact (h.done p (cl p h1) (List.not_mem_nil) (fun z => z)).2 h2
def dlen : Option HO → Nat
  | some (.dK kvs) => kvs.length
  | _ => 0
def llen : Option HO → Nat
  | some (.lst xs) => xs.length
  | _ => 0
theorem eqv_list_nil (ns : List Nat) : PyData.eqv (.list (ns.map fun n => .int (n : Nat))) (.list []) = ns.isEmpty := by
  cases ns with
  | nil => rfl
  | cons n r => simp [PyData.eqv, PyData.eqvAll]
theorem dpa_nats {K : PySem.W.Frag} {H : Hp} : ∀ ns : List Nat, DpAll K H (ns.map natV) (ns.map fun n => .int (n : Nat))
  | [] => .nil
  | n :: r => .cons (.int _) (dpa_nats r)
def spLed : Sp := Sp3 fun a b c H Q _ => ∃ le ln es bg, a = .ref le ∧ b = .ref ln ∧ c = .int (bg : Nat) ∧ EsAt H le es ∧ H ln = some (.lst ((firstsOf es).map natV)) ∧ LineOk es ∧ bg ≤ es.length ∧
  ∀ H' q, Same H H' → H q = none → H' q = some (.lst ((ledOf es bg).map natV)) → Q (.ref q) H'
section
variable {P : Program} {w : World} {K : PySem.W.Frag} {mg : Str → Option Value} {base : Heap}
/- slots of led_from: 0 entries, 1 numbers, 2 begin, 3 seen, 4 waiting, 5 found, 6 place, 7 goal -/
theorem sc_led_from : FnScope ["entries", "numbers", "begin", "seen", "waiting", "found", "place", "goal"] ["entries", "numbers", "begin"] (defScope s_led_from) := ⟨rfl, rfl, rfl, by decide +kernel, rfl, by decide +kernel, by decide +kernel⟩
theorem cal_led_from (T : Tx w K mg) : Cal P w K mg base CX0 (1) "led_from" ["entries", "numbers", "begin"] spLed := by
  refine Cal.of T.f_led_from T.g_led_from sc_led_from (fun _ _ _ _ _ _ us hl => match us, hl with | [_, _, _], _ => rfl) (fun vs H Q E h => by obtain ⟨x0, x1, x2, rfl, _⟩ := h; rfl) (fun f cdv A outer s H vs Q E hr h => ?_)
  obtain ⟨v0, v1, v2, rfl, h⟩ := h
  refine ⟨_, (pss_cons (ps_set (i := 3) sc_led_from.nd rfl (Or.inl rfl) (pe_disp (pps_cons (pv 2) pe_bl pps_nil) (by rfl) (by rfl) (fun z => by cases z) (by decide)))
    (pss_cons (ps_set (i := 4) sc_led_from.nd rfl (Or.inl rfl) (pe_lst (pa_cons (pv 2) pa_nil)))
    (pss_cons (ps_set (i := 5) sc_led_from.nd rfl (Or.inl rfl) pe_dnewK)
    (pss_cons (ps_while PassesOwn.never (pt_cmpR (op_neD hr.units) (pv 4) (pe_lst pa_nil) (nomark _)) (pss_cons (ps_set (i := 6) sc_led_from.nd rfl (Or.inl rfl) (pe_bm0 PySem.F.plainAttrs_list PySem.F.slot_list_pop PySem.F.type_list_pop mt_pop (pv 4)))
      (pss_one (ps_if (PW.pt (pw_or (pt_cmpR op_eq (pv 6) (pe_callB call_len_seq (by rfl) T.b_len PySem.boot_len (pa_cons (pv 0) pa_nil)) (nomark _)) (pw_or1 (pt_cmpR op_eq (pe_ix ix_tup (pe_ix ix_list (pv 0) (pv 6) (fun _ _ => rfl)) pe_int (fun _ _ => rfl)) pe_str (nomark _))))) (pss_one (ps_dput (hu_of hr) (pv 5) (pe_ix ix_list (pv 1) (pv 6) (fun _ _ => rfl)) pe_bl rfl)) (pss_one (ps_for PassesOwn.never rfl (pi_tup (pe_ix ix_tup (pe_ix ix_list (pv 0) (pv 6) (fun _ _ => rfl)) pe_int (fun _ _ => rfl))) (pg_name (i := 7) sc_led_from.nd rfl (Or.inl rfl)) (pss_one (ps_if (pt_cmp (pc_dnotin (hu_of hr) (pv 7) (pv 3))) (pss_cons (ps_dput (hu_of hr) (pv 3) (pv 7) pe_bl rfl)
            (pss_one (ps_expr (pe_bm PySem.F.plainAttrs_list PySem.F.slot_list_append PySem.F.type_list_append mt_append (pv 4) (pa_cons (pv 7) pa_nil))))) pss_nil))))))))
    (pss_cons (ps_if (pt_cmpR (op_eq_d0 hr.units0) (pv 5) pe_dnewK (nomark _)) (pss_one (ps_ret (pe_lst (pa_cons (pe_ix ix_list (pv 1) (pe_un un_neg pe_int) (fun _ _ => rfl)) pa_nil)))) pss_nil)
    (pss_one (ps_ret (pe_callB (call_sortedDA (by rfl)) (by rfl) T.b_sorted (by decide +kernel) (pa_cons (pv 5) pa_nil))))))))), ?_⟩
  obtain ⟨le, ln, es, bg, rfl, rfl, rfl, hes, hln, ok, hbg, k⟩ := h
  intro sd hsd
  refine ⟨_, rfl, upd_same, [(.inl (bg : Int), .bl true)], rfl, (by show 1 ≤ 15; decide), ?_⟩
  have s1 : Same H (upd (upd H sd (.dK [])) sd (.dK (mergeK [] [(.inl (bg : Int), .bl true)]))) := same_up (same_new hsd) hsd
  refine ⟨_, rfl, (by show 1 ≤ sizeLine; decide), fun wl hwl => ?_⟩
  have hwl0 : H wl = none := none_of_same s1 hwl
  have hsw : sd ≠ wl := fun e => by rw [← e, upd_same] at hwl; cases hwl
  have s2 := s1.trans (same_new (o := .lst [.int (bg : Nat)]) hwl)
  intro fd hfd
  have hfd0 : H fd = none := none_of_same s2 hfd
  have hsf : sd ≠ fd := fun e => by rw [← e, upd_ne hsw, upd_same] at hfd; cases hfd
  have hwf : wl ≠ fd := fun e => by rw [← e, upd_same] at hfd; cases hfd
  have s3 := s2.trans (same_new (o := .dK []) hfd)
  refine while_go (fun σ H' => ∃ c6 c7 S W F, σ = [some (.ref le), some (.ref ln), some (.int (bg : Nat)), some (.ref sd), some (.ref wl), some (.ref fd), c6, c7] ∧ Same H H' ∧ H' sd = some (.dK (dk S)) ∧ H' wl = some (.lst (W.map natV)) ∧ H' fd = some (.dK (dk F)) ∧ LedI es bg S W F fun _ => False)
    (fun _ H' => 2 * (es.length + 1 - dlen (H' sd)) + llen (H' wl)) ⟨_, _, [bg], [bg], [], rfl, s3, ?_, ?_, upd_same, ?_⟩ ?_ ?_
  · rw [upd_ne hsf, upd_ne hsw, upd_same]; rfl
  · rw [upd_ne hwf, upd_same]; rfl
  · refine ⟨by simp, by simp, by simp, fun p hp => hp, fun p hp => ?_, fun p hp => ?_, by simp, fun p hp hn => absurd hp hn, fun n hn => absurd hn (List.not_mem_nil)⟩
    · rw [List.mem_singleton.mp hp]; exact .here
    · rw [List.mem_singleton.mp hp]; exact hbg
  · rintro σ H1 ⟨c6, c7, S, W, F, rfl, s, hS, hW, hF, inv⟩
    refine ⟨_, rfl, Nat.zero_le _, fun q0 hq0 => ?_⟩
    have t0 := same_new (o := .lst []) hq0
    have s' := s.trans t0
    have hS1 := hS
    have hW1 := hW
    have hS := t0.on hS
    have hW := t0.on hW
    have hF := t0.on hF
    refine ⟨.list (W.map fun n => .int (n : Nat)), .list [], .lst (SqL.of hW) (dpa_nats W), .lst (SqL.of upd_same) .nil, Dep.shaped (n := 2) (Dep.lst fun d hd => by
      obtain ⟨i, _, rfl⟩ := List.mem_map.mp hd; exact Dep.int _ _) (by omega), (by decide), _, rfl, ?_⟩
    rw [eqv_list_nil]
    rcases List.eq_nil_or_concat W with e | ⟨W', p, e⟩
    · subst e
      refine itF (by decide) ?_
      have mem := inv.fin
      refine ⟨_, rfl, fun q1 hq1 => ?_⟩
      have t1 := same_new (o := .dK []) hq1
      refine ⟨fd, q1, _, rfl, rfl, t1.on hF, upd_same, _, rfl, ?_⟩
      cases F with
      | nil =>
        refine itT (by rfl) ?_
        have hlast : ((firstsOf es).map natV).getLast? = some (natV (total es)) := by
          rw [firstsOf, List.range_succ]
          simp [pre_len]
        refine ⟨_, rfl, _, rfl, ln, _, _, _, rfl, rfl, SqL.of (t1.on (s'.on hln)), atI_last hlast, (by show 1 ≤ sizeLine; decide), fun q2 hq2 => ?_⟩
        have e0 : ledSet es bg = [] := List.eq_nil_iff_forall_not_mem.mpr fun n hn => absurd ((mem n).mpr (mem_ledSet.mp hn)) (List.not_mem_nil)
        refine k _ q2 ((s'.trans t1).trans (same_new hq2)) (none_of_same (s'.trans t1) hq2) ?_
        rw [upd_same, ledOf, if_pos e0]
        rfl
      | cons n0 F =>
        refine itF (by simp [dk]) ?_
        have hFk : (upd _ q1 (.dK [])) fd = some (.dK (dk (n0 :: F))) := t1.on hF
        refine ⟨_, rfl, fd, _, (n0 :: F).map fun n => ((n : Nat) : Int), rfl, .inl hFk, ?_, fun ys q2 perm hys hq2 => ?_⟩
        · rw [dk, List.map_map, List.map_map]
          rfl
        have e0 : ledSet es bg ≠ [] := fun z => absurd (mem_ledSet.mpr ((mem n0).mp (List.mem_cons_self ..))) (by rw [z]; exact List.not_mem_nil)
        have ey : ys = (ledSet es bg).map fun n => ((n : Nat) : Int) := by
          refine sorted_ext ?_ ?_ fun x => ?_
          · have nd : ys.Nodup := by
              refine perm.nodup_iff.mpr ?_
              refine List.Pairwise.map _ (fun a b h => ?_) inv.nF
              intro z
              exact h (by omega)
            refine List.Pairwise.imp₂ (fun a b h1 h2 => ?_) hys nd
            omega
          · exact (ledSet_sorted es bg).map _ fun a b h => by omega
          · rw [perm.mem_iff, List.mem_map, List.mem_map]
            constructor
            · rintro ⟨n, hn, rfl⟩
              exact ⟨n, mem_ledSet.mpr ((mem n).mp hn), rfl⟩
            · rintro ⟨n, hn, rfl⟩
              exact ⟨n, (mem n).mpr (mem_ledSet.mp hn), rfl⟩
        refine k _ q2 ((s'.trans t1).trans (same_new hq2)) (none_of_same (s'.trans t1) hq2) ?_
        rw [upd_same, ledOf, if_neg e0, ey, List.map_map]
        rfl
    · have e : W = W' ++ [p] := by rw [e]; simp
      subst e
      have hne : (W' ++ [p]).isEmpty = false := by cases W' <;> rfl
      refine itT (by rw [hne]; rfl) ?_
      refine ⟨_, fun σ' H'' n => n, ?_⟩
      have hpS : p ∈ S := inv.sub p (by simp)
      have hpl := inv.le p hpS
      refine ⟨_, rfl, .inl ⟨rfl, _, SqL.of hW⟩, wl, _, natV p, rfl, rfl, hW, ?_, ?_⟩
      · rw [List.length_map, List.length_append, List.map_append, List.getElem?_append_right (by rw [List.length_map]; simp), List.length_map]
        show [natV p][W'.length + 1 - 1 - W'.length]? = _
        have : W'.length + 1 - 1 - W'.length = 0 := by omega
        rw [this]
        rfl
      have ed : ((W' ++ [p]).map natV).dropLast = W'.map natV := by rw [List.map_append]; simp
      rw [ed]
      have nW' := List.nodup_append.mp inv.nW
      have hpW' : p ∉ W' := fun m => nW'.2.2 p m p (by simp) rfl
      have inv1 : LedI es bg S W' F fun q => q = p := by
        refine ⟨inv.nS, nW'.1, inv.nF, fun q hq => inv.sub q (by simp [hq]), inv.reach, inv.le, inv.b, fun q hq hn hx => inv.done q hq (fun m => ?_) (fun z => z), inv.fnd⟩
        rcases List.mem_append.mp m with m | m
        · exact hn m
        · exact hx (List.mem_singleton.mp m)
      have sW : Same H (upd (upd H1 q0 (.lst [])) wl (.lst (W'.map natV))) := same_up s' hwl0
      have hS2 : (upd (upd H1 q0 (.lst [])) wl (.lst (W'.map natV))) sd = some (.dK (dk S)) := by rw [upd_ne hsw]; exact hS
      have hF2 : (upd (upd H1 q0 (.lst [])) wl (.lst (W'.map natV))) fd = some (.dK (dk F)) := by rw [upd_ne (Ne.symm hwf)]; exact hF
      have hmu : 2 * (es.length + 1 - dlen (H1 sd)) + llen (H1 wl) = 2 * (es.length + 1 - S.length) + (W'.length + 1) := by
        rw [hS1, hW1]
        show 2 * (es.length + 1 - (dk S).length) + ((W' ++ [p]).map natV).length = _
        rw [dk, List.length_map, List.length_map, List.length_append]
        rfl
      have sl : S.length ≤ es.length + 1 := inv.seen_le
      obtain ⟨evs, he1, he2⟩ := hes
      have hel : evs.length = es.length := by rw [he2.len, List.length_map]
      by_cases c0 : p = es.length ∨ ∃ sz v w, es[p]? = some (.bar sz v w)
      · -- the end of the line or a bar
        refine ⟨_, rfl, _, rfl, le, evs, rfl, .inl (SqL.of (sW.on he1)), rfl, _, rfl, ite2T (fun hc a => ?_) ?_⟩
        · obtain ⟨sz, v, w, hb⟩ := c0.resolve_left fun z => hc (dT (by rw [z, ← hel]; rfl))
          obtain ⟨v0, h1, h2⟩ := he2.getD (i := p) (d := (Entry.bar sz v w).d) (by rw [List.getElem?_map, hb]; rfl)
          obtain ⟨ab, vb, vw, rfl, hab, _, _⟩ := h2.ebar_inv
          exact ⟨_, rfl, _, rfl, _, _, _, _, rfl, rfl, SqL.of (sW.on he1), atI_nat (j := p) (h1), _, _, _, _, rfl, rfl, SqT.of (sW.on hab), atI_nat (j := 0) rfl, rfl, _, rfl, itT (dT rfl) a⟩
        · have hfl : F.length ≤ 80001 := nodup_lt _ _ inv.nF fun n hn => by
            obtain ⟨q, _, _, h⟩ := inv.fnd n hn
            have := pre_le_total es q
            have := ok.total
            omega
          have hkey : ((firstsOf es).map natV)[p]? = some (natV (pre es p)) := by rw [List.getElem?_map, firstsOf_get hpl]; rfl
          refine ⟨_, rfl, _, rfl, _, rfl, _, _, _, _, rfl, rfl, SqL.of (sW.on hln), atI_nat (j := p) (hkey), fd, _, rfl, DPut.k (k := .inl (pre es p : Nat)) hF2 (by rw [dk, List.length_map, sizeLine_eq]; omega), ?_⟩
          have hterm : Ends0 es p := c0
          have hF3 : ∃ F', putK (dk F) (.inl (pre es p : Nat)) (.bl true) = dk F' ∧ F'.Nodup ∧ pre es p ∈ F' ∧ (∀ n ∈ F, n ∈ F') ∧ ∀ n ∈ F', n ∈ F ∨ n = pre es p := by
            by_cases m : pre es p ∈ F
            · exact ⟨F, dk_put_old m, inv.nF, m, fun n h => h, fun n h => .inl h⟩
            · refine ⟨F ++ [pre es p], dk_put_new m, ?_, by simp, fun n h => by simp [h], fun n h => by simpa using h⟩
              rw [List.nodup_append]
              exact ⟨inv.nF, by simp, fun a ha b hb e => m (by rw [← List.mem_singleton.mp hb, ← e]; exact ha)⟩
          obtain ⟨F', eF, nF, mF, subF, supF⟩ := hF3
          rw [eF]
          refine ⟨⟨_, _, S, W', F', rfl, same_up sW hfd0, ?_, ?_, upd_same, ?_⟩, ?_⟩
          · rw [upd_ne hsf]; exact hS2
          · rw [upd_ne hwf, upd_same]
          · refine ⟨inv1.nS, inv1.nW, nF, inv1.sub, inv1.reach, inv1.le, inv1.b, fun q hq hn _ => ?_, fun n hn => ?_⟩
            · by_cases e : q = p
              · subst e
                refine ⟨fun gs g hg hm => ?_, fun _ => mF⟩
                rcases hterm with z | ⟨sz, v, w, z⟩
                · rw [z, List.getElem?_eq_none (Nat.le_refl _)] at hg; cases hg
                · rw [z] at hg; cases hg
              · have := inv1.done q hq hn e
                exact ⟨this.1, fun z => subF _ (this.2 z)⟩
            · rcases supF n hn with h | h
              · exact inv1.fnd n h
              · exact ⟨p, hpS, hterm, h.symm⟩
          · show 2 * (es.length + 1 - dlen (upd _ fd _ sd)) + llen (upd _ fd _ wl) < 2 * (es.length + 1 - dlen (H1 sd)) + llen (H1 wl)
            rw [hmu, upd_ne hsf, upd_ne hwf, hS2, upd_same]
            show 2 * (es.length + 1 - (dk S).length) + (W'.map natV).length < _
            rw [dk, List.length_map, List.length_map]
            omega
      · -- a turn
        have hpl' : p < es.length := by
          have : p ≠ es.length := fun z => c0 (.inl z)
          omega
        obtain ⟨gs, hgs⟩ : ∃ gs, es[p]? = some (.turn gs) := by
          cases e : es[p] with
          | bar sz v w => exact absurd (.inr ⟨sz, v, w, by rw [List.getElem?_eq_getElem hpl', e]⟩) c0
          | turn gs => exact ⟨gs, by rw [List.getElem?_eq_getElem hpl', e]⟩
        obtain ⟨v0, h1, h2⟩ := he2.getD (i := p) (d := (Entry.turn gs).d) (by rw [List.getElem?_map, hgs]; rfl)
        obtain ⟨at_, ag, rfl, hat, hag⟩ := h2.eturn_inv
        obtain ⟨g0, g1, g2⟩ : EOk es.length (.turn gs) := ok.ok _ (List.mem_of_getElem? hgs)
        refine ⟨_, rfl, _, rfl, le, evs, rfl, .inl (SqL.of (sW.on he1)), rfl, _, rfl, itF (dF fun z => by
          have : (p : Int) = (evs.length : Int) := V.int.inj z
          omega) ?_⟩
        refine ⟨_, rfl, _, rfl, _, _, _, _, rfl, rfl, SqL.of (sW.on he1), atI_nat (j := p) (h1), _, _, _, _, rfl, rfl, SqT.of (sW.on hat), atI_nat (j := 0) rfl, rfl, _, rfl, itF (bF (by decide +kernel)) ?_⟩
        refine ⟨_, rfl, _, rfl, _, _, _, _, rfl, rfl, SqL.of (sW.on he1), atI_nat (j := p) (h1), _, _, _, _, rfl, rfl, SqT.of (sW.on hat), atI_nat (j := 1) rfl, ag, rfl, ⟨_, SqT.of (sW.on hag)⟩, ?_⟩
        refine for_it (walk_tup (xs := gs.map V.int)) (fun j σ H' => ∃ c7 S2 W2, σ = [some (.ref le), some (.ref ln), some (.int (bg : Nat)), some (.ref sd), some (.ref wl), some (.ref fd), some (natV p), c7] ∧ Same H H' ∧ H' sd = some (.dK (dk S2)) ∧ H' wl = some (.lst (W2.map natV)) ∧ H' fd = some (.dK (dk F)) ∧
            LedI es bg S2 W2 F (fun q => q = p) ∧ p ∈ S2 ∧ p ∉ W2 ∧ (∀ g ∈ gs.take j, ∃ n, g = ((n : Nat) : Int) ∧ n ∈ S2) ∧ 2 * (es.length + 1 - S2.length) + W2.length ≤ 2 * (es.length + 1 - S.length) + W'.length)
          ⟨_, S, W', rfl, sW, hS2, upd_same, hF2, inv1, hpS, hpW', fun g h => absurd h (List.not_mem_nil), Nat.le_refl _⟩ ?_ ?_ ?_
        · rintro j σ H' _ ⟨c7, S2, W2, rfl, s', _⟩
          exact SqT.of (s'.on hag)
        · rintro j v σ H2 H3 hj ⟨c7, S2, W2, rfl, s', hS3, hW3, hF3, inv2, hp2, hpn2, hg2, hm2⟩ ⟨rfl, hv⟩
          rw [List.getElem?_map] at hv
          cases eg : gs[j]? with
          | none => rw [eg] at hv; cases hv
          | some g =>
            rw [eg] at hv
            cases hv
            have hgm := List.mem_of_getElem? eg
            obtain ⟨h0, hle⟩ := g2 g hgm
            obtain ⟨n, rfl⟩ := Int.eq_ofNat_of_zero_le h0
            have hnl : n ≤ es.length := by omega
            have hrn : Reach es bg n := .go (inv2.reach p hp2) hgs hgm
            have et := take_succ eg
            have hval := DGet.k (k := .inl ((n : Nat) : Int)) hS3
            refine ⟨_, rfl, _, rfl, sd, _, rfl, hval, _, rfl, ?_⟩
            rw [dk_val]
            by_cases m : n ∈ S2
            · rw [if_pos m]
              refine itF (by decide) ?_
              refine ⟨_, S2, W2, rfl, s', hS3, hW3, hF3, inv2, hp2, hpn2, fun g hg => ?_, hm2⟩
              rw [et] at hg
              rcases List.mem_append.mp hg with hg | hg
              · exact hg2 g hg
              · exact ⟨n, List.mem_singleton.mp hg, m⟩
            · rw [if_neg m]
              refine itT (by decide) ?_
              have hSl : S2.length ≤ es.length := by
                have h3 : (n :: S2).Nodup := List.nodup_cons.mpr ⟨m, inv2.nS⟩
                have h4 := nodup_lt (es.length + 1) (n :: S2) h3 fun x hx => by
                  rcases List.mem_cons.mp hx with rfl | hx
                  · omega
                  · have := inv2.le x hx
                    omega
                simpa using h4
              have hWl : W2.length ≤ es.length + 1 := nodup_lt _ _ inv2.nW fun x hx => by have := inv2.le x (inv2.sub x hx); omega
              have hl2000 := ok.len
              refine ⟨_, rfl, _, rfl, sd, _, rfl, DPut.k (k := .inl ((n : Nat) : Int)) hS3 (by rw [dk, List.length_map, sizeLine_eq]; omega), ?_⟩
              rw [dk_put_new m]
              have hW4 : (upd H3 sd (.dK (dk (S2 ++ [n])))) wl = some (.lst (W2.map natV)) := by rw [upd_ne (Ne.symm hsw)]; exact hW3
              refine ⟨_, rfl, .inl ⟨rfl, _, SqL.of hW4⟩, _, rfl, wl, _, _, rfl, rfl, hW4, (by rw [List.length_map, sizeLine_eq]; omega), ?_⟩
              refine ⟨_, S2 ++ [n], W2 ++ [n], rfl, same_up (same_up s' hsd) hwl0, ?_, ?_, ?_, ?_, by simp [hp2], ?_, ?_, ?_⟩
              · rw [upd_ne hsw, upd_same]
              · rw [upd_same, List.map_append]; rfl
              · rw [upd_ne (Ne.symm hwf), upd_ne (Ne.symm hsf)]; exact hF3
              · have nW2 : n ∉ W2 := fun z => m (inv2.sub n z)
                refine ⟨?_, ?_, inv2.nF, ?_, ?_, ?_, by simp [inv2.b], ?_, ?_⟩
                · rw [List.nodup_append]
                  exact ⟨inv2.nS, by simp, fun a ha b hb e => m (by rw [← List.mem_singleton.mp hb, ← e]; exact ha)⟩
                · rw [List.nodup_append]
                  exact ⟨inv2.nW, by simp, fun a ha b hb e => nW2 (by rw [← List.mem_singleton.mp hb, ← e]; exact ha)⟩
                · intro q hq
                  rcases List.mem_append.mp hq with hq | hq
                  · simp [inv2.sub q hq]
                  · simp [List.mem_singleton.mp hq]
                · intro q hq
                  rcases List.mem_append.mp hq with hq | hq
                  · exact inv2.reach q hq
                  · rw [List.mem_singleton.mp hq]; exact hrn
                · intro q hq
                  rcases List.mem_append.mp hq with hq | hq
                  · exact inv2.le q hq
                  · rw [List.mem_singleton.mp hq]; exact hnl
                · intro q hq hn hx
                  rcases List.mem_append.mp hq with hq | hq
                  · have := inv2.done q hq (fun z => hn (by simp [z])) hx
                    exact ⟨fun gs g h1 h2 => by simp [this.1 gs g h1 h2], this.2⟩
                  · exact absurd (by rw [List.mem_singleton.mp hq]; simp) hn
                · intro k' hk'
                  obtain ⟨q, h1, h2⟩ := inv2.fnd k' hk'
                  exact ⟨q, by simp [h1], h2⟩
              · intro z
                rcases List.mem_append.mp z with z | z
                · exact hpn2 z
                · rw [← List.mem_singleton.mp z] at m; exact m hp2
              · intro g hg
                rw [et] at hg
                rcases List.mem_append.mp hg with hg | hg
                · obtain ⟨x, h1, h2⟩ := hg2 g hg
                  exact ⟨x, h1, by simp [h2]⟩
                · exact ⟨n, List.mem_singleton.mp hg, by simp⟩
              · rw [List.length_append, List.length_append]
                show 2 * (es.length + 1 - (S2.length + 1)) + (W2.length + 1) ≤ _
                omega
        · rintro σ H2 ⟨c7, S2, W2, rfl, s', hS3, hW3, hF3, inv2, hp2, hpn2, hg2, hm2⟩
          rw [List.length_map, List.take_length] at hg2
          refine ⟨⟨_, _, S2, W2, F, rfl, s', hS3, hW3, hF3, ?_⟩, ?_⟩
          · refine ⟨inv2.nS, inv2.nW, inv2.nF, inv2.sub, inv2.reach, inv2.le, inv2.b, fun q hq hn _ => ?_, inv2.fnd⟩
            by_cases e : q = p
            · subst e
              refine ⟨fun gs' g hg hm => ?_, fun z => absurd z c0⟩
              rw [hgs] at hg
              cases hg
              obtain ⟨n, h1, h2⟩ := hg2 _ hm
              have : g = n := by omega
              rw [this]; exact h2
            · exact inv2.done q hq hn e
          · show 2 * (es.length + 1 - dlen (H2 sd)) + llen (H2 wl) < 2 * (es.length + 1 - dlen (H1 sd)) + llen (H1 wl)
            rw [hmu, hS3, hW3]
            show 2 * (es.length + 1 - (dk S2).length) + (W2.map natV).length < _
            rw [dk, List.length_map, List.length_map]
            omega
  · intro σ H Q Q' hq h
    obtain ⟨v, e, z, h⟩ := h
    exact ⟨v, e, z, fun p hp => by
      obtain ⟨d, e', h1, h2, h3, h4, b, e3, q⟩ := h p hp
      exact ⟨d, e', h1, h2, h3, h4, b, e3, hq _ _ q⟩⟩
end
end MC
set_option Elab.async false
set_option linter.all false
set_option maxRecDepth 100000
set_option maxHeartbeats 4000000
namespace MC
open PySem PySem.Spec PyProof.Rows L2
/-- a list of lists of numbers -/
def LV (H : Hp) (v : V) (gs : List Nat) : Prop := ∃ q, v = .ref q ∧ H q = some (.lst (gs.map natV))
def LVx (l : Addr) (H0 H : Hp) (v : V) (gs : List Nat) : Prop := ∃ q, v = .ref q ∧ q ≠ l ∧ H0 q = none ∧ H q = some (.lst (gs.map natV))
def LLAt (H : Hp) (l : Addr) (a : List (List Nat)) : Prop := ∃ vs, H l = some (.lst vs) ∧ All2 (LV H) vs a
theorem LLAt.mono {H H' : Hp} {l : Addr} {a : List (List Nat)} (h : LLAt H l a) (s : Same H H') : LLAt H' l a := by
  obtain ⟨vs, h1, h2⟩ := h
  exact ⟨vs, s.on h1, h2.mono fun v gs ⟨q, e, h⟩ => ⟨q, e, s.on h⟩⟩
theorem LLAt.get {H : Hp} {l : Addr} {a : List (List Nat)} {i : Nat} {gs : List Nat} (h : LLAt H l a) (hg : a[i]? = some gs) : ∃ vs q, H l = some (.lst vs) ∧ vs[i]? = some (.ref q) ∧ H q = some (.lst (gs.map natV)) := by
  obtain ⟨vs, h1, h2⟩ := h
  obtain ⟨v, h3, q, rfl, h4⟩ := h2.getR hg
  exact ⟨vs, q, h1, h3, h4⟩
theorem LLAt.len {H : Hp} {l : Addr} {a : List (List Nat)} (h : LLAt H l a) : ∃ vs, H l = some (.lst vs) ∧ vs.length = a.length := by
  obtain ⟨vs, h1, h2⟩ := h
  exact ⟨vs, h1, h2.len⟩
/-- ... of new ones -/
def LVn (H0 H : Hp) (v : V) (gs : List Nat) : Prop := ∃ q, v = .ref q ∧ H0 q = none ∧ H q = some (.lst (gs.map natV))
def LLNew (H0 H : Hp) (l : Addr) (a : List (List Nat)) : Prop := ∃ vs, H l = some (.lst vs) ∧ All2 (LVn H0 H) vs a
theorem LLNew.at {H0 H : Hp} {l : Addr} {a : List (List Nat)} (h : LLNew H0 H l a) : LLAt H l a := by
  obtain ⟨vs, h1, h2⟩ := h
  exact ⟨vs, h1, h2.mono fun v gs ⟨q, e, _, h⟩ => ⟨q, e, h⟩⟩
theorem nextsUp_len {es : List Entry} : ∀ p, p ≤ es.length → (nextsUp es p).length = pre es p
  | 0, _ => rfl
  | p + 1, h => by
    have e : es[p]? = some es[p] := List.getElem?_eq_getElem (by omega)
    rw [nextsUp, List.length_append, nextsUp_len p (by omega), pre_succ e, e]
    show _ + (nextsBar es p _).length = _
    rw [nextsBar, List.length_map, List.length_range]
def spNexts : Sp := Sp2 fun a b H Q _ => ∃ s, SongAt H a s ∧ b = .str s.name ∧ SongGood s ∧ ∀ H' l, Same H H' → H l = none → LLNew H H' l (nextsOf s.line) → Q (.ref l) H'
section
variable {P : Program} {w : World} {K : PySem.W.Frag} {mg : Str → Option Value} {base : Heap}
/- slots of nexts: 0 score, 1 name, 2 entries, 3 numbers, 4 found, 5 place, 6 entry, 7 number -/
theorem sc_nexts : FnScope ["score", "name", "entries", "numbers", "found", "place", "entry", "number"] ["score", "name"] (defScope s_nexts) := ⟨rfl, rfl, rfl, by decide +kernel, rfl, by decide +kernel, by decide +kernel⟩
theorem cal_nexts (T : Tx w K mg) : Cal P w K mg base CX0 (126) "nexts" ["score", "name"] spNexts := by
  refine Cal.of T.f_nexts T.g_nexts sc_nexts (fun _ _ _ _ _ _ us hl => match us, hl with | [_, _], _ => rfl) (fun vs H Q E h => by obtain ⟨x0, x1, rfl, _⟩ := h; rfl) (fun f cdv A outer s H vs Q E hr h => ?_)
  obtain ⟨v0, v1, rfl, h⟩ := h
  refine ⟨_, (pss_cons (ps_set (i := 2) sc_nexts.nd rfl (Or.inl rfl) (pc (cal_lineG T) hr (pa_cons (pv 0) (pa_cons (pv 1) pa_nil))))
    (pss_cons (ps_set (i := 3) sc_nexts.nd rfl (Or.inl rfl) (pc (cal_firsts T) hr (pa_cons (pv 2) pa_nil)))
    (pss_cons (ps_set (i := 4) sc_nexts.nd rfl (Or.inl rfl) (pe_lst pa_nil))
    (pss_cons (ps_for PassesOwn.never rfl (pi_enum (by rfl) T.b_enumerate (pa_cons (pv 2) pa_nil)) (pg_tup (by rfl) (pgs_cons (pg_name (i := 5) sc_nexts.nd rfl (Or.inl rfl)) (pgs_cons (pg_name (i := 6) sc_nexts.nd rfl (Or.inl rfl)) pgs_nil))) (pss_one (ps_for PassesOwn.never rfl (pi_range2 (by rfl) T.b_range (pa_cons (pe_ix ix_list (pv 3) (pv 5) (fun _ _ => rfl)) (pa_cons (pe_ix ix_list (pv 3) (pe_op op_add (pv 5) pe_int) (fun _ _ => rfl)) pa_nil))) (pg_name (i := 7) sc_nexts.nd rfl (Or.inl rfl)) (pss_one (ps_if (pt_cmpR op_lt (pe_op op_add (pv 7) pe_int) (pe_ix ix_list (pv 3) (pe_op op_add (pv 5) pe_int) (fun _ _ => rfl)) (nomark _)) (pss_one (ps_expr (pe_bm PySem.F.plainAttrs_list PySem.F.slot_list_append PySem.F.type_list_append mt_append (pv 4) (pa_cons (pe_lst (pa_cons (pe_op op_add (pv 7) pe_int) pa_nil)) pa_nil)))) (pss_one (ps_expr (pe_bm PySem.F.plainAttrs_list PySem.F.slot_list_append PySem.F.type_list_append mt_append (pv 4) (pa_cons (pc (cal_led_from T) hr (pa_cons (pv 2) (pa_cons (pv 3) (pa_cons (pe_op op_add (pv 5) pe_int) pa_nil)))) pa_nil)))))))))
    (pss_one (ps_ret (pv 4))))))), ?_⟩
  obtain ⟨s, hs, rfl, good, k⟩ := h
  refine ⟨_, rfl, _, rfl, ?_⟩
  refine ⟨_, _, rfl, s, hs, rfl, good, fun H1 le s1 hle hes => ?_⟩
  have ok := good.line
  have htot := ok.total
  have hln := ok.len
  generalize hE : s.line = es at *
  refine ⟨_, rfl, ?_⟩
  refine ⟨_, rfl, le, es, rfl, hes, ok, fun H2 ln s2 hln0 hfi => ?_⟩
  refine ⟨Nat.zero_le _, fun fo hfo => ?_⟩
  have s3 := same_new (o := .lst []) hfo
  obtain ⟨evs, he1, he2⟩ := hes
  have hel : evs.length = es.length := by rw [he2.len, List.length_map]
  have s23 := s2.trans s3
  have s13 := s1.trans s23
  have hfo0 : H fo = none := none_of_same (s1.trans s2) hfo
  have hfo1 : H1 fo = none := none_of_same s2 hfo
  refine ⟨_, rfl, le, evs, rfl, SqL.of (s23.on he1), ?_⟩
  refine for_it (walk_enum (xs := evs)) (fun i σ H' => ∃ c5 c6 c7 vs, σ = [some v0, some (.str s.name), some (.ref le), some (.ref ln), some (.ref fo), c5, c6, c7] ∧ Same H2 H' ∧ H' fo = some (.lst vs) ∧ All2 (LVx fo H H') vs (nextsUp es i))
    ⟨_, _, _, [], rfl, s3, upd_same, .nil⟩ ?_ ?_ ?_
  · rintro i σ H' _ ⟨c5, c6, c7, vs, rfl, s', _⟩
    exact SqL.of ((s2.trans s').on he1)
  · rintro i v σ H3 H4 hi ⟨c5, c6, c7, vs, rfl, s', hf, av⟩ ⟨t, x, y, rfl, ht, rfl, hx, hy⟩
    cases hx
    have hil : i < es.length := by omega
    have ee : es[i]? = some es[i] := List.getElem?_eq_getElem hil
    have st := same_new (o := .tup [.int (i : Nat), y]) ht
    have s4 := s'.trans st
    refine ⟨t, _, rfl, SqT.of upd_same, rfl, _, _, rfl, _, _, rfl, rfl, ?_⟩
    have k1 : ((firstsOf es).map natV)[i]? = some (natV (pre es i)) := by rw [List.getElem?_map, firstsOf_get (by omega)]; rfl
    have k2 : ((firstsOf es).map natV)[i + 1]? = some (natV (pre es (i + 1))) := by rw [List.getElem?_map, firstsOf_get (by omega)]; rfl
    have p1 := pre_le_total es i
    have p2 := pre_le_total es (i + 1)
    have ps := pre_succ ee
    refine ⟨_, rfl, _, rfl, _, _, _, _, rfl, rfl, SqL.of (s4.on hfi), atI_nat (j := i) (k1), ?_⟩
    refine ⟨_, rfl, _, rfl, _, _, rfl, rfl, _, _, _, _, rfl, rfl, SqL.of (s4.on hfi), atI_nat (j := i + 1) k2, ?_⟩
    have en : ((pre es (i + 1) : Int) - (pre es i : Int)).toNat = (es[i]).n := by omega
    refine ⟨(pre es i : Nat), (pre es (i + 1) : Nat), rfl, ⟨by omega, by omega, by omega, by omega⟩, ?_⟩
    rw [en]
    refine for_it (walk_range (lo := ((pre es i : Nat) : Int)) (n := (es[i]).n)) (fun j σ H' => ∃ c7 vs, σ = [some v0, some (.str s.name), some (.ref le), some (.ref ln), some (.ref fo), some (.int (i : Nat)), some y, c7] ∧ Same H2 H' ∧ H' fo = some (.lst vs) ∧ All2 (LVx fo H H') vs (nextsUp es i ++ (nextsBar es i es[i]).take j))
      ⟨_, vs, rfl, s4, st.on hf, by rw [List.take_zero, List.append_nil]; exact av.mono fun v gs ⟨q, e, hn, hz, h⟩ => ⟨q, e, hn, hz, st.on h⟩⟩ (fun _ _ _ _ _ => trivial) ?_ ?_
    · rintro j v σ H4 H5 hj ⟨c7, vs, rfl, s5, hf5, av5⟩ ⟨rfl, rfl⟩
      have hvl : vs.length < sizeLine := by
        have h1 := av5.len
        rw [List.length_append, nextsUp_len i (by omega), List.length_take, nextsBar, List.length_map, List.length_range] at h1
        rw [sizeLine_eq]
        omega
      have hb : (nextsBar es i es[i])[j]? = some (if j + 1 < (es[i]).n then [pre es i + j + 1] else ledOf es (i + 1)) := by
        rw [nextsBar, List.getElem?_map, List.getElem?_range hj]
        rfl
      have fin : ∀ {H6 : Hp} {q : Addr} {gs : List Nat}, Same H5 H6 → H6 q = some (.lst (gs.map natV)) → q ≠ fo → H q = none → gs = (if j + 1 < (es[i]).n then [pre es i + j + 1] else ledOf es (i + 1)) →
          Same H2 (upd H6 fo (.lst (vs ++ [.ref q]))) ∧ (upd H6 fo (.lst (vs ++ [.ref q]))) fo = some (.lst (vs ++ [.ref q])) ∧ All2 (LVx fo H (upd H6 fo (.lst (vs ++ [.ref q])))) (vs ++ [.ref q]) (nextsUp es i ++ (nextsBar es i es[i]).take (j + 1)) := by
        intro H6 q gs s6 hq hne hz0 eg
        refine ⟨same_up (s5.trans s6) hfo, upd_same, ?_⟩
        rw [take_succ hb, ← List.append_assoc]
        have h8 : (upd H6 fo (.lst (vs ++ [.ref q]))) q = some (.lst ((if j + 1 < (es[i]).n then [pre es i + j + 1] else ledOf es (i + 1)).map natV)) := by rw [upd_ne hne, ← eg]; exact hq
        exact All2.app (av5.mono fun v gs ⟨q', e, hn, hz, h⟩ => ⟨q', e, hn, hz, by rw [upd_ne hn]; exact s6.on h⟩) (.cons ⟨q, rfl, hne, hz0, h8⟩ .nil)
      refine ⟨_, rfl, _, _, rfl, rfl, _, rfl, _, rfl, _, _, rfl, rfl, _, _, _, _, rfl, rfl, SqL.of (s5.on hfi), atI_nat (j := i + 1) k2, ?_⟩
      refine ⟨_, _, rfl, rfl, _, rfl, ?_⟩
      by_cases c : j + 1 < (es[i]).n
      · refine itT (dT (by omega)) ?_
        refine ⟨_, rfl, .inl ⟨rfl, _, SqL.of hf5⟩, ?_⟩
        refine ⟨_, rfl, _, _, rfl, rfl, (by show 1 ≤ sizeLine; decide), fun q hq => ?_⟩
        have hqf : q ≠ fo := fun e => by rw [e, hf5] at hq; cases hq
        refine ⟨fo, vs, _, rfl, rfl, (same_new hq).on hf5, hvl, ?_⟩
        refine ⟨_, vs ++ [.ref q], rfl, fin (gs := [pre es i + j + 1]) (same_new hq) ?_ hqf (none_of_same (s1.trans (s2.trans s5)) hq) (by rw [if_pos c])⟩
        rw [upd_same]
        have e1 : ((pre es i : Nat) : Int) + (j : Nat) + 1 = ((pre es i + j + 1 : Nat) : Int) := by omega
        show some (HO.lst [V.int (((pre es i : Nat) : Int) + (j : Nat) + 1)]) = _
        rw [e1]
        rfl
      · refine itF (dF (by omega)) ?_
        refine ⟨_, rfl, .inl ⟨rfl, _, SqL.of hf5⟩, ?_⟩
        refine ⟨_, rfl, _, rfl, _, rfl, _, _, rfl, rfl, ?_⟩
        have e1 : (i : Int) + 1 = ((i + 1 : Nat) : Int) := by omega
        have s25 := s2.trans s5
        refine ⟨_, _, _, rfl, le, ln, es, i + 1, rfl, rfl, by rw [← e1], ⟨evs, s25.on he1, he2.mono s25.tk⟩, s5.on hfi, ok, by omega, fun H6 q s6 hq hlq => ?_⟩
        have hqf : q ≠ fo := fun e => by rw [e, hf5] at hq; cases hq
        refine ⟨fo, vs, _, rfl, rfl, s6.on hf5, hvl, ?_⟩
        exact ⟨_, vs ++ [.ref q], rfl, fin s6 hlq hqf (none_of_same (s1.trans s25) hq) (by rw [if_neg c])⟩
    · rintro σ H4 ⟨c7, vs, rfl, s5, hf5, av5⟩
      refine ⟨_, _, _, vs, rfl, s5, hf5, ?_⟩
      have e1 : nextsUp es (i + 1) = nextsUp es i ++ nextsBar es i es[i] := by rw [nextsUp, ee]
      rw [e1]
      have e2 : (nextsBar es i es[i]).take (es[i]).n = nextsBar es i es[i] := by
        have e3 : (nextsBar es i es[i]).length = (es[i]).n := by rw [nextsBar, List.length_map, List.length_range]
        rw [← e3, List.take_length]
      rw [e2] at av5
      exact av5
  · rintro σ H3 ⟨c5, c6, c7, vs, rfl, s', hf, av⟩
    rw [hel] at av
    refine ⟨_, rfl, k H3 fo ((s1.trans s2).trans s') hfo0 ⟨vs, hf, ?_⟩⟩
    exact av.mono fun v gs ⟨q, e, _, hz, h⟩ => ⟨q, e, hz, h⟩
end
end MC
set_option Elab.async false
set_option linter.all false
set_option maxRecDepth 100000
set_option maxHeartbeats 4000000
namespace MC
open PySem PySem.Spec PyProof.Rows L2
/-! ### the costs of hearing, as plain lists -/
abbrev Note := List Int × Frac
def noteD (n : Note) : PyData := .tuple [iD n.1, fD n.2]
inductive Stp where
  | hear (n v : Nat)
  | miss (v : Nat)
  | more (n : Nat)
  deriving DecidableEq
def Stp.d : Stp → PyData
  | .hear n v => .tuple [.str "hear", .int (n : Nat), .int (v : Nat)]
  | .miss v => .tuple [.str "miss", .int (v : Nat)]
  | .more n => .tuple [.str "more", .int (n : Nat)]
abbrev Cell := Int × Option (Stp × Nat)
def cellD : Option (Stp × Nat) → PyData
  | none => .none
  | some (s, v) => .tuple [s.d, .int (v : Nat)]
abbrev Row := List Cell
def cst (r : Row) (g : Nat) : Int := match r[g]? with
  | some c => c.1
  | none => 0
def priceOf (n : Note) (t : Nt) : Int := (if n.1 = t.ps then 0 else 1) + if n.2 = t.len then 0 else 1
/-- a problem: things, what comes after each, notes -/
structure Pb where
  things : List Nt
  after : List (List Nat)
  notes : List Note
def Pb.N (P : Pb) : Nat := P.things.length
def Pb.price (P : Pb) (k v : Nat) : Int := match P.notes[k]?, P.things[v]? with
  | some n, some t => priceOf n t
  | _, _ => 0
def Pb.nx (P : Pb) (v : Nat) : List Nat := (P.after[v]?).getD []
structure PbOk (P : Pb) : Prop where
  len : P.after.length = P.N
  goal : ∀ v g, g ∈ P.nx v → g ≤ P.N
  n : P.N ≤ 80000
  l : P.notes.length ≤ 40
  a : ∀ v, (P.nx v).length ≤ 80001
def relax (r : Row) (g : Nat) (c : Int) (s : Stp × Nat) : Row := if c < cst r g then r.set g (c, some s) else r
def relaxAll (c : Int) (s : Stp × Nat) : List Nat → Row → Row
  | [], r => r
  | g :: gs, r => relaxAll c s gs (relax r g c s)
def startRow (k : Nat) (b : Row) : Row := (List.range b.length).map fun v => (cst b v + 2, some (.more k, v))
def hearUp (P : Pb) (k : Nat) (b : Row) : Nat → Row
  | 0 => startRow k b
  | v + 1 => relaxAll (cst b v + P.price k v) (.hear k v, v) (P.nx v) (hearUp P k b v)
def hearRow (P : Pb) (k : Nat) (b : Row) : Row := hearUp P k b P.N
abbrev MS := Row × List Nat
def missGoals (N v : Nat) : List Nat → MS → MS
  | [], x => x
  | g :: gs, (r, w) => missGoals N v gs (if cst r v + 2 < cst r g then (r.set g (cst r v + 2, some (.miss v, v)), if g < N then w ++ [g] else w) else (r, w))
def missStep (P : Pb) (x : MS) : MS := match x.2.getLast? with
  | none => x
  | some v => missGoals P.N v (P.nx v) (x.1, x.2.dropLast)
def iter {α : Type} (f : α → α) : Nat → α → α
  | 0, a => a
  | k + 1, a => iter f k (f a)
theorem iter_succ {α : Type} (f : α → α) : ∀ k a, iter f (k + 1) a = f (iter f k a)
  | 0, a => rfl
  | k + 1, a => by
    show iter f (k + 1) (f a) = _
    rw [iter_succ f k (f a)]
    rfl
theorem iter_fix {α : Type} {f : α → α} {a : α} (h : f a = a) : ∀ k, iter f k a = a
  | 0 => rfl
  | k + 1 => by rw [iter_succ, iter_fix h k, h]
theorem iter_add {α : Type} (f : α → α) : ∀ j k a, iter f (j + k) a = iter f k (iter f j a)
  | 0, k, a => by rw [Nat.zero_add]; rfl
  | j + 1, k, a => by
    rw [Nat.succ_add]
    show iter f (j + k) (f a) = _
    rw [iter_add f j k (f a)]
    rfl
noncomputable section
open Classical
/-- go on until it is over -/
def runF {α : Type} (fin : α → Prop) (f : α → α) (a : α) : α := if h : ∃ k, fin (iter f k a) then iter f (Classical.choose h) a else a
theorem runF_eq {α : Type} {fin : α → Prop} {f : α → α} (hf : ∀ x, fin x → f x = x) {a b : α} {k : Nat} (h : iter f k a = b) (hb : fin b) : runF fin f a = b := by
  have h0 : ∃ k, fin (iter f k a) := ⟨k, by rw [h]; exact hb⟩
  have h1 := Classical.choose_spec h0
  unfold runF
  rw [dif_pos h0]
  generalize Classical.choose h0 = m at h1 ⊢
  rcases Nat.le_total m k with l | l
  · obtain ⟨d, rfl⟩ := Nat.exists_eq_add_of_le l
    rw [iter_add, iter_fix (hf _ h1)] at h
    exact h
  · obtain ⟨d, rfl⟩ := Nat.exists_eq_add_of_le l
    rw [iter_add, h, iter_fix (hf _ hb)]
def missOf (P : Pb) (r : Row) : Row := (runF (fun x : MS => x.2 = []) (missStep P) (r, List.range P.N)).1
def addRow (P : Pb) (k : Nat) (b : Row) : Row := missOf P (hearRow P k b)
def row0 (P : Pb) : Row := List.replicate (P.N + 1) (0, none)
def rowAt (P : Pb) : Nat → Row
  | 0 => row0 P
  | k + 1 => addRow P k (rowAt P k)
end
theorem missStep_fix {P : Pb} (x : MS) (h : x.2 = []) : missStep P x = x := by
  unfold missStep
  rw [h]
  rfl
/-! ### cells -/
theorem cst_get {r : Row} {g : Nat} {c : Cell} (h : r[g]? = some c) : cst r g = c.1 := by rw [cst, h]
theorem cst_set {r : Row} {g : Nat} {c : Cell} (h : g < r.length) (j : Nat) : cst (r.set g c) j = if g = j then c.1 else cst r j := by
  unfold cst
  rw [List.getElem?_set]
  by_cases e : g = j
  · rw [if_pos e, if_pos e, if_pos h]
  · rw [if_neg e, if_neg e]
/-- why a cell of row k + 1 costs what it costs -/
inductive Just (P : Pb) (k : Nat) (b r : Row) (g : Nat) : Cell → Prop
  | more : Just P k b r g (cst b g + 2, some (.more k, g))
  | hear {v : Nat} : v < P.N → g ∈ P.nx v → Just P k b r g (cst b v + P.price k v, some (.hear k v, v))
  | miss {v : Nat} {c : Int} : v < P.N → g ∈ P.nx v → cst r v + 2 ≤ c → Just P k b r g (c, some (.miss v, v))
theorem Just.mono {P : Pb} {k : Nat} {b r r' : Row} {g : Nat} {c : Cell} (h : Just P k b r g c) (l : ∀ v, cst r' v ≤ cst r v) : Just P k b r' g c := by
  cases h with
  | more => exact .more
  | hear h1 h2 => exact .hear h1 h2
  | miss h1 h2 h3 => exact .miss h1 h2 (Int.le_trans (Int.add_le_add_right (l _) _) h3)
/-- a row in the making -/
structure RowI (P : Pb) (k : Nat) (b r : Row) : Prop where
  len : r.length = P.N + 1
  nn : ∀ g, 0 ≤ cst r g
  just : ∀ g c, r[g]? = some c → Just P k b r g c
  more : ∀ g, g ≤ P.N → cst r g ≤ cst b g + 2
theorem RowI.set {P : Pb} {k : Nat} {b r : Row} (h : RowI P k b r) {g : Nat} {c : Int} {s : Stp × Nat} (hg : g ≤ P.N) (hc : c < cst r g) (c0 : 0 ≤ c) (j : ∀ r', (∀ v, cst r' v ≤ cst r v) → Just P k b r' g (c, some s)) :
    RowI P k b (r.set g (c, some s)) ∧ ∀ v, cst (r.set g (c, some s)) v ≤ cst r v := by
  have hl : g < r.length := by rw [h.len]; omega
  have le : ∀ v, cst (r.set g (c, some s)) v ≤ cst r v := fun v => by
    rw [cst_set hl]
    by_cases e : g = v
    · rw [if_pos e]; subst e; exact Int.le_of_lt hc
    · rw [if_neg e]; exact Int.le_refl _
  refine ⟨⟨by rw [List.length_set]; exact h.len, fun v => ?_, fun v c' hv => ?_, fun v hv => Int.le_trans (le v) (h.more v hv)⟩, le⟩
  · rw [cst_set hl]
    by_cases e : g = v
    · rw [if_pos e]; exact c0
    · rw [if_neg e]; exact h.nn v
  · rw [List.getElem?_set] at hv
    by_cases e : g = v
    · rw [if_pos e, if_pos hl] at hv
      cases hv
      subst e
      exact j _ le
    · rw [if_neg e] at hv
      exact (h.just v c' hv).mono le
theorem relax_I {P : Pb} {k : Nat} {b r : Row} (h : RowI P k b r) {g : Nat} {c : Int} {s : Stp × Nat} (hg : g ≤ P.N) (c0 : 0 ≤ c) (j : ∀ r', Just P k b r' g (c, some s)) :
    RowI P k b (relax r g c s) ∧ (∀ v, cst (relax r g c s) v ≤ cst r v) ∧ cst (relax r g c s) g ≤ c := by
  unfold relax
  by_cases e : c < cst r g
  · rw [if_pos e]
    obtain ⟨h1, h2⟩ := h.set hg e c0 fun r' _ => j r'
    refine ⟨h1, h2, ?_⟩
    rw [cst_set (by rw [h.len]; omega), if_pos rfl]
    exact Int.le_refl _
  · rw [if_neg e]
    exact ⟨h, fun v => Int.le_refl _, by omega⟩
theorem relaxAll_I {P : Pb} {k : Nat} {b : Row} {c : Int} {s : Stp × Nat} (c0 : 0 ≤ c) : ∀ (gs : List Nat) {r : Row}, RowI P k b r → (∀ g ∈ gs, g ≤ P.N ∧ ∀ r', Just P k b r' g (c, some s)) →
    RowI P k b (relaxAll c s gs r) ∧ (∀ v, cst (relaxAll c s gs r) v ≤ cst r v) ∧ ∀ g ∈ gs, cst (relaxAll c s gs r) g ≤ c
  | [], r, h, _ => ⟨h, fun v => Int.le_refl _, fun g hg => absurd hg (List.not_mem_nil)⟩
  | g :: gs, r, h, hj => by
    obtain ⟨h1, h2, h3⟩ := relax_I h (hj g (List.mem_cons_self ..)).1 c0 (hj g (List.mem_cons_self ..)).2
    obtain ⟨h4, h5, h6⟩ := relaxAll_I c0 gs h1 fun x hx => hj x (List.mem_cons_of_mem _ hx)
    refine ⟨h4, fun v => Int.le_trans (h5 v) (h2 v), fun x hx => ?_⟩
    rcases List.mem_cons.mp hx with rfl | hx
    · exact Int.le_trans (h5 x) h3
    · exact h6 x hx
theorem priceOf_nn (n : Note) (t : Nt) : 0 ≤ priceOf n t ∧ priceOf n t ≤ 2 := by
  unfold priceOf
  split <;> split <;> omega
theorem price_nn (P : Pb) (k v : Nat) : 0 ≤ P.price k v := by
  unfold Pb.price
  split
  · exact (priceOf_nn _ _).1
  · exact Int.le_refl _
/-- a row behind: length, costs not below nought -/
structure BackI (P : Pb) (b : Row) : Prop where
  len : b.length = P.N + 1
  nn : ∀ g, 0 ≤ cst b g
theorem start_get {k : Nat} {b : Row} {g : Nat} (h : g < b.length) : (startRow k b)[g]? = some (cst b g + 2, some (.more k, g)) := by
  rw [startRow, List.getElem?_map, List.getElem?_range h]
  rfl
theorem start_I {P : Pb} {k : Nat} {b : Row} (h : BackI P b) : RowI P k b (startRow k b) := by
  have hl : (startRow k b).length = P.N + 1 := by rw [startRow, List.length_map, List.length_range, h.len]
  refine ⟨hl, fun g => ?_, fun g c hc => ?_, fun g hg => ?_⟩
  · by_cases e : g < b.length
    · rw [cst_get (start_get e)]
      have := h.nn g
      show 0 ≤ cst b g + 2
      omega
    · unfold cst
      rw [List.getElem?_eq_none (by rw [hl, ← h.len]; omega)]
      exact Int.le_refl _
  · have e : g < b.length := by
      rw [h.len, ← hl]
      exact (List.getElem?_eq_some_iff.mp hc).1
    rw [start_get e] at hc
    cases hc
    exact .more
  · rw [cst_get (start_get (by rw [h.len]; omega))]
    exact Int.le_refl _
theorem nx_lt {P : Pb} (ok : PbOk P) {v g : Nat} (h : g ∈ P.nx v) : v < P.N := by
  rw [← ok.len]
  unfold Pb.nx at h
  cases e : P.after[v]? with
  | none => rw [e] at h; cases h
  | some gs => exact (List.getElem?_eq_some_iff.mp e).1
theorem hearUp_I {P : Pb} (ok : PbOk P) {k : Nat} {b : Row} (h : BackI P b) : ∀ u, RowI P k b (hearUp P k b u) ∧ ∀ v < u, ∀ g ∈ P.nx v, cst (hearUp P k b u) g ≤ cst b v + P.price k v
  | 0 => ⟨start_I h, fun v hv => absurd hv (Nat.not_lt_zero _)⟩
  | u + 1 => by
    obtain ⟨h1, h2⟩ := hearUp_I ok h u
    have c0 : 0 ≤ cst b u + P.price k u := Int.add_nonneg (h.nn u) (price_nn P k u)
    obtain ⟨h3, h4, h5⟩ := relaxAll_I (s := (.hear k u, u)) c0 (P.nx u) h1 fun g hg => ⟨ok.goal u g hg, fun r' => .hear (nx_lt ok hg) hg⟩
    refine ⟨h3, fun v hv g hg => ?_⟩
    show cst (relaxAll _ _ _ _) g ≤ _
    by_cases e : v = u
    · subst e; exact h5 g hg
    · exact Int.le_trans (h4 g) (h2 v (by omega) g hg)
/-! ### misses -/
def sumC (r : Row) : Nat := (r.map fun c => c.1.toNat).sum
theorem sumC_set : ∀ {r : Row} {g : Nat} {c : Cell}, g < r.length → sumC (r.set g c) + (cst r g).toNat = sumC r + c.1.toNat
  | a :: r, 0, c, _ => by
    show (c.1.toNat + sumC r) + a.1.toNat = (a.1.toNat + sumC r) + c.1.toNat
    omega
  | a :: r, g + 1, c, h => by
    have ih := sumC_set (r := r) (g := g) (c := c) (by simpa using h)
    have e : cst (a :: r) (g + 1) = cst r g := by unfold cst; simp
    rw [e]
    show (a.1.toNat + sumC (r.set g c)) + _ = (a.1.toNat + sumC r) + _
    omega
def muM (x : MS) : Nat := sumC x.1 + x.2.length
/-- while the goals of v are gone through -/
structure MidI (P : Pb) (k : Nat) (b : Row) (v : Nat) (r0 : Row) (x : MS) : Prop where
  I : RowI P k b x.1
  le : ∀ u, cst x.1 u ≤ cst r0 u
  v : cst x.1 v = cst r0 v
  w : ∀ u ∈ x.2, u < P.N
  c : ∀ u, u < P.N → u ∉ x.2 → cst x.1 u = cst r0 u
theorem missGoals_I {P : Pb} (ok : PbOk P) {k : Nat} {b : Row} {v : Nat} (hv : v < P.N) {r0 : Row} : ∀ (gs : List Nat), (∀ g ∈ gs, g ∈ P.nx v) → ∀ x : MS, MidI P k b v r0 x →
    MidI P k b v r0 (missGoals P.N v gs x) ∧ (∀ u, cst (missGoals P.N v gs x).1 u ≤ cst x.1 u) ∧ (∀ u ∈ x.2, u ∈ (missGoals P.N v gs x).2) ∧ (∀ g ∈ gs, cst (missGoals P.N v gs x).1 g ≤ cst r0 v + 2) ∧ muM (missGoals P.N v gs x) ≤ muM x
  | [], _, x, h => ⟨h, fun _ => Int.le_refl _, fun _ h => h, fun _ h => absurd h (List.not_mem_nil), Nat.le_refl _⟩
  | g :: gs, hgs, (r, w), h => by
    have hg := hgs g (List.mem_cons_self ..)
    have hgN := ok.goal v g hg
    have hI : RowI P k b r := h.I
    rw [missGoals]
    by_cases c : cst r v + 2 < cst r g
    · rw [if_pos c]
      have hl : g < r.length := by rw [hI.len]; omega
      have gv : g ≠ v := fun e => by rw [e] at c; omega
      obtain ⟨h1, h2⟩ := hI.set (s := (.miss v, v)) hgN c (by have := hI.nn v; omega) fun r' hr' => .miss hv hg (Int.add_le_add_right (hr' v) 2)
      have hm : MidI P k b v r0 (r.set g (cst r v + 2, some (.miss v, v)), if g < P.N then w ++ [g] else w) := by
        refine ⟨h1, fun u => Int.le_trans (h2 u) (h.le u), ?_, fun u hu => ?_, fun u hu hn => ?_⟩
        · show cst (r.set g _) v = _
          rw [cst_set hl, if_neg gv]; exact h.v
        · by_cases e : g < P.N
          · rw [show (if g < P.N then w ++ [g] else w) = w ++ [g] from if_pos e] at hu
            rcases List.mem_append.mp hu with hu | hu
            · exact h.w u hu
            · rw [List.mem_singleton.mp hu]; exact e
          · rw [show (if g < P.N then w ++ [g] else w) = w from if_neg e] at hu
            exact h.w u hu
        · show cst (r.set g _) u = _
          have gu : g ≠ u := fun e => by
            subst e
            exact hn (by show g ∈ (if g < P.N then w ++ [g] else w); rw [if_pos hu]; simp)
          rw [cst_set hl, if_neg gu]
          refine h.c u hu fun m => hn ?_
          show u ∈ (if g < P.N then w ++ [g] else w)
          split
          · simp [m]
          · exact m
      obtain ⟨q1, q2, q3, q4, q5⟩ := missGoals_I ok hv gs (fun x hx => hgs x (List.mem_cons_of_mem _ hx)) _ hm
      refine ⟨q1, fun u => Int.le_trans (q2 u) (h2 u), fun u hu => q3 u ?_, fun x hx => ?_, Nat.le_trans q5 ?_⟩
      · show u ∈ (if g < P.N then w ++ [g] else w)
        have hu : u ∈ w := hu
        split
        · simp [hu]
        · exact hu
      · rcases List.mem_cons.mp hx with rfl | hx
        · refine Int.le_trans (q2 x) ?_
          show cst (r.set x _) x ≤ _
          rw [cst_set hl, if_pos rfl]
          have hv' : cst r v = cst r0 v := h.v
          show cst r v + 2 ≤ cst r0 v + 2
          rw [hv']
          exact Int.le_refl _
        · exact q4 x hx
      · show sumC (r.set g _) + (if g < P.N then w ++ [g] else w).length ≤ sumC r + w.length
        have e1 := sumC_set (r := r) (g := g) (c := (cst r v + 2, some (.miss v, v))) hl
        have e2 : (if g < P.N then w ++ [g] else w).length ≤ w.length + 1 := by
          split
          · rw [List.length_append]; exact Nat.le_refl _
          · exact Nat.le_succ _
        have e3 := hI.nn v
        have e4 : (cst r v + 2, some ((Stp.miss v, v) : Stp × Nat)).1.toNat < (cst r g).toNat := by
          show (cst r v + 2).toNat < _
          omega
        omega
    · rw [if_neg c]
      obtain ⟨q1, q2, q3, q4, q5⟩ := missGoals_I ok hv gs (fun x hx => hgs x (List.mem_cons_of_mem _ hx)) _ h
      refine ⟨q1, q2, q3, fun x hx => ?_, q5⟩
      rcases List.mem_cons.mp hx with rfl | hx
      · refine Int.le_trans (q2 x) ?_
        have hv' : cst r v = cst r0 v := h.v
        show cst r x ≤ _
        rw [← hv']
        omega
      · exact q4 x hx
/-- between two steps -/
structure MissI (P : Pb) (k : Nat) (b : Row) (r0 : Row) (x : MS) : Prop where
  I : RowI P k b x.1
  w : ∀ u ∈ x.2, u < P.N
  le : ∀ u, cst x.1 u ≤ cst r0 u
  f : ∀ u, u < P.N → u ∉ x.2 → ∀ g ∈ P.nx u, cst x.1 g ≤ cst x.1 u + 2
theorem missStep_I {P : Pb} (ok : PbOk P) {k : Nat} {b r0 : Row} {x : MS} (h : MissI P k b r0 x) : MissI P k b r0 (missStep P x) ∧ (x.2 ≠ [] → muM (missStep P x) < muM x) := by
  obtain ⟨r, w⟩ := x
  unfold missStep
  cases e : w.getLast? with
  | none =>
    have : w = [] := List.getLast?_eq_none_iff.mp e
    subst this
    exact ⟨h, fun z => absurd rfl z⟩
  | some v =>
    have hne : w ≠ [] := fun z => by rw [z] at e; cases e
    have ew : w = w.dropLast ++ [v] := by
      obtain ⟨ys, rfl⟩ := List.getLast?_eq_some_iff.mp e
      simp
    have hvw : v ∈ w := List.mem_of_getLast? e
    have hv : v < P.N := h.w v hvw
    have hm : MidI P k b v r (r, w.dropLast) := ⟨h.I, fun _ => Int.le_refl _, rfl, fun u hu => h.w u (List.dropLast_subset _ hu), fun _ _ _ => rfl⟩
    obtain ⟨q1, q2, q3, q4, q5⟩ := missGoals_I ok hv (P.nx v) (fun _ h => h) _ hm
    refine ⟨⟨q1.I, q1.w, fun u => Int.le_trans (q2 u) (h.le u), fun u hu hn g hg => ?_⟩, fun _ => Nat.lt_of_le_of_lt q5 ?_⟩
    · by_cases c : u = v
      · subst c
        rw [q1.v]
        exact q4 g hg
      · have hn1 : u ∉ w := fun z => by
          rw [ew] at z
          rcases List.mem_append.mp z with z | z
          · exact hn (q3 u z)
          · exact c (List.mem_singleton.mp z)
        have h1 := h.f u hu hn1 g hg
        have h2 := q1.c u hu hn
        show cst (missGoals _ _ _ _).1 g ≤ cst (missGoals _ _ _ _).1 u + 2
        rw [h2]
        exact Int.le_trans (q2 g) h1
    · show sumC r + w.dropLast.length < sumC r + w.length
      have : 0 < w.length := List.length_pos_iff.mpr hne
      rw [List.length_dropLast]
      omega
theorem miss_end {P : Pb} (ok : PbOk P) {k : Nat} {b r0 : Row} : ∀ (m : Nat) (x : MS), muM x ≤ m → MissI P k b r0 x → ∃ j, (iter (missStep P) j x).2 = [] ∧ MissI P k b r0 (iter (missStep P) j x)
  | m, x, hm, h => by
    by_cases e : x.2 = []
    · exact ⟨0, e, h⟩
    · have h1 := missStep_I ok h
      have h2 := h1.2 e
      cases m with
      | zero => omega
      | succ m =>
        obtain ⟨j, h3, h4⟩ := miss_end ok m (missStep P x) (by omega) h1.1
        exact ⟨j + 1, h3, h4⟩
theorem miss_start {P : Pb} {k : Nat} {b r : Row} (h : RowI P k b r) : MissI P k b r (r, List.range P.N) :=
  ⟨h, fun u hu => List.mem_range.mp hu, fun _ => Int.le_refl _, fun u hu hn => absurd (List.mem_range.mpr hu) hn⟩
theorem missOf_I {P : Pb} (ok : PbOk P) {k : Nat} {b r : Row} (h : RowI P k b r) : MissI P k b r (missOf P r, []) := by
  obtain ⟨j, h1, h2⟩ := miss_end ok (muM (r, List.range P.N)) _ (Nat.le_refl _) (miss_start h)
  have e : runF (fun x : MS => x.2 = []) (missStep P) (r, List.range P.N) = iter (missStep P) j (r, List.range P.N) := runF_eq (fun x hx => missStep_fix x hx) rfl h1
  have e2 : (missOf P r, []) = iter (missStep P) j (r, List.range P.N) := by
    rw [missOf, e]
    exact Prod.ext rfl h1.symm
  rw [e2]
  exact h2
/-! ### the rows -/
structure GoodRow (P : Pb) (k : Nat) : Prop where
  I : RowI P k (rowAt P k) (rowAt P (k + 1))
  fair : ∀ v, v < P.N → ∀ g ∈ P.nx v, cst (rowAt P (k + 1)) g ≤ cst (rowAt P (k + 1)) v + 2
  heard : ∀ v, v < P.N → ∀ g ∈ P.nx v, cst (rowAt P (k + 1)) g ≤ cst (rowAt P k) v + P.price k v
theorem row0_get {P : Pb} {g : Nat} (h : g ≤ P.N) : (row0 P)[g]? = some (0, none) := by
  rw [row0, List.getElem?_replicate, if_pos (by omega)]
theorem cst_row0 (P : Pb) (g : Nat) : cst (row0 P) g = 0 := by
  by_cases h : g ≤ P.N
  · rw [cst_get (row0_get h)]
  · unfold cst
    rw [List.getElem?_eq_none (by rw [row0, List.length_replicate]; omega)]
theorem row_back {P : Pb} (ok : PbOk P) : ∀ k, BackI P (rowAt P k)
  | 0 => ⟨by show (row0 P).length = _; rw [row0, List.length_replicate], fun g => by show 0 ≤ cst (row0 P) g; rw [cst_row0]; exact Int.le_refl _⟩
  | k + 1 => by
    have h := missOf_I ok (hearUp_I ok (k := k) (row_back ok k) P.N).1
    exact ⟨h.I.len, h.I.nn⟩
theorem row_good {P : Pb} (ok : PbOk P) (k : Nat) : GoodRow P k := by
  obtain ⟨h1, h2⟩ := hearUp_I ok (k := k) (row_back ok k) P.N
  have h := missOf_I ok h1
  exact ⟨h.I, fun v hv g hg => h.f v hv (List.not_mem_nil) g hg, fun v hv g hg => Int.le_trans (h.le g) (h2 v hv g hg)⟩
theorem row_le {P : Pb} (ok : PbOk P) : ∀ k g, g ≤ P.N → cst (rowAt P k) g ≤ 2 * (k : Int)
  | 0, g, _ => by show cst (row0 P) g ≤ _; rw [cst_row0]; omega
  | k + 1, g, hg => by
    have h1 := (row_good ok k).I.more g hg
    have h2 := row_le ok k g hg
    omega
/-! ### the way back -/
structure WS where
  n : Nat
  g : Nat
  found : List Stp
noncomputable def stepOf (P : Pb) (n g : Nat) : Option (Stp × Nat) := match (rowAt P n)[g]? with
  | some c => c.2
  | none => none
def Stp.isMiss : Stp → Bool
  | .miss _ => true
  | _ => false
noncomputable def wayStep (P : Pb) (x : WS) : WS := match stepOf P x.n x.g with
  | none => x
  | some (s, v) => ⟨if s.isMiss = true then x.n else x.n - 1, v, x.found ++ [s]⟩
noncomputable def wayOf (P : Pb) (g : Nat) : List Stp := (runF (fun x : WS => stepOf P x.n x.g = none) (wayStep P) ⟨P.notes.length, g, []⟩).found
theorem wayStep_fix {P : Pb} (x : WS) (h : stepOf P x.n x.g = none) : wayStep P x = x := by
  unfold wayStep
  rw [h]
noncomputable def muW (P : Pb) (x : WS) : Nat := x.n * 83 + (cst (rowAt P x.n) x.g).toNat
theorem stepOf_0 {P : Pb} {g : Nat} : stepOf P 0 g = none := by
  unfold stepOf
  show (match (row0 P)[g]? with | some c => c.2 | none => none) = none
  by_cases h : g ≤ P.N
  · rw [row0_get h]
  · rw [List.getElem?_eq_none (by rw [row0, List.length_replicate]; omega)]
/-- a step back: where it leads -/
theorem step_just {P : Pb} (ok : PbOk P) {n g v : Nat} {s : Stp} (hg : g ≤ P.N) (h : stepOf P n g = some (s, v)) : ∃ k, n = k + 1 ∧ Just P k (rowAt P k) (rowAt P (k + 1)) g (cst (rowAt P (k + 1)) g, some (s, v)) := by
  cases n with
  | zero => rw [stepOf_0] at h; cases h
  | succ k =>
    refine ⟨k, rfl, ?_⟩
    unfold stepOf at h
    cases e : (rowAt P (k + 1))[g]? with
    | none => rw [e] at h; cases h
    | some c =>
      rw [e] at h
      have h : c.2 = some (s, v) := h
      have hj := (row_good ok k).I.just g c e
      rw [cst_get e, ← h]
      exact hj
theorem wayStep_mu {P : Pb} (ok : PbOk P) {x : WS} (hn : x.n ≤ 40) (hg : x.g ≤ P.N) (h : stepOf P x.n x.g ≠ none) : muW P (wayStep P x) < muW P x ∧ (wayStep P x).n ≤ 40 ∧ (wayStep P x).g ≤ P.N := by
  obtain ⟨n, g, f⟩ := x
  cases e : stepOf P n g with
  | none => exact absurd e h
  | some sv =>
    obtain ⟨s, v⟩ := sv
    have hg' : g ≤ P.N := hg
    have hn' : n ≤ 40 := hn
    obtain ⟨k, rfl, hj⟩ := step_just ok hg' e
    have ew : wayStep P ⟨k + 1, g, f⟩ = ⟨if s.isMiss = true then k + 1 else k + 1 - 1, v, f ++ [s]⟩ := by
      unfold wayStep
      show (match stepOf P (k + 1) g with | none => _ | some (s, v) => _) = _
      rw [e]
    rw [ew]
    have nn := (row_back ok (k + 1)).nn g
    have b1 := row_le ok (k + 1) g hg'
    generalize hcc : cst (rowAt P (k + 1)) g = cc at hj nn b1
    cases hj with
    | more =>
      have b2 := row_le ok k g hg'
      have b3 := (row_back ok k).nn g
      refine ⟨?_, by show k + 1 - 1 ≤ 40; omega, hg'⟩
      show (k + 1 - 1) * 83 + (cst (rowAt P (k + 1 - 1)) g).toNat < (k + 1) * 83 + (cst (rowAt P (k + 1)) g).toNat
      rw [Nat.add_sub_cancel]
      omega
    | hear h1 h2 =>
      have b2 := row_le ok k v (by omega)
      have b3 := (row_back ok k).nn v
      refine ⟨?_, by show k + 1 - 1 ≤ 40; omega, by show v ≤ P.N; omega⟩
      show (k + 1 - 1) * 83 + (cst (rowAt P (k + 1 - 1)) v).toNat < (k + 1) * 83 + (cst (rowAt P (k + 1)) g).toNat
      rw [Nat.add_sub_cancel]
      omega
    | miss h1 h2 h3 =>
      have b3 := (row_back ok (k + 1)).nn v
      refine ⟨?_, hn', by show v ≤ P.N; omega⟩
      show (k + 1) * 83 + (cst (rowAt P (k + 1)) v).toNat < (k + 1) * 83 + (cst (rowAt P (k + 1)) g).toNat
      omega
/-- at cost nought all are heard at price nought -/
theorem zero_way {P : Pb} (ok : PbOk P) : ∀ (n g : Nat) (f : List Stp), n ≤ 40 → g ≤ P.N → cst (rowAt P n) g = 0 →
    ∃ vs : List Nat, vs.length = n ∧ (∀ k v, vs[k]? = some v → v < P.N ∧ P.price k v = 0) ∧ (∀ k u v, vs[k]? = some u → vs[k + 1]? = some v → v ∈ P.nx u) ∧ (∀ u, vs.getLast? = some u → g ∈ P.nx u) ∧
      ∃ x, iter (wayStep P) n ⟨n, g, f⟩ = ⟨0, x, f ++ ((List.range n).map fun i => Stp.hear i (vs.getD i 0)).reverse⟩
  | 0, g, f, _, hg, h => ⟨[], rfl, fun k v h => by simp at h, fun k u v h => by simp at h, fun u h => by simp at h, g, by simp [iter]⟩
  | n + 1, g, f, hn, hg, h => by
    have hI := (row_good ok n).I
    have hgl : g < (rowAt P (n + 1)).length := by rw [hI.len]; omega
    have e : (rowAt P (n + 1))[g]? = some (rowAt P (n + 1))[g] := List.getElem?_eq_getElem hgl
    have hj := hI.just g _ e
    have e2 := cst_get e
    rw [h] at e2
    generalize hc : (rowAt P (n + 1))[g] = c at e hj e2
    cases hj with
    | more =>
      have b3 := (row_back ok n).nn g
      have : (0 : Int) = cst (rowAt P n) g + 2 := e2
      omega
    | miss h1 h2 h3 =>
      rename_i v c0
      have b3 := (row_back ok (n + 1)).nn v
      have : (0 : Int) = c0 := e2
      omega
    | hear h1 h2 =>
      rename_i v
      have b3 := (row_back ok n).nn v
      have b4 := price_nn P n v
      have b5 : (0 : Int) = cst (rowAt P n) v + P.price n v := e2
      obtain ⟨vs, l, q1, q2, q3, x, q4⟩ := zero_way ok n v (f ++ [.hear n v]) (by omega) (by omega) (by omega)
      refine ⟨vs ++ [v], by rw [List.length_append, l]; rfl, fun k u hu => ?_, fun k u u' hu hu' => ?_, fun u hu => ?_, x, ?_⟩
      · by_cases ck : k < n
        · rw [List.getElem?_append_left (by omega)] at hu
          exact q1 k u hu
        · have hk := (List.getElem?_eq_some_iff.mp hu).1
          rw [List.length_append] at hk
          have : k = n := by simp at hk; omega
          subst this
          rw [List.getElem?_append_right (by omega), l, Nat.sub_self] at hu
          simp at hu
          subst hu
          exact ⟨h1, by omega⟩
      · by_cases ck : k + 1 < n
        · rw [List.getElem?_append_left (by omega)] at hu hu'
          exact q2 k u u' hu hu'
        · have hk := (List.getElem?_eq_some_iff.mp hu').1
          rw [List.length_append] at hk
          have : k + 1 = n := by simp at hk; omega
          rw [List.getElem?_append_left (by omega)] at hu
          rw [List.getElem?_append_right (by omega), l, this, Nat.sub_self] at hu'
          simp at hu'
          subst hu'
          refine q3 u ?_
          rw [List.getLast?_eq_getElem?, l, ← this]
          exact hu
      · rw [List.getLast?_append] at hu
        simp at hu
        subst hu
        exact h2
      · show iter (wayStep P) n (wayStep P ⟨n + 1, g, f⟩) = _
        have ew : wayStep P ⟨n + 1, g, f⟩ = ⟨n, v, f ++ [.hear n v]⟩ := by
          unfold wayStep
          have : stepOf P (n + 1) g = some (.hear n v, v) := by unfold stepOf; rw [e]
          show (match stepOf P (n + 1) g with | none => _ | some (s, v) => _) = _
          rw [this]
          rfl
        rw [ew, q4, List.range_succ, List.map_append, List.reverse_append, List.append_assoc]
        have em : ((List.range n).map fun i => Stp.hear i ((vs ++ [v]).getD i 0)) = (List.range n).map fun i => Stp.hear i (vs.getD i 0) := by
          refine List.map_congr_left fun i hi => ?_
          have : i < vs.length := by rw [l]; exact List.mem_range.mp hi
          rw [List.getD_eq_getElem?_getD, List.getD_eq_getElem?_getD, List.getElem?_append_left this]
        rw [em]
        have ev : (vs ++ [v]).getD n 0 = v := by
          rw [List.getD_eq_getElem?_getD, List.getElem?_append_right (by omega), l, Nat.sub_self]
          rfl
        rw [List.map_singleton, ev]
        simp
theorem zero_wayOf {P : Pb} (ok : PbOk P) {g : Nat} (hg : g ≤ P.N) (h : cst (rowAt P P.notes.length) g = 0) : ∃ vs : List Nat, vs.length = P.notes.length ∧ (∀ k v, vs[k]? = some v → v < P.N ∧ P.price k v = 0) ∧ (∀ k u v, vs[k]? = some u → vs[k + 1]? = some v → v ∈ P.nx u) ∧
    (wayOf P g).reverse = (List.range P.notes.length).map fun i => Stp.hear i (vs.getD i 0) := by
  obtain ⟨vs, l, q1, q2, q3, x, q4⟩ := zero_way ok P.notes.length g [] ok.l hg h
  refine ⟨vs, l, q1, q2, ?_⟩
  rw [wayOf, runF_eq (fun x hx => wayStep_fix x hx) q4 stepOf_0]
  simp
/-- a path of things, its notes: cost nought -/
theorem path_zero {P : Pb} (ok : PbOk P) {vs : List Nat} (hl : vs.length = P.notes.length) (h1 : ∀ k v, vs[k]? = some v → v < P.N ∧ P.price k v = 0) (h2 : ∀ k u v, vs[k]? = some u → vs[k + 1]? = some v → v ∈ P.nx u) (h3 : ∀ v, v < P.N → P.nx v ≠ []) :
    ∃ g, g ≤ P.N ∧ cst (rowAt P P.notes.length) g = 0 := by
  have key : ∀ k v, vs[k]? = some v → cst (rowAt P k) v ≤ 0 := by
    intro k
    induction k with
    | zero => intro v _; show cst (row0 P) v ≤ 0; rw [cst_row0]; exact Int.le_refl _
    | succ k ih =>
      intro v hv
      have hk : k < vs.length := by
        have := (List.getElem?_eq_some_iff.mp hv).1
        omega
      have hu : vs[k]? = some vs[k] := List.getElem?_eq_getElem hk
      have q1 := h1 k _ hu
      have q2 := (row_good ok k).heard _ q1.1 v (h2 k _ v hu hv)
      have q3 := ih _ hu
      have q4 := q1.2
      omega
  cases e : P.notes.length with
  | zero => exact ⟨0, Nat.zero_le _, cst_row0 P 0⟩
  | succ n =>
    have hk : n < vs.length := by omega
    have hu : vs[n]? = some vs[n] := List.getElem?_eq_getElem hk
    have q1 := h1 n _ hu
    obtain ⟨g, hg⟩ := List.exists_mem_of_ne_nil _ (h3 _ q1.1)
    have q2 := (row_good ok n).heard _ q1.1 g hg
    have q3 := key n _ hu
    have q4 := q1.2
    have q5 := (row_back ok (n + 1)).nn g
    exact ⟨g, ok.goal _ g hg, by omega⟩
end MC
set_option Elab.async false
set_option linter.all false
set_option maxRecDepth 100000
set_option maxHeartbeats 4000000
namespace MC
open PySem PySem.Spec PyProof.Rows L2
/-- a while with a state of its own -/
theorem while_gh {α : Type} {c : TT} {tb : TS} {D : Ends} {σ : L2.St} {H : Hp} (Pv : α → L2.St → Hp → Prop) (μ : α → Nat) (a0 : α) (h0 : Pv a0 σ H)
    (hs : ∀ a σ H, Pv a σ H → c σ H fun b H1 => if b = true then ∃ N : L2.St → Hp → Prop, (∀ σ' H', N σ' H' → ∃ m', m' < μ a ∧ ∃ a', m' = μ a' ∧ Pv a' σ' H') ∧ tb { D with nx := N, ct := N, bk := D.nx } σ H1 else D.nx σ H1) : tWhile c tb D σ H := by
  refine ⟨fun m σ H => ∃ a, m = μ a ∧ Pv a σ H, ⟨_, a0, rfl, h0⟩, ?_⟩
  rintro m σ H ⟨a, rfl, p⟩
  exact hs a σ H p
/-- the heap as it is from now on, by what is known of it -/
theorem hgen {F : Hp → Prop} {H1 : Hp} (R : Hp → Prop) (r : R H1) (h : ∀ H, R H → F H) : F H1 := h H1 r
/-! ### the ledger in the heap -/
def rowC (r : Row) : List V := r.map fun c => V.int c.1
def rowS (r : Row) : List PyData := r.map fun c => cellD c.2
theorem rowC_set (r : Row) (g : Nat) (c : Cell) : rowC (r.set g c) = (rowC r).set g (.int c.1) := List.map_set ..
theorem rowS_set (r : Row) (g : Nat) (c : Cell) : rowS (r.set g c) = (rowS r).set g (cellD c.2) := List.map_set ..
theorem rowC_len (r : Row) : (rowC r).length = r.length := List.length_map _
theorem rowS_len (r : Row) : (rowS r).length = r.length := List.length_map _
theorem rowC_get {r : Row} {g : Nat} (h : g < r.length) : (rowC r)[g]? = some (.int (cst r g)) := by
  have e : r[g]? = some r[g] := List.getElem?_eq_getElem h
  rw [rowC, List.getElem?_map, e, cst_get e]
  rfl
def CVx (lc ls : Addr) (H : Hp) (v : V) (r : Row) : Prop := ∃ q, v = .ref q ∧ q ≠ lc ∧ q ≠ ls ∧ H q = some (.lst (rowC r))
def SVx (lc ls : Addr) (H : Hp) (v : V) (r : Row) : Prop := ∃ q us, v = .ref q ∧ q ≠ lc ∧ q ≠ ls ∧ H q = some (.lst us) ∧ RpA H us (rowS r)
structure LgAt (K : PySem.W.Frag) (H0 H : Hp) (d lt la ln lc ls : Addr) (P : Pb) (rows : List Row) : Prop where
  o : ∃ dx, H d = some (.ins (gA K "Ledger") dx [("things", .ref lt), ("after", .ref la), ("notes", .ref ln), ("costs", .ref lc), ("steps", .ref ls)])
  s : Same H0 H
  c0 : H0 lc = none
  s0 : H0 ls = none
  ne : lc ≠ ls
  t : ∃ tvs, H0 lt = some (.lst tvs) ∧ RpA H0 tvs (P.things.map Nt.d)
  a : LLAt H0 la P.after
  n : ∃ nvs, H0 ln = some (.lst nvs) ∧ RpA H0 nvs (P.notes.map noteD)
  c : ∃ cvs, H lc = some (.lst cvs) ∧ All2 (CVx lc ls H) cvs rows
  st : ∃ svs, H ls = some (.lst svs) ∧ All2 (SVx lc ls H) svs rows
section
variable {K : PySem.W.Frag} {H0 H H' : Hp} {d lt la ln lc ls : Addr} {P : Pb} {rows : List Row}
theorem CVx.same {v : V} {r : Row} (h : CVx lc ls H v r) (s : Same H H') : CVx lc ls H' v r := by
  obtain ⟨q, e, h1, h2, h3⟩ := h
  exact ⟨q, e, h1, h2, s.on h3⟩
theorem SVx.same {v : V} {r : Row} (h : SVx lc ls H v r) (s : Same H H') : SVx lc ls H' v r := by
  obtain ⟨q, us, e, h1, h2, h3, h4⟩ := h
  exact ⟨q, us, e, h1, h2, s.on h3, h4.mono s.tk⟩
theorem LgAt.same (L : LgAt K H0 H d lt la ln lc ls P rows) (s : Same H H') : LgAt K H0 H' d lt la ln lc ls P rows := by
  obtain ⟨⟨dx, o⟩, s1, c0, s0, ne, t, a, n, ⟨cvs, c1, c2⟩, ⟨svs, t1, t2⟩⟩ := L
  exact ⟨⟨dx, s.on o⟩, s1.trans s, c0, s0, ne, t, a, n, ⟨cvs, s.on c1, c2.mono fun _ _ h => h.same s⟩, ⟨svs, s.on t1, t2.mono fun _ _ h => h.same s⟩⟩
theorem LgAt.row (L : LgAt K H0 H d lt la ln lc ls P rows) {i : Nat} {r : Row} (h : rows[i]? = some r) : ∃ cvs q, H lc = some (.lst cvs) ∧ cvs[i]? = some (.ref q) ∧ H q = some (.lst (rowC r)) ∧ q ≠ lc ∧ q ≠ ls := by
  obtain ⟨cvs, h1, h2⟩ := L.c
  obtain ⟨v, h3, q, rfl, n1, n2, h4⟩ := h2.getR h
  exact ⟨cvs, q, h1, h3, h4, n1, n2⟩
theorem LgAt.srow (L : LgAt K H0 H d lt la ln lc ls P rows) {i : Nat} {r : Row} (h : rows[i]? = some r) : ∃ svs q us, H ls = some (.lst svs) ∧ svs[i]? = some (.ref q) ∧ H q = some (.lst us) ∧ RpA H us (rowS r) := by
  obtain ⟨svs, h1, h2⟩ := L.st
  obtain ⟨v, h3, q, us, rfl, n1, n2, h4, h5⟩ := h2.getR h
  exact ⟨svs, q, us, h1, h3, h4, h5⟩
end
theorem sumC_le {r : Row} {m : Nat} : (∀ c ∈ r, c.1.toNat ≤ m) → sumC r ≤ r.length * m := by
  induction r with
  | nil => intro _; exact Nat.zero_le _
  | cons a r ih =>
    intro h
    have h1 := ih fun c hc => h c (List.mem_cons_of_mem _ hc)
    have h2 := h a (List.mem_cons_self ..)
    show a.1.toNat + sumC r ≤ (r.length + 1) * m
    rw [Nat.add_mul, Nat.one_mul]
    omega
/-- the first place of the least -/
def minL : List Int → Int
  | [] => 0
  | [a] => a
  | a :: b :: r => if a ≤ minL (b :: r) then a else minL (b :: r)
theorem minL_spec : ∀ {l : List Int}, l ≠ [] → minL l ∈ l ∧ ∀ y ∈ l, minL l ≤ y
  | [a], _ => ⟨by simp [minL], fun y hy => by rw [List.mem_singleton.mp hy]; exact Int.le_refl _⟩
  | a :: b :: r, _ => by
    obtain ⟨h1, h2⟩ := minL_spec (l := b :: r) (List.cons_ne_nil _ _)
    rw [minL]
    by_cases c : a ≤ minL (b :: r)
    · rw [if_pos c]
      refine ⟨List.mem_cons_self .., fun y hy => ?_⟩
      rcases List.mem_cons.mp hy with rfl | hy
      · exact Int.le_refl _
      · exact Int.le_trans c (h2 y hy)
    · rw [if_neg c]
      refine ⟨List.mem_cons_of_mem _ h1, fun y hy => ?_⟩
      rcases List.mem_cons.mp hy with rfl | hy
      · omega
      · exact h2 y hy
noncomputable def lastC (P : Pb) : List Int := (rowAt P P.notes.length).map fun c => c.1
noncomputable def costOf (P : Pb) : Int := minL (lastC P)
noncomputable def goalOf (P : Pb) : Nat := (lastC P).findIdx fun c => decide (c = costOf P)
noncomputable def rowsTo (P : Pb) (k : Nat) : List Row := (List.range (k + 1)).map (rowAt P)
noncomputable def tableOf (P : Pb) : List (List Int) := (rowsTo P P.notes.length).map fun r => r.map fun c => c.1
noncomputable def heardD (P : Pb) : PyData := .tuple [.int (costOf P), .tuple ((wayOf P (goalOf P)).reverse.map Stp.d), .tuple ((tableOf P).map iD)]
theorem rowsTo_get {P : Pb} {k i : Nat} (h : i ≤ k) : (rowsTo P k)[i]? = some (rowAt P i) := by
  rw [rowsTo, List.getElem?_map, List.getElem?_range (by omega)]
  rfl
theorem rowsTo_succ (P : Pb) (k : Nat) : rowsTo P (k + 1) = rowsTo P k ++ [rowAt P (k + 1)] := by
  rw [rowsTo, List.range_succ, List.map_append]
  rfl
theorem rowsTo_len (P : Pb) (k : Nat) : (rowsTo P k).length = k + 1 := by rw [rowsTo, List.length_map, List.length_range]
def spPrice : Sp := Sp2 fun a b H Q _ => ∃ n t, Rp H a (noteD n) ∧ Rp H b (Nt.d t) ∧ Q (.int (priceOf n t)) H
def spMiss (K : PySem.W.Frag) : Sp := Sp3 fun a b c H Q _ => ∃ H0 d lt la ln lc ls P rows cq sq us k bk r, a = .ref d ∧ b = .ref cq ∧ c = .ref sq ∧ LgAt K H0 H d lt la ln lc ls P rows ∧ PbOk P ∧ H cq = some (.lst (rowC r)) ∧ H sq = some (.lst us) ∧ RpA H us (rowS r) ∧ cq ≠ sq ∧ H0 cq = none ∧ H0 sq = none ∧
  RowI P k bk r ∧ (∀ g, cst r g ≤ 82) ∧
  ∀ H' us', Kp [cq, sq] H H' → H' cq = some (.lst (rowC (missOf P r))) → H' sq = some (.lst us') → RpA H' us' (rowS (missOf P r)) → Q .non H'
def spAddRow (K : PySem.W.Frag) : Sp := Sp2 fun a b H Q _ => ∃ H0 d lt la ln lc ls P rows k bk, a = .ref d ∧ LgAt K H0 H d lt la ln lc ls P rows ∧ PbOk P ∧ rows.getLast? = some bk ∧ rows.length = k + 1 ∧ b = .int (k : Nat) ∧ k < P.notes.length ∧ BackI P bk ∧ (∀ g, cst bk g ≤ 80) ∧
  ∀ H', Kp [lc, ls] H H' → LgAt K H0 H' d lt la ln lc ls P (rows ++ [addRow P k bk]) → Q .non H'
section
variable {P : Program} {w : World} {K : PySem.W.Frag} {mg : Str → Option Value} {base : Heap}
/- slots of price: 0 one, 1 other -/
theorem sc_price : FnScope ["one", "other"] ["one", "other"] (defScope s_price) := ⟨rfl, rfl, rfl, by decide +kernel, rfl, by decide +kernel, by decide +kernel⟩
theorem cal_price (T : Tx w K mg) : Cal P w K mg base CX0 (1) "price" ["one", "other"] spPrice := by
  refine Cal.of T.f_price T.g_price sc_price (fun _ _ _ _ _ _ us hl => match us, hl with | [_, _], _ => rfl) (fun vs H Q E h => by obtain ⟨x0, x1, rfl, _⟩ := h; rfl) (fun f cdv A outer s H vs Q E hr h => ?_)
  obtain ⟨v0, v1, rfl, h⟩ := h
  refine ⟨_, (pss_one (ps_ret (pe_op op_add (pe_callTy call_int1 (by rfl) T.b_int (by decide +kernel) (pa_cons (pe_cmpR (op_neD hr.units) (pe_ix ix_tup (pv 0) pe_int (fun _ _ => rfl)) (pe_ix ix_tup (pv 1) pe_int (fun _ _ => rfl)) (nomark _)) pa_nil)) (pe_callTy call_int1 (by rfl) T.b_int (by decide +kernel) (pa_cons (pe_cmpR (op_neD hr.units) (pe_ix ix_tup (pv 0) pe_int (fun _ _ => rfl)) (pe_ix ix_tup (pv 1) pe_int (fun _ _ => rfl)) (nomark _)) pa_nil))))), ?_⟩
  obtain ⟨n, t, h1, h2, k⟩ := h
  obtain ⟨a, vs, rfl, ha, r⟩ := h1.tup_inv
  obtain ⟨n1, r1, rfl, e1, r⟩ := r.cons_inv
  obtain ⟨n2, r2, rfl, e2, r⟩ := r.cons_inv
  cases r.nil_inv
  rw [Nt.d] at h2
  obtain ⟨b, vs, rfl, hb, r⟩ := h2.tup_inv
  obtain ⟨t1, r1, rfl, f1, r⟩ := r.cons_inv
  obtain ⟨t2, r2, rfl, f2, r⟩ := r.cons_inv
  refine ⟨_, rfl, _, _, _, _, rfl, rfl, SqT.of (ha), atI_nat (j := 0) rfl, _, rfl, _, _, _, _, rfl, rfl, SqT.of (hb), atI_nat (j := 0) rfl, _, _, e1.dp, f1.dp, (Dep.ints 0 _).shaped (by omega), (Dep.ints 0 _).shaped (by omega), ?_⟩
  refine .inr ⟨_, rfl, ?_⟩
  refine ⟨_, rfl, _, _, _, _, rfl, rfl, SqT.of (ha), atI_nat (j := 1) rfl, _, rfl, _, _, _, _, rfl, rfl, SqT.of (hb), atI_nat (j := 1) rfl, _, _, e2.dp, f2.dp, (Dep.frac 0 _).shaped (by omega), (Dep.frac 0 _).shaped (by omega), ?_⟩
  refine .inr ⟨_, rfl, ?_⟩
  refine ⟨_, _, rfl, rfl, ?_⟩
  rw [eqv_ints, eqv_frac]
  have e : ((if (!decide (n.1 = t.ps)) = true then 1 else 0 : Int) + if (!decide (n.2 = t.len)) = true then 1 else 0) = priceOf n t := by
    unfold priceOf
    by_cases c1 : n.1 = t.ps <;> by_cases c2 : n.2 = t.len <;> simp [c1, c2]
  show Q (.int ((if (!decide (n.1 = t.ps)) = true then 1 else 0 : Int) + if (!decide (n.2 = t.len)) = true then 1 else 0)) H
  rw [e]
  exact k
/- slots of Ledger.miss_things: 0 self, 1 costs, 2 steps, 3 waiting, 4 v, 5 goal -/
theorem sc_Ledger_miss_things : FnScope ["self", "costs", "steps", "waiting", "v", "goal"] ["self", "costs", "steps"] (defScope s_Ledger_miss_things) := ⟨rfl, rfl, rfl, by decide +kernel, rfl, by decide +kernel, by decide +kernel⟩
theorem met_Ledger_miss_things (T : Tx w K mg) : CalM P w K mg base CX0 (1) "Ledger" "miss_things" ["self", "costs", "steps"] (spMiss K) := by
  refine CalM.of T.f_Ledger_miss_things T.m_Ledger_miss_things T.c_Ledger sc_Ledger_miss_things (fun _ _ _ _ _ _ us hl => match us, hl with | [_, _, _], _ => rfl) (fun vs H Q E h => by obtain ⟨x0, x1, x2, rfl, _⟩ := h; rfl) (fun f cdv A outer s H vs Q E hr h => ?_)
  obtain ⟨v0, v1, v2, rfl, h⟩ := h
  refine ⟨_, (pss_cons (ps_set (i := 3) sc_Ledger_miss_things.nd rfl (Or.inl rfl) (pe_listRg (by rfl) (by rfl) T.b_list (prg_1 (by rfl) T.b_range (pe_callB call_len_seq (by rfl) T.b_len PySem.boot_len (pa_cons (pe_fld (pv 0) rfl) pa_nil)))))
    (pss_one (ps_while PassesOwn.never (pt_cmpR op_gt (pe_callB call_len_seq (by rfl) T.b_len PySem.boot_len (pa_cons (pv 3) pa_nil)) pe_int (nomark _)) (pss_cons (ps_set (i := 4) sc_Ledger_miss_things.nd rfl (Or.inl rfl) (pe_bm0 PySem.F.plainAttrs_list PySem.F.slot_list_pop PySem.F.type_list_pop mt_pop (pv 3)))
      (pss_one (ps_for PassesOwn.never rfl (pi_list (pe_ix ix_list (pe_fld (pv 0) rfl) (pv 4) (fun _ _ => rfl))) (pg_name (i := 5) sc_Ledger_miss_things.nd rfl (Or.inl rfl)) (pss_one (ps_if (pt_cmpR op_lt (pe_op op_add (pe_ix ix_list (pv 1) (pv 4) (fun _ _ => rfl)) (pe_gint T.i_OFTEN)) (pe_ix ix_list (pv 1) (pv 5) (fun _ _ => rfl)) (nomark _)) (pss_cons (ps_asg (pe_op op_add (pe_ix ix_list (pv 1) (pv 4) (fun _ _ => rfl)) (pe_gint T.i_OFTEN)) (pg_sub (pv 1) (pv 5) set_list))
          (pss_cons (ps_asg (pe_tup (pa_cons (pe_tup (pa_cons pe_str (pa_cons (pv 4) pa_nil))) (pa_cons (pv 4) pa_nil))) (pg_sub (pv 2) (pv 5) set_list))
          (pss_one (ps_if (pt_cmpR op_lt (pv 5) (pe_callB call_len_seq (by rfl) T.b_len PySem.boot_len (pa_cons (pe_fld (pv 0) rfl) pa_nil)) (nomark _)) (pss_one (ps_expr (pe_bm PySem.F.plainAttrs_list PySem.F.slot_list_append PySem.F.type_list_append mt_append (pv 3) (pa_cons (pv 5) pa_nil)))) pss_nil)))) pss_nil)))))))), ?_⟩
  obtain ⟨H0, d, lt, la, ln, lc, ls, P, rows, cq, sq, us, k, bk, r, rfl, rfl, rfl, L, ok, hcq, hsq, rus, hne, hc0, hs0, hI, h82, kk⟩ := h
  obtain ⟨dx, o⟩ := L.o
  obtain ⟨avs, ha1, ha2⟩ := L.a
  have hal : avs.length = P.N := by rw [ha2.len]; exact ok.len
  have hN := ok.n
  have haH := L.s.on ha1
  refine ⟨_, rfl, d, _, dx, _, _, rfl, o, T.c_Ledger, T.n_Ledger_after, rfl, ?_⟩
  refine ⟨la, avs, rfl, .inl (SqL.of haH), (avs.length : Nat), rfl, RgOk.of_le (by omega) (by omega) (by omega) (by omega), fun wl hwl => ?_⟩
  have e0 : rgV 0 ((avs.length : Nat) : Int) = (List.range P.N).map natV := by
    unfold rgV
    have e1 : (((avs.length : Nat) : Int) - 0).toNat = P.N := by omega
    rw [e1]
    refine List.map_congr_left fun i _ => ?_
    rw [Int.zero_add]
    rfl
  rw [e0]
  have hcw : cq ≠ wl := ne_of_none hcq hwl
  have hsw : sq ≠ wl := ne_of_none hsq hwl
  have s1 := same_new (o := .lst ((List.range P.N).map natV)) hwl
  have hm0 : muM (r, List.range P.N) < 16777216 := by
    show sumC r + (List.range P.N).length < _
    have h1 : sumC r ≤ r.length * 82 := sumC_le fun c hc => by
      obtain ⟨i, hi⟩ := List.getElem?_of_mem hc
      have := h82 i
      rw [cst_get hi] at this
      omega
    rw [hI.len] at h1
    rw [List.length_range]
    have h2 : (P.N + 1) * 82 ≤ 80001 * 82 := Nat.mul_le_mul_right _ (by omega)
    omega
  -- the ledger's own things stay
  have keep : ∀ {H' : Hp}, Kp [cq, sq, wl] H H' → Same H0 H' := fun {H'} kp b o' hb => by
    refine kp b o' (L.s b o' hb) fun m => ?_
    rcases List.mem_cons.mp m with rfl | m
    · rw [hc0] at hb; cases hb
    rcases List.mem_cons.mp m with rfl | m
    · rw [hs0] at hb; cases hb
    · rw [List.mem_singleton.mp m] at hb
      have := L.s _ _ hb
      rw [hwl] at this; cases this
  have keepO : ∀ {H' : Hp}, Kp [cq, sq, wl] H H' → H' d = some (.ins (gA K "Ledger") dx [("things", .ref lt), ("after", .ref la), ("notes", .ref ln), ("costs", .ref lc), ("steps", .ref ls)]) := fun {H'} kp => by
    refine kp d _ o fun m => ?_
    rcases List.mem_cons.mp m with e | m
    · rw [← e, o] at hcq; cases hcq
    rcases List.mem_cons.mp m with e | m
    · rw [← e, o] at hsq; cases hsq
    · rw [← List.mem_singleton.mp m, o] at hwl; cases hwl
  refine while_gh (fun x σ H' => ∃ c4 c5 us', σ = [some (.ref d), some (.ref cq), some (.ref sq), some (.ref wl), c4, c5] ∧ Kp [cq, sq, wl] H H' ∧ H' wl = some (.lst (x.2.map natV)) ∧ H' cq = some (.lst (rowC x.1)) ∧ H' sq = some (.lst us') ∧ RpA H' us' (rowS x.1) ∧
      MissI P k bk r x ∧ (∃ j, iter (missStep P) j (r, List.range P.N) = x) ∧ muM x ≤ muM (r, List.range P.N)) muM (r, List.range P.N)
    ⟨_, _, us, rfl, Kp.of s1, upd_same, s1.on hcq, s1.on hsq, rus.mono s1.tk, miss_start hI, ⟨0, rfl⟩, Nat.le_refl _⟩ ?_
  rintro ⟨r1, w1⟩ σ H1 ⟨c4, c5, us', rfl, kp, hw, hcq1, hsq1, rus1, mi, ⟨j, hj⟩, hmu⟩
  refine ⟨_, rfl, wl, _, rfl, .inl (SqL.of hw), _, _, rfl, rfl, _, rfl, ?_⟩
  cases eg : w1.getLast? with
  | none =>
    have : w1 = [] := List.getLast?_eq_none_iff.mp eg
    subst this
    refine itF (dF (by show ¬ (0 : Int) < 0; omega)) ?_
    have e2 : missOf P r = r1 := by
      rw [missOf, runF_eq (fun x hx => missStep_fix x hx) hj rfl]
    refine kk H1 us' (kp.new fun b hb => ?_) (by rw [e2]; exact hcq1) hsq1 (by rw [e2]; exact rus1)
    rcases List.mem_cons.mp hb with rfl | hb
    · simp
    rcases List.mem_cons.mp hb with rfl | hb
    · simp
    · rw [List.mem_singleton.mp hb]; exact .inr hwl
  | some v =>
    have hne1 : w1 ≠ [] := fun z => by rw [z] at eg; cases eg
    have ew : w1 = w1.dropLast ++ [v] := by
      obtain ⟨ys, rfl⟩ := List.getLast?_eq_some_iff.mp eg
      simp
    have hlen : 0 < w1.length := List.length_pos_iff.mpr hne1
    refine itT (dT (by show (0 : Int) < ((w1.map natV).length : Nat); rw [List.length_map]; omega)) ?_
    have hv : v < P.N := mi.w v (List.mem_of_getLast? eg)
    have hst : missStep P (r1, w1) = missGoals P.N v (P.nx v) (r1, w1.dropLast) := by
      unfold missStep
      show (match w1.getLast? with | none => _ | some v => _) = _
      rw [eg]
    have hms := missStep_I ok mi
    have hlt := hms.2 hne1
    refine ⟨fun σ' H' => ∃ us'', (∃ c4 c5, σ' = [some (.ref d), some (.ref cq), some (.ref sq), some (.ref wl), c4, c5]) ∧ Kp [cq, sq, wl] H H' ∧ H' wl = some (.lst ((missStep P (r1, w1)).2.map natV)) ∧ H' cq = some (.lst (rowC (missStep P (r1, w1)).1)) ∧ H' sq = some (.lst us'') ∧ RpA H' us'' (rowS (missStep P (r1, w1)).1), ?_, ?_⟩
    · rintro σ' H' ⟨us'', ⟨c4, c5, rfl⟩, h1, h2, h3, h4, h5⟩
      exact ⟨_, hlt, missStep P (r1, w1), rfl, _, _, us'', rfl, h1, h2, h3, h4, h5, hms.1, ⟨j + 1, by rw [iter_succ, hj]⟩, Nat.le_trans (Nat.le_of_lt hlt) hmu⟩
    rw [hst]
    refine ⟨_, rfl, .inl ⟨rfl, _, SqL.of hw⟩, wl, _, natV v, rfl, rfl, hw, ?_, ?_⟩
    · rw [List.length_map]
      have e3 : (w1.map natV)[w1.length - 1]? = (w1.map natV).getLast? := by rw [List.getLast?_eq_getElem?, List.length_map]
      rw [e3, List.getLast?_map, eg]
      rfl
    rw [← List.map_dropLast]
    have hgv : avs[v]? = some avs[v] := List.getElem?_eq_getElem (by omega)
    obtain ⟨gs, hgs, q, eq, hq⟩ := ha2.get hgv
    rw [eq] at hgv
    have enx : P.nx v = gs := by unfold Pb.nx; rw [hgs]; rfl
    have kp2 : Kp [cq, sq, wl] H (upd H1 wl (.lst (w1.dropLast.map natV))) := kp.trans (kp_upd.sub fun b hb => by rw [List.mem_singleton.mp hb]; simp)
    have tk2 := tk_lst (o := .lst (w1.dropLast.map natV)) hw
    refine ⟨_, rfl, d, _, dx, _, _, rfl, keepO kp2, T.c_Ledger, T.n_Ledger_after, rfl, _, rfl, _, _, _, _, rfl, rfl, SqL.of (keep kp2 _ _ ha1), atI_nat (j := v) (hgv), q, rfl, ⟨_, SqL.of (keep kp2 _ _ hq)⟩, ?_⟩
    have hm : MidI P k bk v r1 (r1, w1.dropLast) := ⟨mi.I, fun _ => Int.le_refl _, rfl, fun u hu => mi.w u (List.dropLast_subset _ hu), fun _ _ _ => rfl⟩
    refine for_it (walk_list (xs := gs.map natV)) (fun i σ H' => ∃ c5 us'', ∃ y : MS, σ = [some (.ref d), some (.ref cq), some (.ref sq), some (.ref wl), some (natV v), c5] ∧ Kp [cq, sq, wl] H H' ∧ H' wl = some (.lst (y.2.map natV)) ∧ H' cq = some (.lst (rowC y.1)) ∧ H' sq = some (.lst us'') ∧ RpA H' us'' (rowS y.1) ∧
        MidI P k bk v r1 y ∧ missGoals P.N v (gs.drop i) y = missGoals P.N v gs (r1, w1.dropLast) ∧ muM y < muM (r1, w1))
      ⟨_, us', (r1, w1.dropLast), rfl, kp2, upd_same, by rw [upd_ne hcw]; exact hcq1, by rw [upd_ne hsw]; exact hsq1, rus1.mono tk2, hm, rfl, ?_⟩ ?_ ?_ ?_
    · show sumC r1 + w1.dropLast.length < sumC r1 + w1.length
      rw [List.length_dropLast]
      omega
    · rintro i σ H' _ ⟨c5, us'', y, rfl, kp', _⟩
      exact SqL.of (keep kp' _ _ hq)
    · rintro i x σ H2 H3 hi ⟨c5, us'', ⟨r2, w2⟩, rfl, kp3, hw3, hcq3, hsq3, rus3, mid, em, hmu3⟩ ⟨rfl, hx⟩
      rw [List.getElem?_map] at hx
      cases egi : gs[i]? with
      | none => rw [egi] at hx; cases hx
      | some g =>
        rw [egi] at hx
        cases hx
        have hgm : g ∈ P.nx v := by rw [enx]; exact List.mem_of_getElem? egi
        have hgN := ok.goal v g hgm
        have hIr : RowI P k bk r2 := mid.I
        have hrl := hIr.len
        have ed := drop_of_get egi
        rw [ed] at em
        have step := (missGoals_I ok hv [g] (fun x hx => by rw [List.mem_singleton.mp hx]; exact hgm) _ mid)
        have hw2l : w2.length < 16777216 := by
          have h1 : sumC r2 + w2.length < muM (r1, w1) := hmu3
          omega
        obtain ⟨tok, hmo⟩ := T.i_OFTEN
        have e1 : missGoals P.N v (g :: gs.drop (i + 1)) (r2, w2) = missGoals P.N v (gs.drop (i + 1)) (missGoals P.N v [g] (r2, w2)) := rfl
        rw [e1] at em
        refine ⟨_, rfl, _, rfl, _, _, _, _, rfl, rfl, SqL.of (hcq3), atI_nat (j := v) (rowC_get (r := r2) (by omega)), _, _, rfl, rfl, _, rfl, _, rfl, _, _, _, _, rfl, rfl, SqL.of (hcq3), atI_nat (j := g) (rowC_get (r := r2) (by omega)), _, _, rfl, rfl, _, rfl, ?_⟩
        by_cases c : cst r2 v + 2 < cst r2 g
        · refine itT (dT c) ?_
          have es : missGoals P.N v [g] (r2, w2) = (r2.set g (cst r2 v + 2, some (.miss v, v)), if g < P.N then w2 ++ [g] else w2) := by
            rw [missGoals, if_pos c]
            rfl
          rw [es] at em step
          refine ⟨_, rfl, _, rfl, _, _, _, _, rfl, rfl, SqL.of (hcq3), atI_nat (j := v) (rowC_get (r := r2) (by omega)), _, _, rfl, rfl, _, rfl, _, rfl, cq, rowC r2, _, g, rfl, rfl, hcq3, ixNn (by rw [rowC_len]; omega), ?_⟩
          have tk3 := tk_lst (o := .lst ((rowC r2).set g (.int (cst r2 v + 2)))) hcq3
          refine ⟨_, rfl, (by show 2 ≤ sizeLine; decide), fun q1 hq1 => ⟨_, rfl, (by show 2 ≤ sizeLine; decide), fun q2 hq2 => ?_⟩⟩
          have s4 := (same_new (o := .tup [.str "miss", natV v]) hq1).trans (same_new (o := .tup [.ref q1, natV v]) hq2)
          have hsq4 := s4.on (show (upd H3 cq (.lst ((rowC r2).set g (.int (cst r2 v + 2))))) sq = some (.lst us'') by rw [upd_ne (Ne.symm hne)]; exact hsq3)
          have husl : us''.length = P.N + 1 := by rw [rus3.len, rowS_len]; exact hrl
          refine ⟨_, rfl, _, rfl, sq, _, _, g, rfl, rfl, hsq4, ixNn (by omega), ?_⟩
          have tk5 := tk_lst (o := .lst (us''.set g (.ref q2))) hsq4
          have kp5 : Kp [cq, sq, wl] H (upd (upd (upd (upd H3 cq (.lst ((rowC r2).set g (.int (cst r2 v + 2))))) q1 (.tup [.str "miss", natV v])) q2 (.tup [.ref q1, natV v])) sq (.lst (us''.set g (.ref q2)))) :=
            ((kp3.trans (kp_upd.sub fun b hb => by rw [List.mem_singleton.mp hb]; simp)).trans (Kp.of s4)).trans (kp_upd.sub fun b hb => by rw [List.mem_singleton.mp hb]; simp)
          have hw5 : (upd (upd (upd (upd H3 cq (.lst ((rowC r2).set g (.int (cst r2 v + 2))))) q1 (.tup [.str "miss", natV v])) q2 (.tup [.ref q1, natV v])) sq (.lst (us''.set g (.ref q2)))) wl = some (.lst (w2.map natV)) := by
            rw [upd_ne (Ne.symm hsw)]
            refine s4.on ?_
            rw [upd_ne (Ne.symm hcw)]
            exact hw3
          have hcq5 : (upd (upd (upd (upd H3 cq (.lst ((rowC r2).set g (.int (cst r2 v + 2))))) q1 (.tup [.str "miss", natV v])) q2 (.tup [.ref q1, natV v])) sq (.lst (us''.set g (.ref q2)))) cq = some (.lst (rowC (r2.set g (cst r2 v + 2, some (.miss v, v))))) := by
            rw [upd_ne hne, rowC_set]
            exact s4.on upd_same
          have rus5 : RpA (upd (upd (upd (upd H3 cq (.lst ((rowC r2).set g (.int (cst r2 v + 2))))) q1 (.tup [.str "miss", natV v])) q2 (.tup [.ref q1, natV v])) sq (.lst (us''.set g (.ref q2)))) (us''.set g (.ref q2)) (rowS (r2.set g (cst r2 v + 2, some (.miss v, v)))) := by
            rw [rowS_set]
            refine RpA.set g (((rus3.mono tk3).mono s4.tk).mono tk5) ?_
            refine .tup (tk5 _ _ upd_same) (.cons (.tup (tk5 _ _ ((same_new hq2).on upd_same)) (.cons (.str _) (.cons (.int _) .nil))) (.cons (.int _) .nil))
          refine ⟨_, rfl, _, rfl, d, _, dx, _, _, rfl, keepO kp5, T.c_Ledger, T.n_Ledger_after, rfl, la, avs, rfl, .inl (SqL.of (keep kp5 _ _ ha1)), _, _, rfl, rfl, _, rfl, ?_⟩
          by_cases cg : g < P.N
          · refine itT (dT (by omega)) ?_
            refine ⟨_, rfl, .inl ⟨rfl, _, SqL.of hw5⟩, _, rfl, wl, _, _, rfl, rfl, hw5, (by rw [List.length_map, sizeLine_eq]; exact hw2l), ?_⟩
            have tk6 := tk_lst (o := .lst (w2.map natV ++ [natV g])) hw5
            rw [if_pos cg] at em step
            refine ⟨_, us''.set g (.ref q2), (r2.set g (cst r2 v + 2, some (.miss v, v)), w2 ++ [g]), rfl, kp5.trans (kp_upd.sub fun b hb => by rw [List.mem_singleton.mp hb]; simp), ?_, ?_, ?_, rus5.mono tk6, step.1, em, Nat.lt_of_le_of_lt step.2.2.2.2 hmu3⟩
            · rw [upd_same, List.map_append]; rfl
            · rw [upd_ne hcw]; exact hcq5
            · rw [upd_ne hsw, upd_same]
          · refine itF (dF (by omega)) ?_
            rw [if_neg cg] at em step
            exact ⟨_, us''.set g (.ref q2), (r2.set g (cst r2 v + 2, some (.miss v, v)), w2), rfl, kp5, hw5, hcq5, upd_same, rus5, step.1, em, Nat.lt_of_le_of_lt step.2.2.2.2 hmu3⟩
        · refine itF (dF c) ?_
          have es : missGoals P.N v [g] (r2, w2) = (r2, w2) := by
            rw [missGoals, if_neg c]
            rfl
          rw [es] at em
          exact ⟨_, us'', (r2, w2), rfl, kp3, hw3, hcq3, hsq3, rus3, mid, em, hmu3⟩
    · rintro σ H2 ⟨c5, us'', ⟨r2, w2⟩, rfl, kp3, hw3, hcq3, hsq3, rus3, mid, em, hmu3⟩
      rw [List.length_map, List.drop_length] at em
      have em : (r2, w2) = missGoals P.N v gs (r1, w1.dropLast) := em
      rw [enx, ← em]
      exact ⟨us'', ⟨_, _, rfl⟩, kp3, hw3, hcq3, hsq3, rus3⟩
end
end MC
set_option Elab.async false
set_option linter.all false
set_option maxRecDepth 100000
set_option maxHeartbeats 4000000
namespace MC
open PySem PySem.Spec PyProof.Rows L2
theorem LgAt.last {K : PySem.W.Frag} {H0 H : Hp} {d lt la ln lc ls : Addr} {P : Pb} {rows : List Row} (L : LgAt K H0 H d lt la ln lc ls P rows) {r : Row} (h : rows.getLast? = some r) : ∃ cvs q, H lc = some (.lst cvs) ∧ cvs.getLast? = some (.ref q) ∧ H q = some (.lst (rowC r)) ∧ q ≠ lc ∧ q ≠ ls ∧ cvs.length = rows.length := by
  rw [List.getLast?_eq_getElem?] at h
  obtain ⟨cvs, q, h1, h2, h3, h4, h5⟩ := L.row h
  obtain ⟨cvs', e1, e2⟩ := L.c
  rw [h1] at e1
  cases e1
  refine ⟨cvs, q, h1, ?_, h3, h4, h5, e2.len⟩
  rw [List.getLast?_eq_getElem?, e2.len]
  exact h2
theorem relaxAll_len (c : Int) (s : Stp × Nat) : ∀ (gs : List Nat) (r : Row), (relaxAll c s gs r).length = r.length
  | [], r => rfl
  | g :: gs, r => by
    rw [relaxAll, relaxAll_len c s gs]
    unfold relax
    split
    · exact List.length_set
    · rfl
def PLook (P : Pb) (k v : Nat) : Prop := ∃ n t, P.notes[k]? = some n ∧ P.things[v]? = some t
section
variable {P : Program} {w : World} {K : PySem.W.Frag} {mg : Str → Option Value} {base : Heap}
/- slots of Ledger.add_row: 0 self, 1 number*, 2 behind, 3 cost, 4 costs, 5 v, 6 steps, 7 goals, 8 goal -/
theorem sc_Ledger_add_row : FnScope ["self", "number", "behind", "cost", "costs", "v", "steps", "goals", "goal"] ["self", "number"] (defScope s_Ledger_add_row) := ⟨rfl, rfl, rfl, by decide +kernel, rfl, by decide +kernel, by decide +kernel⟩
theorem met_Ledger_add_row (T : Tx w K mg) : CalM P w K mg base CX0 (2) "Ledger" "add_row" ["self", "number"] (spAddRow K) := by
  refine CalM.of T.f_Ledger_add_row T.m_Ledger_add_row T.c_Ledger sc_Ledger_add_row (fun _ _ _ _ _ _ us hl => match us, hl with | [_, _], _ => rfl) (fun vs H Q E h => by obtain ⟨x0, x1, rfl, _⟩ := h; rfl) (fun f cdv A outer s H vs Q E hr h => ?_)
  obtain ⟨v0, v1, rfl, h⟩ := h
  refine ⟨_, (pss_cons (ps_set (i := 2) sc_Ledger_add_row.nd rfl (Or.inl rfl) (pe_ix ix_list (pe_fld (pv 0) rfl) (pe_un un_neg pe_int) (fun _ _ => rfl)))
    (pss_cons (ps_setLc (i := 4) (own := [("cost", 3)]) (by rfl) sc_Ledger_add_row.nd rfl rfl (sw_true rfl rfl rfl (by decide +kernel)) (pi_list (pv 2)) (blkOk_by (own := [("cost", 3)]) (N := ["self", "number", "behind", "cost", "costs", "v", "steps", "goals", "goal"]) (sc := defScope s_Ledger_add_row) (by decide +kernel)) (fun _ _ _ _ _ => (pg_name (i := 3) sc_Ledger_add_row.nd rfl (Or.inl rfl))) (fun _ _ _ _ _ => pts_nil) (fun _ _ _ _ _ => (pe_op op_add (pv 3) (pe_gint T.i_OFTEN))))
    (pss_cons (ps_setLc (i := 6) (own := [("v", 5)]) (by rfl) sc_Ledger_add_row.nd rfl rfl (sw_true rfl rfl rfl (by decide +kernel)) (pi_range1 (by rfl) T.b_range (pa_cons (pe_callB call_len_seq (by rfl) T.b_len PySem.boot_len (pa_cons (pv 2) pa_nil)) pa_nil)) (blkOk_by (own := [("v", 5)]) (N := ["self", "number", "behind", "cost", "costs", "v", "steps", "goals", "goal"]) (sc := defScope s_Ledger_add_row) (by decide +kernel)) (fun _ _ _ _ _ => (pg_name (i := 5) sc_Ledger_add_row.nd rfl (Or.inl rfl))) (fun _ _ _ _ _ => pts_nil) (fun _ _ _ _ _ => (pe_tup (pa_cons (pe_tup (pa_cons pe_str (pa_cons (pv 1) pa_nil))) (pa_cons (pv 5) pa_nil)))))
    (pss_cons (ps_for PassesOwn.never rfl (pi_enum (by rfl) T.b_enumerate (pa_cons (pe_fld (pv 0) rfl) pa_nil)) (pg_tup (by rfl) (pgs_cons (pg_name (i := 5) sc_Ledger_add_row.nd rfl (Or.inl rfl)) (pgs_cons (pg_name (i := 7) sc_Ledger_add_row.nd rfl (Or.inl rfl)) pgs_nil))) (pss_cons (ps_set (i := 3) sc_Ledger_add_row.nd rfl (Or.inl rfl) (pe_op op_add (pe_ix ix_list (pv 2) (pv 5) (fun _ _ => rfl)) (pc (cal_price T) hr (pa_cons (pe_ix ix_list (pe_fld (pv 0) rfl) (pv 1) (fun _ _ => rfl)) (pa_cons (pe_ix ix_list (pe_fld (pv 0) rfl) (pv 5) (fun _ _ => rfl)) pa_nil)))))
      (pss_one (ps_for PassesOwn.never rfl (pi_list (pv 7)) (pg_name (i := 8) sc_Ledger_add_row.nd rfl (Or.inl rfl)) (pss_one (ps_if (pt_cmpR op_lt (pv 3) (pe_ix ix_list (pv 4) (pv 8) (fun _ _ => rfl)) (nomark _)) (pss_cons (ps_asg (pv 3) (pg_sub (pv 4) (pv 8) set_list))
          (pss_one (ps_asg (pe_tup (pa_cons (pe_tup (pa_cons pe_str (pa_cons (pv 1) (pa_cons (pv 5) pa_nil)))) (pa_cons (pv 5) pa_nil))) (pg_sub (pv 6) (pv 8) set_list)))) pss_nil))))))
    (pss_cons (ps_expr (pm (met_Ledger_miss_things T) hr (pv 0) (pa_cons (pv 4) (pa_cons (pv 6) pa_nil))))
    (pss_cons (ps_expr (pe_bm PySem.F.plainAttrs_list PySem.F.slot_list_append PySem.F.type_list_append mt_append (pe_fld (pv 0) rfl) (pa_cons (pv 4) pa_nil)))
    (pss_one (ps_expr (pe_bm PySem.F.plainAttrs_list PySem.F.slot_list_append PySem.F.type_list_append mt_append (pe_fld (pv 0) rfl) (pa_cons (pv 6) pa_nil)))))))))), ?_⟩
  obtain ⟨H0, d, lt, la, ln, lc, ls, P, rows, k, bk, rfl, L, ok, hlast, hrl, rfl, hk, hbk, h80, kk⟩ := h
  obtain ⟨dx, o⟩ := L.o
  obtain ⟨cvs, qb, hc, hcl, hqb, nq1, nq2, hcvl⟩ := L.last hlast
  obtain ⟨avs, ha1, ha2⟩ := L.a
  obtain ⟨tvs, ht1, ht2⟩ := L.t
  obtain ⟨nvs, hn1, hn2⟩ := L.n
  have hal : avs.length = P.N := by rw [ha2.len]; exact ok.len
  have hN := ok.n
  have hL := ok.l
  have hbl := hbk.len
  refine ⟨_, rfl, d, _, dx, _, _, rfl, o, T.c_Ledger, T.n_Ledger_costs, rfl, _, rfl, lc, cvs, _, _, rfl, rfl, SqL.of hc, atI_last hcl, ?_⟩
  have hsz : bk.length ≤ sizeLine := by rw [hbl, sizeLine_eq]; omega
  refine ⟨_, rfl, qb, rfl, ⟨_, SqL.of hqb⟩, fun cq hcq => ?_⟩
  obtain ⟨tok, hof⟩ := T.i_OFTEN
  refine lc_rp (walk_list (xs := rowC bk)) hcq (((startRow k bk).map fun c => c.1).map PyData.int) (by simp [startRow, rowC]) (by rw [rowC_len]; exact hsz) (fun H s => SqL.of (s.on hqb)) ?_ ?_
  · rintro i x H1 H2 dd hi s e ⟨rfl, hx⟩ C N kk
    rw [rowC_len] at hi
    rw [rowC_get hi] at hx
    cases hx
    rw [List.getElem?_map, List.getElem?_map, start_get hi] at e
    cases e
    exact ⟨rfl, yesT ⟨_, rfl, _, _, rfl, rfl, kk _ _ (same_refl _) (.int _)⟩⟩
  intro H1 us1 s1 hu1 ru1
  have eu1 : us1 = rowC (startRow k bk) := by
    rw [rpa_ints_inv _ ru1, rowC, List.map_map]
    rfl
  rw [eu1] at hu1
  refine ⟨_, rfl, qb, _, rfl, .inl (SqL.of (s1.on hqb)), ?_⟩
  refine ⟨((rowC bk).length : Nat), rfl, ?_, ?_, fun sq hsq => ?_⟩
  · rw [rowC_len]; omega
  · rw [rowC_len]; omega
  have en : (((rowC bk).length : Nat) : Int).toNat = bk.length := by rw [rowC_len]; omega
  have hcs : cq ≠ sq := ne_of_none hu1 hsq
  refine lc_rp (walk_range (lo := 0) (n := (((rowC bk).length : Nat) : Int).toNat)) hsq (rowS (startRow k bk)) (by rw [rowS_len, en, startRow, List.length_map, List.length_range]) (by rw [en]; exact hsz) (fun H s => trivial) ?_ ?_
  · rintro i x H2 H3 dd hi s e ⟨rfl, rfl⟩ C N kk
    rw [en] at hi
    rw [rowS, List.getElem?_map, start_get hi] at e
    cases e
    refine ⟨rfl, yesT ⟨_, rfl, (by show 2 ≤ sizeLine; decide), fun p hp => ⟨_, rfl, (by show 2 ≤ sizeLine; decide), fun q hq => ?_⟩⟩⟩
    refine kk _ _ ((same_new hp).trans (same_new hq)) ?_
    simp only [Int.zero_add]
    exact .tup upd_same (.cons (.tup ((same_new hq).on upd_same) (.cons (.str _) (.cons (.int _) .nil))) (.cons (.int _) .nil))
  intro H2 us2 s2 hu2 ru2
  have s12 := s1.trans s2
  have hcq0 : H cq = none := hcq
  have hsq0 : H sq = none := none_of_same s1 hsq
  refine ⟨_, rfl, d, _, dx, _, _, rfl, s12.on o, T.c_Ledger, T.n_Ledger_after, rfl, la, avs, rfl, SqL.of (s12.on (L.s.on ha1)), ?_⟩
  have hstart := hearUp_I ok (k := k) hbk
  refine for_it (walk_enum (xs := avs)) (fun v σ H' => ∃ c3 c5 c7 c8 us, σ = [some (.ref d), some (.int (k : Nat)), some (.ref qb), c3, some (.ref cq), c5, some (.ref sq), c7, c8] ∧ Same H H' ∧ H' cq = some (.lst (rowC (hearUp P k bk v))) ∧ H' sq = some (.lst us) ∧ RpA H' us (rowS (hearUp P k bk v)))
    ⟨_, _, _, _, us2, rfl, s12, s2.on hu1, hu2, ru2⟩ ?_ ?_ ?_
  · rintro v σ H' _ ⟨c3, c5, c7, c8, us, rfl, s, _⟩
    exact SqL.of (s.on (L.s.on ha1))
  · rintro v x σ H3 H4 hv ⟨c3, c5, c7, c8, us, rfl, s, hcq3, hsq3, rus3⟩ ⟨t, x, y, rfl, ht, rfl, hx, hy⟩
    cases hx
    have hvN : v < P.N := by omega
    obtain ⟨gs, hgs, qg, rfl, hqg⟩ := ha2.get hy
    have enx : P.nx v = gs := by unfold Pb.nx; rw [hgs]; rfl
    have st := same_new (o := .tup [.int (v : Nat), .ref qg]) ht
    have s4 := s.trans st
    have hcq4 := st.on hcq3
    have hsq4 := st.on hsq3
    have rus4 := rus3.mono st.tk
    refine ⟨t, _, rfl, SqT.of upd_same, rfl, _, _, rfl, _, _, rfl, rfl, ?_⟩
    obtain ⟨nt, hnt⟩ : ∃ nt, P.notes[k]? = some nt := ⟨_, List.getElem?_eq_getElem hk⟩
    obtain ⟨th, hth⟩ : ∃ th, P.things[v]? = some th := ⟨_, List.getElem?_eq_getElem hvN⟩
    obtain ⟨nv, hnv1, hnv2⟩ := hn2.getD (i := k) (d := noteD nt) (by rw [List.getElem?_map, hnt]; rfl)
    obtain ⟨tv, htv1, htv2⟩ := ht2.getD (i := v) (d := th.d) (by rw [List.getElem?_map, hth]; rfl)
    have s04 := L.s.trans s4
    have epr : P.price k v = priceOf nt th := by unfold Pb.price; rw [hnt, hth]
    refine ⟨_, rfl, _, rfl, _, _, _, _, rfl, rfl, SqL.of (s4.on hqb), atI_nat (j := v) (rowC_get (r := bk) (by omega)), ?_⟩
    refine ⟨_, rfl, d, _, dx, _, _, rfl, s4.on o, T.c_Ledger, T.n_Ledger_notes, rfl, _, rfl, _, _, _, _, rfl, rfl, SqL.of (s04.on hn1), atI_nat (j := k) (hnv1), ?_⟩
    refine ⟨_, rfl, d, _, dx, _, _, rfl, s4.on o, T.c_Ledger, T.n_Ledger_things, rfl, _, rfl, _, _, _, _, rfl, rfl, SqL.of (s04.on ht1), atI_nat (j := v) (htv1), ?_⟩
    refine ⟨_, _, rfl, nt, th, hnv2.mono s04.tk, htv2.mono s04.tk, ?_⟩
    refine ⟨_, _, rfl, rfl, ?_⟩
    rw [← epr]
    refine ⟨_, rfl, qg, rfl, ⟨_, SqL.of (s04.on hqg)⟩, ?_⟩
    have hI0 := (hstart v).1
    refine for_it (walk_list (xs := gs.map natV)) (fun i σ H' => ∃ c8 us, ∃ r : Row, σ = [some (.ref d), some (.int (k : Nat)), some (.ref qb), some (.int (cst bk v + P.price k v)), some (.ref cq), some (.int (v : Nat)), some (.ref sq), some (.ref qg), c8] ∧ Same H H' ∧ H' cq = some (.lst (rowC r)) ∧ H' sq = some (.lst us) ∧ RpA H' us (rowS r) ∧
        r.length = P.N + 1 ∧ relaxAll (cst bk v + P.price k v) (.hear k v, v) (gs.drop i) r = relaxAll (cst bk v + P.price k v) (.hear k v, v) gs (hearUp P k bk v))
      ⟨_, us, hearUp P k bk v, rfl, s4, hcq4, hsq4, rus4, hI0.len, rfl⟩ ?_ ?_ ?_
    · rintro i σ H' _ ⟨c8, us, r, rfl, s', _⟩
      exact SqL.of ((L.s.trans s').on hqg)
    · rintro i x σ H5 H6 hi ⟨c8, us5, r, rfl, s5, hcq5, hsq5, rus5, hl5, e5⟩ ⟨rfl, hx⟩
      rw [List.getElem?_map] at hx
      cases egi : gs[i]? with
      | none => rw [egi] at hx; cases hx
      | some g =>
        rw [egi] at hx
        cases hx
        have hgN := ok.goal v g (by rw [enx]; exact List.mem_of_getElem? egi)
        have ed := drop_of_get egi
        rw [ed, relaxAll] at e5
        have husl : us5.length = P.N + 1 := by rw [rus5.len, rowS_len]; exact hl5
        refine ⟨_, rfl, _, rfl, _, rfl, _, _, _, _, rfl, rfl, SqL.of (hcq5), atI_nat (j := g) (rowC_get (r := r) (by omega)), _, _, rfl, rfl, _, rfl, ?_⟩
        by_cases c : cst bk v + P.price k v < cst r g
        · refine itT (dT c) ?_
          have er : relax r g (cst bk v + P.price k v) (.hear k v, v) = r.set g (cst bk v + P.price k v, some (.hear k v, v)) := by
            unfold relax
            exact if_pos c
          rw [er] at e5
          refine ⟨_, rfl, _, rfl, _, rfl, cq, rowC r, _, g, rfl, rfl, hcq5, ixNn (by rw [rowC_len]; omega), ?_⟩
          have tk6 := tk_lst (o := .lst ((rowC r).set g (.int (cst bk v + P.price k v)))) hcq5
          refine ⟨_, rfl, _, rfl, (by show 3 ≤ sizeLine; decide), fun q1 hq1 => ⟨_, rfl, (by show 2 ≤ sizeLine; decide), fun q2 hq2 => ?_⟩⟩
          have s7 := (same_new (o := .tup [.str "hear", .int (k : Nat), .int (v : Nat)]) hq1).trans (same_new (o := .tup [.ref q1, .int (v : Nat)]) hq2)
          have hsq7 := s7.on (show (upd H6 cq (.lst ((rowC r).set g (.int (cst bk v + P.price k v))))) sq = some (.lst us5) by rw [upd_ne (Ne.symm hcs)]; exact hsq5)
          refine ⟨_, rfl, _, rfl, sq, us5, _, g, rfl, rfl, hsq7, ixNn (by omega), ?_⟩
          have tk8 := tk_lst (o := .lst (us5.set g (.ref q2))) hsq7
          refine ⟨_, us5.set g (.ref q2), r.set g (cst bk v + P.price k v, some (.hear k v, v)), rfl, same_up ((same_up s5 hcq0).trans s7) hsq0, ?_, upd_same, ?_, by rw [List.length_set]; exact hl5, e5⟩
          · rw [upd_ne hcs, rowC_set]
            exact s7.on upd_same
          · rw [rowS_set]
            refine RpA.set g (((rus5.mono tk6).mono s7.tk).mono tk8) ?_
            exact .tup (tk8 _ _ upd_same) (.cons (.tup (tk8 _ _ ((same_new hq2).on upd_same)) (.cons (.str _) (.cons (.int _) (.cons (.int _) .nil)))) (.cons (.int _) .nil))
        · refine itF (dF c) ?_
          have er : relax r g (cst bk v + P.price k v) (.hear k v, v) = r := by
            unfold relax
            exact if_neg c
          rw [er] at e5
          exact ⟨_, us5, r, rfl, s5, hcq5, hsq5, rus5, hl5, e5⟩
    · rintro σ H5 ⟨c8, us5, r, rfl, s5, hcq5, hsq5, rus5, hl5, e5⟩
      rw [List.length_map, List.drop_length] at e5
      have e6 : r = hearUp P k bk (v + 1) := by
        show r = relaxAll _ _ _ _
        rw [enx, ← e5]
        rfl
      rw [e6] at hcq5 rus5
      exact ⟨_, _, _, _, us5, rfl, s5, hcq5, hsq5, rus5⟩
  · rintro σ H3 ⟨c3, c5, c7, c8, us, rfl, s, hcq3, hsq3, rus3⟩
    rw [hal] at hcq3 rus3
    have L3 := L.same s
    have hI := (hstart P.N).1
    have hc0 : H0 cq = none := none_of_same L.s hcq0
    have hs0 : H0 sq = none := none_of_same L.s hsq0
    have hle82 : ∀ g, cst (hearUp P k bk P.N) g ≤ 82 := fun g => by
      by_cases hg : g ≤ P.N
      · have h1 := hI.more g hg
        have h2 := h80 g
        omega
      · unfold cst
        rw [List.getElem?_eq_none (by rw [hI.len]; omega)]
        decide
    refine ⟨_, rfl, d, dx, _, rfl, s.on o, rfl, _, rfl, _, rfl, ?_⟩
    refine ⟨_, _, _, rfl, H0, d, lt, la, ln, lc, ls, P, rows, cq, sq, us, k, bk, hearUp P k bk P.N, rfl, rfl, rfl, L3, ok, hcq3, hsq3, rus3, hcs, hc0, hs0, hI, hle82, fun H4 us4 kp4 hcq4 hsq4 rus4 => ?_⟩
    have s4 : Same H H4 := fun b o' hb => kp4 b o' (s b o' hb) fun m => by
      rcases List.mem_cons.mp m with rfl | m
      · rw [hcq0] at hb; cases hb
      · rw [List.mem_singleton.mp m, hsq0] at hb; cases hb
    have L4 := L.same s4
    obtain ⟨dx4, o4⟩ := L4.o
    obtain ⟨cv4, c41, c42⟩ := L4.c
    obtain ⟨sv4, t41, t42⟩ := L4.st
    have ncl : cq ≠ lc := fun e => by rw [← e] at c41; rw [e] at hcq0; rw [hc] at hcq0; cases hcq0
    have ncs : cq ≠ ls := fun e => by obtain ⟨_, h1, _⟩ := L.st; rw [e, h1] at hcq0; cases hcq0
    have nsl : sq ≠ lc := fun e => by rw [e, hc] at hsq0; cases hsq0
    have nss : sq ≠ ls := fun e => by obtain ⟨_, h1, _⟩ := L.st; rw [e, h1] at hsq0; cases hsq0
    have ndl : d ≠ lc := fun e => by rw [e, c41] at o4; cases o4
    have nds : d ≠ ls := fun e => by rw [e, t41] at o4; cases o4
    have hcvl : cv4.length = k + 1 := by rw [c42.len]; exact hrl
    have hsvl : sv4.length = k + 1 := by rw [t42.len]; exact hrl
    refine ⟨_, rfl, d, _, dx4, _, _, rfl, o4, T.c_Ledger, T.n_Ledger_costs, rfl, .inl ⟨rfl, _, SqL.of c41⟩, ?_⟩
    refine ⟨_, rfl, lc, cv4, _, rfl, rfl, c41, (by rw [hcvl, sizeLine_eq]; omega), ?_⟩
    have t5 : (upd H4 lc (.lst (cv4 ++ [.ref cq]))) ls = some (.lst sv4) := by rw [upd_ne (Ne.symm L.ne)]; exact t41
    have o5 : (upd H4 lc (.lst (cv4 ++ [.ref cq]))) d = some (.ins (gA K "Ledger") dx4 [("things", .ref lt), ("after", .ref la), ("notes", .ref ln), ("costs", .ref lc), ("steps", .ref ls)]) := by rw [upd_ne ndl]; exact o4
    refine ⟨_, rfl, d, _, dx4, _, _, rfl, o5, T.c_Ledger, T.n_Ledger_steps, rfl, .inl ⟨rfl, _, SqL.of t5⟩, ?_⟩
    refine ⟨_, rfl, ls, sv4, _, rfl, rfl, t5, (by rw [hsvl, sizeLine_eq]; omega), ?_⟩
    have kp6 : Kp [lc, ls] H4 (upd (upd H4 lc (.lst (cv4 ++ [.ref cq]))) ls (.lst (sv4 ++ [.ref sq]))) := (kp_upd.sub fun b hb => by rw [List.mem_singleton.mp hb]; simp).trans (kp_upd.sub fun b hb => by rw [List.mem_singleton.mp hb]; simp)
    have on6 : ∀ {b o'}, H4 b = some o' → b ≠ lc → b ≠ ls → (upd (upd H4 lc (.lst (cv4 ++ [.ref cq]))) ls (.lst (sv4 ++ [.ref sq]))) b = some o' := fun {b o'} h n1 n2 => kp6 b o' h fun m => by
      rcases List.mem_cons.mp m with m | m
      · exact n1 m
      · exact n2 (List.mem_singleton.mp m)
    have tk6 : Tk H4 (upd (upd H4 lc (.lst (cv4 ++ [.ref cq]))) ls (.lst (sv4 ++ [.ref sq]))) := (tk_lst c41).trans (tk_lst t5)
    refine kk _ ((Kp.of s4).trans kp6) ⟨⟨dx4, on6 o4 ndl nds⟩, fun b o' hb => on6 (L4.s b o' hb) (fun e => ?_) (fun e => ?_), L.c0, L.s0, L.ne, L.t, L.a, L.n, ⟨cv4 ++ [.ref cq], ?_, ?_⟩, ⟨sv4 ++ [.ref sq], upd_same, ?_⟩⟩
    · rw [e, L.c0] at hb; cases hb
    · rw [e, L.s0] at hb; cases hb
    · rw [upd_ne L.ne, upd_same]
    · refine All2.app (c42.mono fun v r ⟨q, e, h1, h2, h3⟩ => ⟨q, e, h1, h2, on6 h3 h1 h2⟩) (.cons ⟨cq, rfl, ncl, ncs, on6 hcq4 ncl ncs⟩ .nil)
    · refine All2.app (t42.mono fun v r ⟨q, us, e, h1, h2, h3, h4⟩ => ⟨q, us, e, h1, h2, on6 h3 h1 h2, h4.mono tk6⟩) (.cons ⟨sq, us4, rfl, nsl, nss, on6 hsq4 nsl nss, rus4.mono tk6⟩ .nil)
end
/-! ### the whole ledger -/
theorem row_le80 {P : Pb} (ok : PbOk P) {k : Nat} (hk : k ≤ 40) (g : Nat) : cst (rowAt P k) g ≤ 80 := by
  by_cases hg : g ≤ P.N
  · have := row_le ok k g hg
    omega
  · unfold cst
    rw [List.getElem?_eq_none (by rw [(row_back ok k).len]; omega)]
    decide
/-- the three lists at their addresses in H0 -/
structure Pb3 (H0 : Hp) (lt la ln : Addr) (P : Pb) : Prop where
  t : ∃ tvs, H0 lt = some (.lst tvs) ∧ RpA H0 tvs (P.things.map Nt.d)
  a : LLAt H0 la P.after
  n : ∃ nvs, H0 ln = some (.lst nvs) ∧ RpA H0 nvs (P.notes.map noteD)
def spInitL (K : PySem.W.Frag) : Sp := Sp4 fun a b c e H Q _ => ∃ H0 d dx lt la ln P, a = .ref d ∧ b = .ref lt ∧ c = .ref la ∧ e = .ref ln ∧ H d = some (.ins (gA K "Ledger") dx []) ∧ H0 d = none ∧ Same H0 H ∧ Pb3 H0 lt la ln P ∧ PbOk P ∧
  ∀ H' lc ls, LgAt K H0 H' d lt la ln lc ls P (rowsTo P P.notes.length) → Q .non H'
def spWay (K : PySem.W.Frag) : Sp := Sp2 fun a b H Q _ => ∃ H0 d lt la ln lc ls P g, a = .ref d ∧ b = .int (g : Nat) ∧ LgAt K H0 H d lt la ln lc ls P (rowsTo P P.notes.length) ∧ PbOk P ∧ g ≤ P.N ∧
  ∀ H' v, Same H H' → Rp H' v (.tuple ((wayOf P g).reverse.map Stp.d)) → Q v H'
theorem rpa_rev {H : Hp} : ∀ {vs : List V} {ds : List PyData}, RpA H vs ds → RpA H vs.reverse ds.reverse
  | _, _, .nil => .nil
  | _, _, .cons h r => by
    rw [List.reverse_cons, List.reverse_cons]
    exact (rpa_rev r).snoc h
theorem rpa_non {H : Hp} : ∀ m : Nat, RpA H (List.replicate m V.non) (List.replicate m PyData.none)
  | 0 => .nil
  | m + 1 => .cons .non (rpa_non m)
theorem stepOf_cell {P : Pb} {n g : Nat} {r : Row} (h : rowAt P n = r) {c : Cell} (hc : r[g]? = some c) : stepOf P n g = c.2 := by
  unfold stepOf
  rw [h, hc]
section
variable {P : Program} {w : World} {K : PySem.W.Frag} {mg : Str → Option Value} {base : Heap}
/- slots of Ledger.__init__: 0 self, 1 things, 2 after, 3 notes, 4 number -/
theorem sc_Ledger_init : FnScope ["self", "things", "after", "notes", "number"] ["self", "things", "after", "notes"] (defScope s_Ledger_init) := ⟨rfl, rfl, rfl, by decide +kernel, rfl, by decide +kernel, by decide +kernel⟩
theorem mk_Ledger (T : Tx w K mg) : CalN P w K mg base CX0 (3) "Ledger" ["self", "things", "after", "notes"] (spInitL K) := by
  refine CalN.of T.f_Ledger_init T.k_Ledger T.g_Ledger sc_Ledger_init (fun _ _ _ _ _ _ us hl => match us, hl with | [_, _, _, _], _ => rfl) (fun vs H Q E h => by obtain ⟨x0, x1, x2, x3, rfl, _⟩ := h; rfl) (fun f cdv A outer s H vs Q E hr h => ?_)
  obtain ⟨v0, v1, v2, v3, rfl, h⟩ := h
  refine ⟨_, (pss_cons (ps_fld (pv 0) (pv 1) rfl)
    (pss_cons (ps_fld (pv 0) (pv 2) rfl)
    (pss_cons (ps_fld (pv 0) (pv 3) rfl)
    (pss_cons (ps_fld (pv 0) (pe_lst (pa_cons (pe_op op_rep (pe_lst (pa_cons pe_int pa_nil)) (pe_op op_add (pe_callB call_len_seq (by rfl) T.b_len PySem.boot_len (pa_cons (pv 1) pa_nil)) pe_int)) pa_nil)) rfl)
    (pss_cons (ps_fld (pv 0) (pe_lst (pa_cons (pe_op op_rep (pe_lst (pa_cons pe_non pa_nil)) (pe_op op_add (pe_callB call_len_seq (by rfl) T.b_len PySem.boot_len (pa_cons (pv 1) pa_nil)) pe_int)) pa_nil)) rfl)
    (pss_one (ps_for PassesOwn.never rfl (pi_range1 (by rfl) T.b_range (pa_cons (pe_callB call_len_seq (by rfl) T.b_len PySem.boot_len (pa_cons (pv 3) pa_nil)) pa_nil)) (pg_name (i := 4) sc_Ledger_init.nd rfl (Or.inl rfl)) (pss_one (ps_expr (pm (met_Ledger_add_row T) hr (pv 0) (pa_cons (pv 4) pa_nil))))))))))), ?_⟩
  obtain ⟨H0, d, dx, lt, la, ln, P, rfl, rfl, rfl, rfl, hd, hd0, s0, p3, ok, kk⟩ := h
  obtain ⟨tvs, ht1, ht2⟩ := p3.t
  obtain ⟨nvs, hn1, hn2⟩ := p3.n
  have htl : tvs.length = P.N := by rw [ht2.len, List.length_map]; rfl
  have hnl : nvs.length = P.notes.length := by rw [hn2.len, List.length_map]
  have hN := ok.n
  have hL := ok.l
  -- only d has changed
  have keep : ∀ {H' : Hp}, Kp [d] H H' → Same H0 H' := fun {H'} kp b o' hb => kp b o' (s0 b o' hb) fun m => by
    rw [List.mem_singleton.mp m, hd0] at hb; cases hb
  refine ⟨_, rfl, _, rfl, d, _, dx, _, rfl, hd, T.c_Ledger, T.n_Ledger_things, (by decide), ?_⟩
  refine ⟨_, rfl, _, rfl, d, _, dx, _, rfl, upd_same, T.c_Ledger, T.n_Ledger_after, (by show 1 < 1000; decide), ?_⟩
  refine ⟨_, rfl, _, rfl, d, _, dx, _, rfl, upd_same, T.c_Ledger, T.n_Ledger_notes, (by show 2 < 1000; decide), ?_⟩
  refine hgen (fun H3 => Kp [d] H H3 ∧ H3 d = some (.ins (gA K "Ledger") dx [("things", .ref lt), ("after", .ref la), ("notes", .ref ln)])) ⟨(kp_upd.trans kp_upd).trans kp_upd, upd_same⟩ ?_
  rintro H3 ⟨kp3, o3⟩
  have e1 : ((tvs.length : Nat) : Int) + 1 = ((P.N + 1 : Nat) : Int) := by omega
  have e2 : ((P.N + 1 : Nat) : Int).toNat = P.N + 1 := rfl
  have er0 : (List.replicate (P.N + 1) [V.int 0]).flatten = rowC (row0 P) := by rw [rep_flat, rowC, row0, List.map_replicate, List.map_replicate]
  have er1 : (List.replicate (P.N + 1) [V.non]).flatten = List.replicate (P.N + 1) V.non := by
    generalize P.N + 1 = m
    induction m with
    | zero => rfl
    | succ m ih => rw [List.replicate_succ, List.flatten_cons, ih, List.replicate_succ]; rfl
  refine ⟨(by show 1 ≤ sizeLine; decide), fun z1 hz1 => ?_⟩
  have t1 := same_new (o := .lst [.int 0]) hz1
  refine ⟨_, rfl, lt, tvs, rfl, .inl (SqL.of (t1.on (keep kp3 _ _ ht1))), _, _, rfl, rfl, ?_⟩
  refine ⟨z1, _, _, rfl, rfl, upd_same, (by rw [e1]; omega), (by rw [e1]; omega), (by rw [e1]; show 1 * (P.N + 1) ≤ sizeLine; rw [sizeLine_eq]; omega), fun z2 hz2 => ?_⟩
  rw [e1, e2, er0]
  have t2 := t1.trans (same_new (o := .lst (rowC (row0 P))) hz2)
  refine ⟨(by show 1 ≤ sizeLine; decide), fun lc hlc => ?_⟩
  have t3 := t2.trans (same_new (o := .lst [.ref z2]) hlc)
  have hz2d : z2 ≠ d := fun e => by rw [e, t1.on o3] at hz2; cases hz2
  have hlcd : lc ≠ d := fun e => by rw [e, t2.on o3] at hlc; cases hlc
  have hz2c : z2 ≠ lc := fun e => by rw [← e, upd_same] at hlc; cases hlc
  have hlc0 : H0 lc = none := none_of_same ((keep kp3).trans t2) hlc
  have hz2v := (same_new (o := .lst [.ref z2]) hlc).on (upd_same (H := upd H3 z1 (.lst [.int 0])) (a := z2) (o := .lst (rowC (row0 P))))
  have hlcv := upd_same (H := upd (upd H3 z1 (.lst [.int 0])) z2 (.lst (rowC (row0 P)))) (a := lc) (o := .lst [.ref z2])
  refine ⟨_, rfl, d, _, dx, _, rfl, t3.on o3, T.c_Ledger, T.n_Ledger_costs, (by show 3 < 1000; decide), ?_⟩
  refine hgen (fun H4 => Kp [d] H H4 ∧ H4 d = some (.ins (gA K "Ledger") dx [("things", .ref lt), ("after", .ref la), ("notes", .ref ln), ("costs", .ref lc)]) ∧ H4 lc = some (.lst [.ref z2]) ∧ H4 z2 = some (.lst (rowC (row0 P)))) ⟨(kp3.trans (Kp.of t3)).trans kp_upd, upd_same, by rw [upd_ne hlcd]; exact hlcv, by rw [upd_ne hz2d]; exact hz2v⟩ ?_
  rintro H4 ⟨kp4, o4, c4, z4⟩
  clear t1 t2 t3 hz2v hlcv hz1 hz2 hlc
  refine ⟨(by show 1 ≤ sizeLine; decide), fun y1 hy1 => ?_⟩
  have v1 := same_new (o := .lst [.non]) hy1
  refine ⟨_, rfl, lt, tvs, rfl, .inl (SqL.of (v1.on (keep kp4 _ _ ht1))), _, _, rfl, rfl, ?_⟩
  refine ⟨y1, _, _, rfl, rfl, upd_same, (by rw [e1]; omega), (by rw [e1]; omega), (by rw [e1]; show 1 * (P.N + 1) ≤ sizeLine; rw [sizeLine_eq]; omega), fun y2 hy2 => ?_⟩
  rw [e1, e2, er1]
  have v2 := v1.trans (same_new (o := .lst (List.replicate (P.N + 1) V.non)) hy2)
  refine ⟨(by show 1 ≤ sizeLine; decide), fun ls hls => ?_⟩
  have v3 := v2.trans (same_new (o := .lst [.ref y2]) hls)
  have hy2d : y2 ≠ d := fun e => by rw [e, v1.on o4] at hy2; cases hy2
  have hlsd : ls ≠ d := fun e => by rw [e, v2.on o4] at hls; cases hls
  have hy2s : y2 ≠ ls := fun e => by rw [← e, upd_same] at hls; cases hls
  have hy2c : y2 ≠ lc := fun e => by rw [e, v1.on c4] at hy2; cases hy2
  have hcs : lc ≠ ls := fun e => by rw [← e, v2.on c4] at hls; cases hls
  have hz2s : z2 ≠ ls := fun e => by rw [← e, v2.on z4] at hls; cases hls
  have hls0 : H0 ls = none := none_of_same ((keep kp4).trans v2) hls
  have hy2v := (same_new (o := .lst [.ref y2]) hls).on (upd_same (H := upd H4 y1 (.lst [.non])) (a := y2) (o := .lst (List.replicate (P.N + 1) V.non)))
  have hlsv := upd_same (H := upd (upd H4 y1 (.lst [.non])) y2 (.lst (List.replicate (P.N + 1) V.non))) (a := ls) (o := .lst [.ref y2])
  refine ⟨_, rfl, d, _, dx, _, rfl, v3.on o4, T.c_Ledger, T.n_Ledger_steps, (by show 4 < 1000; decide), ?_⟩
  refine hgen (fun H5 => LgAt K H0 H5 d lt la ln lc ls P (rowsTo P 0)) ?_ ?_
  · have hr0 : rowsTo P 0 = [row0 P] := rfl
    refine ⟨⟨dx, upd_same⟩, keep ((kp4.trans (Kp.of v3)).trans kp_upd), hlc0, hls0, hcs, p3.t, p3.a, p3.n, ⟨[.ref z2], by rw [upd_ne hlcd]; exact v3.on c4, ?_⟩, ⟨[.ref y2], by rw [upd_ne hlsd]; exact hlsv, ?_⟩⟩
    · rw [hr0]
      exact .cons ⟨z2, rfl, hz2c, hz2s, by rw [upd_ne hz2d]; exact v3.on z4⟩ .nil
    · rw [hr0]
      refine .cons ⟨y2, List.replicate (P.N + 1) V.non, rfl, hy2c, hy2s, by rw [upd_ne hy2d]; exact hy2v, ?_⟩ .nil
      rw [rowS, row0, List.map_replicate]
      exact rpa_non _
  intro H5 L0
  refine ⟨_, rfl, ln, nvs, rfl, .inl (SqL.of (L0.s.on hn1)), ?_⟩
  refine ⟨(nvs.length : Nat), rfl, by omega, by omega, ?_⟩
  have en : ((nvs.length : Nat) : Int).toNat = P.notes.length := by omega
  rw [en]
  refine for_it (walk_range (lo := 0) (n := P.notes.length)) (fun i σ H' => ∃ c4, σ = [some (.ref d), some (.ref lt), some (.ref la), some (.ref ln), c4] ∧ LgAt K H0 H' d lt la ln lc ls P (rowsTo P i)) ⟨_, rfl, L0⟩ (fun _ _ _ _ _ => trivial) ?_ ?_
  · rintro i x σ H1 H2 hi ⟨c4, rfl, L1⟩ ⟨rfl, rfl⟩
    obtain ⟨dx1, o1⟩ := L1.o
    refine ⟨_, rfl, d, dx1, _, rfl, o1, rfl, _, rfl, ?_⟩
    refine ⟨_, _, rfl, H0, d, lt, la, ln, lc, ls, P, rowsTo P i, i, rowAt P i, rfl, L1, ok, ?_, rowsTo_len P i, ?_, hi, row_back ok i, row_le80 ok (by omega), fun H3 kp L3 => ?_⟩
    · rw [List.getLast?_eq_getElem?, rowsTo_len]
      exact rowsTo_get (Nat.le_refl _)
    · show V.int (0 + (i : Int)) = _
      rw [Int.zero_add]
    · refine ⟨_, rfl, ?_⟩
      rw [rowsTo_succ]
      exact L3
  · rintro σ H1 ⟨c4, rfl, L1⟩
    exact kk H1 lc ls L1
/- slots of Ledger.way_to: 0 self, 1 goal, 2 found, 3 number, 4 step -/
theorem sc_Ledger_way_to : FnScope ["self", "goal", "found", "number", "step"] ["self", "goal"] (defScope s_Ledger_way_to) := ⟨rfl, rfl, rfl, by decide +kernel, rfl, by decide +kernel, by decide +kernel⟩
theorem met_Ledger_way_to (T : Tx w K mg) : CalM P w K mg base CX0 (1) "Ledger" "way_to" ["self", "goal"] (spWay K) := by
  refine CalM.of T.f_Ledger_way_to T.m_Ledger_way_to T.c_Ledger sc_Ledger_way_to (fun _ _ _ _ _ _ us hl => match us, hl with | [_, _], _ => rfl) (fun vs H Q E h => by obtain ⟨x0, x1, rfl, _⟩ := h; rfl) (fun f cdv A outer s H vs Q E hr h => ?_)
  obtain ⟨v0, v1, rfl, h⟩ := h
  refine ⟨_, (pss_cons (ps_set (i := 2) sc_Ledger_way_to.nd rfl (Or.inl rfl) (pe_lst pa_nil))
    (pss_cons (ps_set (i := 3) sc_Ledger_way_to.nd rfl (Or.inl rfl) (pe_callB call_len_seq (by rfl) T.b_len PySem.boot_len (pa_cons (pe_fld (pv 0) rfl) pa_nil)))
    (pss_cons (ps_while PassesOwn.never (pt_cmpR op_notN (pe_ix ix_list (pe_ix ix_list (pe_fld (pv 0) rfl) (pv 3) (fun _ _ => rfl)) (pv 1) (fun _ _ => rfl)) pe_non (nomark _)) (pss_cons (ps_asg (pe_ix ix_list (pe_ix ix_list (pe_fld (pv 0) rfl) (pv 3) (fun _ _ => rfl)) (pv 1) (fun _ _ => rfl)) (pg_tup (by rfl) (pgs_cons (pg_name (i := 4) sc_Ledger_way_to.nd rfl (Or.inl rfl)) (pgs_cons (pg_name (i := 1) sc_Ledger_way_to.nd rfl (Or.inl rfl)) pgs_nil))))
      (pss_cons (ps_expr (pe_bm PySem.F.plainAttrs_list PySem.F.slot_list_append PySem.F.type_list_append mt_append (pv 2) (pa_cons (pv 4) pa_nil)))
      (pss_one (ps_if (pt_cmpR op_ne (pe_ix ix_tup (pv 4) pe_int (fun _ _ => rfl)) pe_str (nomark _)) (pss_one (ps_aug (i := 3) sc_Ledger_way_to.nd rfl (Or.inl rfl) pe_int ip_sub)) pss_nil)))))
    (pss_one (ps_ret (pe_tupRev (by rfl) (by rfl) T.b_tuple (by rfl) T.b_reversed (pv 2))))))), ?_⟩
  obtain ⟨H0, d, lt, la, ln, lc, ls, P, g, rfl, rfl, L, ok, hg, kk⟩ := h
  obtain ⟨dx, o⟩ := L.o
  obtain ⟨nvs, hn1, hn2⟩ := L.n
  have hnl : nvs.length = P.notes.length := by rw [hn2.len, List.length_map]
  have hL := ok.l
  refine ⟨Nat.zero_le _, fun fl hfl => ?_⟩
  have s1 := same_new (o := .lst []) hfl
  refine ⟨_, rfl, d, _, dx, _, _, rfl, s1.on o, T.c_Ledger, T.n_Ledger_notes, rfl, ln, nvs, rfl, .inl (SqL.of (s1.on (L.s.on hn1))), ?_⟩
  rw [hnl]
  have hmu0 : muW P ⟨P.notes.length, g, []⟩ ≤ 40 * 83 + 80 := by
    show P.notes.length * 83 + (cst (rowAt P P.notes.length) g).toNat ≤ _
    have := row_le80 ok hL g
    omega
  refine while_gh (fun x σ H' => ∃ c4 fvs, σ = [some (.ref d), some (.int (x.g : Nat)), some (.ref fl), some (.int (x.n : Nat)), c4] ∧ Same H H' ∧ H' fl = some (.lst fvs) ∧ RpA H' fvs (x.found.map Stp.d) ∧ x.n ≤ P.notes.length ∧ x.g ≤ P.N ∧ (∃ j, iter (wayStep P) j ⟨P.notes.length, g, []⟩ = x) ∧ x.found.length + muW P x ≤ 40 * 83 + 80)
    (muW P) ⟨P.notes.length, g, []⟩ ⟨_, [], rfl, s1, upd_same, .nil, Nat.le_refl _, hg, ⟨0, rfl⟩, by show 0 + _ ≤ _; omega⟩ ?_
  rintro ⟨n, g1, fd⟩ σ H1 ⟨c4, fvs, rfl, s, hf, rf, hn, hg1, ⟨j, hj⟩, hfm⟩
  have hn : n ≤ P.notes.length := hn
  have hg1 : g1 ≤ P.N := hg1
  obtain ⟨svs, q, us, h1, h2, h3, h4⟩ := (L.same s).srow (rowsTo_get (P := P) (k := P.notes.length) hn)
  have hrl := (row_back ok n).len
  have hgc : (rowAt P n)[g1]? = some (rowAt P n)[g1] := List.getElem?_eq_getElem (by omega)
  generalize hcell : (rowAt P n)[g1] = cell at hgc
  obtain ⟨sv, hsv, rsv⟩ := h4.getD (i := g1) (d := cellD cell.2) (by rw [rowS, List.getElem?_map, hgc]; rfl)
  have est := stepOf_cell rfl hgc
  refine ⟨_, rfl, d, _, dx, _, _, rfl, s.on o, T.c_Ledger, T.n_Ledger_steps, rfl, _, rfl, _, _, _, _, rfl, rfl, SqL.of (h1), atI_nat (j := n) (h2), _, rfl, _, _, _, _, rfl, rfl, SqL.of (h3), atI_nat (j := g1) (hsv), rfl, _, rfl, ?_⟩
  cases ec : cell.2 with
  | none =>
    rw [ec] at rsv est
    cases rsv.non_inv
    refine itF (by decide) ?_
    refine ⟨_, rfl, fl, fvs, rfl, SqL.of hf, fun p hp => ?_⟩
    have ew : wayOf P g = fd := by
      rw [wayOf, runF_eq (fun x hx => wayStep_fix x hx) hj est]
    refine kk _ _ (s.trans (same_new hp)) ?_
    rw [ew]
    refine .tup upd_same (RpA.mono (tk_new hp) ?_)
    rw [List.map_reverse]
    exact rpa_rev rf
  | some sv0 =>
    obtain ⟨st, v⟩ := sv0
    rw [ec] at rsv est
    obtain ⟨b, bvs, rfl, hb, rb⟩ := rsv.tup_inv
    obtain ⟨w1, r1, rfl, f1, rb⟩ := rb.cons_inv
    obtain ⟨w2, r2, rfl, f2, rb⟩ := rb.cons_inv
    cases rb.nil_inv
    cases f2.int_inv
    refine itT (by rw [decide_eq_false (fun z => nomatch z)]; rfl) ?_
    have hne : stepOf P n g1 ≠ none := by rw [est]; exact fun z => nomatch z
    have mu := wayStep_mu ok (x := ⟨n, g1, fd⟩) (by show n ≤ 40; omega) hg1 hne
    have ews : wayStep P ⟨n, g1, fd⟩ = ⟨if st.isMiss = true then n else n - 1, v, fd ++ [st]⟩ := by
      unfold wayStep
      show (match stepOf P n g1 with | none => _ | some (s, v) => _) = _
      rw [est]
    rw [ews] at mu
    obtain ⟨mu1, mu2, mu3⟩ := mu
    refine ⟨fun σ' H' => ∃ fvs', σ' = [some (.ref d), some (.int (v : Nat)), some (.ref fl), some (.int ((if st.isMiss = true then n else n - 1 : Nat) : Int)), some w1] ∧ Same H H' ∧ H' fl = some (.lst fvs') ∧ RpA H' fvs' ((fd ++ [st]).map Stp.d), ?_, ?_⟩
    · rintro σ' H' ⟨fvs', rfl, k1, k2, k3⟩
      refine ⟨_, mu1, ⟨if st.isMiss = true then n else n - 1, v, fd ++ [st]⟩, rfl, _, fvs', rfl, k1, k2, k3, ?_, mu3, ⟨j + 1, by rw [iter_succ, hj, ews]⟩, ?_⟩
      · show (if st.isMiss = true then n else n - 1) ≤ _
        split <;> omega
      · show (fd ++ [st]).length + _ ≤ _
        rw [List.length_append]
        have h5 : fd.length + muW P ⟨n, g1, fd⟩ ≤ 40 * 83 + 80 := hfm
        show fd.length + 1 + _ ≤ _
        omega
    refine ⟨_, rfl, d, _, dx, _, _, rfl, s.on o, T.c_Ledger, T.n_Ledger_steps, rfl, _, rfl, _, _, _, _, rfl, rfl, SqL.of (h1), atI_nat (j := n) (h2), _, rfl, _, _, _, _, rfl, rfl, SqL.of (h3), atI_nat (j := g1) (hsv), ?_⟩
    refine ⟨b, _, rfl, SqT.of hb, rfl, _, _, rfl, _, _, rfl, rfl, ?_⟩
    have hfl2 : fvs.length ≤ 3400 := by
      rw [rf.len, List.length_map]
      have h5 : fd.length + muW P ⟨n, g1, fd⟩ ≤ 40 * 83 + 80 := hfm
      show fd.length ≤ 3400
      omega
    refine ⟨_, rfl, .inl ⟨rfl, _, SqL.of hf⟩, _, rfl, fl, fvs, _, rfl, rfl, hf, (by rw [sizeLine_eq]; omega), ?_⟩
    have tk := tk_lst (o := .lst (fvs ++ [w1])) hf
    have s2 : Same H (upd H1 fl (.lst (fvs ++ [w1]))) := same_up s hfl
    have rf2 : RpA (upd H1 fl (.lst (fvs ++ [w1]))) (fvs ++ [w1]) ((fd ++ [st]).map Stp.d) := by
      rw [List.map_append]
      exact (rf.mono tk).app (.cons (f1.mono tk) .nil)
    cases st with
    | miss u =>
      have f1' : Rp H1 w1 (.tuple [.str "miss", .int (u : Nat)]) := f1
      obtain ⟨c, cvs, rfl, hc, rc⟩ := f1'.tup_inv
      obtain ⟨x1, rr, rfl, g1', rc⟩ := rc.cons_inv
      cases g1'.str_inv
      refine ⟨_, rfl, _, _, _, _, rfl, rfl, SqT.of (tk _ _ hc), atI_nat (j := 0) rfl, rfl, _, rfl, itF (bF (by decide +kernel)) ?_⟩
      exact ⟨_, rfl, s2, upd_same, rf2⟩
    | hear k u =>
      have f1' : Rp H1 w1 (.tuple [.str "hear", .int (k : Nat), .int (u : Nat)]) := f1
      obtain ⟨c, cvs, rfl, hc, rc⟩ := f1'.tup_inv
      obtain ⟨x1, rr, rfl, g1', rc⟩ := rc.cons_inv
      cases g1'.str_inv
      refine ⟨_, rfl, _, _, _, _, rfl, rfl, SqT.of (tk _ _ hc), atI_nat (j := 0) rfl, rfl, _, rfl, itT (by decide +kernel) ?_⟩
      refine ⟨_, rfl, _, _, rfl, rfl, ?_⟩
      have n1 : 1 ≤ n := by
        cases n with
        | zero => rw [stepOf_0] at est; cases est
        | succ n => omega
      have e9 : ((n : Nat) : Int) - 1 = ((n - 1 : Nat) : Int) := by omega
      have e10 : ((if (Stp.hear k u).isMiss = true then n else n - 1 : Nat) : Int) = (n : Int) - 1 := e9.symm
      refine ⟨_, ?_, s2, upd_same, rf2⟩
      rw [e10]
      rfl
    | more k =>
      have f1' : Rp H1 w1 (.tuple [.str "more", .int (k : Nat)]) := f1
      obtain ⟨c, cvs, rfl, hc, rc⟩ := f1'.tup_inv
      obtain ⟨x1, rr, rfl, g1', rc⟩ := rc.cons_inv
      cases g1'.str_inv
      refine ⟨_, rfl, _, _, _, _, rfl, rfl, SqT.of (tk _ _ hc), atI_nat (j := 0) rfl, rfl, _, rfl, itT (by decide +kernel) ?_⟩
      refine ⟨_, rfl, _, _, rfl, rfl, ?_⟩
      have n1 : 1 ≤ n := by
        cases n with
        | zero => rw [stepOf_0] at est; cases est
        | succ n => omega
      have e9 : ((n : Nat) : Int) - 1 = ((n - 1 : Nat) : Int) := by omega
      have e10 : ((if (Stp.more k).isMiss = true then n else n - 1 : Nat) : Int) = (n : Int) - 1 := e9.symm
      refine ⟨_, ?_, s2, upd_same, rf2⟩
      rw [e10]
      rfl
end
end MC
set_option Elab.async false
set_option linter.all false
set_option maxRecDepth 100000
set_option maxHeartbeats 4000000
namespace MC
open PySem PySem.Spec PyProof.Rows L2
theorem SongAt.mono {H H' : Hp} {v : V} {s : Song} (h : SongAt H v s) (tk : Tk H H') : SongAt H' v s := by
  obtain ⟨ph, pt, x, y, r, h1, h2, h3⟩ := h
  exact ⟨ph, pt, x, y, r, h1.mono tk, h2, h3⟩
noncomputable def pbOf (s : Song) (notes : List Note) : Pb := ⟨thingsL s.line, nextsOf s.line, notes⟩
theorem ledOf_mem {es : List Entry} {b g : Nat} (h : g ∈ ledOf es b) : g ≤ total es := by
  unfold ledOf at h
  split at h
  · rw [List.mem_singleton.mp h]; exact Nat.le_refl _
  · obtain ⟨p, _, _, e⟩ := mem_ledSet.mp h
    rw [← e]
    exact pre_le_total es p
theorem ledOf_ne (es : List Entry) (b : Nat) : ledOf es b ≠ [] := by
  unfold ledOf
  split
  · exact List.cons_ne_nil _ _
  · assumption
theorem ledOf_len (es : List Entry) (b : Nat) : (ledOf es b).length ≤ total es + 1 := by
  unfold ledOf
  split
  · exact Nat.succ_le_succ (Nat.zero_le _)
  · refine Nat.le_trans (List.length_filter_le _ _) ?_
    rw [List.length_range]
    exact Nat.le_refl _
theorem mem_nextsUp {es : List Entry} : ∀ {p : Nat} {gs : List Nat}, gs ∈ nextsUp es p → ∃ q e j, es[q]? = some e ∧ j < e.n ∧ gs = if j + 1 < e.n then [pre es q + j + 1] else ledOf es (q + 1)
  | 0, gs, h => absurd h (List.not_mem_nil)
  | p + 1, gs, h => by
    rw [nextsUp] at h
    rcases List.mem_append.mp h with h | h
    · exact mem_nextsUp h
    · cases e : es[p]? with
      | none => rw [e] at h; exact absurd h (List.not_mem_nil)
      | some x =>
        rw [e] at h
        obtain ⟨j, hj, rfl⟩ := List.mem_map.mp (show gs ∈ nextsBar es p x from h)
        exact ⟨p, x, j, e, List.mem_range.mp hj, rfl⟩
theorem nx_mem {P : Pb} {v : Nat} (h : v < P.after.length) : P.nx v ∈ P.after := by
  unfold Pb.nx
  rw [List.getElem?_eq_getElem h]
  exact List.getElem_mem h
theorem pbOf_ok {s : Song} (good : LineOk s.line) {notes : List Note} (hn : notes.length ≤ 40) : PbOk (pbOf s notes) := by
  have hN : (pbOf s notes).N = total s.line := thingsL_len s.line
  have hlen : (nextsOf s.line).length = total s.line := by rw [nextsOf, nextsUp_len _ (Nat.le_refl _), pre_len]
  have ht := good.total
  have cases1 : ∀ v, (pbOf s notes).nx v = [] ∨ ∃ q e j, s.line[q]? = some e ∧ j < e.n ∧ (pbOf s notes).nx v = if j + 1 < e.n then [pre s.line q + j + 1] else ledOf s.line (q + 1) := by
    intro v
    by_cases hv : v < (nextsOf s.line).length
    · right
      exact mem_nextsUp (nx_mem (P := pbOf s notes) hv)
    · left
      unfold Pb.nx
      show ((nextsOf s.line)[v]?).getD [] = []
      rw [List.getElem?_eq_none (by omega)]
      rfl
  refine ⟨by rw [hN]; exact hlen, fun v g hg => ?_, by rw [hN]; exact ht, hn, fun v => ?_⟩
  · rw [hN]
    rcases cases1 v with h | ⟨q, e, j, h1, h2, h3⟩
    · rw [h] at hg; cases hg
    · rw [h3] at hg
      by_cases c : j + 1 < e.n
      · rw [if_pos c] at hg
        rw [List.mem_singleton.mp hg]
        have h4 := pre_succ h1
        have h5 := pre_le_total s.line (q + 1)
        omega
      · rw [if_neg c] at hg
        exact ledOf_mem hg
  · rcases cases1 v with h | ⟨q, e, j, h1, h2, h3⟩
    · rw [h]; exact Nat.zero_le _
    · rw [h3]
      by_cases c : j + 1 < e.n
      · rw [if_pos c]; show 1 ≤ 80001; omega
      · rw [if_neg c]
        have := ledOf_len s.line (q + 1)
        omega
theorem pbOf_ne {s : Song} {notes : List Note} {v : Nat} (hv : v < (pbOf s notes).N) : (pbOf s notes).nx v ≠ [] := by
  have hN : (pbOf s notes).N = total s.line := thingsL_len s.line
  have hlen : (nextsOf s.line).length = total s.line := by rw [nextsOf, nextsUp_len _ (Nat.le_refl _), pre_len]
  obtain ⟨q, e, j, h1, h2, h3⟩ := mem_nextsUp (nx_mem (P := pbOf s notes) (v := v) (by show v < (nextsOf s.line).length; omega))
  rw [h3]
  by_cases c : j + 1 < e.n
  · rw [if_pos c]; exact List.cons_ne_nil _ _
  · rw [if_neg c]; exact ledOf_ne _ _
theorem rowC_ints (r : Row) : rowC r = (r.map fun c => c.1).map V.int := by rw [List.map_map]; rfl
theorem lastC_len {P : Pb} (ok : PbOk P) : (lastC P).length = P.N + 1 := by rw [lastC, List.length_map]; exact (row_back ok _).len
theorem lastC_ne {P : Pb} (ok : PbOk P) : lastC P ≠ [] := by
  intro e
  have := lastC_len ok
  rw [e] at this
  cases this
theorem goal_spec {P : Pb} (ok : PbOk P) : goalOf P < (lastC P).length ∧ (lastC P)[goalOf P]? = some (costOf P) ∧ ∀ m, m < goalOf P → ∀ z, (lastC P)[m]? = some z → z ≠ costOf P := by
  have h1 := (minL_spec (lastC_ne ok)).1
  have hlt : goalOf P < (lastC P).length := List.findIdx_lt_length_of_exists ⟨_, h1, by simp [costOf]⟩
  refine ⟨hlt, ?_, fun m hm z hz => ?_⟩
  · have h2 := List.findIdx_getElem (w := hlt)
    rw [List.getElem?_eq_getElem hlt]
    exact congrArg some (of_decide_eq_true (p := (lastC P)[goalOf P] = costOf P) h2)
  · have h2 := List.not_of_lt_findIdx hm
    have hml : m < (lastC P).length := by omega
    rw [List.getElem?_eq_getElem hml] at hz
    cases hz
    simpa using h2
theorem cost_cell {P : Pb} (ok : PbOk P) : goalOf P ≤ P.N ∧ cst (rowAt P P.notes.length) (goalOf P) = costOf P := by
  obtain ⟨h1, h2, _⟩ := goal_spec ok
  rw [lastC_len ok] at h1
  refine ⟨by omega, ?_⟩
  rw [lastC, List.getElem?_map] at h2
  cases e : (rowAt P P.notes.length)[goalOf P]? with
  | none => rw [e] at h2; cases h2
  | some c =>
    rw [e] at h2
    rw [cst_get e]
    exact Option.some.inj h2
def spHeard : Sp := Sp3 fun a b c H Q _ => ∃ s ln nvs notes, SongAt H a s ∧ b = .str s.name ∧ SongGood s ∧ c = .ref ln ∧ H ln = some (.lst nvs) ∧ RpA H nvs (notes.map noteD) ∧ notes.length ≤ 40 ∧
  ∀ H' v, Same H H' → Rp H' v (heardD (pbOf s notes)) → Q v H'
theorem flat_ints (ns : List Int) : (ns.map V.int).all flatV = true := by
  induction ns with
  | nil => rfl
  | cons a r ih => rw [List.map_cons, List.all_cons, ih]; rfl
section
variable {P : Program} {w : World} {K : PySem.W.Frag} {mg : Str → Option Value} {base : Heap}
/- slots of heard: 0 score, 1 name, 2 notes, 3 ledger, 4 last, 5 cost, 6 costs -/
theorem sc_heard : FnScope ["score", "name", "notes", "ledger", "last", "cost", "costs"] ["score", "name", "notes"] (defScope s_heard) := ⟨rfl, rfl, rfl, by decide +kernel, rfl, by decide +kernel, by decide +kernel⟩
theorem cal_heard (T : Tx w K mg) : Cal P w K mg base CX0 (127) "heard" ["score", "name", "notes"] spHeard := by
  refine Cal.of T.f_heard T.g_heard sc_heard (fun _ _ _ _ _ _ us hl => match us, hl with | [_, _, _], _ => rfl) (fun vs H Q E h => by obtain ⟨x0, x1, x2, rfl, _⟩ := h; rfl) (fun f cdv A outer s H vs Q E hr h => ?_)
  obtain ⟨v0, v1, v2, rfl, h⟩ := h
  refine ⟨_, (pss_cons (ps_set (i := 3) sc_heard.nd rfl (Or.inl rfl) (pn (mk_Ledger T) hr (pa_cons (pc (cal_written T) hr (pa_cons (pv 0) (pa_cons (pv 1) pa_nil))) (pa_cons (pc (cal_nexts T) hr (pa_cons (pv 0) (pa_cons (pv 1) pa_nil))) (pa_cons (pv 2) pa_nil)))))
    (pss_cons (ps_set (i := 4) sc_heard.nd rfl (Or.inl rfl) (pe_ix ix_list (pe_fld (pv 3) rfl) (pe_un un_neg pe_int) (fun _ _ => rfl)))
    (pss_cons (ps_set (i := 5) sc_heard.nd rfl (Or.inl rfl) (pe_callB (cr_min (by rfl)) (by rfl) T.b_min (by decide +kernel) (pa_cons (pv 4) pa_nil)))
    (pss_one (ps_ret (pe_tup (pa_cons (pv 5) (pa_cons (pm (met_Ledger_way_to T) hr (pv 3) (pa_cons (pe_bm PySem.F.plainAttrs_list PySem.F.slot_list_index PySem.F.type_list_index mt_index (pv 4) (pa_cons (pv 5) pa_nil)) pa_nil)) (pa_cons (pe_callTy call_tuple_of (by rfl) T.b_tuple (by decide +kernel) (pa_cons (pe_lc (own := [("costs", 6)]) (by rfl) sc_heard.nd (pi_list (pe_fld (pv 3) rfl)) (blkOk_by (own := [("costs", 6)]) (N := ["score", "name", "notes", "ledger", "last", "cost", "costs"]) (sc := defScope s_heard) (by decide +kernel)) (fun _ _ _ _ _ => (pg_name (i := 6) sc_heard.nd rfl (Or.inl rfl))) (fun _ _ _ _ _ => pts_nil) (fun _ _ _ _ _ => (pe_callTy (call_tupleK K) (by rfl) T.b_tuple (by decide +kernel) (pa_cons (pv 6) pa_nil)))) pa_nil)) pa_nil))))))))), ?_⟩
  obtain ⟨s, ln, nvs, notes, hs, rfl, good, rfl, hln, rn, hnl, kk⟩ := h
  have ok := pbOf_ok good.line hnl
  refine ⟨_, rfl, _, rfl, ?_⟩
  refine ⟨_, _, rfl, s, hs, rfl, good, fun H1 lt tvs s1 hlt0 hlt rlt => ?_⟩
  refine ⟨_, rfl, _, rfl, ?_⟩
  refine ⟨_, _, rfl, s, hs.mono s1.tk, rfl, good, fun H2 la s2 hla0 hlan => ?_⟩
  have hla := hlan.at
  refine ⟨_, rfl, fun d dd hd hdd hne => ?_⟩
  have s12 := s1.trans s2
  have p3 : Pb3 H2 lt la ln (pbOf s notes) := ⟨⟨tvs, s2.on hlt, rlt.mono s2.tk⟩, hla, ⟨nvs, s12.on hln, rn.mono s12.tk⟩⟩
  have s23 : Same H2 (upd (upd H2 dd (.own d)) d (.ins (gA K "Ledger") dd [])) := fun b o hb => by
    rw [upd_ne (ne_of_none hb hd), upd_ne (ne_of_none hb hdd)]; exact hb
  refine ⟨_, _, _, _, rfl, H2, d, dd, lt, la, ln, pbOf s notes, rfl, rfl, rfl, rfl, upd_same, hd, s23, p3, ok, fun H3 lc ls L => ⟨rfl, ?_⟩⟩
  generalize hP : pbOf s notes = P at *
  obtain ⟨dx, o⟩ := L.o
  have hlastr : (rowsTo P P.notes.length).getLast? = some (rowAt P P.notes.length) := by
    rw [List.getLast?_eq_getElem?, rowsTo_len]
    exact rowsTo_get (Nat.le_refl _)
  obtain ⟨cvs, q, hc, hcl, hq, _, _, hcvl⟩ := L.last hlastr
  have hq2 : H3 q = some (.lst ((lastC P).map V.int)) := by rw [hq, rowC_ints]; rfl
  have hll := lastC_len ok
  refine ⟨_, rfl, d, _, dx, _, _, rfl, o, T.c_Ledger, T.n_Ledger_costs, rfl, _, rfl, lc, cvs, _, _, rfl, rfl, SqL.of hc, atI_last hcl, ?_⟩
  refine ⟨_, rfl, q, lastC P, rfl, SqL.of hq2, by omega, fun m hm hle => ?_⟩
  have em : m = costOf P := by
    obtain ⟨h1, h2⟩ := minL_spec (lastC_ne ok)
    have a1 := hle _ h1
    have a2 := h2 _ hm
    unfold costOf
    omega
  subst em
  obtain ⟨g1, g2, g3⟩ := goal_spec ok
  refine ⟨_, rfl, _, rfl, d, dx, _, rfl, o, rfl, ?_⟩
  refine ⟨_, rfl, .inl ⟨rfl, _, SqL.of hq2⟩, _, rfl, ?_⟩
  refine ⟨q, _, _, goalOf P, .int (costOf P), rfl, rfl, SqL.of hq2, rfl, flat_ints _, (by rw [List.getElem?_map, g2]; rfl), (by simp [eqV]), fun j z hj hz => ?_, ?_⟩
  · rw [List.getElem?_map] at hz
    cases e : (lastC P)[j]? with
    | none => rw [e] at hz; cases hz
    | some z0 =>
      rw [e] at hz
      cases hz
      have := g3 j hj z0 e
      simp [eqV, this]
  refine ⟨_, _, rfl, H2, d, lt, la, ln, lc, ls, P, goalOf P, rfl, rfl, L, ok, by omega, fun H4 v s4 rv => ?_⟩
  have L4 := L.same s4
  obtain ⟨cv4, c41, c42⟩ := L4.c
  have hcv : cv4.length = (rowsTo P P.notes.length).length := c42.len
  refine ⟨_, rfl, d, _, dx, _, _, rfl, s4.on o, T.c_Ledger, T.n_Ledger_costs, rfl, lc, rfl, ⟨_, SqL.of c41⟩, fun D hD => ?_⟩
  have hL := ok.l
  refine lc_rp (walk_list (xs := cv4)) hD ((tableOf P).map iD) (by rw [List.length_map, tableOf, List.length_map, hcv]) (by rw [hcv, rowsTo_len, sizeLine_eq]; omega) (fun H s => SqL.of (s.on c41)) ?_ ?_
  · rintro i x H5 H6 dd hi s e ⟨rfl, hx⟩ C N kk
    obtain ⟨r, hr, q2, rfl, _, _, hq2⟩ := c42.get hx
    have ed : dd = iD (r.map fun c => c.1) := by
      rw [List.getElem?_map, tableOf, List.getElem?_map, hr] at e
      exact (Option.some.inj e).symm
    subst ed
    refine ⟨rfl, yesT ⟨_, rfl, q2, _, rfl, .inl ⟨SqL.of (s.on hq2), fun l hl => ?_⟩⟩⟩
    refine kk _ _ (same_new hl) (rp_ints ?_)
    rw [← rowC_ints]
    exact upd_same
  intro H5 us s5 hus rus
  refine ⟨D, us, rfl, .inl ⟨SqL.of hus, fun p hp => ?_⟩⟩
  have s6 := same_new (o := .tup us) hp
  refine ⟨(by show 3 ≤ sizeLine; decide), fun p2 hp2 => ?_⟩
  have s7 := same_new (o := .tup [.int (costOf P), v, .ref p]) hp2
  have s37 := s4.trans (s5.trans (s6.trans s7))
  refine kk _ _ ((s12.trans L.s).trans s37) (.tup upd_same (.cons (.int _) (.cons (rv.mono (s5.trans (s6.trans s7)).tk) (.cons (.tup (s7.on upd_same) ((rus.mono s6.tk).mono s7.tk)) .nil))))
end
end MC
set_option Elab.async false
set_option linter.all false
set_option maxRecDepth 100000
set_option maxHeartbeats 4000000
namespace MC
open PySem PySem.Spec PyProof.Rows L2
theorem rpa_bools_inv {H : Hp} {b : Bool} : ∀ (n : Nat) {us : List V}, RpA H us (List.replicate n (.bool b)) → us = (List.replicate n b).map V.bl
  | 0, us, h => h.nil_inv
  | n + 1, us, h => by
    rw [List.replicate_succ] at h
    obtain ⟨v, r, e, h1, h2⟩ := h.cons_inv
    rw [e, h1.bl_inv, rpa_bools_inv n h2]
    rfl
theorem all_rep : ∀ n : Nat, (List.replicate n true).all id = true
  | 0 => rfl
  | n + 1 => by rw [List.replicate_succ, List.all_cons, all_rep n]; rfl
theorem any_rep : ∀ n : Nat, (List.replicate n false).any id = false
  | 0 => rfl
  | n + 1 => by rw [List.replicate_succ, List.any_cons, any_rep n]; rfl
def spIsW : Sp := Sp1 fun a H Q _ => ∃ i : Int, a = .int i ∧ Q (.bl true) H
def spTab : Sp := Sp3 fun a b c H Q _ => ∃ (tb : List (List Int)) (wide : Nat), Rp H a (.tuple (tb.map iD)) ∧ b = .int (tb.length : Nat) ∧ c = .int (wide : Nat) ∧ (∀ r ∈ tb, r.length = wide) ∧ wide ≤ 90000 ∧ ∀ H', Same H H' → Q (.bl true) H'
def spIsStep : Sp := Sp1 fun a H Q _ => ∃ n v : Nat, Rp H a (Stp.hear n v).d ∧ ∀ H', Same H H' → Q (.bl true) H'
theorem Rp.hear_inv {H : Hp} {v : V} {n u : Nat} (h : Rp H v (Stp.hear n u).d) : ∃ a, v = .ref a ∧ H a = some (.tup [.str "hear", .int (n : Nat), .int (u : Nat)]) := by
  obtain ⟨a, vs, rfl, h1, r⟩ := Rp.tup_inv (ds := [.str "hear", .int (n : Nat), .int (u : Nat)]) h
  obtain ⟨v1, r1, rfl, e1, r⟩ := r.cons_inv
  obtain ⟨v2, r2, rfl, e2, r⟩ := r.cons_inv
  obtain ⟨v3, r3, rfl, e3, r⟩ := r.cons_inv
  cases r.nil_inv
  cases e1.str_inv
  cases e2.int_inv
  cases e3.int_inv
  exact ⟨a, rfl, h1⟩
/-! ### going a way -/
structure GoAt (K : PySem.W.Frag) (H0 H : Hp) (d lt la ln : Addr) (P : Pb) (k m : Addr → Prop) (t : Nat) (ma : Addr) (ms : List Nat) : Prop where
  o : ∃ dx, H d = some (.ins (gA K "Going") dx [("things", .ref lt), ("after", .ref la), ("notes", .ref ln), ("taken", .int (t : Nat)), ("may", .ref ma), ("cost", .int 0)])
  s : Same H0 H
  d0 : H0 d = none
  p : Pb3 H0 lt la ln P
  m : H ma = some (.lst (ms.map natV))
abbrev GoA (K : PySem.W.Frag) (H0 H : Hp) (d lt la ln : Addr) (P : Pb) (t : Nat) (ma : Addr) (ms : List Nat) : Prop := GoAt K H0 H d lt la ln P (fun _ => True) (fun _ => True) t ma ms
def spInitG (K : PySem.W.Frag) : Sp := Sp4 fun a b c e H Q _ => ∃ H0 d dx lt la ln P, a = .ref d ∧ b = .ref lt ∧ c = .ref la ∧ e = .ref ln ∧ H d = some (.ins (gA K "Going") dx []) ∧ H0 d = none ∧ Same H0 H ∧ Pb3 H0 lt la ln P ∧ PbOk P ∧
  ∀ H' ma, GoA K H0 H' d lt la ln P 0 ma (List.range P.N) → Q .non H'
def spGoes (K : PySem.W.Frag) : Sp := Sp2 fun a b H Q _ => ∃ H0 d lt la ln P t ma ms v, a = .ref d ∧ GoA K H0 H d lt la ln P t ma ms ∧ PbOk P ∧ Rp H b (Stp.hear t v).d ∧ t < P.notes.length ∧ v < P.N ∧ v ∈ ms ∧ P.price t v = 0 ∧
  ∀ H' ma', Same H0 H' → GoA K H0 H' d lt la ln P (t + 1) ma' (P.nx v) → Q (.bl true) H'
/-- a way of hearing only, at no price -/
structure HearWay (P : Pb) (vs : List Nat) : Prop where
  len : vs.length = P.notes.length
  ok : ∀ k v, vs[k]? = some v → v < P.N ∧ P.price k v = 0
  go : ∀ k u v, vs[k]? = some u → vs[k + 1]? = some v → v ∈ P.nx u
def hearsOf (P : Pb) (vs : List Nat) : List Stp := (List.range P.notes.length).map fun i => Stp.hear i (vs.getD i 0)
def spWayC : Sp := Sp4 fun a b c e H Q _ => ∃ lt la ln P vs, a = .ref lt ∧ b = .ref la ∧ c = .ref ln ∧ Pb3 H lt la ln P ∧ PbOk P ∧ HearWay P vs ∧ Rp H e (.tuple ((hearsOf P vs).map Stp.d)) ∧ ∀ H', Same H H' → Q (.int 0) H'
def spFair : Sp := Sp4 fun a b c e H Q _ => ∃ lt la ln P, a = .ref lt ∧ b = .ref la ∧ c = .ref ln ∧ Pb3 H lt la ln P ∧ PbOk P ∧ Rp H e (.tuple ((tableOf P).map iD)) ∧ ∀ H', Same H H' → Q (.bl true) H'
theorem Pb3.mono {H H' : Hp} {lt la ln : Addr} {P : Pb} (h : Pb3 H lt la ln P) (s : Same H H') : Pb3 H' lt la ln P := by
  obtain ⟨⟨tvs, t1, t2⟩, a, ⟨nvs, n1, n2⟩⟩ := h
  exact ⟨⟨tvs, s.on t1, t2.mono s.tk⟩, a.mono s, ⟨nvs, s.on n1, n2.mono s.tk⟩⟩
theorem inV_nat {v : Nat} {ms : List Nat} (h : v ∈ ms) : inV (natV v) (ms.map natV) = true := by
  unfold inV
  rw [List.any_map, List.any_eq_true]
  exact ⟨v, h, by simp [natV, eqV]⟩
theorem flat_nats (ns : List Nat) : (ns.map natV).all flatV = true := by
  induction ns with
  | nil => rfl
  | cons a r ih => rw [List.map_cons, List.all_cons, ih]; rfl
theorem kit_int_int {K : PySem.W.Frag} : PySem.W.kitOne K (.type "int") (.type "int") = some true := kit_ty (by decide +kernel)
theorem kit_int_bool {K : PySem.W.Frag} : PySem.W.kitOne K (.type "int") (.type "bool") = some false := kit_ty (by decide +kernel)
theorem kit_tup {K : PySem.W.Frag} : PySem.W.kitOne K (.type "tuple") (.type "tuple") = some true := kit_ty (by decide +kernel)
theorem kit_str {K : PySem.W.Frag} : PySem.W.kitOne K (.type "str") (.type "str") = some true := kit_ty (by decide +kernel)
section
variable {P : Program} {w : World} {K : PySem.W.Frag} {mg : Str → Option Value} {base : Heap}
/- slots of is_whole: 0 thing -/
theorem sc_is_whole : FnScope ["thing"] ["thing"] (defScope s_is_whole) := ⟨rfl, rfl, rfl, by decide +kernel, rfl, by decide +kernel, by decide +kernel⟩
theorem cal_is_whole (T : Tx w K mg) : Cal P w K mg base CX0 (1) "is_whole" ["thing"] spIsW := by
  refine Cal.of T.f_is_whole T.g_is_whole sc_is_whole (fun _ _ _ _ _ _ us hl => match us, hl with | [_], _ => rfl) (fun vs H Q E h => by obtain ⟨x0, rfl, _⟩ := h; rfl) (fun f cdv A outer s H vs Q E hr h => ?_)
  obtain ⟨v0, rfl, h⟩ := h
  refine ⟨_, (pss_one (ps_ret (pe_and (pe_callB call_isi (by rfl) T.b_isinstance (by decide +kernel) (pa_cons (pv 0) (pa_cons (pe_bltn (v := .ty "int") (by rfl) T.b_int (by decide +kernel) rfl) pa_nil))) (pe_one (pe_not (pe_callB call_isi (by rfl) T.b_isinstance (by decide +kernel) (pa_cons (pv 0) (pa_cons (pe_bltn (v := .ty "bool") (by rfl) T.b_bool (by decide +kernel) rfl) pa_nil)))))))), ?_⟩
  obtain ⟨i, rfl, k⟩ := h
  refine ⟨_, rfl, _, _, _, _, _, rfl, .ty "int", .base (.int _), kit_int_int, ?_⟩
  refine ⟨_, rfl, yes ?_⟩
  refine ⟨_, rfl, _, _, _, _, _, rfl, .ty "bool", .base (.int _), kit_int_bool, ?_⟩
  exact ⟨_, rfl, k⟩
/- slots of is_table: 0 thing, 1 many, 2 wide, 3 numbers, 4 one -/
theorem sc_is_table : FnScope ["thing", "many", "wide", "numbers", "one"] ["thing", "many", "wide"] (defScope s_is_table) := ⟨rfl, rfl, rfl, by decide +kernel, rfl, by decide +kernel, by decide +kernel⟩
theorem cal_is_table (T : Tx w K mg) : Cal P w K mg base CX0 (2) "is_table" ["thing", "many", "wide"] spTab := by
  refine Cal.of T.f_is_table T.g_is_table sc_is_table (fun _ _ _ _ _ _ us hl => match us, hl with | [_, _, _], _ => rfl) (fun vs H Q E h => by obtain ⟨x0, x1, x2, rfl, _⟩ := h; rfl) (fun f cdv A outer s H vs Q E hr h => ?_)
  obtain ⟨v0, v1, v2, rfl, h⟩ := h
  refine ⟨_, (pss_cons (ps_if (PW.pt (pw_or (pt_not (pt_val (pe_callB call_isi (by rfl) T.b_isinstance (by decide +kernel) (pa_cons (pv 0) (pa_cons (pe_bltn (v := .ty "tuple") (by rfl) T.b_tuple (by decide +kernel) rfl) pa_nil))))) (pw_or1 (pt_cmpR op_ne (pe_callB call_len_seq (by rfl) T.b_len PySem.boot_len (pa_cons (pv 0) pa_nil)) (pv 1) (nomark _))))) (pss_one (ps_ret pe_bl)) pss_nil)
    (pss_cons (ps_for PassesOwn.never rfl (pi_tup (pv 0)) (pg_name (i := 3) sc_is_table.nd rfl (Or.inl rfl)) (pss_one (ps_if (PW.pt (pw_or (pt_not (pt_val (pe_callB call_isi (by rfl) T.b_isinstance (by decide +kernel) (pa_cons (pv 3) (pa_cons (pe_bltn (v := .ty "tuple") (by rfl) T.b_tuple (by decide +kernel) rfl) pa_nil))))) (pw_or (pt_cmpR op_ne (pe_callB call_len_seq (by rfl) T.b_len PySem.boot_len (pa_cons (pv 3) pa_nil)) (pv 2) (nomark _)) (pw_or1 (pt_not (pt_val (pe_callB (cr_all (by rfl)) (by rfl) T.b_all (by decide +kernel) (pa_cons (pe_lc (own := [("one", 4)]) (by rfl) sc_is_table.nd (pi_tup (pv 3)) (blkOk_by (own := [("one", 4)]) (N := ["thing", "many", "wide", "numbers", "one"]) (sc := defScope s_is_table) (by decide +kernel)) (fun _ _ _ _ _ => (pg_name (i := 4) sc_is_table.nd rfl (Or.inl rfl))) (fun _ _ _ _ _ => pts_nil) (fun _ _ _ _ _ => (pc (cal_is_whole T) hr (pa_cons (pv 4) pa_nil)))) pa_nil)))))))) (pss_one (ps_ret pe_bl)) pss_nil)))
    (pss_one (ps_ret pe_bl)))), ?_⟩
  obtain ⟨tb, wide, hr1, rfl, rfl, hw, h9, k⟩ := h
  obtain ⟨a, vs, rfl, ha, rv⟩ := hr1.tup_inv
  have hvl : vs.length = tb.length := by rw [rv.len, List.length_map]
  refine ⟨_, rfl, _, _, _, _, _, rfl, .ty "tuple", .base (.tup ha), kit_tup, _, rfl, ?_⟩
  refine itF (by decide) ?_
  refine ⟨_, rfl, a, vs, rfl, .inr (SqT.of ha), _, rfl, rfl, _, rfl, ?_⟩
  refine itF (by rw [hvl]; simp) ?_
  refine ⟨_, rfl, a, rfl, ⟨vs, SqT.of ha⟩, for_it (walk_tup (xs := vs)) (fun i σ H' => ∃ c3 c4, σ = [some (.ref a), some (.int (tb.length : Nat)), some (.int (wide : Nat)), c3, c4] ∧ Same H H') ⟨_, _, rfl, same_refl H⟩ ?_ ?_ ?_⟩
  · rintro i σ H' _ ⟨c3, c4, rfl, s⟩
    exact SqT.of (s.on ha)
  · rintro i v σ H1 H2 hi ⟨c3, c4, rfl, s⟩ ⟨rfl, hv⟩
    obtain ⟨d, hd, rd⟩ := rv.get hv
    rw [List.getElem?_map] at hd
    cases e : tb[i]? with
    | none => rw [e] at hd; cases hd
    | some row =>
      rw [e] at hd
      cases hd
      obtain ⟨b, rfl, hb⟩ := rd.ints
      have hb := s.on hb
      have hrl := hw row (List.mem_of_getElem? e)
      refine ⟨_, rfl, _, _, _, _, _, rfl, .ty "tuple", .base (.tup hb), kit_tup, _, rfl, ?_⟩
      refine itF (by decide) ?_
      refine ⟨_, rfl, b, _, rfl, .inr (SqT.of hb), _, rfl, rfl, _, rfl, ?_⟩
      refine itF (by rw [List.length_map, hrl]; simp) ?_
      refine ⟨_, rfl, b, rfl, ⟨_, SqT.of hb⟩, fun D hD => ?_⟩
      refine lc_rp (walk_tup (xs := row.map V.int)) hD (List.replicate row.length (.bool true)) (by rw [List.length_replicate, List.length_map]) (by rw [List.length_map, hrl, sizeLine_eq]; omega) (fun H s => SqT.of (s.on hb)) ?_ ?_
      · rintro j x H3 H4 dd hj s3 e2 ⟨rfl, hx⟩ C N kk
        rw [List.getElem?_map] at hx
        have hj' : j < row.length := by simpa using hj
        rw [List.getElem?_eq_getElem hj'] at hx
        cases hx
        rw [List.getElem?_replicate, if_pos hj'] at e2
        cases e2
        exact ⟨rfl, yesT ⟨_, rfl, _, rfl, _, rfl, kk _ _ (same_refl _) (.bl _)⟩⟩
      · intro H3 us s3 hus rus
        have eu := rpa_bools_inv _ rus
        rw [eu] at hus
        refine ⟨D, _, rfl, SqL.of hus, ?_⟩
        rw [all_rep]
        refine ⟨_, rfl, itF (by decide) ?_⟩
        exact ⟨_, _, rfl, s.trans s3⟩
  · rintro σ H1 ⟨c3, c4, rfl, s⟩
    exact k H1 s
/- slots of is_step: 0 thing, 1 number -/
theorem sc_is_step : FnScope ["thing", "number"] ["thing"] (defScope s_is_step) := ⟨rfl, rfl, rfl, by decide +kernel, rfl, by decide +kernel, by decide +kernel⟩
theorem cal_is_step (T : Tx w K mg) : Cal P w K mg base CX0 (2) "is_step" ["thing"] spIsStep := by
  refine Cal.of T.f_is_step T.g_is_step sc_is_step (fun _ _ _ _ _ _ us hl => match us, hl with | [_], _ => rfl) (fun vs H Q E h => by obtain ⟨x0, rfl, _⟩ := h; rfl) (fun f cdv A outer s H vs Q E hr h => ?_)
  obtain ⟨v0, rfl, h⟩ := h
  refine ⟨_, (pss_cons (ps_if (PW.pt (pw_or (pt_not (pt_val (pe_callB call_isi (by rfl) T.b_isinstance (by decide +kernel) (pa_cons (pv 0) (pa_cons (pe_bltn (v := .ty "tuple") (by rfl) T.b_tuple (by decide +kernel) rfl) pa_nil))))) (pw_or (pt_cmpR op_eq (pe_callB call_len_seq (by rfl) T.b_len PySem.boot_len (pa_cons (pv 0) pa_nil)) pe_int (nomark _)) (pw_or1 (pt_not (pt_val (pe_callB call_isi (by rfl) T.b_isinstance (by decide +kernel) (pa_cons (pe_ix ix_tup (pv 0) pe_int (fun _ _ => rfl)) (pa_cons (pe_bltn (v := .ty "str") (by rfl) T.b_str (by decide +kernel) rfl) pa_nil))))))))) (pss_one (ps_ret pe_bl)) pss_nil)
    (pss_one (ps_ret (pe_and (pe_cmpR op_eq (pe_kget T.d_FORMS (pe_gref T.g_FORMS) (pe_ix ix_tup (pv 0) pe_int (fun _ _ => rfl)) ⟨by rfl, by rfl, by rfl, by rfl⟩) (pe_callB call_len_seq (by rfl) T.b_len PySem.boot_len (pa_cons (pv 0) pa_nil)) (nomark _)) (pe_one (pe_callB (cr_all (by rfl)) (by rfl) T.b_all (by decide +kernel) (pa_cons (pe_lc (own := [("number", 1)]) (by rfl) sc_is_step.nd (pi_tup (pe_slice sl_tupA (pv 0) (po_some pe_int) po_none)) (blkOk_by (own := [("number", 1)]) (N := ["thing", "number"]) (sc := defScope s_is_step) (by decide +kernel)) (fun _ _ _ _ _ => (pg_name (i := 1) sc_is_step.nd rfl (Or.inl rfl))) (fun _ _ _ _ _ => pts_nil) (fun _ _ _ _ _ => (pc (cal_is_whole T) hr (pa_cons (pv 1) pa_nil)))) pa_nil))))))), ?_⟩
  obtain ⟨n, v, hr1, k⟩ := h
  obtain ⟨a, rfl, ha⟩ := hr1.hear_inv
  refine ⟨_, rfl, _, _, _, _, _, rfl, .ty "tuple", .base (.tup ha), kit_tup, _, rfl, ?_⟩
  refine itF (by decide) ?_
  refine ⟨_, rfl, a, _, rfl, .inr (SqT.of ha), rfl, _, rfl, ?_⟩
  refine itF (dF (fun z => by have := V.int.inj z; simp at this)) ?_
  refine ⟨_, rfl, _, _, _, _, rfl, rfl, SqT.of (ha), atI_nat (j := 0) rfl, _, _, _, _, _, rfl, .ty "str", .base (.str _), kit_str, _, rfl, ?_⟩
  refine itF (by decide) ?_
  obtain ⟨tok, hf⟩ := T.v_FORMS "hear" 3 (by simp)
  refine ⟨rfl, _, rfl, _, _, _, _, rfl, rfl, SqT.of (ha), atI_nat (j := 0) rfl, "hear", _, .int 3, rfl, hf, ⟨_, rfl⟩, ?_⟩
  refine ⟨_, rfl, a, _, rfl, .inr (SqT.of ha), rfl, _, rfl, itT (dT rfl) ?_⟩
  refine ⟨_, rfl, 1, rfl, a, _, rfl, SqT.of ha, fun z => absurd z.1 (show ¬ HT.sIx 3 0 (some 1) = 0 by decide), fun _ q hq => ?_⟩
  have s1 := same_new (o := .tup (cutV [.str "hear", .int (n : Nat), .int (v : Nat)] (some 1) none)) hq
  refine ⟨q, rfl, ⟨[.int (n : Nat), .int (v : Nat)], SqT.of upd_same⟩, fun D hD => ?_⟩
  refine lc_rp (walk_tup (xs := [V.int (n : Nat), V.int (v : Nat)])) hD (List.replicate 2 (.bool true)) rfl (by show 2 ≤ sizeLine; decide) (fun H s => SqT.of (s.on upd_same)) ?_ ?_
  · rintro j x H3 H4 dd hj s3 e2 ⟨rfl, hx⟩ C N kk
    have hj' : j < 2 := hj
    rw [List.getElem?_replicate, if_pos hj'] at e2
    cases e2
    have hxi : ∃ i : Int, x = .int i := by
      match j, hj' with
      | 0, _ => simp at hx; exact ⟨_, hx.symm⟩
      | 1, _ => simp at hx; exact ⟨_, hx.symm⟩
    obtain ⟨i, rfl⟩ := hxi
    exact ⟨rfl, yesT ⟨_, rfl, _, rfl, _, rfl, kk _ _ (same_refl _) (.bl _)⟩⟩
  · intro H3 us s3 hus rus
    have eu := rpa_bools_inv _ rus
    rw [eu] at hus
    refine ⟨D, _, rfl, SqL.of hus, ?_⟩
    rw [all_rep]
    exact k H3 (s1.trans s3)
/- slots of Going.__init__: 0 self, 1 things, 2 after, 3 notes -/
theorem sc_Going_init : FnScope ["self", "things", "after", "notes"] ["self", "things", "after", "notes"] (defScope s_Going_init) := ⟨rfl, rfl, rfl, by decide +kernel, rfl, by decide +kernel, by decide +kernel⟩
theorem mk_Going (T : Tx w K mg) : CalN P w K mg base CX0 (1) "Going" ["self", "things", "after", "notes"] (spInitG K) := by
  refine CalN.of T.f_Going_init T.k_Going T.g_Going sc_Going_init (fun _ _ _ _ _ _ us hl => match us, hl with | [_, _, _, _], _ => rfl) (fun vs H Q E h => by obtain ⟨x0, x1, x2, x3, rfl, _⟩ := h; rfl) (fun f cdv A outer s H vs Q E hr h => ?_)
  obtain ⟨v0, v1, v2, v3, rfl, h⟩ := h
  refine ⟨_, (pss_cons (ps_fld (pv 0) (pv 1) rfl)
    (pss_cons (ps_fld (pv 0) (pv 2) rfl)
    (pss_cons (ps_fld (pv 0) (pv 3) rfl)
    (pss_cons (ps_fld (pv 0) pe_int rfl)
    (pss_cons (ps_fld (pv 0) (pe_listRg (by rfl) (by rfl) T.b_list (prg_1 (by rfl) T.b_range (pe_callB call_len_seq (by rfl) T.b_len PySem.boot_len (pa_cons (pv 1) pa_nil)))) rfl)
    (pss_one (ps_fld (pv 0) pe_int rfl))))))), ?_⟩
  obtain ⟨H0, d, dx, lt, la, ln, P, rfl, rfl, rfl, rfl, hd, hd0, s0, p3, ok, kk⟩ := h
  obtain ⟨tvs, ht1, ht2⟩ := p3.t
  have htl : tvs.length = P.N := by rw [ht2.len, List.length_map]; rfl
  have hN := ok.n
  have keep : ∀ {H' : Hp}, Kp [d] H H' → Same H0 H' := fun {H'} kp b o' hb => kp b o' (s0 b o' hb) fun m => by
    rw [List.mem_singleton.mp m, hd0] at hb; cases hb
  refine ⟨_, rfl, _, rfl, d, _, dx, _, rfl, hd, T.c_Going, T.n_Going_things, (by decide), ?_⟩
  refine ⟨_, rfl, _, rfl, d, _, dx, _, rfl, upd_same, T.c_Going, T.n_Going_after, (by show 1 < 1000; decide), ?_⟩
  refine ⟨_, rfl, _, rfl, d, _, dx, _, rfl, upd_same, T.c_Going, T.n_Going_notes, (by show 2 < 1000; decide), ?_⟩
  refine ⟨_, rfl, d, _, dx, _, rfl, upd_same, T.c_Going, T.n_Going_taken, (by show 3 < 1000; decide), ?_⟩
  refine hgen (fun H3 => Kp [d] H H3 ∧ H3 d = some (.ins (gA K "Going") dx [("things", .ref lt), ("after", .ref la), ("notes", .ref ln), ("taken", .int 0)])) ⟨((kp_upd.trans kp_upd).trans kp_upd).trans kp_upd, upd_same⟩ ?_
  rintro H3 ⟨kp3, o3⟩
  refine ⟨_, rfl, lt, tvs, rfl, .inl (SqL.of (keep kp3 _ _ ht1)), (tvs.length : Nat), rfl, RgOk.of_le (by omega) (by omega) (by omega) (by omega), fun ma hma => ?_⟩
  have e0 : rgV 0 ((tvs.length : Nat) : Int) = (List.range P.N).map natV := by
    unfold rgV
    have e1 : (((tvs.length : Nat) : Int) - 0).toNat = P.N := by omega
    rw [e1]
    refine List.map_congr_left fun i _ => ?_
    rw [Int.zero_add]
    rfl
  rw [e0]
  have s1 := same_new (o := .lst ((List.range P.N).map natV)) hma
  have hmd : ma ≠ d := fun e => by rw [e, o3] at hma; cases hma
  refine ⟨_, rfl, d, _, dx, _, rfl, s1.on o3, T.c_Going, T.n_Going_may, (by show 4 < 1000; decide), ?_⟩
  refine ⟨_, rfl, d, _, dx, _, rfl, upd_same, T.c_Going, T.n_Going_cost, (by show 5 < 1000; decide), ?_⟩
  refine kk _ ma ⟨⟨dx, upd_same⟩, keep (((kp3.trans (Kp.of s1)).trans kp_upd).trans kp_upd), hd0, p3, ?_⟩
  rw [upd_ne hmd, upd_ne hmd, upd_same]
/- slots of Going.goes: 0 self, 1 step -/
theorem sc_Going_goes : FnScope ["self", "step"] ["self", "step"] (defScope s_Going_goes) := ⟨rfl, rfl, rfl, by decide +kernel, rfl, by decide +kernel, by decide +kernel⟩
theorem met_Going_goes (T : Tx w K mg) : CalM P w K mg base CX0 (2) "Going" "goes" ["self", "step"] (spGoes K) := by
  refine CalM.of T.f_Going_goes T.m_Going_goes T.c_Going sc_Going_goes (fun _ _ _ _ _ _ us hl => match us, hl with | [_, _], _ => rfl) (fun vs H Q E h => by obtain ⟨x0, x1, rfl, _⟩ := h; rfl) (fun f cdv A outer s H vs Q E hr h => ?_)
  obtain ⟨v0, v1, rfl, h⟩ := h
  refine ⟨_, (pss_cons (ps_if (PW.pt (pw_and (pt_cmpR op_ne (pe_ix ix_tup (pv 1) pe_int (fun _ _ => rfl)) pe_str (nomark _)) (pw_and1 (PW.pt (pw_or (pt_cmpR op_ne (pe_ix ix_tup (pv 1) pe_int (fun _ _ => rfl)) (pe_fld (pv 0) rfl) (nomark _)) (pw_or1 (pt_cmpR op_eq (pe_fld (pv 0) rfl) (pe_callB call_len_seq (by rfl) T.b_len PySem.boot_len (pa_cons (pe_fld (pv 0) rfl) pa_nil)) (nomark _)))))))) (pss_one (ps_ret pe_bl)) pss_nil)
    (pss_cons (ps_if (PW.pt (pw_and (pt_cmpR op_ne (pe_ix ix_tup (pv 1) pe_int (fun _ _ => rfl)) pe_str (nomark _)) (pw_and1 (PW.pt (pw_or (pt_cmpR op_eq (pe_ix ix_tup (pv 1) (pe_un un_neg pe_int) (fun _ _ => rfl)) (pe_callB call_len_seq (by rfl) T.b_len PySem.boot_len (pa_cons (pe_fld (pv 0) rfl) pa_nil)) (nomark _)) (pw_or1 (pt_cmpR op_notIn_seq (pe_ix ix_tup (pv 1) (pe_un un_neg pe_int) (fun _ _ => rfl)) (pe_fld (pv 0) rfl) (by rfl)))))))) (pss_one (ps_ret pe_bl)) pss_nil)
    (pss_cons (ps_if (pt_cmpR op_eq (pe_ix ix_tup (pv 1) pe_int (fun _ _ => rfl)) pe_str (nomark _)) (pss_one (ps_fldaug (pv 0) (pc (cal_price T) hr (pa_cons (pe_ix ix_list (pe_fld (pv 0) rfl) (pe_fld (pv 0) rfl) (fun _ _ => rfl)) (pa_cons (pe_ix ix_list (pe_fld (pv 0) rfl) (pe_ix ix_tup (pv 1) pe_int (fun _ _ => rfl)) (fun _ _ => rfl)) pa_nil))) in_add)) (pss_one (ps_fldaug (pv 0) (pe_gint T.i_OFTEN) in_add)))
    (pss_cons (ps_if (pt_cmpR op_ne (pe_ix ix_tup (pv 1) pe_int (fun _ _ => rfl)) pe_str (nomark _)) (pss_one (ps_fldaug (pv 0) pe_int in_add)) pss_nil)
    (pss_cons (ps_if (pt_cmpR op_ne (pe_ix ix_tup (pv 1) pe_int (fun _ _ => rfl)) pe_str (nomark _)) (pss_one (ps_fld (pv 0) (pe_ix ix_list (pe_fld (pv 0) rfl) (pe_ix ix_tup (pv 1) (pe_un un_neg pe_int) (fun _ _ => rfl)) (fun _ _ => rfl)) rfl)) pss_nil)
    (pss_one (ps_ret pe_bl))))))), ?_⟩
  obtain ⟨H0, d, lt, la, ln, P, t, ma, ms, v, rfl, G, ok, hst, ht, hv, hm, hp, kk⟩ := h
  obtain ⟨dx, o⟩ := G.o
  obtain ⟨a, rfl, ha⟩ := hst.hear_inv
  obtain ⟨tvs, ht1, ht2⟩ := G.p.t
  obtain ⟨nvs, hn1, hn2⟩ := G.p.n
  have htl : tvs.length = P.N := by rw [ht2.len, List.length_map]; rfl
  have hnl : nvs.length = P.notes.length := by rw [hn2.len, List.length_map]
  have hal : a ≠ d := fun e => by rw [e, o] at ha; cases ha
  -- the two tests that would refuse
  refine ⟨_, rfl, _, _, _, _, rfl, rfl, SqT.of (ha), atI_nat (j := 0) rfl, rfl, _, rfl, itT (by decide +kernel) ?_⟩
  refine ⟨_, rfl, _, _, _, _, rfl, rfl, SqT.of (ha), atI_nat (j := 1) rfl, _, rfl, d, _, dx, _, _, rfl, o, T.c_Going, T.n_Going_taken, rfl, rfl, _, rfl, itF (by simp) ?_⟩
  refine ⟨_, rfl, d, _, dx, _, _, rfl, o, T.c_Going, T.n_Going_taken, rfl, _, rfl, d, _, dx, _, _, rfl, o, T.c_Going, T.n_Going_notes, rfl, ln, nvs, rfl, .inl (SqL.of (G.s.on hn1)), rfl, _, rfl, ?_⟩
  refine itF (dF (fun z => by have := V.int.inj z; omega)) ?_
  refine ⟨_, rfl, _, _, _, _, rfl, rfl, SqT.of (ha), atI_nat (j := 0) rfl, rfl, _, rfl, itT (by decide +kernel) ?_⟩
  refine ⟨_, rfl, _, rfl, a, _, _, _, rfl, rfl, SqT.of ha, atI_last rfl, _, rfl, d, _, dx, _, _, rfl, o, T.c_Going, T.n_Going_things, rfl, lt, tvs, rfl, .inl (SqL.of (G.s.on ht1)), rfl, _, rfl, ?_⟩
  refine itF (dF (fun z => by have := V.int.inj z; omega)) ?_
  refine ⟨_, rfl, _, rfl, a, _, _, _, rfl, rfl, SqT.of ha, atI_last rfl, _, rfl, d, _, dx, _, _, rfl, o, T.c_Going, T.n_Going_may, rfl, ma, _, rfl, .inl (SqL.of G.m), rfl, flat_nats _, _, rfl, ?_⟩
  have einV : inV (V.int (v : Nat)) (ms.map natV) = true := inV_nat hm
  refine itF (by show ¬ (!inV (V.int (v : Nat)) (ms.map natV)) = true; rw [einV]; decide) ?_
  -- heard
  refine ⟨_, rfl, _, _, _, _, rfl, rfl, SqT.of (ha), atI_nat (j := 0) rfl, rfl, _, rfl, itT (by decide +kernel) ?_⟩
  obtain ⟨nt, hnt⟩ : ∃ nt, P.notes[t]? = some nt := ⟨_, List.getElem?_eq_getElem ht⟩
  obtain ⟨th, hth⟩ : ∃ th, P.things[v]? = some th := ⟨_, List.getElem?_eq_getElem hv⟩
  obtain ⟨nv, hnv1, hnv2⟩ := hn2.getD (i := t) (d := noteD nt) (by rw [List.getElem?_map, hnt]; rfl)
  obtain ⟨tv, htv1, htv2⟩ := ht2.getD (i := v) (d := th.d) (by rw [List.getElem?_map, hth]; rfl)
  have epr : priceOf nt th = 0 := by
    rw [← hp]
    unfold Pb.price
    rw [hnt, hth]
  refine ⟨_, rfl, d, _, dx, _, _, rfl, o, T.c_Going, T.n_Going_cost, rfl, ?_⟩
  refine ⟨_, rfl, d, _, dx, _, _, rfl, o, T.c_Going, T.n_Going_notes, rfl, _, rfl, d, _, dx, _, _, rfl, o, T.c_Going, T.n_Going_taken, rfl, _, _, _, _, rfl, rfl, SqL.of (G.s.on hn1), atI_nat (j := t) (hnv1), ?_⟩
  refine ⟨_, rfl, d, _, dx, _, _, rfl, o, T.c_Going, T.n_Going_things, rfl, _, rfl, _, _, _, _, rfl, rfl, SqT.of (ha), atI_nat (j := 2) rfl, _, _, _, _, rfl, rfl, SqL.of (G.s.on ht1), atI_nat (j := v) (htv1), ?_⟩
  refine ⟨_, _, rfl, nt, th, hnv2.mono G.s.tk, htv2.mono G.s.tk, ?_⟩
  rw [epr]
  refine ⟨_, _, rfl, rfl, dx, _, o, (by show 6 < 1000; decide), ?_⟩
  have keep : ∀ {H' : Hp}, Kp [d] H H' → Same H0 H' := fun {H'} kp b o' hb => kp b o' (G.s b o' hb) fun m => by
    rw [List.mem_singleton.mp m, G.d0] at hb; cases hb
  refine hgen (fun H3 => Kp [d] H H3 ∧ H3 d = some (.ins (gA K "Going") dx [("things", .ref lt), ("after", .ref la), ("notes", .ref ln), ("taken", .int (t : Nat)), ("may", .ref ma), ("cost", .int 0)])) ⟨kp_upd, upd_same⟩ ?_
  rintro H3 ⟨kp3, o3⟩
  have on3 : ∀ {H' : Hp}, Kp [d] H H' → H' a = some (.tup [.str "hear", .int (t : Nat), .int (v : Nat)]) := fun kp => kp a _ ha fun m => hal (List.mem_singleton.mp m)
  refine ⟨_, rfl, _, _, _, _, rfl, rfl, SqT.of (on3 kp3), atI_nat (j := 0) rfl, rfl, _, rfl, itT (by decide +kernel) ?_⟩
  refine ⟨_, rfl, d, _, dx, _, _, rfl, o3, T.c_Going, T.n_Going_taken, rfl, _, _, rfl, rfl, dx, _, o3, (by show 6 < 1000; decide), ?_⟩
  refine hgen (fun H4 => Kp [d] H H4 ∧ H4 d = some (.ins (gA K "Going") dx [("things", .ref lt), ("after", .ref la), ("notes", .ref ln), ("taken", .int ((t : Nat) + 1)), ("may", .ref ma), ("cost", .int 0)])) ⟨kp3.trans kp_upd, upd_same⟩ ?_
  rintro H4 ⟨kp4, o4⟩
  refine ⟨_, rfl, _, _, _, _, rfl, rfl, SqT.of (on3 kp4), atI_nat (j := 0) rfl, rfl, _, rfl, itT (by decide +kernel) ?_⟩
  obtain ⟨avs, ha1, ha2⟩ := G.p.a
  have hal2 : avs.length = P.N := by rw [ha2.len]; exact ok.len
  have hav : avs[v]? = some avs[v] := List.getElem?_eq_getElem (by omega)
  obtain ⟨gs, hgs, q, eq, hq⟩ := ha2.get hav
  rw [eq] at hav
  have enx : P.nx v = gs := by unfold Pb.nx; rw [hgs]; rfl
  have hqd : q ≠ d := fun e => by rw [e, G.d0] at hq; cases hq
  refine ⟨_, rfl, d, _, dx, _, _, rfl, o4, T.c_Going, T.n_Going_after, rfl, _, rfl, _, rfl, a, _, _, _, rfl, rfl, SqT.of (on3 kp4), atI_last rfl, ?_⟩
  refine ⟨la, avs, (v : Int), .ref q, rfl, rfl, SqL.of ((keep kp4).on ha1), atI_nat hav, ?_⟩
  refine ⟨_, rfl, d, _, dx, _, rfl, o4, T.c_Going, T.n_Going_may, (by show 6 < 1000; decide), ?_⟩
  have kp5 := kp4.trans (kp_upd (o := .ins (gA K "Going") dx [("things", .ref lt), ("after", .ref la), ("notes", .ref ln), ("taken", .int ((t : Nat) + 1)), ("may", .ref q), ("cost", .int 0)]))
  refine kk _ q (keep kp5) ⟨⟨dx, upd_same⟩, keep kp5, G.d0, G.p, ?_⟩
  rw [enx]
  exact (keep kp5).on hq
end
end MC
set_option Elab.async false
set_option linter.all false
set_option maxRecDepth 100000
set_option maxHeartbeats 4000000
namespace MC
open PySem PySem.Spec PyProof.Rows L2
theorem tableOf_get {P : Pb} {i : Nat} (h : i ≤ P.notes.length) : (tableOf P)[i]? = some ((rowAt P i).map fun c => c.1) := by
  rw [tableOf, List.getElem?_map, rowsTo_get h]
  rfl
theorem tableOf_len (P : Pb) : (tableOf P).length = P.notes.length + 1 := by rw [tableOf, List.length_map, rowsTo_len]
theorem row_val {P : Pb} (ok : PbOk P) {k g : Nat} (hg : g ≤ P.N) : (((rowAt P k).map fun c => c.1).map V.int)[g]? = some (.int (cst (rowAt P k) g)) := by
  rw [← rowC_ints]
  exact rowC_get (by rw [(row_back ok k).len]; omega)
theorem row_fair {P : Pb} (ok : PbOk P) (k : Nat) {v g : Nat} (hv : v < P.N) (hg : g ∈ P.nx v) : cst (rowAt P k) g ≤ cst (rowAt P k) v + 2 := by
  cases k with
  | zero =>
    show cst (row0 P) g ≤ cst (row0 P) v + 2
    rw [cst_row0, cst_row0]
    decide
  | succ k => exact (row_good ok k).fair v hv g hg
section
variable {P : Program} {w : World} {K : PySem.W.Frag} {mg : Str → Option Value} {base : Heap}
/- slots of way_costs: 0 things, 1 after, 2 notes, 3 way, 4 going, 5 step -/
theorem sc_way_costs : FnScope ["things", "after", "notes", "way", "going", "step"] ["things", "after", "notes", "way"] (defScope s_way_costs) := ⟨rfl, rfl, rfl, by decide +kernel, rfl, by decide +kernel, by decide +kernel⟩
theorem cal_way_costs (T : Tx w K mg) : Cal P w K mg base CX0 (4) "way_costs" ["things", "after", "notes", "way"] spWayC := by
  refine Cal.of T.f_way_costs T.g_way_costs sc_way_costs (fun _ _ _ _ _ _ us hl => match us, hl with | [_, _, _, _], _ => rfl) (fun vs H Q E h => by obtain ⟨x0, x1, x2, x3, rfl, _⟩ := h; rfl) (fun f cdv A outer s H vs Q E hr h => ?_)
  obtain ⟨v0, v1, v2, v3, rfl, h⟩ := h
  refine ⟨_, (pss_cons (ps_if (pt_not (pt_val (pe_callB call_isi (by rfl) T.b_isinstance (by decide +kernel) (pa_cons (pv 3) (pa_cons (pe_bltn (v := .ty "tuple") (by rfl) T.b_tuple (by decide +kernel) rfl) pa_nil))))) (pss_one (ps_ret pe_non)) pss_nil)
    (pss_cons (ps_set (i := 4) sc_way_costs.nd rfl (Or.inl rfl) (pn (mk_Going T) hr (pa_cons (pv 0) (pa_cons (pv 1) (pa_cons (pv 2) pa_nil)))))
    (pss_cons (ps_for PassesOwn.never rfl (pi_tup (pv 3)) (pg_name (i := 5) sc_way_costs.nd rfl (Or.inl rfl)) (pss_one (ps_if (PW.pt (pw_or (pt_not (pt_val (pc (cal_is_step T) hr (pa_cons (pv 5) pa_nil)))) (pw_or1 (pt_not (pt_val (pm (met_Going_goes T) hr (pv 4) (pa_cons (pv 5) pa_nil))))))) (pss_one (ps_ret pe_non)) pss_nil)))
    (pss_cons (ps_if (pt_cmpR op_lt (pe_fld (pv 4) rfl) (pe_callB call_len_seq (by rfl) T.b_len PySem.boot_len (pa_cons (pv 2) pa_nil)) (nomark _)) (pss_one (ps_ret pe_non)) pss_nil)
    (pss_one (ps_ret (pe_fld (pv 4) rfl))))))), ?_⟩
  obtain ⟨lt, la, ln, P, vs, rfl, rfl, rfl, p3, ok, hw, hway, kk⟩ := h
  obtain ⟨nvs, hn1, hn2⟩ := p3.n
  have hnl : nvs.length = P.notes.length := by rw [hn2.len, List.length_map]
  obtain ⟨a, wvs, rfl, ha, rw'⟩ := hway.tup_inv
  have hwl : wvs.length = P.notes.length := by rw [rw'.len, List.length_map, hearsOf, List.length_map, List.length_range]
  refine ⟨_, rfl, _, _, _, _, _, rfl, .ty "tuple", .base (.tup ha), kit_tup, _, rfl, itF (by decide) ?_⟩
  refine ⟨_, rfl, _, rfl, _, rfl, fun d dd hd hdd hne => ?_⟩
  have s1 : Same H (upd (upd H dd (.own d)) d (.ins (gA K "Going") dd [])) := fun b o hb => by
    rw [upd_ne (ne_of_none hb hd), upd_ne (ne_of_none hb hdd)]; exact hb
  refine ⟨_, _, _, _, rfl, H, d, dd, lt, la, ln, P, rfl, rfl, rfl, rfl, upd_same, hd, s1, p3, ok, fun H1 ma G => ⟨rfl, ?_⟩⟩
  refine ⟨_, rfl, a, rfl, ⟨wvs, SqT.of (G.s.on ha)⟩, ?_⟩
  refine for_it (walk_tup (xs := wvs)) (fun i σ H' => ∃ c5 ma ms, σ = [some (.ref lt), some (.ref la), some (.ref ln), some (.ref a), some (.ref d), c5] ∧ GoA K H H' d lt la ln P i ma ms ∧ ∀ v, vs[i]? = some v → v ∈ ms)
    ⟨_, ma, _, rfl, G, fun v hv => List.mem_range.mpr (hw.ok 0 v hv).1⟩ ?_ ?_ ?_
  · rintro i σ H' _ ⟨c5, ma, ms, rfl, G', _⟩
    exact SqT.of (G'.s.on ha)
  · rintro i x σ H2 H3 hi ⟨c5, ma, ms, rfl, G2, hms⟩ ⟨rfl, hx⟩
    obtain ⟨dx, o2⟩ := G2.o
    have hil : i < P.notes.length := by omega
    obtain ⟨d0, hd0, rd⟩ := rw'.get hx
    rw [List.getElem?_map, hearsOf, List.getElem?_map, List.getElem?_range hil] at hd0
    obtain ⟨vi, hvi⟩ : ∃ v, vs[i]? = some v := ⟨_, List.getElem?_eq_getElem (by rw [hw.len]; exact hil)⟩
    have egd : vs.getD i 0 = vi := by rw [List.getD_eq_getElem?_getD, hvi]; rfl
    cases hd0
    have rd : Rp H x (Stp.hear i (vs.getD i 0)).d := rd
    rw [egd] at rd
    have rd3 := rd.mono G2.s.tk
    refine ⟨_, rfl, _, rfl, i, vi, rd3, fun H4 s4 => ?_⟩
    refine ⟨_, rfl, itF (by decide) ?_⟩
    refine ⟨_, rfl, d, dx, _, rfl, s4.on o2, rfl, _, rfl, ?_⟩
    have G4 : GoA K H H4 d lt la ln P i ma ms := ⟨⟨dx, s4.on o2⟩, G2.s.trans s4, G2.d0, G2.p, s4.on G2.m⟩
    refine ⟨_, _, rfl, H, d, lt, la, ln, P, i, ma, ms, vi, rfl, G4, ok, rd3.mono s4.tk, hil, (hw.ok i _ hvi).1, hms _ hvi, (hw.ok i _ hvi).2, fun H5 ma5 s5 G5 => ?_⟩
    refine ⟨_, rfl, itF (by decide) ?_⟩
    exact ⟨_, ma5, _, rfl, G5, fun v hv => hw.go i _ v hvi hv⟩
  · rintro σ H2 ⟨c5, ma, ms, rfl, G2, hms⟩
    obtain ⟨dx, o2⟩ := G2.o
    refine ⟨_, rfl, d, _, dx, _, _, rfl, o2, T.c_Going, T.n_Going_taken, rfl, ?_⟩
    refine ⟨_, rfl, ln, nvs, rfl, .inl (SqL.of (G2.s.on hn1)), _, _, rfl, rfl, _, rfl, itF (dF (by omega)) ?_⟩
    exact ⟨_, rfl, d, _, dx, _, _, rfl, o2, T.c_Going, T.n_Going_cost, rfl, kk _ G2.s⟩
/- slots of is_fair: 0 things, 1 after, 2 notes, 3 table*, 4 number*, 5 costs, 6 v, 7 goals, 8 goal, 9 cost -/
theorem sc_is_fair : FnScope ["things", "after", "notes", "table", "number", "costs", "v", "goals", "goal", "cost"] ["things", "after", "notes", "table"] (defScope s_is_fair) := ⟨rfl, rfl, rfl, by decide +kernel, rfl, by decide +kernel, by decide +kernel⟩
theorem cal_is_fair (T : Tx w K mg) : Cal P w K mg base CX0 (2) "is_fair" ["things", "after", "notes", "table"] spFair := by
  refine Cal.of T.f_is_fair T.g_is_fair sc_is_fair (fun _ _ _ _ _ _ us hl => match us, hl with | [_, _, _, _], _ => rfl) (fun vs H Q E h => by obtain ⟨x0, x1, x2, x3, rfl, _⟩ := h; rfl) (fun f cdv A outer s H vs Q E hr h => ?_)
  obtain ⟨v0, v1, v2, v3, rfl, h⟩ := h
  refine ⟨_, (pss_cons (ps_for PassesOwn.never rfl (pi_enumT (by rfl) T.b_enumerate (pa_cons (pv 3) pa_nil)) (pg_tup (by rfl) (pgs_cons (pg_name (i := 4) sc_is_fair.nd rfl (Or.inr rfl)) (pgs_cons (pg_name (i := 5) sc_is_fair.nd rfl (Or.inl rfl)) pgs_nil))) (pss_cons (ps_for PassesOwn.never rfl (pi_enum (by rfl) T.b_enumerate (pa_cons (pv 1) pa_nil)) (pg_tup (by rfl) (pgs_cons (pg_name (i := 6) sc_is_fair.nd rfl (Or.inl rfl)) (pgs_cons (pg_name (i := 7) sc_is_fair.nd rfl (Or.inl rfl)) pgs_nil))) (pss_one (ps_for PassesOwn.never rfl (pi_list (pv 7)) (pg_name (i := 8) sc_is_fair.nd rfl (Or.inl rfl)) (pss_cons (ps_if (pt_cmpR op_gt (pe_ix ix_tup (pv 5) (pv 8) (fun _ _ => rfl)) (pe_op op_add (pe_ix ix_tup (pv 5) (pv 6) (fun _ _ => rfl)) (pe_gint T.i_OFTEN)) (nomark _)) (pss_one (ps_ret pe_bl)) pss_nil)
          (pss_one (ps_if (PW.pt (pw_and (pt_cmpR op_lt (pv 4) (pe_callB call_len_seq (by rfl) T.b_len PySem.boot_len (pa_cons (pv 2) pa_nil)) (nomark _)) (pw_and1 (pt_cmpR op_gt (pe_ix ix_tup (pe_ix ix_tup (pv 3) (pe_op op_add (pv 4) pe_int) (fun _ _ => rfl)) (pv 8) (fun _ _ => rfl)) (pe_op op_add (pe_ix ix_tup (pv 5) (pv 6) (fun _ _ => rfl)) (pc (cal_price T) hr (pa_cons (pe_ix ix_list (pv 2) (pv 4) (fun _ _ => rfl)) (pa_cons (pe_ix ix_list (pv 0) (pv 6) (fun _ _ => rfl)) pa_nil)))) (nomark _))))) (pss_one (ps_ret pe_bl)) pss_nil))))))
      (pss_one (ps_if (PW.pt (pw_and (pt_cmpR op_lt (pv 4) (pe_callB call_len_seq (by rfl) T.b_len PySem.boot_len (pa_cons (pv 2) pa_nil)) (nomark _)) (pw_and1 (pt_val (pe_callB (cr_any (by rfl)) (by rfl) T.b_any (by decide +kernel) (pa_cons (pe_lc (own := [("v", 6), ("cost", 9)]) (by rfl) sc_is_fair.nd (pi_enumT (by rfl) T.b_enumerate (pa_cons (pv 5) pa_nil)) (blkOk_by (own := [("v", 6), ("cost", 9)]) (N := ["things", "after", "notes", "table", "number", "costs", "v", "goals", "goal", "cost"]) (sc := defScope s_is_fair) (by decide +kernel)) (fun _ _ _ _ _ => (pg_tupK K 2 (by rfl) (pgs_cons (pg_name (i := 6) sc_is_fair.nd rfl (Or.inl rfl)) (pgs_cons (pg_name (i := 9) sc_is_fair.nd rfl (Or.inl rfl)) pgs_nil)))) (fun _ _ _ _ _ => pts_nil) (fun _ _ _ _ _ => (pe_cmpR op_gt (pe_ix (ix_tupK K) (pe_ix (ix_tupK K) (pv 3) (pe_op op_add (pv 4) pe_int) (fun _ _ => rfl)) (pv 6) (fun _ _ => rfl)) (pe_op op_add (pv 9) (pe_gint T.i_OFTEN)) (nomark _)))) pa_nil)))))) (pss_one (ps_ret pe_bl)) pss_nil))))
    (pss_one (ps_ret pe_bl))), ?_⟩
  obtain ⟨lt, la, ln, P, rfl, rfl, rfl, p3, ok, htb, kk⟩ := h
  obtain ⟨tvs, ht1, ht2⟩ := p3.t
  obtain ⟨nvs, hn1, hn2⟩ := p3.n
  obtain ⟨avs, ha1, ha2⟩ := p3.a
  have hnl : nvs.length = P.notes.length := by rw [hn2.len, List.length_map]
  have hal : avs.length = P.N := by rw [ha2.len]; exact ok.len
  have hN := ok.n
  have hL := ok.l
  obtain ⟨ta, tbs, rfl, hta, rtb⟩ := htb.tup_inv
  have htbl : tbs.length = P.notes.length + 1 := by rw [rtb.len, List.length_map, tableOf_len]
  obtain ⟨tok, hof⟩ := T.i_OFTEN
  -- a row of the table
  have rowv : ∀ {i : Nat}, i ≤ P.notes.length → ∃ q, tbs[i]? = some (.ref q) ∧ H q = some (.tup (((rowAt P i).map fun c => c.1).map V.int)) := by
    intro i hi
    obtain ⟨v, h1, h2⟩ := rtb.getD (i := i) (d := iD ((rowAt P i).map fun c => c.1)) (by rw [List.getElem?_map, tableOf_get hi]; rfl)
    obtain ⟨q, rfl, h3⟩ := h2.ints
    exact ⟨q, h1, h3⟩
  refine ⟨_, rfl, ta, tbs, rfl, SqT.of hta, ?_⟩
  refine for_it (walk_enumT (xs := tbs)) (fun i σ H' => ∃ c4 c5 c6 c7 c8 c9, σ = [some (.ref lt), some (.ref la), some (.ref ln), some (.ref ta), c4, c5, c6, c7, c8, c9] ∧ Same H H') ⟨_, _, _, _, _, _, rfl, same_refl H⟩ ?_ ?_ ?_
  · rintro i σ H' _ ⟨_, _, _, _, _, _, rfl, s⟩
    exact SqT.of (s.on hta)
  · rintro i x σ H1 H2 hi ⟨c4, c5, c6, c7, c8, c9, rfl, s⟩ ⟨t, x, y, rfl, ht, rfl, hx, hy⟩
    cases hx
    have hil : i ≤ P.notes.length := by omega
    obtain ⟨q, hq1, hq⟩ := rowv hil
    have hy : tbs[i]? = some y := hy
    rw [hq1] at hy
    cases hy
    have s2 := s.trans (same_new (o := .tup [.int (i : Nat), .ref q]) ht)
    refine ⟨t, _, rfl, SqT.of upd_same, rfl, _, _, rfl, _, _, rfl, rfl, ?_⟩
    refine ⟨_, rfl, la, avs, rfl, SqL.of (s2.on ha1), ?_⟩
    refine for_it (walk_enum (xs := avs)) (fun v σ H' => ∃ c6 c7 c8, σ = [some (.ref lt), some (.ref la), some (.ref ln), some (.ref ta), some (.int (i : Nat)), some (.ref q), c6, c7, c8, c9] ∧ Same H H') ⟨_, _, _, rfl, s2⟩ ?_ ?_ ?_
    · rintro v σ H' _ ⟨_, _, _, rfl, s⟩
      exact SqL.of (s.on ha1)
    · rintro v x σ H3 H4 hv ⟨c6, c7, c8, rfl, s3⟩ ⟨t2, x, y, rfl, ht2', rfl, hx, hy⟩
      cases hx
      have hvN : v < P.N := by omega
      obtain ⟨gs, hgs, qg, rfl, hqg⟩ := ha2.get hy
      have enx : P.nx v = gs := by unfold Pb.nx; rw [hgs]; rfl
      have s4 := s3.trans (same_new (o := .tup [.int (v : Nat), .ref qg]) ht2')
      refine ⟨t2, _, rfl, SqT.of upd_same, rfl, _, _, rfl, _, _, rfl, rfl, ?_⟩
      refine ⟨_, rfl, qg, rfl, ⟨_, SqL.of (s4.on hqg)⟩, ?_⟩
      refine for_it (walk_list (xs := gs.map natV)) (fun j σ H' => ∃ c8, σ = [some (.ref lt), some (.ref la), some (.ref ln), some (.ref ta), some (.int (i : Nat)), some (.ref q), some (.int (v : Nat)), some (.ref qg), c8, c9] ∧ Same H H') ⟨_, rfl, s4⟩ ?_ ?_ ?_
      · rintro j σ H' _ ⟨_, rfl, s⟩
        exact SqL.of (s.on hqg)
      · rintro j x σ H5 H6 hj ⟨c8, rfl, s5⟩ ⟨rfl, hx⟩
        rw [List.getElem?_map] at hx
        cases egj : gs[j]? with
        | none => rw [egj] at hx; cases hx
        | some g =>
          rw [egj] at hx
          cases hx
          have hgm : g ∈ P.nx v := by rw [enx]; exact List.mem_of_getElem? egj
          have hgN := ok.goal v g hgm
          have hf := row_fair ok i hvN hgm
          refine ⟨_, rfl, _, rfl, _, _, _, _, rfl, rfl, SqT.of (s5.on hq), atI_nat (j := g) (row_val ok hgN), _, rfl, _, rfl, _, _, _, _, rfl, rfl, SqT.of (s5.on hq), atI_nat (j := v) (row_val ok (Nat.le_of_lt hvN)), _, _, rfl, rfl, _, _, rfl, rfl, _, rfl, itF (dF (by omega)) ?_⟩
          refine ⟨_, rfl, _, rfl, ln, nvs, rfl, .inl (SqL.of (s5.on hn1)), _, _, rfl, rfl, _, rfl, ?_⟩
          by_cases ci : i < P.notes.length
          · refine itT (dT (by omega)) ?_
            obtain ⟨q2, hq21, hq2⟩ := rowv (i := i + 1) ci
            obtain ⟨nt, hnt⟩ : ∃ nt, P.notes[i]? = some nt := ⟨_, List.getElem?_eq_getElem ci⟩
            obtain ⟨th, hth⟩ : ∃ th, P.things[v]? = some th := ⟨_, List.getElem?_eq_getElem hvN⟩
            obtain ⟨nv, hnv1, hnv2⟩ := hn2.getD (i := i) (d := noteD nt) (by rw [List.getElem?_map, hnt]; rfl)
            obtain ⟨tv, htv1, htv2⟩ := ht2.getD (i := v) (d := th.d) (by rw [List.getElem?_map, hth]; rfl)
            have epr : P.price i v = priceOf nt th := by unfold Pb.price; rw [hnt, hth]
            have hh := (row_good ok i).heard v hvN g hgm
            rw [epr] at hh
            refine ⟨_, rfl, _, rfl, _, _, rfl, rfl, ?_⟩
            refine ⟨ta, tbs, (i : Int) + 1, .ref q2, rfl, rfl, SqT.of (s5.on hta), by rw [show (i : Int) + 1 = ((i + 1 : Nat) : Int) by omega]; exact atI_nat hq21, ?_⟩
            refine ⟨_, rfl, _, _, _, _, rfl, rfl, SqT.of (s5.on hq2), atI_nat (j := g) (row_val ok hgN), _, rfl, _, rfl, _, _, _, _, rfl, rfl, SqT.of (s5.on hq), atI_nat (j := v) (row_val ok (Nat.le_of_lt hvN)), ?_⟩
            refine ⟨_, rfl, _, rfl, _, _, _, _, rfl, rfl, SqL.of (s5.on hn1), atI_nat (j := i) (hnv1), _, rfl, _, rfl, _, _, _, _, rfl, rfl, SqL.of (s5.on ht1), atI_nat (j := v) (htv1), ?_⟩
            refine ⟨_, _, rfl, nt, th, hnv2.mono s5.tk, htv2.mono s5.tk, ?_⟩
            refine ⟨_, _, rfl, rfl, _, _, rfl, rfl, _, rfl, itF (dF (by omega)) ?_⟩
            exact ⟨_, rfl, s5⟩
          · refine itF (dF (by omega)) ?_
            refine itF Bool.false_ne_true ?_
            exact ⟨_, rfl, s5⟩
      · rintro σ H5 ⟨c8, rfl, s5⟩
        exact ⟨_, _, _, rfl, s5⟩
    · rintro σ H3 ⟨c6, c7, c8, rfl, s3⟩
      refine ⟨_, rfl, _, rfl, ln, nvs, rfl, .inl (SqL.of (s3.on hn1)), _, _, rfl, rfl, _, rfl, ?_⟩
      by_cases ci : i < P.notes.length
      · refine itT (dT (by omega)) ?_
        obtain ⟨q2, hq21, hq2⟩ := rowv (i := i + 1) ci
        have hrl := (row_back ok i).len
        refine ⟨_, rfl, q, _, rfl, SqT.of (s3.on hq), fun D hD => ?_⟩
        refine lc_rp (walk_enumT (xs := ((rowAt P i).map fun c => c.1).map V.int)) hD (List.replicate (P.N + 1) (.bool false)) (by rw [List.length_replicate, List.length_map, List.length_map, hrl]) (by rw [List.length_map, List.length_map, hrl, sizeLine_eq]; omega) (fun H s => SqT.of (s.on (s3.on hq))) ?_ ?_
        · rintro j x H5 H6 dd hj s5 e2 ⟨t3, x, y, rfl, ht3, rfl, hx, hy⟩ C N kk2
          cases hx
          rw [List.length_map, List.length_map, hrl] at hj
          rw [List.getElem?_replicate, if_pos hj] at e2
          cases e2
          have hjN : j ≤ P.N := by omega
          have hy : (((rowAt P i).map fun c => c.1).map V.int)[j]? = some y := hy
          rw [row_val ok hjN] at hy
          cases hy
          have s6 := same_new (o := .tup [.int (j : Nat), .int (cst (rowAt P i) j)]) ht3
          have s36 := (s3.trans s5).trans s6
          have hm := (row_good ok i).I.more j hjN
          refine ⟨t3, _, rfl, SqT.of upd_same, rfl, _, _, rfl, _, _, rfl, rfl, rfl, yesT ?_⟩
          refine ⟨_, rfl, _, rfl, _, _, rfl, rfl, ?_⟩
          refine ⟨ta, tbs, (i : Int) + 1, .ref q2, rfl, rfl, SqT.of (s36.on hta), by rw [show (i : Int) + 1 = ((i + 1 : Nat) : Int) by omega]; exact atI_nat hq21, ?_⟩
          refine ⟨_, rfl, _, _, _, _, rfl, rfl, SqT.of (s36.on hq2), atI_nat (j := j) (row_val ok hjN), _, rfl, _, _, rfl, rfl, _, _, rfl, rfl, ?_⟩
          refine kk2 _ _ s6 ?_
          show Rp _ (V.bl (decide (cst (rowAt P i) j + 2 < cst (rowAt P (i + 1)) j))) _
          rw [decide_eq_false (show ¬ cst (rowAt P i) j + 2 < cst (rowAt P (i + 1)) j by omega)]
          exact .bl _
        · intro H5 us s5 hus rus
          have eu := rpa_bools_inv _ rus
          rw [eu] at hus
          refine ⟨D, _, rfl, SqL.of hus, ?_⟩
          rw [any_rep]
          refine ⟨_, rfl, itF Bool.false_ne_true ?_⟩
          exact ⟨_, _, _, _, _, _, rfl, s3.trans s5⟩
      · refine itF (dF (by omega)) ?_
        refine itF Bool.false_ne_true ?_
        exact ⟨_, _, _, _, _, _, rfl, s3⟩
  · rintro σ H1 ⟨c4, c5, c6, c7, c8, c9, rfl, s⟩
    exact kk H1 s
end
/-- heard at no cost, and the way is one of hearing only -/
def spShows : Sp := Sp4 fun a b c e H Q _ => ∃ s ln nvs notes vs, SongAt H a s ∧ b = .str s.name ∧ SongGood s ∧ c = .ref ln ∧ H ln = some (.lst nvs) ∧ RpA H nvs (notes.map noteD) ∧ notes.length ≤ 40 ∧
  Rp H e (heardD (pbOf s notes)) ∧ costOf (pbOf s notes) = 0 ∧ HearWay (pbOf s notes) vs ∧ (wayOf (pbOf s notes) (goalOf (pbOf s notes))).reverse = hearsOf (pbOf s notes) vs ∧ ∀ H', Same H H' → Q (.bl true) H'
section
variable {P : Program} {w : World} {K : PySem.W.Frag} {mg : Str → Option Value} {base : Heap}
/- slots of shows_heard: 0 score, 1 name, 2 notes, 3 told, 4 things, 5 after, 6 cost, 7 way, 8 table -/
theorem sc_shows_heard : FnScope ["score", "name", "notes", "told", "things", "after", "cost", "way", "table"] ["score", "name", "notes", "told"] (defScope s_shows_heard) := ⟨rfl, rfl, rfl, by decide +kernel, rfl, by decide +kernel, by decide +kernel⟩
theorem cal_shows_heard (T : Tx w K mg) : Cal P w K mg base CX0 (128) "shows_heard" ["score", "name", "notes", "told"] spShows := by
  refine Cal.of T.f_shows_heard T.g_shows_heard sc_shows_heard (fun _ _ _ _ _ _ us hl => match us, hl with | [_, _, _, _], _ => rfl) (fun vs H Q E h => by obtain ⟨x0, x1, x2, x3, rfl, _⟩ := h; rfl) (fun f cdv A outer s H vs Q E hr h => ?_)
  obtain ⟨v0, v1, v2, v3, rfl, h⟩ := h
  refine ⟨_, (pss_cons (ps_set (i := 4) sc_shows_heard.nd rfl (Or.inl rfl) (pc (cal_written T) hr (pa_cons (pv 0) (pa_cons (pv 1) pa_nil))))
    (pss_cons (ps_set (i := 5) sc_shows_heard.nd rfl (Or.inl rfl) (pc (cal_nexts T) hr (pa_cons (pv 0) (pa_cons (pv 1) pa_nil))))
    (pss_cons (ps_if (PW.pt (pw_or (pt_not (pt_val (pe_callB call_isi (by rfl) T.b_isinstance (by decide +kernel) (pa_cons (pv 3) (pa_cons (pe_bltn (v := .ty "tuple") (by rfl) T.b_tuple (by decide +kernel) rfl) pa_nil))))) (pw_or (pt_cmpR op_ne (pe_callB call_len_seq (by rfl) T.b_len PySem.boot_len (pa_cons (pv 3) pa_nil)) pe_int (nomark _)) (pw_or1 (pt_not (pt_val (pc (cal_is_whole T) hr (pa_cons (pe_ix ix_tup (pv 3) pe_int (fun _ _ => rfl)) pa_nil)))))))) (pss_one (ps_ret pe_bl)) pss_nil)
    (pss_cons (ps_asg (pv 3) (pg_tup (by rfl) (pgs_cons (pg_name (i := 6) sc_shows_heard.nd rfl (Or.inl rfl)) (pgs_cons (pg_name (i := 7) sc_shows_heard.nd rfl (Or.inl rfl)) (pgs_cons (pg_name (i := 8) sc_shows_heard.nd rfl (Or.inl rfl)) pgs_nil)))))
    (pss_cons (ps_if (PW.pt (pw_or (pt_cmpR op_ne (pc (cal_way_costs T) hr (pa_cons (pv 4) (pa_cons (pv 5) (pa_cons (pv 2) (pa_cons (pv 7) pa_nil))))) (pv 6) (nomark _)) (pw_or1 (pt_not (pt_val (pc (cal_is_table T) hr (pa_cons (pv 8) (pa_cons (pe_op op_add (pe_callB call_len_seq (by rfl) T.b_len PySem.boot_len (pa_cons (pv 2) pa_nil)) pe_int) (pa_cons (pe_op op_add (pe_callB call_len_seq (by rfl) T.b_len PySem.boot_len (pa_cons (pv 4) pa_nil)) pe_int) pa_nil))))))))) (pss_one (ps_ret pe_bl)) pss_nil)
    (pss_one (ps_ret (pe_and (pe_cmpR op_le (pe_callB (cr_maxT (by rfl)) (by rfl) T.b_max (by decide +kernel) (pa_cons (pe_ix ix_tup (pv 8) pe_int (fun _ _ => rfl)) pa_nil)) pe_int (nomark _)) (pe_and (pe_cmpR op_eq (pe_callB (cr_minT (by rfl)) (by rfl) T.b_min (by decide +kernel) (pa_cons (pe_ix ix_tup (pv 8) (pe_un un_neg pe_int) (fun _ _ => rfl)) pa_nil)) (pv 6) (nomark _)) (pe_one (pc (cal_is_fair T) hr (pa_cons (pv 4) (pa_cons (pv 5) (pa_cons (pv 2) (pa_cons (pv 8) pa_nil))))))))))))))), ?_⟩
  obtain ⟨s, ln, nvs, notes, vs, hs, rfl, good, rfl, hln, rn, hnl, hto, hc0, hway, hw, kk⟩ := h
  have ok := pbOf_ok good.line hnl
  refine ⟨_, rfl, _, rfl, ?_⟩
  refine ⟨_, _, rfl, s, hs, rfl, good, fun H1 lt tvs s1 hlt0 hlt rlt => ?_⟩
  refine ⟨_, rfl, _, rfl, ?_⟩
  refine ⟨_, _, rfl, s, hs.mono s1.tk, rfl, good, fun H2 la s2 hla0 hlan => ?_⟩
  have hla := hlan.at
  have s12 := s1.trans s2
  have p3 : Pb3 H2 lt la ln (pbOf s notes) := ⟨⟨tvs, s2.on hlt, rlt.mono s2.tk⟩, hla, ⟨nvs, s12.on hln, rn.mono s12.tk⟩⟩
  generalize hP : pbOf s notes = P at *
  have hnvl : nvs.length = P.notes.length := by
    rw [rn.len, List.length_map, ← hP]; rfl
  have htvl : tvs.length = P.N := by
    rw [rlt.len, List.length_map, ← hP]; rfl
  have hN := ok.n
  have hL := ok.l
  obtain ⟨a, ts, rfl, ha, rt⟩ := hto.tup_inv
  obtain ⟨t1, r1, rfl, e1, rt⟩ := rt.cons_inv
  obtain ⟨t2, r2, rfl, e2, rt⟩ := rt.cons_inv
  obtain ⟨t3, r3, rfl, e3, rt⟩ := rt.cons_inv
  cases rt.nil_inv
  cases e1.int_inv
  rw [hc0] at ha
  have ha := s12.on ha
  have e2 := e2.mono s12.tk
  have e3 := e3.mono s12.tk
  rw [hw] at e2
  refine ⟨_, rfl, _, _, _, _, _, rfl, .ty "tuple", .base (.tup ha), kit_tup, _, rfl, itF (by decide) ?_⟩
  refine ⟨_, rfl, a, _, rfl, .inr (SqT.of ha), rfl, _, rfl, itF (by simp) ?_⟩
  refine ⟨_, rfl, _, _, _, _, rfl, rfl, SqT.of (ha), atI_nat (j := 0) rfl, _, rfl, 0, rfl, _, rfl, itF (by decide) ?_⟩
  refine ⟨_, rfl, a, _, rfl, SqT.of ha, rfl, _, _, rfl, _, _, rfl, _, _, rfl, rfl, ?_⟩
  refine ⟨_, rfl, _, rfl, _, rfl, _, rfl, ?_⟩
  refine ⟨_, _, _, _, rfl, lt, la, ln, P, vs, rfl, rfl, rfl, p3, ok, hway, e2, fun H3 s3 => ?_⟩
  refine ⟨_, rfl, rfl, _, rfl, itF (by decide) ?_⟩
  have s13 := s12.trans s3
  refine ⟨_, rfl, _, rfl, ln, nvs, rfl, .inl (SqL.of (s13.on hln)), _, _, rfl, rfl, _, rfl, lt, tvs, rfl, .inl (SqL.of ((s2.trans s3).on hlt)), _, _, rfl, rfl, ?_⟩
  refine ⟨_, _, _, rfl, tableOf P, P.N + 1, e3.mono s3.tk, ?_, ?_, fun r hr => ?_, by omega, fun H4 s4 => ?_⟩
  · rw [tableOf_len, hnvl]
    rfl
  · rw [htvl]
    rfl
  · rw [tableOf] at hr
    obtain ⟨r0, hr0, rfl⟩ := List.mem_map.mp hr
    obtain ⟨k, _, rfl⟩ := List.mem_map.mp hr0
    rw [List.length_map, (row_back ok k).len]
  refine ⟨_, rfl, itF (by decide) ?_⟩
  have s24 := s3.trans s4
  obtain ⟨ta, tbs, rfl, hta, rtb⟩ := (e3.mono s24.tk).tup_inv
  have htbl : tbs.length = P.notes.length + 1 := by rw [rtb.len, List.length_map, tableOf_len]
  have rowv : ∀ {i : Nat}, i ≤ P.notes.length → ∃ q, tbs[i]? = some (.ref q) ∧ H4 q = some (.tup (((rowAt P i).map fun c => c.1).map V.int)) := by
    intro i hi
    obtain ⟨v, h1, h2⟩ := rtb.getD (i := i) (d := iD ((rowAt P i).map fun c => c.1)) (by rw [List.getElem?_map, tableOf_get hi]; rfl)
    obtain ⟨q, rfl, h3⟩ := h2.ints
    exact ⟨q, h1, h3⟩
  obtain ⟨q0, hq01, hq0⟩ := rowv (i := 0) (Nat.zero_le _)
  obtain ⟨ql, hql1, hql⟩ := rowv (i := P.notes.length) (Nat.le_refl _)
  have hr0 : ∀ m ∈ (rowAt P 0).map (fun c : Cell => c.1), m = 0 := by
    intro m hm
    obtain ⟨c, hc, rfl⟩ := List.mem_map.mp hm
    have : c ∈ row0 P := hc
    rw [row0] at this
    rw [(List.mem_replicate.mp this).2]
  refine ⟨_, rfl, _, _, _, _, rfl, rfl, SqT.of (hta), atI_nat (j := 0) (hq01), q0, (rowAt P 0).map fun c => c.1, rfl, SqT.of hq0, by rw [List.length_map, (row_back ok 0).len]; omega, fun m hm hle => ?_⟩
  rw [hr0 m hm]
  refine ⟨_, _, rfl, rfl, _, rfl, itT (by decide) ?_⟩
  have hlast : tbs.getLast? = some (.ref ql) := by
    rw [List.getLast?_eq_getElem?, htbl]
    exact hql1
  refine ⟨_, rfl, _, rfl, ta, tbs, _, _, rfl, rfl, SqT.of hta, atI_last hlast, ql, lastC P, rfl, SqT.of hql, by rw [lastC_len ok]; omega, fun m hm hle => ?_⟩
  have em : m = 0 := by
    obtain ⟨h1, h2⟩ := minL_spec (lastC_ne ok)
    have a1 := hle _ h1
    have a2 := h2 _ hm
    have a3 : minL (lastC P) = 0 := hc0
    omega
  subst em
  refine ⟨_, rfl, rfl, _, rfl, itT (by decide) ?_⟩
  refine ⟨_, rfl, _, rfl, _, rfl, _, rfl, ?_⟩
  exact ⟨_, _, _, _, rfl, lt, la, ln, P, rfl, rfl, rfl, p3.mono s24, ok, .tup hta rtb, fun H5 s5 => kk H5 (s12.trans (s24.trans s5))⟩
end
end MC
set_option Elab.async false
set_option linter.all false
set_option maxRecDepth 100000
set_option maxHeartbeats 4000000
namespace MC
open PySem PySem.Spec PyProof.Rows L2
section
variable {X : Cx} {k j : Nat} {x : Str} {ps : List Str} {sp : Sp} {e : Expr} {es : List Expr} {p pos : Pos} {t : TA} {W : WX}
/-- a def that may raise: what it raises is wished for as W says -/
theorem pcS (F : Cal X.prog X.w X.K X.mg X.base (L2.CX X.prog X.w) k x ps sp) (hr : Room j X.A) (tk : Takes X W) (ha : PA X (e :: es) t) (hkj : k ≤ j := by first | decide | omega) (hg : Gl X x := by rfl) (hdb : (x == ("__debug__" : Str)) = false := by decide)
    (he : starEach (e :: es) X.env = (false, eval e X.env) :: starEach es X.env := by rfl) (hpl : (backTo pos (starEach es X.env)).any (·.1) = false := by rfl) : PE X (.Call (.Name x p) (e :: es) [] pos) (tCallS sp (WE W) t) := by
  obtain ⟨fd, f, b⟩ := F.ex
  exact pe_callS f (hr.mono hkj) hg F.g F.kp b (fun σ => passAt tk σ) ha hdb he hpl
end
/-- places of bars, each led to from behind the one before -/
structure WalkP (es : List Entry) (ps : List Nat) : Prop where
  bar : ∀ p ∈ ps, ∃ s v w, es[p]? = some (.bar s v w)
  go : ∀ i p q, ps[i]? = some p → ps[i + 1]? = some q → Reach es (p + 1) q
  len : ps.length ≤ 1000
def spPlaces (K : PySem.W.Frag) : Sp := Sp1 fun a H Q E => ∃ l es, a = .ref l ∧ EsAt H l es ∧ LineOk es ∧ (∀ H' q ps, Same H H' → H q = none → H' q = some (.lst (ps.map natV)) → WalkP es ps → Q (.ref q) H') ∧ ∀ H', Same H H' → E (.ref (gA K "TooLong")) none H'
def spWalk (K : PySem.W.Frag) : Sp := Sp2 fun a b H Q E => ∃ s, SongAt H a s ∧ b = .str s.name ∧ SongGood s ∧ (∀ H' q ps, Same H H' → H q = none → H' q = some (.lst (ps.map natV)) → WalkP s.line ps → Q (.ref q) H') ∧ ∀ H', Same H H' → E (.ref (gA K "TooLong")) none H'
section
variable {P : Program} {w : World} {K : PySem.W.Frag} {mg : Str → Option Value} {base : Heap}
/- slots of places_walked: 0 entries, 1 come, 2 turns, 3 walked_so, 4 place, 5 goals, 6 goal -/
theorem sc_places_walked : FnScope ["entries", "come", "turns", "walked_so", "place", "goals", "goal"] ["entries"] (defScope s_places_walked) := ⟨rfl, rfl, rfl, by decide +kernel, rfl, by decide +kernel, by decide +kernel⟩
theorem cal_places_walked (T : Tx w K mg) : Cal P w K mg base (L2.CX P w) (1) "places_walked" ["entries"] (spPlaces K) := by
  refine Cal.ofX T.f_places_walked T.g_places_walked sc_places_walked (fun _ _ _ _ _ _ us hl => match us, hl with | [_], _ => rfl) (fun vs H Q E h => by obtain ⟨x0, rfl, _⟩ := h; rfl) (fun f cdv A outer s H vs Q E hr h => ?_)
  obtain ⟨v0, rfl, h⟩ := h
  refine ⟨_, (pss_cons (ps_set (i := 1) sc_places_walked.nd rfl (Or.inl rfl) (pe_op op_rep (pe_lst (pa_cons pe_int pa_nil)) (pe_callB call_len_seq (by rfl) T.b_len PySem.boot_len (pa_cons (pv 0) pa_nil))))
    (pss_cons (ps_set (i := 2) sc_places_walked.nd rfl (Or.inl rfl) pe_int)
    (pss_cons (ps_set (i := 3) sc_places_walked.nd rfl (Or.inl rfl) (pe_lst pa_nil))
    (pss_cons (ps_set (i := 4) sc_places_walked.nd rfl (Or.inl rfl) pe_int)
    (pss_cons (ps_while (passes_of rfl) (pt_cmpR op_lt (pv 4) (pe_callB call_len_seq (by rfl) T.b_len PySem.boot_len (pa_cons (pv 0) pa_nil)) (nomark _)) (pss_one (ps_if (pt_cmpR op_eq (pe_ix ix_tup (pe_ix ix_list (pv 0) (pv 4) (fun _ _ => rfl)) pe_int (fun _ _ => rfl)) pe_str (nomark _)) (pss_cons (ps_if (pt_cmpR op_ge (pe_callB call_len_seq (by rfl) T.b_len PySem.boot_len (pa_cons (pv 3) pa_nil)) (pe_gint T.i_MOST_BARS) (nomark _)) (pss_one (ps_raise rfl (takes_of rfl rfl rfl rfl) (pmk_own PySem.F.excBase_ValueError T.x_TooLong.1 T.g_TooLong T.x_TooLong.2.1 (raises_own T.x_TooLong.2.2.1 T.x_TooLong.2.2.2) (by exact rfl)))) pss_nil)
        (pss_cons (ps_expr (pe_bm PySem.F.plainAttrs_list PySem.F.slot_list_append PySem.F.type_list_append mt_append (pv 3) (pa_cons (pv 4) pa_nil)))
        (pss_one (ps_aug (i := 4) sc_places_walked.nd rfl (Or.inl rfl) pe_int ip_add)))) (pss_cons (ps_aug (i := 2) sc_places_walked.nd rfl (Or.inl rfl) pe_int ip_add)
        (pss_cons (ps_if (pt_cmpR op_gt (pv 2) (pe_gint T.i_MOST_TURNS) (nomark _)) (pss_one (ps_raise rfl (takes_of rfl rfl rfl rfl) (pmk_own PySem.F.excBase_ValueError T.x_TooLong.1 T.g_TooLong T.x_TooLong.2.1 (raises_own T.x_TooLong.2.2.1 T.x_TooLong.2.2.2) (by exact rfl)))) pss_nil)
        (pss_cons (ps_set (i := 5) sc_places_walked.nd rfl (Or.inl rfl) (pe_ix ix_tup (pe_ix ix_list (pv 0) (pv 4) (fun _ _ => rfl)) pe_int (fun _ _ => rfl)))
        (pss_cons (ps_set (i := 6) sc_places_walked.nd rfl (Or.inl rfl) (pe_ix ix_tup (pv 5) (pe_op op_mod (pe_ix ix_list (pv 1) (pv 4) (fun _ _ => rfl)) (pe_callB call_len_seq (by rfl) T.b_len PySem.boot_len (pa_cons (pv 5) pa_nil))) (fun _ _ => rfl)))
        (pss_cons (ps_augS (pv 1) (pv 4) get_list pe_int ip_add set_list)
        (pss_one (ps_set (i := 4) sc_places_walked.nd rfl (Or.inl rfl) (pv 6)))))))))))
    (pss_one (ps_ret (pv 3)))))))), ?_⟩
  obtain ⟨l, es, rfl, hes, ok, kk, ke⟩ := h
  have hel := ok.len
  obtain ⟨evs, he1, he2⟩ := hes
  have hevl : evs.length = es.length := by rw [he2.len, List.length_map]
  refine ⟨(by show 1 ≤ sizeLine; decide), fun z1 hz1 => ?_⟩
  have t1 := same_new (o := .lst [.int 0]) hz1
  refine ⟨_, rfl, l, evs, rfl, .inl (SqL.of (t1.on he1)), ?_⟩
  rw [hevl]
  refine ⟨z1, _, _, rfl, rfl, upd_same, by omega, by omega, (by show 1 * ((es.length : Nat) : Int).toNat ≤ sizeLine; rw [sizeLine_eq]; omega), fun cm hcm => ?_⟩
  rw [show ((es.length : Nat) : Int).toNat = es.length from rfl, rep_flat]
  have t2 := t1.trans (same_new (o := .lst ((List.replicate es.length (0 : Int)).map V.int)) hcm)
  refine ⟨Nat.zero_le _, fun wl hwl => ?_⟩
  have t3 := t2.trans (same_new (o := .lst []) hwl)
  have hcm0 : H cm = none := none_of_same t1 hcm
  have hwl0 : H wl = none := none_of_same t2 hwl
  have hcw : cm ≠ wl := fun e => by rw [← e, upd_same] at hwl; cases hwl
  obtain ⟨tokb, hmb⟩ := T.i_MOST_BARS
  obtain ⟨tokt, hmt⟩ := T.i_MOST_TURNS
  refine while_gh (α := List Nat × Nat) (fun x σ H' => ∃ c5 c6 pl, ∃ cs : List Int, σ = [some (.ref l), some (.ref cm), some (.int (x.2 : Nat)), some (.ref wl), some (.int (pl : Nat)), c5, c6] ∧ Same H H' ∧ H' cm = some (.lst (cs.map V.int)) ∧ H' wl = some (.lst (x.1.map natV)) ∧ cs.length = es.length ∧ pl ≤ es.length ∧
      x.2 ≤ 4000 ∧ WalkP es x.1 ∧ ∀ p, x.1.getLast? = some p → Reach es (p + 1) pl) (fun x => (1000 - x.1.length) + (4000 - x.2)) ([], 0)
    ⟨_, _, 0, List.replicate es.length 0, rfl, t3, by rw [upd_ne hcw, upd_same], upd_same, List.length_replicate, Nat.zero_le _, Nat.zero_le _, ⟨fun p hp => absurd hp (List.not_mem_nil), fun i p q h => by simp at h, Nat.zero_le _⟩, fun p h => by cases h⟩ ?_
  rintro ⟨ps, tn⟩ σ H1 ⟨c5, c6, pl, cs, rfl, s, hc, hw, hcl, hpl, htn, wp, hlast⟩
  refine ⟨_, rfl, _, rfl, l, evs, rfl, .inl (SqL.of (s.on he1)), _, _, rfl, rfl, _, rfl, ?_⟩
  by_cases cp : pl < es.length
  · refine itT (dT (by omega)) ?_
    have htn : tn ≤ 4000 := htn
    have hpsl : ps.length ≤ 1000 := wp.len
    refine ⟨_, fun σ' H' n => n, ?_⟩
    have ee : es[pl]? = some es[pl] := List.getElem?_eq_getElem cp
    generalize hE : es[pl] = E0 at ee
    obtain ⟨v0, h1, h2⟩ := he2.getD (i := pl) (d := E0.d) (by rw [List.getElem?_map, ee]; rfl)
    have hEok := ok.ok E0 (List.mem_of_getElem? ee)
    cases E0 with
    | bar sz v w =>
      obtain ⟨ab, vb, vw, rfl, hab, _, _⟩ := h2.ebar_inv
      refine ⟨_, rfl, _, rfl, _, _, _, _, rfl, rfl, SqL.of (s.on he1), atI_nat (j := pl) (h1), _, _, _, _, rfl, rfl, SqT.of (s.on hab), atI_nat (j := 0) rfl, rfl, _, rfl, itT (dT rfl) ?_⟩
      refine ⟨_, rfl, wl, _, rfl, .inl (SqL.of hw), _, _, rfl, rfl, _, rfl, ?_⟩
      by_cases cb : 1000 ≤ ps.length
      · refine itT (dT (by rw [List.length_map]; show (1000 : Int) ≤ (ps.length : Nat); omega)) ?_
        exact ke H1 s
      · refine itF (dF (by rw [List.length_map]; show ¬ (1000 : Int) ≤ (ps.length : Nat); omega)) ?_
        refine ⟨_, rfl, .inl ⟨rfl, _, SqL.of hw⟩, _, rfl, wl, _, _, rfl, rfl, hw, (by rw [List.length_map, sizeLine_eq]; show ps.length < _; omega), ?_⟩
        refine ⟨_, rfl, _, _, rfl, rfl, ?_⟩
        have e1 : ((pl : Nat) : Int) + 1 = ((pl + 1 : Nat) : Int) := by omega
        refine ⟨_, ?_, (ps ++ [pl], tn), rfl, _, _, pl + 1, cs, by rw [← e1]; rfl, same_up s hwl0, by rw [upd_ne hcw]; exact hc, ?_, hcl, cp, htn, ⟨fun p hp => ?_, fun i p q hp hq => ?_, by rw [List.length_append]; show ps.length + 1 ≤ 1000; omega⟩, fun p hp => ?_⟩
        · show (1000 - (ps ++ [pl]).length) + (4000 - tn) < (1000 - ps.length) + (4000 - tn)
          rw [List.length_append]
          show (1000 - (ps.length + 1)) + (4000 - tn) < _
          omega
        · rw [upd_same, List.map_append]; rfl
        · rcases List.mem_append.mp hp with hp | hp
          · exact wp.bar p hp
          · rw [List.mem_singleton.mp hp]; exact ⟨sz, v, w, ee⟩
        · by_cases ci : i + 1 < ps.length
          · rw [List.getElem?_append_left (by omega)] at hp hq
            exact wp.go i p q hp hq
          · have hk := (List.getElem?_eq_some_iff.mp hq).1
            rw [List.length_append] at hk
            have hi1 : i + 1 = ps.length := by simp at hk; omega
            rw [List.getElem?_append_left (by omega)] at hp
            rw [List.getElem?_append_right (by omega), hi1, Nat.sub_self] at hq
            simp at hq
            subst hq
            refine hlast p ?_
            rw [List.getLast?_eq_getElem?, ← hi1]
            exact hp
        · rw [List.getLast?_append] at hp
          simp at hp
          subst hp
          exact .here
    | turn gs =>
      obtain ⟨at_, ag, rfl, hat, hag⟩ := h2.eturn_inv
      obtain ⟨g0, g1, g2⟩ : EOk es.length (.turn gs) := hEok
      have hgl : 0 < gs.length := List.length_pos_iff.mpr g0
      refine ⟨_, rfl, _, rfl, _, _, _, _, rfl, rfl, SqL.of (s.on he1), atI_nat (j := pl) (h1), _, _, _, _, rfl, rfl, SqT.of (s.on hat), atI_nat (j := 0) rfl, rfl, _, rfl, itF (bF (by decide +kernel)) ?_⟩
      refine ⟨_, rfl, _, _, rfl, rfl, ?_⟩
      refine ⟨_, rfl, _, _, rfl, rfl, _, rfl, ?_⟩
      by_cases ct : 4000 < tn + 1
      · refine itT (dT (by show (4000 : Int) < (tn : Int) + 1; omega)) ?_
        exact ke H1 s
      · refine itF (dF (by show ¬ (4000 : Int) < (tn : Int) + 1; omega)) ?_
        refine ⟨_, rfl, _, rfl, _, _, _, _, rfl, rfl, SqL.of (s.on he1), atI_nat (j := pl) (h1), _, _, _, _, rfl, rfl, SqT.of (s.on hat), atI_nat (j := 1) rfl, ?_⟩
        have hcv : (cs.map V.int)[pl]? = some (.int (cs.getD pl 0)) := by
          rw [List.getElem?_map, List.getD_eq_getElem?_getD, List.getElem?_eq_getElem (by omega)]
          rfl
        refine ⟨_, rfl, _, rfl, _, rfl, _, _, _, _, rfl, rfl, SqL.of (hc), atI_nat (j := pl) (hcv), _, rfl, ag, _, rfl, .inr (SqT.of (s.on hag)), ?_⟩
        rw [List.length_map]
        refine ⟨_, _, rfl, rfl, by omega, ?_⟩
        obtain ⟨r, hr0⟩ : ∃ r : Nat, cs.getD pl 0 % ((gs.length : Nat) : Int) = (r : Int) := Int.eq_ofNat_of_zero_le (Int.emod_nonneg _ (by omega))
        have hrl : r < gs.length := by
          have := Int.emod_lt_of_pos (cs.getD pl 0) (show (0 : Int) < ((gs.length : Nat) : Int) by omega)
          omega
        have hgv : gs[r]? = some gs[r] := List.getElem?_eq_getElem hrl
        obtain ⟨h0, hle⟩ := g2 _ (List.mem_of_getElem? hgv)
        obtain ⟨g, hg⟩ := Int.eq_ofNat_of_zero_le h0
        refine ⟨ag, gs.map V.int, (r : Int), .int gs[r], rfl, congrArg V.int hr0, SqT.of (s.on hag), atI_nat (by rw [List.getElem?_map, hgv]; rfl), ?_⟩
        refine ⟨_, rfl, _, rfl, cm, _, pl, _, rfl, rfl, SqL.of hc, hcv, ?_⟩
        refine ⟨_, _, rfl, rfl, cm, _, _, pl, rfl, rfl, hc, ixNn (by rw [List.length_map]; omega), ?_⟩
        refine ⟨_, rfl, ?_⟩
        rw [hg]
        have e1 : ((tn : Nat) : Int) + 1 = ((tn + 1 : Nat) : Int) := by omega
        refine ⟨_, ?_, (ps, tn + 1), rfl, _, _, g, cs.set pl (cs.getD pl 0 + 1), by rw [← e1]; rfl, same_up s hcm0, ?_, by rw [upd_ne (Ne.symm hcw)]; exact hw, by rw [List.length_set]; exact hcl, by omega, by show tn + 1 ≤ 4000; omega, wp, fun p hp => ?_⟩
        · show (1000 - ps.length) + (4000 - (tn + 1)) < (1000 - ps.length) + (4000 - tn)
          omega
        · rw [upd_same, List.map_set]
        · refine .go (hlast p hp) ee ?_
          rw [← hg]
          exact List.mem_of_getElem? hgv
  · refine itF (dF (by omega)) ?_
    exact ⟨_, rfl, kk H1 wl ps s hwl0 hw wp⟩
/- slots of walk: 0 score, 1 name -/
theorem sc_walk : FnScope ["score", "name"] ["score", "name"] (defScope s_walk) := ⟨rfl, rfl, rfl, by decide +kernel, rfl, by decide +kernel, by decide +kernel⟩
theorem cal_walk (T : Tx w K mg) : Cal P w K mg base (L2.CX P w) (126) "walk" ["score", "name"] (spWalk K) := by
  refine Cal.ofX T.f_walk T.g_walk sc_walk (fun _ _ _ _ _ _ us hl => match us, hl with | [_, _], _ => rfl) (fun vs H Q E h => by obtain ⟨x0, x1, rfl, _⟩ := h; rfl) (fun f cdv A outer s H vs Q E hr h => ?_)
  obtain ⟨v0, v1, rfl, h⟩ := h
  refine ⟨_, (pss_one (ps_ret (pcS (cal_places_walked T) hr (takes_of rfl rfl rfl rfl) (pa_cons (pc (cal_lineG T) hr (pa_cons (pv 0) (pa_cons (pv 1) pa_nil))) pa_nil)))), ?_⟩
  obtain ⟨s, hs, rfl, good, kk, ke⟩ := h
  refine ⟨_, rfl, _, rfl, ?_⟩
  refine ⟨_, _, rfl, s, hs, rfl, good, fun H1 le s1 hle hes => ?_⟩
  exact ⟨_, rfl, le, s.line, rfl, hes, good.line, fun H' q ps s2 hq0 hq wp => kk H' q ps (s1.trans s2) (none_of_same s1 hq0) hq wp, fun H' s2 => ke H' (s1.trans s2)⟩
end
end MC
set_option Elab.async false
set_option linter.all false
set_option maxRecDepth 100000
set_option maxHeartbeats 4000000
namespace MC
open PySem PySem.Spec PyProof.Rows L2
/-! ### the hand: a place to draw from; n bounds how often it was drawn -/
def HandOk (H : Hp) (h : Addr) (n : Nat) : Prop := ∃ d c t : Int, H h = some (.lst [.int d, .int c, .int t]) ∧ 0 ≤ c ∧ c < 4611686018427387904 ∧ 0 ≤ t ∧ t ≤ n
theorem HandOk.mono {H : Hp} {h : Addr} {n m : Nat} (o : HandOk H h n) (l : n ≤ m) : HandOk H h m := by
  obtain ⟨d, c, t, h1, h2, h3, h4, h5⟩ := o
  exact ⟨d, c, t, h1, h2, h3, h4, by omega⟩
/-- from H to H' only the hand has changed -/
structure HS (h : Addr) (H H' : Hp) (m : Nat) : Prop where
  k : Kp [h] H H'
  t : Tk H H'
  o : HandOk H' h m
section
variable {h : Addr} {H H1 H2 : Hp} {m n : Nat}
theorem HS.trans (a : HS h H H1 m) (b : HS h H1 H2 n) : HS h H H2 n := ⟨a.k.trans b.k, a.t.trans b.t, b.o⟩
theorem HS.same (o : HandOk H h m) (s : Same H H1) : HS h H H1 m := by
  obtain ⟨d, c, t, h1, h2⟩ := o
  exact ⟨Kp.of s, s.tk, ⟨d, c, t, s.on h1, h2⟩⟩
theorem HS.refl (o : HandOk H h m) : HS h H H m := HS.same o (same_refl H)
theorem HS.and (a : HS h H H1 m) (s : Same H1 H2) : HS h H H2 m := a.trans (HS.same a.o s)
theorem HS.mono (a : HS h H H1 m) (l : m ≤ n) : HS h H H1 n := ⟨a.k, a.t, a.o.mono l⟩
theorem HS.on (a : HS h H H1 m) {b : Addr} {o : HO} (q : H b = some o) (ne : b ≠ h) : H1 b = some o := a.k b o q fun z => ne (List.mem_singleton.mp z)
/-- an own object is changed -/
theorem HS.up (a : HS h H H1 m) {p : Addr} {xs : List V} {o : HO} (hp : H p = none) (hx : H1 p = some (.lst xs)) (ne : p ≠ h) : HS h H (upd H1 p o) m := by
  refine ⟨fun b u q z => ?_, a.t.trans (tk_lst hx), ?_⟩
  · rw [upd_ne (ne_of_none q hp)]
    exact a.k b u q z
  · obtain ⟨d, c, t, h1, h2⟩ := a.o
    exact ⟨d, c, t, by rw [upd_ne (Ne.symm ne)]; exact h1, h2⟩
theorem HandOk.ne (o : HandOk H h m) {p : Addr} (hp : H p = none) : p ≠ h := fun e => by
  obtain ⟨d, c, t, h1, _⟩ := o
  rw [e, h1] at hp
  cases hp
end
def spTake : Sp := Sp2 fun a b H Q _ => ∃ (h : Addr) (n many : Nat), a = .ref h ∧ HandOk H h n ∧ n ≤ 1000000000000000 ∧ b = .int (many : Nat) ∧ 0 < many ∧ many < 1073741824 ∧ ∀ H' (r : Nat), HS h H H' (n + 1) → r < many → Q (.int (r : Nat)) H'
def spHand (K : PySem.W.Frag) : Sp := Sp2 fun a b H Q _ => ∃ (sc : Addr) (ns : List Int) (k : Nat), a = .ref sc ∧ SqL K H sc (ns.map V.int) ∧ b = .int (k : Nat) ∧ k ≤ 100 ∧ ∀ p H', Same H H' → H p = none → HandOk H' p 0 → Q (.ref p) H'
section
variable {P : Program} {w : World} {K : PySem.W.Frag} {mg : Str → Option Value} {base : Heap}
/- slots of _law_hand: 0 _law_script, 1 _law_k, 2 _law_cell -/
theorem sc_law_hand : FnScope ["_law_script", "_law_k", "_law_cell"] ["_law_script", "_law_k"] (defScope s_law_hand) := ⟨rfl, rfl, rfl, by decide +kernel, rfl, by decide +kernel, by decide +kernel⟩
theorem cal_law_hand (T : Tx w K mg) : Cal P w K mg base CX0 (1) "_law_hand" ["_law_script", "_law_k"] (spHand K) := by
  refine Cal.of T.f_law_hand T.g_law_hand sc_law_hand (fun _ _ _ _ _ _ us hl => match us, hl with | [_, _], _ => rfl) (fun vs H Q E h => by obtain ⟨x0, x1, rfl, _⟩ := h; rfl) (fun f cdv A outer s H vs Q E hr h => ?_)
  obtain ⟨v0, v1, rfl, h⟩ := h
  refine ⟨_, (pss_cons (ps_set (i := 2) sc_law_hand.nd rfl (Or.inl rfl) pe_int)
    (pss_cons (ps_if (pt_cmpR op_lt (pv 1) (pe_callB call_len_seq (by rfl) T.b_len PySem.boot_len (pa_cons (pv 0) pa_nil)) (nomark _)) (pss_one (ps_set (i := 2) sc_law_hand.nd rfl (Or.inl rfl) (pe_ix ix_list (pv 0) (pv 1) (fun _ _ => rfl)))) pss_nil)
    (pss_one (ps_ret (pe_lst (pa_cons (pe_op op_mul (pv 2) (pe_callTy call_int1 (by rfl) T.b_int (by decide +kernel) (pa_cons (pe_cmpR op_ge (pv 2) (pe_op op_pow pe_int pe_int) (nomark _)) pa_nil))) (pa_cons (pe_op op_add (pe_op op_add (pe_op op_mod (pv 2) pe_int) (pe_op op_mul pe_int (pv 1))) pe_int) (pa_cons pe_int pa_nil)))))))), ?_⟩
  obtain ⟨sc, ns, k, rfl, hs, rfl, hk, kk⟩ := h
  refine ⟨_, rfl, _, rfl, sc, _, rfl, .inl hs, _, _, rfl, rfl, _, rfl, ?_⟩
  rw [List.length_map]
  have fin : ∀ (cell : Int) (p : Addr), H p = none → HandOk (upd H p (.lst [.int (cell * if (decide ((10 : Int) ^ (18 : Int).toNat ≤ cell)) = true then 1 else 0), .int (cell % 2305843009213693951 + 7919 * (k : Int) + 3), .int 0])) p 0 := fun cell p hp =>
    ⟨_, _, _, upd_same, by omega, by omega, by omega, by omega⟩
  by_cases c : k < ns.length
  · refine itT (dT (by omega)) ?_
    have hv : (ns.map V.int)[k]? = some (.int ns[k]) := by rw [List.getElem?_map, List.getElem?_eq_getElem c]; rfl
    refine ⟨_, rfl, _, rfl, sc, _, _, _, rfl, rfl, hs, atI_nat hv, ?_⟩
    refine ⟨_, rfl, _, rfl, _, _, rfl, rfl, ⟨by omega, by omega, by omega⟩, _, _, rfl, rfl, ?_⟩
    refine .inr ⟨_, rfl, _, _, rfl, rfl, .inr (by split <;> omega), ?_⟩
    refine ⟨_, rfl, _, _, rfl, rfl, by omega, _, rfl, _, _, rfl, rfl, .inl (by omega), _, _, rfl, rfl, _, _, rfl, rfl, (by show 3 ≤ sizeLine; decide), fun p hp => ?_⟩
    exact kk p _ (same_new hp) hp (fin _ p hp)
  · refine itF (dF (by omega)) ?_
    refine ⟨_, rfl, _, rfl, _, _, rfl, rfl, ⟨by omega, by omega, by omega⟩, _, _, rfl, rfl, ?_⟩
    refine .inr ⟨_, rfl, _, _, rfl, rfl, .inr (by split <;> omega), ?_⟩
    refine ⟨_, rfl, _, _, rfl, rfl, by omega, _, rfl, _, _, rfl, rfl, .inl (by omega), _, _, rfl, rfl, _, _, rfl, rfl, (by show 3 ≤ sizeLine; decide), fun p hp => ?_⟩
    exact kk p _ (same_new hp) hp (fin _ p hp)
/- slots of _law_take: 0 _law_hand_here, 1 _law_many, 2 _law_digit, 3 _law_turn, 4 _law_mixed, 5 _law_rest -/
theorem sc_law_take : FnScope ["_law_hand_here", "_law_many", "_law_digit", "_law_turn", "_law_mixed", "_law_rest"] ["_law_hand_here", "_law_many"] (defScope s_law_take) := ⟨rfl, rfl, rfl, by decide +kernel, rfl, by decide +kernel, by decide +kernel⟩
theorem cal_law_take (T : Tx w K mg) : Cal P w K mg base CX0 (1) "_law_take" ["_law_hand_here", "_law_many"] spTake := by
  refine Cal.of T.f_law_take T.g_law_take sc_law_take (fun _ _ _ _ _ _ us hl => match us, hl with | [_, _], _ => rfl) (fun vs H Q E h => by obtain ⟨x0, x1, rfl, _⟩ := h; rfl) (fun f cdv A outer s H vs Q E hr h => ?_)
  obtain ⟨v0, v1, rfl, h⟩ := h
  refine ⟨_, (pss_cons (ps_if (pt_cmpR op_gt (pe_ix ix_list (pv 0) pe_int (fun _ _ => rfl)) pe_int (nomark _)) (pss_cons (ps_set (i := 2) sc_law_take.nd rfl (Or.inl rfl) (pe_op op_mod (pe_ix ix_list (pv 0) pe_int (fun _ _ => rfl)) (pv 1)))
      (pss_cons (ps_asg (pe_op op_fdiv (pe_ix ix_list (pv 0) pe_int (fun _ _ => rfl)) (pv 1)) (pg_sub (pv 0) pe_int set_list))
      (pss_one (ps_ret (pv 2))))) pss_nil)
    (pss_cons (ps_asg (pe_op op_add (pe_ix ix_list (pv 0) pe_int (fun _ _ => rfl)) pe_int) (pg_sub (pv 0) pe_int set_list))
    (pss_cons (ps_set (i := 3) sc_law_take.nd rfl (Or.inl rfl) (pe_ix ix_list (pv 0) pe_int (fun _ _ => rfl)))
    (pss_cons (ps_set (i := 4) sc_law_take.nd rfl (Or.inl rfl) (pe_op op_mod (pe_op op_mul (pe_ix ix_list (pv 0) pe_int (fun _ _ => rfl)) (pe_op op_add (pe_op op_add pe_int (pe_op op_mul (pe_op op_mul pe_int (pv 3)) (pv 3))) (pe_op op_mul pe_int (pv 3)))) pe_int))
    (pss_cons (ps_set (i := 5) sc_law_take.nd rfl (Or.inl rfl) (pe_op op_add (pe_op op_add (pe_op op_mod (pv 4) pe_int) (pe_op op_mul (pv 3) pe_int)) pe_int))
    (pss_cons (ps_set (i := 4) sc_law_take.nd rfl (Or.inl rfl) (pe_op op_mod (pe_op op_mul (pv 4) (pv 5)) pe_int))
    (pss_one (ps_ret (pe_op op_mod (pe_op op_add (pe_op op_fdiv (pv 4) pe_int) (pe_op op_fdiv (pv 4) pe_int)) (pv 1)))))))))), ?_⟩
  obtain ⟨h, n, many, rfl, ⟨d, c, t, hh, c0, c1, t0, t1⟩, hn, rfl, m0, m1, kk⟩ := h
  refine ⟨_, rfl, _, _, _, _, rfl, rfl, SqL.of (hh), atI_nat (j := 0) rfl, _, _, rfl, rfl, _, rfl, ?_⟩
  have tk : ∀ {o}, Tk H (upd H h o) := fun {o} => tk_lst hh
  by_cases cd : 0 < d
  · refine itT (dT cd) ?_
    refine ⟨_, rfl, _, _, _, _, rfl, rfl, SqL.of (hh), atI_nat (j := 0) rfl, _, rfl, _, _, rfl, rfl, by omega, ?_⟩
    refine ⟨_, rfl, _, _, _, _, rfl, rfl, SqL.of (hh), atI_nat (j := 0) rfl, _, rfl, _, _, rfl, rfl, ⟨by omega, by omega⟩, ?_⟩
    refine ⟨_, rfl, h, _, _, 0, rfl, rfl, hh, rfl, ?_⟩
    obtain ⟨r, hr0⟩ : ∃ r : Nat, d % (many : Int) = (r : Int) := Int.eq_ofNat_of_zero_le (Int.emod_nonneg _ (by omega))
    have hrl := Int.emod_lt_of_pos d (show (0 : Int) < (many : Int) by omega)
    refine ⟨_, rfl, ?_⟩
    show Q (V.int (d % (many : Int))) _
    rw [hr0]
    refine kk _ r ⟨kp_upd, tk, ⟨d / many, c, t, upd_same, c0, c1, t0, by omega⟩⟩ (by omega)
  · refine itF (dF cd) ?_
    refine ⟨_, rfl, _, _, _, _, rfl, rfl, SqL.of (hh), atI_nat (j := 2) rfl, _, _, rfl, rfl, _, rfl, h, _, _, 2, rfl, rfl, hh, rfl, ?_⟩
    have h2 : (upd H h (.lst [.int d, .int c, .int (t + 1)])) h = some (.lst [.int d, .int c, .int (t + 1)]) := upd_same
    refine ⟨_, rfl, _, _, _, _, rfl, rfl, SqL.of (h2), atI_nat (j := 2) rfl, ?_⟩
    refine ⟨_, rfl, _, _, _, _, rfl, rfl, SqL.of (h2), atI_nat (j := 1) rfl, _, rfl, _, _, rfl, rfl, .inl (by omega), _, rfl, _, _, rfl, rfl, .inr (by omega), _, _, rfl, rfl, _, rfl, _, _, rfl, rfl, .inl (by omega), _, _, rfl, rfl, _, _, rfl, rfl, .inl (by omega), _, _, rfl, rfl, by omega, ?_⟩
    refine ⟨_, rfl, _, _, rfl, rfl, by omega, _, rfl, _, _, rfl, rfl, .inr (by omega), _, _, rfl, rfl, _, _, rfl, rfl, ?_⟩
    refine ⟨_, rfl, _, rfl, _, _, rfl, rfl, .inl (by omega), _, _, rfl, rfl, by omega, ?_⟩
    refine ⟨_, rfl, _, _, rfl, rfl, ⟨by omega, by omega⟩, _, rfl, _, _, rfl, rfl, ⟨by omega, by omega⟩, _, _, rfl, rfl, _, rfl, _, _, rfl, rfl, by omega, ?_⟩
    have fin : ∀ x : Int, Q (.int (x % (many : Int))) (upd H h (.lst [.int d, .int c, .int (t + 1)])) := fun x => by
      obtain ⟨r, hr0⟩ : ∃ r : Nat, x % (many : Int) = (r : Int) := Int.eq_ofNat_of_zero_le (Int.emod_nonneg _ (by omega))
      have hrl := Int.emod_lt_of_pos x (show (0 : Int) < (many : Int) by omega)
      rw [hr0]
      exact kk _ r ⟨kp_upd, tk, ⟨d, c, t + 1, upd_same, c0, c1, by omega, by omega⟩⟩ (by omega)
    exact fin _
/- slots of _law_low: 0 _law_top, 1 _law_bottom, 2 _law_one, 3 _law_other -/
theorem sc_law_low : FnScope ["_law_top", "_law_bottom", "_law_one", "_law_other"] ["_law_top", "_law_bottom"] (defScope s_law_low) := ⟨rfl, rfl, rfl, by decide +kernel, rfl, by decide +kernel, by decide +kernel⟩
theorem cal_law_low (T : Tx w K mg) : Cal P w K mg base CX0 (1) "_law_low" ["_law_top", "_law_bottom"] spPart := by
  refine Cal.of T.f_law_low T.g_law_low sc_law_low (fun _ _ _ _ _ _ us hl => match us, hl with | [_, _], _ => rfl) (fun vs H Q E h => by obtain ⟨x0, x1, rfl, _⟩ := h; rfl) (fun f cdv A outer s H vs Q E hr h => ?_)
  obtain ⟨v0, v1, rfl, h⟩ := h
  refine ⟨_, (pss_cons (ps_par (i := 2) (j := 3) (by rfl) sc_law_low.nd rfl rfl (by decide) rfl rfl (pa_cons (pe_callB call_abs (by rfl) T.b_abs (by decide +kernel) (pa_cons (pv 0) pa_nil)) (pa_cons (pv 1) pa_nil)) (by rfl))
    (pss_cons (ps_while PassesOwn.never (pt_cmpR op_gt (pv 3) pe_int (nomark _)) (pss_one (ps_par (i := 2) (j := 3) (by rfl) sc_law_low.nd rfl rfl (by decide) rfl rfl (pa_cons (pv 3) (pa_cons (pe_op op_mod (pv 2) (pv 3)) pa_nil)) (by rfl))))
    (pss_one (ps_ret (pe_tup (pa_cons (pe_op op_fdivW (pv 0) (pv 2)) (pa_cons (pe_op op_fdivW (pv 1) (pv 2)) pa_nil))))))), ?_⟩
  obtain ⟨i, j, n, rfl, rfl, hj, hi, hjn, n0, n9, k⟩ := h
  refine ⟨_, rfl, _, rfl, _, rfl, _, _, rfl, ?_⟩
  refine while_go (fun σ H' => H' = H ∧ ∃ x y : Int, σ = [some (.int i), some (.int j), some (.int x), some (.int y)] ∧ 0 ≤ x ∧ 0 ≤ y ∧ Int.gcd x y = Int.gcd i j) (fun σ _ => match σ with
    | [_, _, _, some (.int y)] => y.toNat
    | _ => 0) ⟨rfl, _, _, rfl, ?_, ?_, ?_⟩ ?_ ?_
  · split <;> omega
  · omega
  · have e1 : ∀ z : Int, (if z < 0 then -z else z) = z.natAbs := fun z => by split <;> omega
    rw [e1]
    simp [Int.gcd]
  · rintro σ H' ⟨rfl, x, y, rfl, hx, hy, hg⟩
    refine ⟨_, rfl, _, _, rfl, rfl, _, rfl, ?_⟩
    by_cases c : 0 < y
    · refine itT (dT c) ?_
      refine ⟨_, fun σ' H' n => n, _, rfl, _, rfl, _, rfl, _, _, rfl, rfl, c, _, _, rfl, ?_⟩
      refine ⟨⟨rfl, y, x % y, rfl, by omega, Int.emod_nonneg _ (by omega), ?_⟩, ?_⟩
      · rw [← hg]; exact gcd_step hx hy
      · show (x % y).toNat < y.toNat
        have := Int.emod_lt_of_pos x c
        have := Int.emod_nonneg x (show y ≠ 0 by omega)
        omega
    · refine itF (dF c) ?_
      have e : y = 0 := by omega
      subst e
      have e2 : x = (Int.gcd i j : Int) := by
        rw [← hg, Int.gcd_zero_right]
        omega
      subst e2
      have g0 := gcd_pos (a := i) hj
      have gn : ((Int.gcd i j : Nat) : Int).natAbs < 2 ^ n := by
        have : Int.gcd i j ≤ j.natAbs := Nat.le_of_dvd (by omega) (Nat.gcd_dvd_right ..)
        omega
      have cd : ∀ z, CDivW z ((Int.gcd i j : Nat) : Int) := fun z => wide_div g0 gn n0 n9
      refine ⟨_, rfl, _, rfl, _, _, rfl, rfl, cd _, _, rfl, _, rfl, _, _, rfl, rfl, cd _, (by show 2 ≤ sizeLine; decide), fun p hp => ?_⟩
      exact k p hp
  · intro σ H Q Q' hq h
    obtain ⟨v, e, i, j, e1, e2, b, e3, q⟩ := h
    exact ⟨v, e, i, j, e1, e2, b, e3, hq _ _ q⟩
/- slots of _law_times: 0 _law_one, 1 _law_other -/
theorem sc_law_times : FnScope ["_law_one", "_law_other"] ["_law_one", "_law_other"] (defScope s_law_times) := ⟨rfl, rfl, rfl, by decide +kernel, rfl, by decide +kernel, by decide +kernel⟩
theorem cal_law_times (T : Tx w K mg) : Cal P w K mg base CX0 (2) "_law_times" ["_law_one", "_law_other"] (spFrac ftimes (fun m n => m + n)) := by
  refine Cal.of T.f_law_times T.g_law_times sc_law_times (fun _ _ _ _ _ _ us hl => match us, hl with | [_, _], _ => rfl) (fun vs H Q E h => by obtain ⟨x0, x1, rfl, _⟩ := h; rfl) (fun f cdv A outer s H vs Q E hr h => ?_)
  obtain ⟨v0, v1, rfl, h⟩ := h
  refine ⟨_, (pss_one (ps_ret (pc (cal_law_low T) hr (pa_cons (pe_op op_mulW (pe_ix ix_tup (pv 0) pe_int (fun _ _ => rfl)) (pe_ix ix_tup (pv 1) pe_int (fun _ _ => rfl))) (pa_cons (pe_op op_mulW (pe_ix ix_tup (pv 0) pe_int (fun _ _ => rfl)) (pe_ix ix_tup (pv 1) pe_int (fun _ _ => rfl))) pa_nil))))), ?_⟩
  obtain ⟨x, y, m, n, ⟨a, rfl, ha⟩, ⟨b, rfl, hb⟩, hx, hy, hm, hn, h9, k⟩ := h
  have h9' : m + n ≤ 9000 := h9
  refine ⟨_, rfl, a, _, _, _, rfl, rfl, SqT.of ha, ix0, _, rfl, b, _, _, _, rfl, rfl, SqT.of hb, ix0, _, _, rfl, rfl, wide_mul hx.1 hy.1 hm hn (by omega), ?_⟩
  refine ⟨_, rfl, a, _, _, _, rfl, rfl, SqT.of ha, ix1, _, rfl, b, _, _, _, rfl, rfl, SqT.of hb, ix1, _, _, rfl, rfl, wide_mul hx.2.2 hy.2.2 hm hn (by omega), ?_⟩
  refine ⟨_, _, rfl, _, _, m + n, rfl, rfl, Int.mul_pos hx.2.1 hy.2.1, mul_abs hx.1 hy.1, mul_abs hx.2.2 hy.2.2, by omega, h9, fun p hp => ?_⟩
  exact k (ftimes_FB hx hy) p hp
/- slots of _law_plus: 0 _law_one, 1 _law_other -/
theorem sc_law_plus : FnScope ["_law_one", "_law_other"] ["_law_one", "_law_other"] (defScope s_law_plus) := ⟨rfl, rfl, rfl, by decide +kernel, rfl, by decide +kernel, by decide +kernel⟩
theorem cal_law_plus (T : Tx w K mg) : Cal P w K mg base CX0 (2) "_law_plus" ["_law_one", "_law_other"] (spFrac fplus (fun m n => m + n + 1)) := by
  refine Cal.of T.f_law_plus T.g_law_plus sc_law_plus (fun _ _ _ _ _ _ us hl => match us, hl with | [_, _], _ => rfl) (fun vs H Q E h => by obtain ⟨x0, x1, rfl, _⟩ := h; rfl) (fun f cdv A outer s H vs Q E hr h => ?_)
  obtain ⟨v0, v1, rfl, h⟩ := h
  refine ⟨_, (pss_one (ps_ret (pc (cal_law_low T) hr (pa_cons (pe_op op_add (pe_op op_mulW (pe_ix ix_tup (pv 0) pe_int (fun _ _ => rfl)) (pe_ix ix_tup (pv 1) pe_int (fun _ _ => rfl))) (pe_op op_mulW (pe_ix ix_tup (pv 1) pe_int (fun _ _ => rfl)) (pe_ix ix_tup (pv 0) pe_int (fun _ _ => rfl)))) (pa_cons (pe_op op_mulW (pe_ix ix_tup (pv 0) pe_int (fun _ _ => rfl)) (pe_ix ix_tup (pv 1) pe_int (fun _ _ => rfl))) pa_nil))))), ?_⟩
  obtain ⟨x, y, m, n, ⟨a, rfl, ha⟩, ⟨b, rfl, hb⟩, hx, hy, hm, hn, h9, k⟩ := h
  have h9' : m + n + 1 ≤ 9000 := h9
  refine ⟨_, rfl, a, _, _, _, rfl, rfl, SqT.of ha, ix0, _, rfl, b, _, _, _, rfl, rfl, SqT.of hb, ix1, _, _, rfl, rfl, wide_mul hx.1 hy.2.2 hm hn (by omega), ?_⟩
  refine ⟨_, rfl, b, _, _, _, rfl, rfl, SqT.of hb, ix0, _, rfl, a, _, _, _, rfl, rfl, SqT.of ha, ix1, _, _, rfl, rfl, wide_mul hy.1 hx.2.2 hn hm (by omega), ?_⟩
  refine ⟨_, _, rfl, rfl, ?_⟩
  refine ⟨_, rfl, a, _, _, _, rfl, rfl, SqT.of ha, ix1, _, rfl, b, _, _, _, rfl, rfl, SqT.of hb, ix1, _, _, rfl, rfl, wide_mul hx.2.2 hy.2.2 hm hn (by omega), ?_⟩
  have hA : (x.1 * y.2 + y.1 * x.2).natAbs < 2 ^ (m + n + 1) := add_abs (mul_abs hx.1 hy.2.2) (by rw [Nat.add_comm m n]; exact mul_abs hy.1 hx.2.2)
  refine ⟨_, _, rfl, _, _, m + n + 1, rfl, rfl, Int.mul_pos hx.2.1 hy.2.1, hA, Nat.lt_of_lt_of_le (mul_abs hx.2.2 hy.2.2) (pow_le2 (Nat.le_succ _)), by omega, h9, fun p hp => ?_⟩
  exact k (fplus_FB hx hy) p hp
end
/-! ### names, lengths, pitches, tones -/
def nmS (c n : Nat) : Str := if (n : Int) = 1 then ⟨#[c]⟩ else repS ⟨#[c]⟩ (n : Int).toNat
theorem nmS_first {c n : Nat} (h1 : 1 ≤ n) (h3 : n ≤ 3) : (nmS c n).cps[0]? = some c := by
  have : n = 1 ∨ n = 2 ∨ n = 3 := by omega
  rcases this with rfl | rfl | rfl <;> rfl
def nmL (a b : Nat) (many : Nat) : List Str := (List.range many).map fun k => nmS (97 + (a + b * k) % 26) (1 + (k + a) % 3)
theorem nmL_nodup {a b : Nat} (hb : b = 1 ∨ b = 3 ∨ b = 5 ∨ b = 7 ∨ b = 9 ∨ b = 11) : (nmL a b 14).Nodup := by
  rw [nmL, List.Nodup, List.pairwise_map]
  refine List.Pairwise.imp_of_mem ?_ (List.nodup_range (n := 14))
  intro k j hk hj hne e
  have hk := List.mem_range.mp hk
  have hj := List.mem_range.mp hj
  have e1 := nmS_first (c := 97 + (a + b * k) % 26) (n := 1 + (k + a) % 3) (by omega) (by omega)
  have e2 := nmS_first (c := 97 + (a + b * j) % 26) (n := 1 + (j + a) % 3) (by omega) (by omega)
  rw [e, e2] at e1
  have e3 := Option.some.inj e1
  refine hne ?_
  rcases hb with rfl | rfl | rfl | rfl | rfl | rfl <;> omega
theorem nmL_ne {a b many : Nat} : ∀ x ∈ nmL a b many, x ≠ "" := by
  intro x hx e
  obtain ⟨k, hk, rfl⟩ := List.mem_map.mp hx
  have e1 := nmS_first (c := 97 + (a + b * k) % 26) (n := 1 + (k + a) % 3) (by omega) (by omega)
  rw [e] at e1
  have : (Str.ofString "").cps[0]? = none := by decide +kernel
  rw [this] at e1
  cases e1
def lettS : Str := "abcdefghijklmnopqrstuvwxyz"
theorem lett_at : ∀ j, j < 26 → lettS.cps.toList[j]? = some (97 + j) := by decide +kernel
def spNames : Sp := Sp2 fun a b H Q _ => ∃ (h : Addr) (n : Nat), a = .ref h ∧ HandOk H h n ∧ n + 2 ≤ 1000000000000000 ∧ b = .int ((14 : Nat) : Int) ∧
  ∀ H' p (nm : List Str), HS h H H' (n + 2) → H p = none → H' p = some (.lst (nm.map V.str)) → nm.length = 14 → nm.Nodup → (∀ x ∈ nm, x ≠ "") → Q (.ref p) H'
def spLeng : Sp := Sp1 fun a H Q _ => ∃ (h : Addr) (n : Nat), a = .ref h ∧ HandOk H h n ∧ n + 1 ≤ 1000000000000000 ∧ ∀ H' v f, HS h H H' (n + 1) → FAt H' v f → FB 2 f → Q v H'
def spPits : Sp := Sp1 fun a H Q _ => ∃ (h : Addr) (n : Nat), a = .ref h ∧ HandOk H h n ∧ n + 7 ≤ 1000000000000000 ∧ ∀ H' v ps, HS h H H' (n + 7) → Rp H' v (iD ps) → ps.length ≤ 10 → Q v H'
def spTone : Sp := Sp1 fun a H Q _ => ∃ (h : Addr) (n : Nat), a = .ref h ∧ HandOk H h n ∧ n + 11 ≤ 1000000000000000 ∧ ∀ H' v x, HS h H H' (n + 11) → Rp H' v (Item.d x) → x.leaf = true → (∀ d, x.ok 2 d) → Q v H'
def LensAt (H : Hp) (vs : List V) : Prop := ∀ v ∈ vs, ∃ f, FAt H v f ∧ FB 2 f
theorem LensAt.add {H : Hp} {vs : List V} (h : LensAt H vs) {p : Addr} (hp : H p = none) {f : Frac} (hf : FB 2 f) : LensAt (upd H p (.tup (fV f))) (vs ++ [.ref p]) := by
  intro v hv
  rcases List.mem_append.mp hv with hv | hv
  · obtain ⟨g, h1, h2⟩ := h v hv
    exact ⟨g, h1.mono (tk_new hp), h2⟩
  · rw [List.mem_singleton.mp hv]
    exact ⟨f, ⟨p, rfl, upd_same⟩, hf⟩
section
variable {P : Program} {w : World} {K : PySem.W.Frag} {mg : Str → Option Value} {base : Heap}
/- slots of _law_names: 0 _law_hand_here, 1 _law_many, 2 _law_a*, 3 _law_b*, 4 _law_signs*, 5 _law_k -/
theorem sc_law_names : FnScope ["_law_hand_here", "_law_many", "_law_a", "_law_b", "_law_signs", "_law_k"] ["_law_hand_here", "_law_many"] (defScope s_law_names) := ⟨rfl, rfl, rfl, by decide +kernel, rfl, by decide +kernel, by decide +kernel⟩
theorem cal_law_names (T : Tx w K mg) : Cal P w K mg base CX0 (2) "_law_names" ["_law_hand_here", "_law_many"] spNames := by
  refine Cal.of T.f_law_names T.g_law_names sc_law_names (fun _ _ _ _ _ _ us hl => match us, hl with | [_, _], _ => rfl) (fun vs H Q E h => by obtain ⟨x0, x1, rfl, _⟩ := h; rfl) (fun f cdv A outer s H vs Q E hr h => ?_)
  obtain ⟨v0, v1, rfl, h⟩ := h
  refine ⟨_, (pss_cons (ps_set (i := 2) sc_law_names.nd rfl (Or.inr rfl) (pc (cal_law_take T) hr (pa_cons (pv 0) (pa_cons pe_int pa_nil))))
    (pss_cons (ps_set (i := 3) sc_law_names.nd rfl (Or.inr rfl) (pe_ix ix_list (pe_lst (pa_cons pe_int (pa_cons pe_int (pa_cons pe_int (pa_cons pe_int (pa_cons pe_int (pa_cons pe_int pa_nil))))))) (pc (cal_law_take T) hr (pa_cons (pv 0) (pa_cons pe_int pa_nil))) (fun _ _ => rfl)))
    (pss_cons (ps_set (i := 4) sc_law_names.nd rfl (Or.inr rfl) pe_str)
    (pss_one (ps_ret (pe_lc (own := [("_law_k", 5)]) (by rfl) sc_law_names.nd (pi_range1 (by rfl) T.b_range (pa_cons (pv 1) pa_nil)) (blkOk_by (own := [("_law_k", 5)]) (N := ["_law_hand_here", "_law_many", "_law_a", "_law_b", "_law_signs", "_law_k"]) (sc := defScope s_law_names) (by decide +kernel)) (fun _ _ _ _ _ => (pg_name (i := 5) sc_law_names.nd rfl (Or.inl rfl))) (fun _ _ _ _ _ => pts_nil) (fun _ _ _ _ _ => (pe_op op_mulStr (pe_ix ix_str (pv 4) (pe_op op_mod (pe_op op_add (pv 2) (pe_op op_mul (pv 3) (pv 5))) pe_int) (fun _ _ => rfl)) (pe_op op_add pe_int (pe_op op_mod (pe_op op_add (pv 5) (pv 2)) pe_int)))))))))), ?_⟩
  obtain ⟨h, n, rfl, o, hn, rfl, kk⟩ := h
  refine ⟨_, rfl, _, _, rfl, h, n, 26, rfl, o, by omega, rfl, by omega, by omega, fun H1 a s1 ha => ?_⟩
  refine ⟨(by show 6 ≤ sizeLine; decide), fun l hl => ?_⟩
  have s2 := s1.and (same_new (o := .lst [.int 1, .int 3, .int 5, .int 7, .int 9, .int 11]) hl)
  have hlh := s1.o.ne hl
  refine ⟨_, rfl, _, _, rfl, h, n + 1, 6, rfl, s2.o, by omega, rfl, by omega, by omega, fun H3 r s3 hr => ?_⟩
  have hl3 := s3.on (upd_same (H := H1) (a := l) (o := .lst [.int 1, .int 3, .int 5, .int 7, .int 9, .int 11])) hlh
  have s03 := s2.trans s3
  obtain ⟨b, hb, hbv⟩ : ∃ b : Nat, (b = 1 ∨ b = 3 ∨ b = 5 ∨ b = 7 ∨ b = 9 ∨ b = 11) ∧ ([V.int 1, V.int 3, V.int 5, V.int 7, V.int 9, V.int 11] : List V)[r]? = some (.int (b : Nat)) := by
    match r, hr with
    | 0, _ => exact ⟨1, by simp, rfl⟩
    | 1, _ => exact ⟨3, by simp, rfl⟩
    | 2, _ => exact ⟨5, by simp, rfl⟩
    | 3, _ => exact ⟨7, by simp, rfl⟩
    | 4, _ => exact ⟨9, by simp, rfl⟩
    | 5, _ => exact ⟨11, by simp, rfl⟩
  refine ⟨l, _, _, _, rfl, rfl, SqL.of hl3, atI_nat hbv, ?_⟩
  refine ⟨_, rfl, ((14 : Nat) : Int), rfl, by omega, by omega, fun D hD => ?_⟩
  refine lc_rp (walk_range (lo := 0) (n := 14)) hD ((nmL a b 14).map PyData.str) (by rw [List.length_map, nmL, List.length_map, List.length_range]) (by rw [sizeLine_eq]; omega) (fun H s => trivial) ?_ ?_
  · rintro k x H4 H5 dd hk s e ⟨rfl, rfl⟩ C N kk2
    have ed : dd = .str (nmS (97 + (a + b * k) % 26) (1 + (k + a) % 3)) := by
      rw [List.getElem?_map, nmL, List.getElem?_map, List.getElem?_range hk] at e
      exact (Option.some.inj e).symm
    subst ed
    refine ⟨rfl, yesT ?_⟩
    refine ⟨_, rfl, _, rfl, _, rfl, _, rfl, _, _, rfl, rfl, .inr (by omega), _, _, rfl, rfl, _, _, rfl, rfl, by omega, ?_⟩
    have ei : ((a : Int) + (b : Int) * (0 + (k : Int))) % 26 = (((a + b * k) % 26 : Nat) : Int) := by
      rw [Int.zero_add]
      have : ((a + b * k : Nat) : Int) = (a : Int) + (b : Int) * (k : Int) := by simp
      omega
    refine ⟨lettS, _, 97 + (a + b * k) % 26, rfl, rfl, (by decide +kernel), ?_, ?_⟩
    · rw [ei]
      exact atI_nat (lett_at _ (Nat.mod_lt _ (by omega)))
    refine ⟨_, rfl, _, rfl, _, _, rfl, rfl, _, _, rfl, rfl, by omega, _, _, rfl, rfl, ?_⟩
    have en : (1 : Int) + (0 + (k : Int) + (a : Int)) % 3 = ((1 + (k + a) % 3 : Nat) : Int) := by omega
    refine ⟨⟨#[97 + (a + b * k) % 26]⟩, ((1 + (k + a) % 3 : Nat) : Int), rfl, congrArg V.int en, by omega, by omega, rfl, ?_⟩
    exact kk2 _ _ (same_refl _) (.str _)
  · intro H4 us s4 hus rus
    have eu : us = (nmL a b 14).map V.str := by
      clear hus
      generalize nmL a b 14 = l at rus
      induction l generalizing us with
      | nil => exact rus.nil_inv
      | cons y r ih =>
        obtain ⟨v, us', rfl, h1, h2⟩ := rus.cons_inv
        rw [h1.str_inv, ih _ h2]
        rfl
    rw [eu] at hus
    have hD0 : H D = none := by
      cases e : H D with
      | none => rfl
      | some o' =>
        by_cases c : D = h
        · obtain ⟨_, _, _, q, _⟩ := s03.o
          rw [c, q] at hD
          cases hD
        · rw [s03.on e c] at hD
          cases hD
    exact kk H4 D _ (s03.and s4) hD0 hus (by rw [nmL, List.length_map, List.length_range]) (nmL_nodup hb) nmL_ne
/- slots of _law_length: 0 _law_hand_here -/
theorem sc_law_length : FnScope ["_law_hand_here"] ["_law_hand_here"] (defScope s_law_length) := ⟨rfl, rfl, rfl, by decide +kernel, rfl, by decide +kernel, by decide +kernel⟩
theorem cal_law_length (T : Tx w K mg) : Cal P w K mg base CX0 (2) "_law_length" ["_law_hand_here"] spLeng := by
  refine Cal.of T.f_law_length T.g_law_length sc_law_length (fun _ _ _ _ _ _ us hl => match us, hl with | [_], _ => rfl) (fun vs H Q E h => by obtain ⟨x0, rfl, _⟩ := h; rfl) (fun f cdv A outer s H vs Q E hr h => ?_)
  obtain ⟨v0, rfl, h⟩ := h
  refine ⟨_, (pss_one (ps_ret (pe_ix ix_list (pe_lst (pa_cons (pe_tup (pa_cons pe_int (pa_cons pe_int pa_nil))) (pa_cons (pe_tup (pa_cons pe_int (pa_cons pe_int pa_nil))) (pa_cons (pe_tup (pa_cons pe_int (pa_cons pe_int pa_nil))) (pa_cons (pe_tup (pa_cons pe_int (pa_cons pe_int pa_nil))) (pa_cons (pe_tup (pa_cons pe_int (pa_cons pe_int pa_nil))) (pa_cons (pe_tup (pa_cons pe_int (pa_cons pe_int pa_nil))) (pa_cons (pe_tup (pa_cons pe_int (pa_cons pe_int pa_nil))) (pa_cons (pe_tup (pa_cons pe_int (pa_cons pe_int pa_nil))) pa_nil))))))))) (pc (cal_law_take T) hr (pa_cons (pv 0) (pa_cons pe_int pa_nil))) (fun _ _ => rfl)))), ?_⟩
  obtain ⟨h, n, rfl, o, hn, kk⟩ := h
  have f0 : LensAt H [] := fun v hv => absurd hv (List.not_mem_nil)
  refine ⟨(by show 2 ≤ sizeLine; decide), fun p1 h1 => ⟨(by show 2 ≤ sizeLine; decide), fun p2 h2 => ⟨(by show 2 ≤ sizeLine; decide), fun p3 h3 => ⟨(by show 2 ≤ sizeLine; decide), fun p4 h4 => ⟨(by show 2 ≤ sizeLine; decide), fun p5 h5 => ⟨(by show 2 ≤ sizeLine; decide), fun p6 h6 => ⟨(by show 2 ≤ sizeLine; decide), fun p7 h7 => ⟨(by show 2 ≤ sizeLine; decide), fun p8 h8 => ?_⟩⟩⟩⟩⟩⟩⟩⟩
  have b2 : ∀ x y : Int, x.natAbs < 4 → 0 < y → y.natAbs < 4 → FB 2 (x, y) := fun x y a b c => ⟨a, b, c⟩
  have f1 := f0.add h1 (f := (1, 1)) (b2 _ _ (by decide) (by decide) (by decide))
  have f2 := f1.add h2 (f := (1, 2)) (b2 _ _ (by decide) (by decide) (by decide))
  have f3 := f2.add h3 (f := (1, 1)) (b2 _ _ (by decide) (by decide) (by decide))
  have f4 := f3.add h4 (f := (1, 3)) (b2 _ _ (by decide) (by decide) (by decide))
  have f5 := f4.add h5 (f := (3, 2)) (b2 _ _ (by decide) (by decide) (by decide))
  have f6 := f5.add h6 (f := (2, 1)) (b2 _ _ (by decide) (by decide) (by decide))
  have f7 := f6.add h7 (f := (1, 1)) (b2 _ _ (by decide) (by decide) (by decide))
  have f8 := f7.add h8 (f := (1, 2)) (b2 _ _ (by decide) (by decide) (by decide))
  have s8 := (((((((same_new (o := .tup (fV (1, 1))) h1).trans (same_new (o := .tup (fV (1, 2))) h2)).trans (same_new (o := .tup (fV (1, 1))) h3)).trans (same_new (o := .tup (fV (1, 3))) h4)).trans (same_new (o := .tup (fV (3, 2))) h5)).trans (same_new (o := .tup (fV (2, 1))) h6)).trans (same_new (o := .tup (fV (1, 1))) h7)).trans (same_new (o := .tup (fV (1, 2))) h8)
  refine ⟨(by show 8 ≤ sizeLine; decide), fun l hl => ?_⟩
  have sl := same_new (o := .lst [.ref p1, .ref p2, .ref p3, .ref p4, .ref p5, .ref p6, .ref p7, .ref p8]) hl
  have sA := HS.same o (s8.trans sl)
  have hlh := (HS.same o s8).o.ne hl
  refine ⟨_, rfl, _, _, rfl, h, n, 8, rfl, sA.o, by omega, rfl, by omega, by omega, fun H3 r s3 hr => ?_⟩
  have hl3 := s3.on upd_same hlh
  have hlen : ([V.ref p1, V.ref p2, V.ref p3, V.ref p4, V.ref p5, V.ref p6, V.ref p7, V.ref p8] : List V).length = 8 := rfl
  obtain ⟨v, hv⟩ : ∃ v, ([V.ref p1, V.ref p2, V.ref p3, V.ref p4, V.ref p5, V.ref p6, V.ref p7, V.ref p8] : List V)[r]? = some v := ⟨_, List.getElem?_eq_getElem (by rw [hlen]; exact hr)⟩
  obtain ⟨f, g1, g2⟩ := f8 v (List.mem_of_getElem? hv)
  exact ⟨l, _, _, _, rfl, rfl, SqL.of hl3, atI_nat hv, kk H3 v f (sA.trans s3) ((g1.mono sl.tk).mono s3.t) g2⟩
/- slots of _law_pitches: 0 _law_hand_here, 1 _law_pitches_here, 2 _law_k -/
theorem sc_law_pitches : FnScope ["_law_hand_here", "_law_pitches_here", "_law_k"] ["_law_hand_here"] (defScope s_law_pitches) := ⟨rfl, rfl, rfl, by decide +kernel, rfl, by decide +kernel, by decide +kernel⟩
theorem cal_law_pitches (T : Tx w K mg) : Cal P w K mg base CX0 (2) "_law_pitches" ["_law_hand_here"] spPits := by
  refine Cal.of T.f_law_pitches T.g_law_pitches sc_law_pitches (fun _ _ _ _ _ _ us hl => match us, hl with | [_], _ => rfl) (fun vs H Q E h => by obtain ⟨x0, rfl, _⟩ := h; rfl) (fun f cdv A outer s H vs Q E hr h => ?_)
  obtain ⟨v0, rfl, h⟩ := h
  refine ⟨_, (pss_cons (ps_set (i := 1) sc_law_pitches.nd rfl (Or.inl rfl) (pe_lst (pa_cons (pe_op op_sub (pc (cal_law_take T) hr (pa_cons (pv 0) (pa_cons pe_int pa_nil))) pe_int) pa_nil)))
    (pss_cons (ps_for PassesOwn.never rfl (pi_range1 (by rfl) T.b_range (pa_cons (pe_ix ix_list (pe_lst (pa_cons pe_int (pa_cons pe_int (pa_cons pe_int (pa_cons pe_int (pa_cons pe_int (pa_cons pe_int pa_nil))))))) (pc (cal_law_take T) hr (pa_cons (pv 0) (pa_cons pe_int pa_nil))) (fun _ _ => rfl)) pa_nil)) (pg_name (i := 2) sc_law_pitches.nd rfl (Or.inl rfl)) (pss_one (ps_expr (pe_bm PySem.F.plainAttrs_list PySem.F.slot_list_append PySem.F.type_list_append mt_append (pv 1) (pa_cons (pe_op op_add (pe_op op_add (pe_ix ix_list (pv 1) (pe_un un_neg pe_int) (fun _ _ => rfl)) pe_int) (pc (cal_law_take T) hr (pa_cons (pv 0) (pa_cons pe_int pa_nil)))) pa_nil)))))
    (pss_one (ps_ret (pe_callTy call_tuple_of (by rfl) T.b_tuple (by decide +kernel) (pa_cons (pv 1) pa_nil)))))), ?_⟩
  obtain ⟨h, n, rfl, o, hn, kk⟩ := h
  refine ⟨_, rfl, _, _, rfl, h, n, 4, rfl, o, by omega, rfl, by omega, by omega, fun H1 a s1 ha => ?_⟩
  refine ⟨_, _, rfl, rfl, (by show 1 ≤ sizeLine; decide), fun p hp => ?_⟩
  have hph := s1.o.ne hp
  have hp0 : H p = none := by
    cases e : H p with
    | none => rfl
    | some o' => rw [s1.on e hph] at hp; cases hp
  have s2 := s1.and (same_new (o := .lst [.int ((a : Int) - 1)]) hp)
  refine ⟨(by show 6 ≤ sizeLine; decide), fun l hl => ?_⟩
  have sl := same_new (o := .lst (([0, 0, 0, 0, 1, 5] : List Nat).map natV)) hl
  have s3 := s2.and sl
  have hlh := s2.o.ne hl
  refine ⟨_, rfl, _, _, rfl, h, n + 1, 6, rfl, s3.o, by omega, rfl, by omega, by omega, fun H4 r s4 hr => ?_⟩
  have hl4 := s4.on (upd_same (H := upd H1 p (.lst [.int ((a : Int) - 1)])) (a := l) (o := .lst (([0, 0, 0, 0, 1, 5] : List Nat).map natV))) hlh
  obtain ⟨m, hm5, hm⟩ : ∃ m : Nat, m ≤ 5 ∧ ([0, 0, 0, 0, 1, 5] : List Nat)[r]? = some m := by
    have hl : ([0, 0, 0, 0, 1, 5] : List Nat).length = 6 := rfl
    have hg : ([0, 0, 0, 0, 1, 5] : List Nat)[r]? = some _ := List.getElem?_eq_getElem (by rw [hl]; exact hr)
    refine ⟨_, ?_, hg⟩
    exact (by decide : ∀ x ∈ ([0, 0, 0, 0, 1, 5] : List Nat), x ≤ 5) _ (List.mem_of_getElem? hg)
  refine ⟨l, _, _, natV m, rfl, rfl, SqL.of hl4, atI_nat (by rw [List.getElem?_map, hm]; rfl), ?_⟩
  have s04 := s3.trans s4
  have hp4 : H4 p = some (.lst ([(a : Int) - 1].map V.int)) := s4.on (sl.on upd_same) hph
  refine ⟨(m : Nat), rfl, by omega, by omega, ?_⟩
  rw [show ((m : Nat) : Int).toNat = m from rfl]
  refine for_it (walk_range (lo := 0) (n := m)) (fun i σ H' => ∃ c2, ∃ qs : List Int, σ = [some (.ref h), some (.ref p), c2] ∧ HS h H H' (n + 2 + i) ∧ H' p = some (.lst (qs.map V.int)) ∧ qs.length = i + 1)
    ⟨_, [(a : Int) - 1], rfl, s04, hp4, rfl⟩ (fun _ _ _ _ _ => trivial) ?_ ?_
  · rintro i x σ H5 H6 hi ⟨c2, qs, rfl, s5, hp5, hql⟩ ⟨rfl, rfl⟩
    obtain ⟨z, hz⟩ : ∃ z, qs.getLast? = some z := by
      cases e : qs.getLast? with
      | none =>
        have := List.getLast?_eq_none_iff.mp e
        rw [this] at hql; cases hql
      | some z => exact ⟨z, rfl⟩
    refine ⟨_, rfl, .inl ⟨rfl, _, SqL.of hp5⟩, ?_⟩
    refine ⟨_, rfl, _, rfl, p, _, _, _, rfl, rfl, SqL.of hp5, atI_last (x := .int z) (by rw [List.getLast?_map, hz]; rfl), _, _, rfl, rfl, ?_⟩
    refine ⟨_, rfl, _, _, rfl, h, n + 2 + i, 2, rfl, s5.o, by omega, rfl, by omega, by omega, fun H7 r7 s7 hr7 => ?_⟩
    have hp7 := s7.on hp5 hph
    refine ⟨_, _, rfl, rfl, p, _, _, rfl, rfl, hp7, (by rw [List.length_map, sizeLine_eq]; omega), ?_⟩
    refine ⟨_, qs ++ [z + 1 + (r7 : Int)], rfl, ?_, ?_, by rw [List.length_append, hql]; rfl⟩
    · exact ((s5.trans s7).up hp0 hp7 hph).mono (by omega)
    · rw [upd_same, List.map_append]
      rfl
  · rintro σ H5 ⟨c2, qs, rfl, s5, hp5, hql⟩
    refine ⟨_, rfl, p, _, rfl, .inl ⟨SqL.of hp5, fun q hq => ?_⟩⟩
    exact kk _ _ qs ((s5.and (same_new hq)).mono (by omega)) (rp_ints upd_same) (by omega)
/- slots of _law_tone: 0 _law_hand_here, 1 _law_length_here -/
theorem sc_law_tone : FnScope ["_law_hand_here", "_law_length_here"] ["_law_hand_here"] (defScope s_law_tone) := ⟨rfl, rfl, rfl, by decide +kernel, rfl, by decide +kernel, by decide +kernel⟩
theorem cal_law_tone (T : Tx w K mg) : Cal P w K mg base CX0 (3) "_law_tone" ["_law_hand_here"] spTone := by
  refine Cal.of T.f_law_tone T.g_law_tone sc_law_tone (fun _ _ _ _ _ _ us hl => match us, hl with | [_], _ => rfl) (fun vs H Q E h => by obtain ⟨x0, rfl, _⟩ := h; rfl) (fun f cdv A outer s H vs Q E hr h => ?_)
  obtain ⟨v0, rfl, h⟩ := h
  refine ⟨_, (pss_cons (ps_set (i := 1) sc_law_tone.nd rfl (Or.inl rfl) (pc (cal_law_length T) hr (pa_cons (pv 0) pa_nil)))
    (pss_cons (ps_if (pt_cmpR op_eq (pc (cal_law_take T) hr (pa_cons (pv 0) (pa_cons pe_int pa_nil))) pe_int (nomark _)) (pss_one (ps_ret (pe_tup (pa_cons pe_str (pa_cons (pv 1) pa_nil))))) pss_nil)
    (pss_one (ps_ret (pe_tup (pa_cons pe_str (pa_cons (pc (cal_law_pitches T) hr (pa_cons (pv 0) pa_nil)) (pa_cons (pv 1) (pa_cons (pe_cmpR op_eq (pc (cal_law_take T) hr (pa_cons (pv 0) (pa_cons pe_int pa_nil))) pe_int (nomark _)) (pa_cons (pe_cmpR op_eq (pc (cal_law_take T) hr (pa_cons (pv 0) (pa_cons pe_int pa_nil))) pe_int (nomark _)) pa_nil)))))))))), ?_⟩
  obtain ⟨h, n, rfl, o, hn, kk⟩ := h
  refine ⟨_, rfl, _, rfl, h, n, rfl, o, by omega, fun H1 v f s1 hf bf => ?_⟩
  refine ⟨_, rfl, _, _, rfl, h, n + 1, 4, rfl, s1.o, by omega, rfl, by omega, by omega, fun H2 r s2 hr => ?_⟩
  have s02 := s1.trans s2
  refine ⟨rfl, _, rfl, ?_⟩
  by_cases c : r = 0
  · refine itT (dT (by rw [c]; rfl)) ?_
    refine ⟨_, rfl, (by show 2 ≤ sizeLine; decide), fun p hp => ?_⟩
    exact kk _ _ (.rest f) ((s02.and (same_new hp)).mono (by omega)) (rp_rest upd_same ((hf.mono s2.t).mono (tk_new hp))) rfl (fun d => by cases d <;> exact bf)
  · refine itF (dF (fun z => c (by have := V.int.inj z; omega))) ?_
    refine ⟨_, rfl, _, rfl, h, n + 2, rfl, s02.o, by omega, fun H3 v3 ps s3 hps hpl => ?_⟩
    refine ⟨_, rfl, ?_⟩
    refine ⟨_, rfl, _, _, rfl, h, n + 9, 4, rfl, s3.o, by omega, rfl, by omega, by omega, fun H4 r4 s4 hr4 => ?_⟩
    refine ⟨rfl, ?_⟩
    refine ⟨_, rfl, _, _, rfl, h, n + 10, 4, rfl, s4.o, by omega, rfl, by omega, by omega, fun H5 r5 s5 hr5 => ?_⟩
    refine ⟨rfl, (by show 5 ≤ sizeLine; decide), fun p hp => ?_⟩
    have s25 := (s3.trans s4).trans s5
    exact kk _ _ (.tone ps f _ _) ((s02.trans s25).and (same_new hp)) (rp_tone upd_same ((hps.mono (s4.t.trans s5.t)).mono (tk_new hp)) ((hf.mono (s2.t.trans s25.t)).mono (tk_new hp))) rfl (fun d => by cases d <;> exact ⟨bf, hpl⟩)
end
end MC
set_option Elab.async false
set_option linter.all false
set_option maxRecDepth 100000
set_option maxHeartbeats 4000000
namespace MC
open PySem PySem.Spec PyProof.Rows L2
/-! ### how much is drawn -/
def cN : Nat → Nat
  | 0 => 1
  | d + 1 => (if d + 1 < 3 then 2 else 1) * cN d
def kN : Nat → Nat
  | 0 => 3
  | d + 1 => (if d + 1 < 3 then 2 else 1) * kN d + 4
def pN : Nat → Nat
  | 0 => 12
  | d + 1 => 2 * pN d + 4
theorem cN_pos : ∀ d, 1 ≤ cN d
  | 0 => Nat.le_refl _
  | d + 1 => by
    have := cN_pos d
    show 1 ≤ (if d + 1 < 3 then 2 else 1) * cN d
    split <;> omega
theorem kN_pos : ∀ d, 3 ≤ kN d
  | 0 => Nat.le_refl _
  | d + 1 => by
    have := kN_pos d
    show 3 ≤ (if d + 1 < 3 then 2 else 1) * kN d + 4
    omega
theorem pN_pos : ∀ d, 12 ≤ pN d
  | 0 => Nat.le_refl _
  | d + 1 => by
    have := pN_pos d
    show 12 ≤ 2 * pN d + 4
    omega
mutual
def Item.kb : Item → Nat
  | .group _ _ its => kbI its + 4
  | .mark _ _ => 0
  | _ => 3
def kbI : List Item → Nat
  | [] => 0
  | x :: r => x.kb + kbI r
end
theorem kbI_app : ∀ xs ys : List Item, kbI (xs ++ ys) = kbI xs + kbI ys
  | [], ys => by rw [List.nil_append, kbI, Nat.zero_add]
  | x :: r, ys => by rw [List.cons_append, kbI, kbI, kbI_app r ys, Nat.add_assoc]
theorem itemsOk_app {L d : Nat} : ∀ {xs ys : List Item}, itemsOk L d xs → itemsOk L d ys → itemsOk L d (xs ++ ys)
  | [], ys, _, h => h
  | x :: r, ys, h1, h2 => by
    rw [itemsOk] at h1
    rw [List.cons_append, itemsOk]
    exact ⟨h1.1, itemsOk_app h1.2 h2⟩
theorem itemsOk_one {L d : Nat} {x : Item} (h : x.ok L d) : itemsOk L d [x] := by
  rw [itemsOk, itemsOk]
  exact ⟨h, trivial⟩
mutual
theorem Item.ok_mono {L L' : Nat} (hL : L ≤ L') : ∀ {x : Item} {d d' : Nat}, d ≤ d' → x.ok L d → x.ok L' d'
  | .tone ps len ti he, d, d', hd, h => by
    have h : FB L len ∧ ps.length ≤ 10 := by rw [Item.ok] at h; exact h
    rw [Item.ok]
    exact ⟨h.1.mono hL, h.2⟩
  | .rest len, d, d', hd, h => by
    have h : FB L len := by rw [Item.ok] at h; exact h
    rw [Item.ok]
    exact h.mono hL
  | .group m t its, 0, d', hd, h => by rw [Item.ok] at h; exact h.elim
  | .group m t its, d + 1, 0, hd, h => by omega
  | .group m t its, d + 1, d' + 1, hd, h => by
    rw [Item.ok] at h ⊢
    obtain ⟨h1, h2, h3, h4, h5, h6⟩ := h
    exact ⟨h1, h2, h3, h4, h5, itemsOk_mono hL (by omega) h6⟩
  | .mark w ds, d, d', hd, h => by
    cases d' <;> (rw [Item.ok]; trivial)
theorem itemsOk_mono {L L' : Nat} (hL : L ≤ L') : ∀ {xs : List Item} {d d' : Nat}, d ≤ d' → itemsOk L d xs → itemsOk L' d' xs
  | [], d, d', hd, h => by rw [itemsOk]; trivial
  | x :: r, d, d', hd, h => by
    rw [itemsOk] at h ⊢
    exact ⟨Item.ok_mono hL hd h.1, itemsOk_mono hL hd h.2⟩
end
theorem itemsD_app (xs ys : List Item) : itemsD (xs ++ ys) = itemsD xs ++ itemsD ys := by rw [itemsD_map, itemsD_map, itemsD_map, List.map_append]
theorem rpm {H : Hp} {a : Addr} {w : MW} {vs : List V} {ds : List PyData} (h : H a = some (.tup (.str w.s :: vs))) (r : RpA H vs ds) : Rp H (.ref a) (Item.mark w ds).d := by
  rw [Item.d]
  exact .tup h (.cons (.str _) r)
def MarksAt (H : Hp) (vs : List V) : Prop := ∀ v ∈ vs, ∃ w ds, Rp H v (Item.mark w ds).d
theorem MarksAt.mono {H H' : Hp} {vs : List V} (h : MarksAt H vs) (t : Tk H H') : MarksAt H' vs := fun v hv => by
  obtain ⟨w, ds, h1⟩ := h v hv
  exact ⟨w, ds, h1.mono t⟩
theorem MarksAt.cons {H : Hp} {v : V} {vs : List V} {w : MW} {ds : List PyData} (h : Rp H v (Item.mark w ds).d) (r : MarksAt H vs) : MarksAt H (v :: vs) := fun u hu => by
  rcases List.mem_cons.mp hu with rfl | hu
  · exact ⟨w, ds, h⟩
  · exact r u hu
/-- two tuples of data added -/
theorem catA_rp {K : PySem.W.Frag} {H : Hp} {a b : V} {ds es : List PyData} {Q : VK} (ha : Rp H a (.tuple ds)) (hb : Rp H b (.tuple es)) (hz : ds.length + es.length ≤ sizeLine) (k : ∀ H' v, Same H H' → Rp H' v (.tuple (ds ++ es)) → Q v H') : rCatA K a b H Q := by
  obtain ⟨p, xs, rfl, hp, rx⟩ := ha.tup_inv
  obtain ⟨q, ys, rfl, hq, ry⟩ := hb.tup_inv
  refine ⟨p, q, xs, ys, rfl, rfl, SqT.of hp, SqT.of hq, by rw [rx.len, ry.len]; exact hz, fun e => ?_, fun _ e => ?_, fun _ _ r hr => ?_⟩
  · subst e
    have : ds = [] := by cases rx; rfl
    subst this
    exact k _ _ (same_refl _) (.tup hq ry)
  · subst e
    have : es = [] := by cases ry; rfl
    subst this
    rw [List.append_nil] at k
    exact k _ _ (same_refl _) (.tup hp rx)
  · have t := tk_new (o := .tup (xs ++ ys)) hr
    exact k _ _ (same_new hr) (.tup upd_same ((rx.mono t).app (ry.mono t)))
def spItems (n : Nat) : Sp := Sp3 fun a b c H Q _ => ∃ (h : Addr) (m many d : Nat), a = .ref h ∧ HandOk H h m ∧ m + many * pN d ≤ 1000000000000000 ∧ b = .int (many : Nat) ∧ many ≤ 100 ∧ c = .int (d : Nat) ∧ d < n ∧
  ∀ H' v its, HS h H H' (m + many * pN d) → Rp H' v (.tuple (itemsD its)) → itemsOk 2 d its → its.length = many → cntI its ≤ many * cN d → kbI its ≤ many * kN d → Q v H'
def spCome (n : Nat) : Sp := Sp1 fun a H Q _ => ∃ (d : Nat) (its : List Item), d < n ∧ itemsOk 2 d its ∧ Rp H a (.tuple (itemsD its)) ∧ kbI its ≤ 8000 ∧ ∀ H' v f, Same H H' → FAt H' v f → FB (1 + kbI its) f → Q v H'
def spCount (n : Nat) : Sp := Sp1 fun a H Q _ => ∃ (d L : Nat) (its : List Item), d < n ∧ itemsOk L d its ∧ Rp H a (.tuple (itemsD its)) ∧ ∀ H', Same H H' → Q (.int (notesI its : Nat)) H'
theorem none_hs {h p : Addr} {H H1 : Hp} {m : Nat} (s : HS h H H1 m) (hp : H1 p = none) : H p = none := by
  have ne := s.o.ne hp
  cases e : H p with
  | none => rfl
  | some o' => rw [s.on e ne] at hp; cases hp
theorem item_leaf (x : Item) {H : Hp} {v : V} (h : Rp H v x.d) : ∃ a s vs, v = .ref a ∧ H a = some (.tup (.str s :: vs)) ∧ inV (.str s) [.str "rest", .str "tone"] = x.leaf := by
  cases x with
  | tone ps len ti he =>
    obtain ⟨a, vp, vl, rfl, ha, _⟩ := h.tone_inv
    exact ⟨a, _, _, rfl, ha, show inV _ _ = true by decide +kernel⟩
  | rest len =>
    obtain ⟨a, vl, rfl, ha, _⟩ := h.rest_inv
    exact ⟨a, _, _, rfl, ha, show inV _ _ = true by decide +kernel⟩
  | group m t its =>
    obtain ⟨a, vl, rfl, ha, _⟩ := h.group_inv
    exact ⟨a, _, _, rfl, ha, show inV _ _ = false by decide +kernel⟩
  | mark mw ds =>
    obtain ⟨a, vl, rfl, ha, _⟩ := h.mark_inv
    exact ⟨a, _, _, rfl, ha, show inV _ _ = false by cases mw <;> decide +kernel⟩
theorem item_leaf2 (x : Item) {H : Hp} {v : V} (h : Rp H v x.d) : ∃ a s vs, v = .ref a ∧ H a = some (.tup (.str s :: vs)) ∧ inV (.str s) [.str "tone", .str "rest"] = x.leaf := by
  obtain ⟨a, s, vs, e, h1, h2⟩ := item_leaf x h
  refine ⟨a, s, vs, e, h1, ?_⟩
  rw [← h2]
  simp only [inV, List.any_cons, List.any_nil, Bool.or_false]
  exact Bool.or_comm _ _
section
variable {P : Program} {w : World} {K : PySem.W.Frag} {mg : Str → Option Value} {base : Heap}
/- slots of _law_items: 0 _law_hand_here, 1 _law_many, 2 _law_deep, 3 _law_items_here, 4 _law_k, 5 _law_way, 6 _law_inner, 7 _law_some -/
theorem sc_law_items : FnScope ["_law_hand_here", "_law_many", "_law_deep", "_law_items_here", "_law_k", "_law_way", "_law_inner", "_law_some"] ["_law_hand_here", "_law_many", "_law_deep"] (defScope s_law_items) := ⟨rfl, rfl, rfl, by decide +kernel, rfl, by decide +kernel, by decide +kernel⟩
theorem cal_law_items (T : Tx w K mg) : ∀ n, Cal P w K mg base CX0 (n + 4) "_law_items" ["_law_hand_here", "_law_many", "_law_deep"] (spItems n) := by
  intro n
  induction n with
  | zero =>
    have no : ∀ vs H Q E, ¬ spItems 0 vs H Q E := by
      rintro vs H Q E ⟨a, b, c, _, h, m, many, d, _, _, _, _, _, _, hd, _⟩
      omega
    exact Cal.of T.f_law_items T.g_law_items sc_law_items (fun _ _ _ _ _ _ us hl => match us, hl with | [_, _, _], _ => rfl) (fun vs H Q E h => (no vs H Q E h).elim) (fun _ _ _ _ _ H vs Q E _ h => (no vs H Q E h).elim)
  | succ n ih =>
  refine Cal.of T.f_law_items T.g_law_items sc_law_items (fun _ _ _ _ _ _ us hl => match us, hl with | [_, _, _], _ => rfl) (fun vs H Q E h => by obtain ⟨x0, x1, x2, rfl, _⟩ := h; rfl) (fun f cdv A outer s H vs Q E hr h => ?_)
  obtain ⟨v0, v1, v2, rfl, h⟩ := h
  refine ⟨_, (pss_cons (ps_set (i := 3) sc_law_items.nd rfl (Or.inl rfl) (pe_lst pa_nil))
    (pss_cons (ps_for PassesOwn.never rfl (pi_range1 (by rfl) T.b_range (pa_cons (pv 1) pa_nil)) (pg_name (i := 4) sc_law_items.nd rfl (Or.inl rfl)) (pss_cons (ps_set (i := 5) sc_law_items.nd rfl (Or.inl rfl) (pc (cal_law_take T) hr (pa_cons (pv 0) (pa_cons pe_int pa_nil))))
      (pss_one (ps_if (PW.pt (pw_and (pt_cmpR op_eq (pv 5) pe_int (nomark _)) (pw_and1 (pt_cmpR op_gt (pv 2) pe_int (nomark _))))) (pss_cons (ps_set (i := 6) sc_law_items.nd rfl (Or.inl rfl) (pc (ih) hr (pa_cons (pv 0) (pa_cons (pe_op op_add pe_int (pe_op op_mul (pe_callTy call_int1 (by rfl) T.b_int (by decide +kernel) (pa_cons (pe_cmpR op_lt (pv 2) pe_int (nomark _)) pa_nil)) (pc (cal_law_take T) hr (pa_cons (pv 0) (pa_cons pe_int pa_nil))))) (pa_cons (pe_op op_sub (pv 2) pe_int) pa_nil)))))
        (pss_one (ps_expr (pe_bm PySem.F.plainAttrs_list PySem.F.slot_list_append PySem.F.type_list_append mt_append (pv 3) (pa_cons (pe_tup (pa_cons pe_str (pa_cons (pe_op op_add pe_int (pc (cal_law_take T) hr (pa_cons (pv 0) (pa_cons pe_int pa_nil)))) (pa_cons (pe_op op_add pe_int (pc (cal_law_take T) hr (pa_cons (pv 0) (pa_cons pe_int pa_nil)))) (pa_cons (pv 6) pa_nil))))) pa_nil))))) (pss_one (ps_if (pt_cmpR op_eq (pv 5) pe_int (nomark _)) (pss_cons (ps_set (i := 7) sc_law_items.nd rfl (Or.inl rfl) (pe_lst (pa_cons (pe_tup (pa_cons pe_str (pa_cons pe_str pa_nil))) (pa_cons (pe_tup (pa_cons pe_str (pa_cons pe_str pa_nil))) (pa_cons (pe_tup (pa_cons pe_str (pa_cons (pe_tup (pa_cons pe_int (pa_cons pe_int pa_nil))) pa_nil))) (pa_cons (pe_tup (pa_cons pe_str (pa_cons pe_str (pa_cons pe_str pa_nil)))) pa_nil))))))
          (pss_one (ps_expr (pe_bm PySem.F.plainAttrs_list PySem.F.slot_list_append PySem.F.type_list_append mt_append (pv 3) (pa_cons (pe_ix ix_list (pe_op op_cat (pv 7) (pe_lst (pa_cons (pe_tup (pa_cons pe_str (pa_cons (pe_tup (pa_cons pe_int (pa_cons pe_int pa_nil))) (pa_cons (pe_tup (pa_cons pe_int (pa_cons pe_int pa_nil))) (pa_cons pe_int pa_nil))))) pa_nil))) (pc (cal_law_take T) hr (pa_cons (pv 0) (pa_cons pe_int pa_nil))) (fun _ _ => rfl)) pa_nil))))) (pss_one (ps_expr (pe_bm PySem.F.plainAttrs_list PySem.F.slot_list_append PySem.F.type_list_append mt_append (pv 3) (pa_cons (pc (cal_law_tone T) hr (pa_cons (pv 0) pa_nil)) pa_nil))))))))))
    (pss_one (ps_ret (pe_callTy call_tuple_of (by rfl) T.b_tuple (by decide +kernel) (pa_cons (pv 3) pa_nil)))))), ?_⟩
  obtain ⟨h, m, many, d, rfl, o, hn, rfl, hm100, rfl, hd, kk⟩ := h
  refine ⟨Nat.zero_le _, fun p hp => ?_⟩
  have hph := o.ne hp
  refine ⟨_, rfl, (many : Nat), rfl, by omega, by omega, ?_⟩
  rw [show ((many : Nat) : Int).toNat = many from rfl]
  have hcp := cN_pos d
  have hkp := kN_pos d
  have hpp := pN_pos d
  refine for_it (walk_range (lo := 0) (n := many)) (fun i σ H' => ∃ c4 c5 c6 c7 vs its, σ = [some (.ref h), some (.int (many : Nat)), some (.int (d : Nat)), some (.ref p), c4, c5, c6, c7] ∧ HS h H H' (m + i * pN d) ∧ H' p = some (.lst vs) ∧ RpA H' vs (itemsD its) ∧
      itemsOk 2 d its ∧ its.length = i ∧ cntI its ≤ i * cN d ∧ kbI its ≤ i * kN d)
    ⟨_, _, _, _, [], [], rfl, (HS.same o (same_new hp)).mono (Nat.le_add_right _ _), upd_same, by rw [itemsD]; exact .nil, by rw [itemsOk]; trivial, rfl, by rw [cntI]; exact Nat.zero_le _, by rw [kbI]; exact Nat.zero_le _⟩ (fun _ _ _ _ _ => trivial) ?_ ?_
  · rintro i x σ H1 H2 hi ⟨c4, c5, c6, c7, vs, its, rfl, s1, hv1, rv1, ok1, hl1, hc1, hk1⟩ ⟨rfl, rfl⟩
    have hip : (i + 1) * pN d = i * pN d + pN d := by rw [Nat.add_mul, Nat.one_mul]
    have him : (i + 1) * pN d ≤ many * pN d := Nat.mul_le_mul_right _ hi
    have hvl : vs.length < sizeLine := by
      have e : vs.length = i := by rw [rv1.len, itemsD_map, List.length_map, hl1]
      rw [e, sizeLine_eq]; omega
    -- the end of a turn: one item more
    have fin : ∀ {H3 : Hp} {q : Nat} {v : V} {y : Item}, HS h H2 H3 q → q ≤ m + (i + 1) * pN d → Rp H3 v y.d → y.ok 2 d → y.cnt ≤ cN d → y.kb ≤ kN d →
        H3 p = some (.lst vs) ∧ (∃ vs' its', HS h H (upd H3 p (.lst (vs ++ [v]))) (m + (i + 1) * pN d) ∧ (upd H3 p (.lst (vs ++ [v]))) p = some (.lst vs') ∧ RpA (upd H3 p (.lst (vs ++ [v]))) vs' (itemsD its') ∧
          itemsOk 2 d its' ∧ its'.length = i + 1 ∧ cntI its' ≤ (i + 1) * cN d ∧ kbI its' ≤ (i + 1) * kN d) := by
      intro H3 q v y s3 hq ry oy cy ky
      have hp3 := s3.on hv1 hph
      have tk := tk_lst (o := .lst (vs ++ [v])) hp3
      refine ⟨hp3, vs ++ [v], its ++ [y], ((s1.trans s3).up hp hp3 hph).mono hq, upd_same, ?_, itemsOk_app ok1 (itemsOk_one oy), by rw [List.length_append, hl1]; rfl, ?_, ?_⟩
      · rw [itemsD_app, itemsD, itemsD]
        exact ((rv1.mono s3.t).mono tk).app (.cons (ry.mono tk) .nil)
      · rw [cntI_app, cntI, cntI, Nat.add_mul]; omega
      · rw [kbI_app, kbI, kbI, Nat.add_mul]; omega
    refine ⟨_, rfl, _, _, rfl, h, m + i * pN d, 10, rfl, s1.o, by omega, rfl, by omega, by omega, fun H3 r s3 hr => ?_⟩
    refine ⟨_, rfl, rfl, _, rfl, ?_⟩
    by_cases c0 : r = 0 ∧ 0 < d
    · -- a group
      refine itT (dT (by rw [c0.1]; rfl)) ?_
      refine ⟨_, rfl, _, _, rfl, rfl, _, rfl, itT (dT (by omega)) ?_⟩
      obtain ⟨d', rfl⟩ : ∃ d', d = d' + 1 := ⟨d - 1, by omega⟩
      refine ⟨_, rfl, _, rfl, _, _, rfl, rfl, ?_⟩
      refine .inr ⟨_, rfl, ?_⟩
      refine ⟨_, rfl, _, _, rfl, h, m + i * pN (d' + 1) + 1, 2, rfl, s3.o, by omega, rfl, by omega, by omega, fun H4 r2 s4 hr2 => ?_⟩
      refine ⟨_, _, rfl, rfl, .inl (by split <;> omega), _, _, rfl, rfl, ?_⟩
      refine ⟨_, rfl, _, _, rfl, rfl, ?_⟩
      have e1 : ∃ mn : Nat, (1 : Int) + (if decide (((d' + 1 : Nat) : Int) < 3) = true then 1 else 0) * (r2 : Int) = (mn : Int) ∧ 1 ≤ mn ∧ mn ≤ (if d' + 1 < 3 then 2 else 1) := by
        by_cases c3 : d' + 1 < 3
        · refine ⟨1 + r2, ?_, by omega, by rw [if_pos c3]; omega⟩
          rw [if_pos (dT (by omega))]
          omega
        · refine ⟨1, ?_, by omega, by rw [if_neg c3]; omega⟩
          rw [if_neg (dF (by omega))]
          omega
      obtain ⟨mn, em, mn1, mn2⟩ := e1
      have mn3 : mn ≤ 2 := by
        refine Nat.le_trans mn2 ?_
        split <;> omega
      have ep : pN (d' + 1) = 2 * pN d' + 4 := rfl
      have hmp : mn * pN d' ≤ 2 * pN d' := Nat.mul_le_mul_right _ mn3
      refine ⟨_, _, _, rfl, h, m + i * pN (d' + 1) + 2, mn, d', rfl, s4.o, by omega, congrArg V.int em, by omega, congrArg V.int (by omega), by omega, fun H5 v5 its5 s5 r5 ok5 l5 c5 k5 => ?_⟩
      refine ⟨_, rfl, .inl ⟨rfl, _, SqL.of (((s3.trans s4).trans s5).on hv1 hph)⟩, ?_⟩
      refine ⟨_, rfl, _, _, rfl, h, m + i * pN (d' + 1) + 2 + mn * pN d', 3, rfl, s5.o, by omega, rfl, by omega, by omega, fun H6 r6 s6 hr6 => ?_⟩
      refine ⟨_, _, rfl, rfl, ?_⟩
      refine ⟨_, rfl, _, _, rfl, h, m + i * pN (d' + 1) + 2 + mn * pN d' + 1, 3, rfl, s6.o, by omega, rfl, by omega, by omega, fun H7 r7 s7 hr7 => ?_⟩
      refine ⟨_, _, rfl, rfl, _, rfl, (by show 4 ≤ sizeLine; decide), fun q hq => ?_⟩
      have s27 := ((((s3.trans s4).trans s5).trans s6).trans s7).and (same_new (o := .tup [.str "group", .int (1 + (r6 : Int)), .int (1 + (r7 : Int)), v5]) hq)
      obtain ⟨hp8, vs', its', f1, f2, f3, f4, f5, f6, f7⟩ := fin (y := .group (1 + (r6 : Int)) (1 + (r7 : Int)) its5) s27 (by omega) (rp_group upd_same (((r5.mono s6.t).mono s7.t).mono (tk_new hq)))
        (by rw [Item.ok]; exact ⟨by omega, by omega, by omega, by omega, by omega, ok5⟩)
        (by rw [Item.cnt]; exact Nat.le_trans c5 (Nat.mul_le_mul_right _ mn2))
        (by rw [Item.kb]; exact Nat.add_le_add_right (Nat.le_trans k5 (Nat.mul_le_mul_right _ mn2)) 4)
      exact ⟨p, vs, _, rfl, rfl, hp8, hvl, _, _, _, _, vs', its', rfl, f1, f2, f3, f4, f5, f6, f7⟩
    · -- no group
      have e0 : (decide (V.int (r : Nat) = V.int 0) = true) → ¬ 0 < d := fun z hd0 => c0 ⟨by have := V.int.inj (of_decide_eq_true z); omega, hd0⟩
      have pass : ∀ {U A B : Prop}, (decide (V.int (r : Nat) = V.int 0) = true → U) → (¬ decide (V.int (r : Nat) = V.int 0) = true → B) → if decide (V.int (r : Nat) = V.int 0) = true then U else (if false = true then A else B) := by
        intro U A B h1 h2
        by_cases z : decide (V.int (r : Nat) = V.int 0) = true
        · rw [if_pos z]; exact h1 z
        · rw [if_neg z, if_neg Bool.false_ne_true]; exact h2 z
      refine pass (fun z => ⟨_, rfl, _, _, rfl, rfl, _, rfl, itF (dF (by have := e0 z; omega)) ?_⟩) (fun z => ?_)
      · -- r = 0 and no depth: a tone
        have hr0 : r = 0 := by have := V.int.inj (of_decide_eq_true z); omega
        refine ⟨_, rfl, rfl, _, rfl, itF (dF (by rw [hr0]; intro q; have := V.int.inj q; omega)) ?_⟩
        refine ⟨_, rfl, .inl ⟨rfl, _, SqL.of (s3.on hv1 hph)⟩, ?_⟩
        refine ⟨_, rfl, _, rfl, h, m + i * pN d + 1, rfl, s3.o, by omega, fun H4 v4 x4 s4 r4 lf ok4 => ?_⟩
        obtain ⟨hp8, vs', its', f1, f2, f3, f4, f5, f6, f7⟩ := fin (y := x4) (s3.trans s4) (by omega) r4 (ok4 d) (by cases x4 <;> first | exact hcp | cases lf) (by cases x4 <;> first | exact hkp | cases lf)
        exact ⟨p, vs, _, rfl, rfl, hp8, hvl, _, _, _, _, vs', its', rfl, f1, f2, f3, f4, f5, f6, f7⟩
      · refine ⟨_, rfl, rfl, _, rfl, ?_⟩
        by_cases c1 : r = 1
        · refine itT (dT (by rw [c1]; rfl)) ?_
          refine ⟨(by show 2 ≤ sizeLine; decide), fun p1 h1 => ⟨(by show 2 ≤ sizeLine; decide), fun p2 h2 => ⟨(by show 2 ≤ sizeLine; decide), fun q3 h3 => ⟨(by show 2 ≤ sizeLine; decide), fun p3 h3' => ⟨(by show 3 ≤ sizeLine; decide), fun p4 h4 => ⟨(by show 4 ≤ sizeLine; decide), fun l1 hl1 => ?_⟩⟩⟩⟩⟩⟩
          have sA := ((((same_new (o := .tup [.str "call", .str "x"]) h1).trans (same_new (o := .tup [.str "meet", .str "yy"]) h2)).trans (same_new (o := .tup [.int 1, .int 2]) h3)).trans (same_new (o := .tup [.str "pace", .ref q3]) h3')).trans (same_new (o := .tup [.str "wait", .str "w", .str "x"]) h4)
          have sB := same_new (o := .lst [.ref p1, .ref p2, .ref p3, .ref p4]) hl1
          refine hgen (fun H4 => Same H3 H4 ∧ H4 l1 = some (.lst [.ref p1, .ref p2, .ref p3, .ref p4]) ∧ MarksAt H4 [.ref p1, .ref p2, .ref p3, .ref p4]) ⟨sA.trans sB, upd_same, ?_⟩ ?_
          · refine MarksAt.mono ?_ sB.tk
            have t4 := tk_new (o := .tup [.str "wait", .str "w", .str "x"]) h4
            have t3' := tk_new (o := .tup [.str "pace", .ref q3]) h3'
            have t3 := tk_new (o := .tup [.int 1, .int 2]) h3
            have t2 := tk_new (o := .tup [.str "meet", .str "yy"]) h2
            refine .cons (w := .call) (rpm (t4 _ _ (t3' _ _ (t3 _ _ (t2 _ _ upd_same)))) (.cons (.str _) .nil)) (.cons (w := .meet) (rpm (t4 _ _ (t3' _ _ (t3 _ _ upd_same))) (.cons (.str _) .nil))
              (.cons (w := .pace) (rpm (t4 _ _ upd_same) (.cons (.tup (t4 _ _ (t3' _ _ upd_same)) (.cons (.int _) (.cons (.int _) .nil))) .nil)) (.cons (w := .wait) (rpm upd_same (.cons (.str _) (.cons (.str _) .nil))) fun v hv => absurd hv (List.not_mem_nil))))
          rintro H4 ⟨s34, hl4, mk4⟩
          clear sA sB h1 h2 h3 h3' h4 hl1
          have s4 := s3.and s34
          refine ⟨_, rfl, .inl ⟨rfl, _, SqL.of (s4.on hv1 hph)⟩, ?_⟩
          refine ⟨_, rfl, ?_⟩
          refine ⟨(by show 2 ≤ sizeLine; decide), fun qa ha => ⟨(by show 2 ≤ sizeLine; decide), fun qb hb => ⟨(by show 4 ≤ sizeLine; decide), fun p5 h5 => ⟨(by show 1 ≤ sizeLine; decide), fun l2 hl2 => ?_⟩⟩⟩⟩
          have sC := ((same_new (o := .tup [.int 1, .int 1]) ha).trans (same_new (o := .tup [.int 1, .int 2]) hb)).trans (same_new (o := .tup [.str "lean", .ref qa, .ref qb, .int 3]) h5)
          have sD := same_new (o := .lst [.ref p5]) hl2
          have sCD := sC.trans sD
          refine ⟨l1, l2, _, _, rfl, rfl, sCD.on hl4, upd_same, (by show 5 ≤ sizeLine; decide), fun l3 hl3 => ?_⟩
          have sE := same_new (o := .lst ([.ref p1, .ref p2, .ref p3, .ref p4] ++ [.ref p5])) hl3
          have mk5 : MarksAt (upd (upd (upd (upd (upd H4 qa (.tup [.int 1, .int 1])) qb (.tup [.int 1, .int 2])) p5 (.tup [.str "lean", .ref qa, .ref qb, .int 3])) l2 (.lst [.ref p5])) l3 (.lst ([.ref p1, .ref p2, .ref p3, .ref p4] ++ [.ref p5]))) ([.ref p1, .ref p2, .ref p3, .ref p4] ++ [.ref p5]) := by
            intro v hv
            rcases List.mem_append.mp hv with hv | hv
            · exact (mk4.mono (sCD.trans sE).tk) v hv
            · rw [List.mem_singleton.mp hv]
              have t5 := tk_new (o := .tup [.str "lean", .ref qa, .ref qb, .int 3]) h5
              have tb := tk_new (o := .tup [.int 1, .int 2]) hb
              exact ⟨.lean, _, (rpm (w := .lean) upd_same (.cons (.tup (t5 _ _ (tb _ _ upd_same)) (.cons (.int _) (.cons (.int _) .nil))) (.cons (.tup (t5 _ _ upd_same) (.cons (.int _) (.cons (.int _) .nil))) (.cons (.int _) .nil)))).mono (sD.trans sE).tk⟩
          have s5 := s4.and (sCD.trans sE)
          have hl3h : l3 ≠ h := (s4.and sCD).o.ne hl3
          refine ⟨_, rfl, _, _, rfl, h, m + i * pN d + 1, 5, rfl, s5.o, by omega, rfl, by omega, by omega, fun H6 r6 s6 hr6 => ?_⟩
          have hl6 := s6.on (upd_same (H := upd (upd (upd (upd H4 qa (.tup [.int 1, .int 1])) qb (.tup [.int 1, .int 2])) p5 (.tup [.str "lean", .ref qa, .ref qb, .int 3])) l2 (.lst [.ref p5])) (a := l3) (o := .lst ([.ref p1, .ref p2, .ref p3, .ref p4] ++ [.ref p5]))) hl3h
          have hlen : ([V.ref p1, V.ref p2, V.ref p3, V.ref p4] ++ [V.ref p5] : List V).length = 5 := rfl
          obtain ⟨v, hv⟩ : ∃ v, ([V.ref p1, V.ref p2, V.ref p3, V.ref p4] ++ [V.ref p5] : List V)[r6]? = some v := ⟨_, List.getElem?_eq_getElem (by rw [hlen]; exact hr6)⟩
          obtain ⟨mw, ds, hmk⟩ := mk5 v (List.mem_of_getElem? hv)
          refine ⟨l3, _, _, _, rfl, rfl, SqL.of hl6, atI_nat hv, ?_⟩
          obtain ⟨hp8, vs', its', f1, f2, f3, f4, f5, f6, f7⟩ := fin (y := .mark mw ds) (s5.trans s6) (by omega) (hmk.mono s6.t) (by cases d <;> (rw [Item.ok]; trivial)) (by rw [Item.cnt] <;> first | exact hcp | simp) (by rw [Item.kb]; exact Nat.zero_le _)
          exact ⟨p, vs, _, rfl, rfl, hp8, hvl, _, _, _, _, vs', its', rfl, f1, f2, f3, f4, f5, f6, f7⟩
        · refine itF (dF (fun q => c1 (by have := V.int.inj q; omega))) ?_
          refine ⟨_, rfl, .inl ⟨rfl, _, SqL.of (s3.on hv1 hph)⟩, ?_⟩
          refine ⟨_, rfl, _, rfl, h, m + i * pN d + 1, rfl, s3.o, by omega, fun H4 v4 x4 s4 r4 lf ok4 => ?_⟩
          obtain ⟨hp8, vs', its', f1, f2, f3, f4, f5, f6, f7⟩ := fin (y := x4) (s3.trans s4) (by omega) r4 (ok4 d) (by cases x4 <;> first | exact hcp | cases lf) (by cases x4 <;> first | exact hkp | cases lf)
          exact ⟨p, vs, _, rfl, rfl, hp8, hvl, _, _, _, _, vs', its', rfl, f1, f2, f3, f4, f5, f6, f7⟩
  · rintro σ H1 ⟨c4, c5, c6, c7, vs, its, rfl, s1, hv1, rv1, ok1, hl1, hc1, hk1⟩
    refine ⟨_, rfl, p, vs, rfl, .inl ⟨SqL.of hv1, fun q hq => ?_⟩⟩
    exact kk _ _ its (s1.and (same_new hq)) (.tup upd_same (rv1.mono (tk_new hq))) ok1 hl1 hc1 hk1
end
theorem kbI_take {l : List Item} {i : Nat} {x : Item} (h : l[i]? = some x) : kbI (l.take (i + 1)) = kbI (l.take i) + x.kb := by
  rw [take_succ h, kbI_app, kbI, kbI, Nat.add_zero]
theorem kbI_take_le (l : List Item) (i : Nat) : kbI (l.take i) ≤ kbI l := by
  have h : kbI (l.take i ++ l.drop i) = kbI (l.take i) + kbI (l.drop i) := kbI_app _ _
  rw [List.take_append_drop] at h
  omega
theorem notesI_take {l : List Item} {i : Nat} {x : Item} (h : l[i]? = some x) : notesI (l.take (i + 1)) = notesI (l.take i) + x.notes := by
  rw [take_succ h, notesI_app, notesI, notesI, Nat.add_zero]
section
variable {P : Program} {w : World} {K : PySem.W.Frag} {mg : Str → Option Value} {base : Heap}
/- slots of _law_come: 0 _law_items_here, 1 _law_total, 2 _law_one -/
theorem sc_law_come : FnScope ["_law_items_here", "_law_total", "_law_one"] ["_law_items_here"] (defScope s_law_come) := ⟨rfl, rfl, rfl, by decide +kernel, rfl, by decide +kernel, by decide +kernel⟩
theorem cal_law_come (T : Tx w K mg) : ∀ n, Cal P w K mg base CX0 (n + 3) "_law_come" ["_law_items_here"] (spCome n) := by
  intro n
  induction n with
  | zero =>
    have no : ∀ vs H Q E, ¬ spCome 0 vs H Q E := by
      rintro vs H Q E ⟨a, _, d, its, hd, _⟩
      omega
    exact Cal.of T.f_law_come T.g_law_come sc_law_come (fun _ _ _ _ _ _ us hl => match us, hl with | [_], _ => rfl) (fun vs H Q E h => (no vs H Q E h).elim) (fun _ _ _ _ _ H vs Q E _ h => (no vs H Q E h).elim)
  | succ n ih =>
  refine Cal.of T.f_law_come T.g_law_come sc_law_come (fun _ _ _ _ _ _ us hl => match us, hl with | [_], _ => rfl) (fun vs H Q E h => by obtain ⟨x0, rfl, _⟩ := h; rfl) (fun f cdv A outer s H vs Q E hr h => ?_)
  obtain ⟨v0, rfl, h⟩ := h
  refine ⟨_, (pss_cons (ps_set (i := 1) sc_law_come.nd rfl (Or.inl rfl) (pe_tup (pa_cons pe_int (pa_cons pe_int pa_nil))))
    (pss_cons (ps_for PassesOwn.never rfl (pi_tup (pv 0)) (pg_name (i := 2) sc_law_come.nd rfl (Or.inl rfl)) (pss_one (ps_if (pt_cmpR op_eq (pe_ix ix_tup (pv 2) pe_int (fun _ _ => rfl)) pe_str (nomark _)) (pss_one (ps_set (i := 1) sc_law_come.nd rfl (Or.inl rfl) (pc (cal_law_plus T) hr (pa_cons (pv 1) (pa_cons (pc (cal_law_times T) hr (pa_cons (pc (ih) hr (pa_cons (pe_ix ix_tup (pv 2) pe_int (fun _ _ => rfl)) pa_nil)) (pa_cons (pc (cal_law_low T) hr (pa_cons (pe_ix ix_tup (pv 2) pe_int (fun _ _ => rfl)) (pa_cons (pe_ix ix_tup (pv 2) pe_int (fun _ _ => rfl)) pa_nil))) pa_nil))) pa_nil))))) (pss_one (ps_if (pt_cmpR op_in_seq (pe_ix ix_tup (pv 2) pe_int (fun _ _ => rfl)) (pe_tup (pa_cons pe_str (pa_cons pe_str pa_nil))) (by rfl)) (pss_one (ps_set (i := 1) sc_law_come.nd rfl (Or.inl rfl) (pc (cal_law_plus T) hr (pa_cons (pv 1) (pa_cons (pe_ix ix_tup (pv 2) (pe_op op_add pe_int (pe_callTy call_int1 (by rfl) T.b_int (by decide +kernel) (pa_cons (pe_cmpR op_eq (pe_ix ix_tup (pv 2) pe_int (fun _ _ => rfl)) pe_str (nomark _)) pa_nil))) (fun _ _ => rfl)) pa_nil))))) pss_nil)))))
    (pss_one (ps_ret (pv 1))))), ?_⟩
  obtain ⟨d, its, hd, ok, hits, hk8, kk⟩ := h
  obtain ⟨ai, vi, rfl, hai, ri⟩ := hits.tup_inv
  have hvl : vi.length = its.length := by rw [ri.len, itemsD_map, List.length_map]
  refine ⟨(by show 2 ≤ sizeLine; decide), fun p hp => ?_⟩
  have s0 := same_new (o := .tup [.int 0, .int 1]) hp
  refine ⟨_, rfl, ai, rfl, ⟨vi, SqT.of (s0.on hai)⟩, for_it (walk_tup (xs := vi)) (fun i σ H' => ∃ tv f c2, σ = [some (.ref ai), some tv, c2] ∧ Same H H' ∧ FAt H' tv f ∧ FB (1 + kbI (its.take i)) f)
    ⟨_, (0, 1), _, rfl, s0, ⟨p, rfl, upd_same⟩, FB01.mono (Nat.le_add_right _ _)⟩ ?_ ?_ ?_⟩
  · rintro i σ H' _ ⟨tv, f, c2, rfl, s, _⟩
    exact SqT.of (s.on hai)
  · rintro i x σ H1 H2 hi ⟨tv, f, c2, rfl, s, hf, bf⟩ ⟨rfl, hx⟩
    obtain ⟨it, hit, rx⟩ := rpa_items_get ri hx
    have rx : Rp H2 x it.d := rx.mono s.tk
    have itok := itemsOk_get ok hit
    have ek := kbI_take hit
    have ekl := kbI_take_le its (i + 1)
    have leafcase : it.leaf = true → it.kb = 3 := fun lf => by cases it <;> first | rfl | cases lf
    cases hlf : it.leaf with
    | true =>
      have ek3 := leafcase hlf
      obtain ⟨a, sx, sv, rfl, ha, hin⟩ := item_leaf it rx
      have ng : ∀ g t l, it ≠ .group g t l := fun g t l e => by rw [e] at hlf; cases hlf
      cases it with
      | group g t l => exact absurd rfl (ng g t l)
      | mark mw ds => cases hlf
      | tone ps len ti he =>
        obtain ⟨a', vp, vl, e, ha', _, rl⟩ := rx.tone_inv
        cases e
        have ok2 : FB 2 len ∧ ps.length ≤ 10 := by rw [Item.ok] at itok; exact itok
        refine ⟨_, rfl, _, _, _, _, rfl, rfl, SqT.of (ha'), atI_nat (j := 0) rfl, rfl, _, rfl, itF (bF (by decide +kernel)) ?_⟩
        refine ⟨_, rfl, _, _, _, _, rfl, rfl, SqT.of (ha'), atI_nat (j := 0) rfl, (by show 2 ≤ sizeLine; decide), fun p3 hp3 => ?_⟩
        refine ⟨p3, _, rfl, .inr (SqT.of upd_same), rfl, rfl, _, rfl, itT (by decide +kernel) ?_⟩
        have s3 := same_new (o := .tup [.str "rest", .str "tone"]) hp3
        have ha3 := s3.on ha'
        refine ⟨_, rfl, _, rfl, _, rfl, _, _, _, _, rfl, rfl, SqT.of (ha3), atI_nat (j := 0) rfl, rfl, ?_⟩
        refine .inr ⟨_, rfl, _, _, rfl, rfl, ?_⟩
        refine ⟨a, [.str "tone", vp, vl, .bl ti, .bl he], 2, vl, rfl, by rw [decide_eq_true rfl]; rfl, SqT.of ha3, atI_nat (j := 2) rfl, ?_⟩
        refine ⟨_, _, rfl, f, len, 1 + kbI (its.take i), 2, hf.mono s3.tk, rl.mono s3.tk, bf, ok2.1, by omega, by omega, (by show 1 + kbI (its.take i) + 2 + 1 ≤ 9000; omega), fun bq q hq => ?_⟩
        exact ⟨_, _, _, rfl, (s.trans s3).trans (same_new hq), ⟨q, rfl, upd_same⟩, bq.mono (by show 1 + kbI (its.take i) + 2 + 1 ≤ _; omega)⟩
      | rest len =>
        obtain ⟨a', vl, e, ha', rl⟩ := rx.rest_inv
        cases e
        have ok2 : FB 2 len := by rw [Item.ok] at itok; exact itok
        refine ⟨_, rfl, _, _, _, _, rfl, rfl, SqT.of (ha'), atI_nat (j := 0) rfl, rfl, _, rfl, itF (bF (by decide +kernel)) ?_⟩
        refine ⟨_, rfl, _, _, _, _, rfl, rfl, SqT.of (ha'), atI_nat (j := 0) rfl, (by show 2 ≤ sizeLine; decide), fun p3 hp3 => ?_⟩
        refine ⟨p3, _, rfl, .inr (SqT.of upd_same), rfl, rfl, _, rfl, itT (by decide +kernel) ?_⟩
        have s3 := same_new (o := .tup [.str "rest", .str "tone"]) hp3
        have ha3 := s3.on ha'
        refine ⟨_, rfl, _, rfl, _, rfl, _, _, _, _, rfl, rfl, SqT.of (ha3), atI_nat (j := 0) rfl, rfl, ?_⟩
        refine .inr ⟨_, rfl, _, _, rfl, rfl, ?_⟩
        refine ⟨a, [.str "rest", vl], 1, vl, rfl, by rw [show decide (V.str "rest" = V.str "tone") = false by decide +kernel]; rfl, SqT.of ha3, atI_nat (j := 1) rfl, ?_⟩
        refine ⟨_, _, rfl, f, len, 1 + kbI (its.take i), 2, hf.mono s3.tk, rl.mono s3.tk, bf, ok2, by omega, by omega, (by show 1 + kbI (its.take i) + 2 + 1 ≤ 9000; omega), fun bq q hq => ?_⟩
        exact ⟨_, _, _, rfl, (s.trans s3).trans (same_new hq), ⟨q, rfl, upd_same⟩, bq.mono (by show 1 + kbI (its.take i) + 2 + 1 ≤ _; omega)⟩
    | false =>
      cases it with
      | tone ps len ti he => cases hlf
      | rest len => cases hlf
      | mark mw ds =>
        obtain ⟨a, mv, rfl, ha, rm⟩ := rx.mark_inv
        obtain ⟨n1, n2, n3⟩ := mw_ne mw
        obtain ⟨a', sx, sv, e, ha', hin⟩ := item_leaf (.mark mw ds) rx
        cases e
        rw [ha] at ha'
        cases ha'
        have hin : inV (.str mw.s) [.str "rest", .str "tone"] = false := hin
        refine ⟨_, rfl, _, _, _, _, rfl, rfl, SqT.of (ha), atI_nat (j := 0) rfl, rfl, _, rfl, itF (bF n1) ?_⟩
        refine ⟨_, rfl, _, _, _, _, rfl, rfl, SqT.of (ha), atI_nat (j := 0) rfl, (by show 2 ≤ sizeLine; decide), fun p3 hp3 => ?_⟩
        refine ⟨p3, _, rfl, .inr (SqT.of upd_same), rfl, rfl, _, rfl, itF (by show ¬ inV (.str mw.s) [.str "rest", .str "tone"] = true; rw [hin]; decide) ?_⟩
        have s3 := same_new (o := .tup [.str "rest", .str "tone"]) hp3
        exact ⟨_, _, _, rfl, s.trans s3, hf.mono s3.tk, bf.mono (by omega)⟩
      | group gm gt gi =>
        obtain ⟨a, gv, rfl, ha, rg⟩ := rx.group_inv
        cases d with
        | zero => rw [Item.ok] at itok; exact itok.elim
        | succ d =>
        rw [Item.ok] at itok
        obtain ⟨m1, m3, t1, t3, _, gok⟩ := itok
        have ekg : (Item.group gm gt gi).kb = kbI gi + 4 := rfl
        refine ⟨_, rfl, _, _, _, _, rfl, rfl, SqT.of (ha), atI_nat (j := 0) rfl, rfl, _, rfl, itT (dT rfl) ?_⟩
        refine ⟨_, rfl, _, rfl, _, _, _, _, rfl, rfl, SqT.of (ha), atI_nat (j := 3) rfl, ?_⟩
        refine ⟨_, rfl, d, gi, by omega, gok, rg, by omega, fun H3 v3 f3 s3 hf3 bf3 => ?_⟩
        refine ⟨_, rfl, _, _, _, _, rfl, rfl, SqT.of (s3.on ha), atI_nat (j := 2) rfl, _, rfl, _, _, _, _, rfl, rfl, SqT.of (s3.on ha), atI_nat (j := 1) rfl, ?_⟩
        refine ⟨_, _, rfl, gt, gm, 2, rfl, rfl, by omega, by omega, by omega, by omega, by omega, fun q hq => ?_⟩
        have s4 := same_new (o := .tup (fV (fpart gt gm))) hq
        have bp : FB 2 (fpart gt gm) := fpart_FB (by omega) (by omega) (by omega)
        refine ⟨_, _, rfl, f3, fpart gt gm, 1 + kbI gi, 2, hf3.mono s4.tk, ⟨q, rfl, upd_same⟩, bf3, bp, by omega, by omega, (by show 1 + kbI gi + 2 ≤ 9000; omega), fun bq q2 hq2 => ?_⟩
        have s5 := same_new (o := .tup (fV (ftimes f3 (fpart gt gm)))) hq2
        have s35 := (s3.trans s4).trans s5
        refine ⟨_, _, rfl, f, ftimes f3 (fpart gt gm), 1 + kbI (its.take i), 1 + kbI gi + 2, hf.mono s35.tk, ⟨q2, rfl, upd_same⟩, bf, bq, by omega, by omega, (by show 1 + kbI (its.take i) + (1 + kbI gi + 2) + 1 ≤ 9000; omega), fun br q3 hq3 => ?_⟩
        exact ⟨_, _, _, rfl, (s.trans s35).trans (same_new hq3), ⟨q3, rfl, upd_same⟩, br.mono (by show 1 + kbI (its.take i) + (1 + kbI gi + 2) + 1 ≤ _; omega)⟩
  · rintro σ H1 ⟨tv, f, c2, rfl, s, hf, bf⟩
    rw [hvl, List.take_length] at bf
    exact ⟨_, rfl, kk H1 tv f s hf bf⟩
/- slots of _law_count: 0 _law_items_here, 1 _law_total, 2 _law_item -/
theorem sc_law_count : FnScope ["_law_items_here", "_law_total", "_law_item"] ["_law_items_here"] (defScope s_law_count) := ⟨rfl, rfl, rfl, by decide +kernel, rfl, by decide +kernel, by decide +kernel⟩
theorem cal_law_count (T : Tx w K mg) : ∀ n, Cal P w K mg base CX0 (n + 1) "_law_count" ["_law_items_here"] (spCount n) := by
  intro n
  induction n with
  | zero =>
    have no : ∀ vs H Q E, ¬ spCount 0 vs H Q E := by
      rintro vs H Q E ⟨a, _, d, L, its, hd, _⟩
      omega
    exact Cal.of T.f_law_count T.g_law_count sc_law_count (fun _ _ _ _ _ _ us hl => match us, hl with | [_], _ => rfl) (fun vs H Q E h => (no vs H Q E h).elim) (fun _ _ _ _ _ H vs Q E _ h => (no vs H Q E h).elim)
  | succ n ih =>
  refine Cal.of T.f_law_count T.g_law_count sc_law_count (fun _ _ _ _ _ _ us hl => match us, hl with | [_], _ => rfl) (fun vs H Q E h => by obtain ⟨x0, rfl, _⟩ := h; rfl) (fun f cdv A outer s H vs Q E hr h => ?_)
  obtain ⟨v0, rfl, h⟩ := h
  refine ⟨_, (pss_cons (ps_set (i := 1) sc_law_count.nd rfl (Or.inl rfl) pe_int)
    (pss_cons (ps_for PassesOwn.never rfl (pi_tup (pv 0)) (pg_name (i := 2) sc_law_count.nd rfl (Or.inl rfl)) (pss_one (ps_if (pt_cmpR op_eq (pe_ix ix_tup (pv 2) pe_int (fun _ _ => rfl)) pe_str (nomark _)) (pss_one (ps_set (i := 1) sc_law_count.nd rfl (Or.inl rfl) (pe_op op_add (pv 1) (pc (ih) hr (pa_cons (pe_ix ix_tup (pv 2) pe_int (fun _ _ => rfl)) pa_nil))))) (pss_one (ps_if (pt_cmpR op_in_seq (pe_ix ix_tup (pv 2) pe_int (fun _ _ => rfl)) (pe_tup (pa_cons pe_str (pa_cons pe_str pa_nil))) (by rfl)) (pss_one (ps_set (i := 1) sc_law_count.nd rfl (Or.inl rfl) (pe_op op_add (pv 1) pe_int))) pss_nil)))))
    (pss_one (ps_ret (pv 1))))), ?_⟩
  obtain ⟨d, L, its, hd, ok, hits, kk⟩ := h
  obtain ⟨ai, vi, rfl, hai, ri⟩ := hits.tup_inv
  have hvl : vi.length = its.length := by rw [ri.len, itemsD_map, List.length_map]
  refine ⟨_, rfl, ai, rfl, ⟨vi, SqT.of hai⟩, for_it (walk_tup (xs := vi)) (fun i σ H' => ∃ c2, σ = [some (.ref ai), some (.int (notesI (its.take i) : Nat)), c2] ∧ Same H H') ⟨_, rfl, same_refl H⟩ ?_ ?_ ?_⟩
  · rintro i σ H' _ ⟨c2, rfl, s⟩
    exact SqT.of (s.on hai)
  · rintro i x σ H1 H2 hi ⟨c2, rfl, s⟩ ⟨rfl, hx⟩
    obtain ⟨it, hit, rx⟩ := rpa_items_get ri hx
    have rx : Rp H2 x it.d := rx.mono s.tk
    have itok := itemsOk_get ok hit
    have en := notesI_take hit
    have isg : (∃ gm gt gi, it = .group gm gt gi) ∨ ((∀ a sx sv, x = .ref a → H2 a = some (.tup (.str sx :: sv)) → decide (V.str sx = V.str "group") = false) ∧ it.notes = if it.leaf = true then 1 else 0) := by
      cases it with
      | group gm gt gi => exact .inl ⟨gm, gt, gi, rfl⟩
      | tone ps len ti he =>
        obtain ⟨a', vp, vl, e, ha', _, rl⟩ := rx.tone_inv
        refine .inr ⟨fun a sx sv e2 h2 => ?_, rfl⟩
        rw [e] at e2; cases e2; rw [ha'] at h2; cases h2
        decide +kernel
      | rest len =>
        obtain ⟨a', vl, e, ha', rl⟩ := rx.rest_inv
        refine .inr ⟨fun a sx sv e2 h2 => ?_, rfl⟩
        rw [e] at e2; cases e2; rw [ha'] at h2; cases h2
        decide +kernel
      | mark mw ds =>
        obtain ⟨a', mv, e, ha', rm⟩ := rx.mark_inv
        refine .inr ⟨fun a sx sv e2 h2 => ?_, rfl⟩
        rw [e] at e2; cases e2; rw [ha'] at h2; cases h2
        exact (mw_ne mw).1
    rcases isg with ⟨gm, gt, gi, rfl⟩ | ⟨ng, hno⟩
    · obtain ⟨a, gv, rfl, ha, rg⟩ := rx.group_inv
      cases d with
      | zero => rw [Item.ok] at itok; exact itok.elim
      | succ d =>
      rw [Item.ok] at itok
      obtain ⟨m1, m3, t1, t3, _, gok⟩ := itok
      refine ⟨_, rfl, _, _, _, _, rfl, rfl, SqT.of (ha), atI_nat (j := 0) rfl, rfl, _, rfl, itT (dT rfl) ?_⟩
      refine ⟨_, rfl, _, rfl, _, _, _, _, rfl, rfl, SqT.of (ha), atI_nat (j := 3) rfl, ?_⟩
      refine ⟨_, rfl, d, L, gi, by omega, gok, rg, fun H3 s3 => ?_⟩
      refine ⟨_, _, rfl, rfl, some (.ref a), ?_, s.trans s3⟩
      rw [en]
      rfl
    · obtain ⟨a, sx, sv, rfl, ha, hin⟩ := item_leaf2 it rx
      refine ⟨_, rfl, _, _, _, _, rfl, rfl, SqT.of (ha), atI_nat (j := 0) rfl, rfl, _, rfl, itF (bF (ng _ _ _ rfl ha)) ?_⟩
      refine ⟨_, rfl, _, _, _, _, rfl, rfl, SqT.of (ha), atI_nat (j := 0) rfl, (by show 2 ≤ sizeLine; decide), fun p3 hp3 => ?_⟩
      have s3 := same_new (o := .tup [.str "tone", .str "rest"]) hp3
      refine ⟨p3, _, rfl, .inr (SqT.of upd_same), rfl, rfl, _, rfl, ?_⟩
      cases hlf : it.leaf with
      | true =>
        rw [hlf] at hin hno
        refine itT (show inV (.str sx) [.str "tone", .str "rest"] = true from hin) ?_
        refine ⟨_, rfl, _, _, rfl, rfl, some (.ref a), ?_, s.trans s3⟩
        rw [en, hno]
        rfl
      | false =>
        rw [hlf] at hin hno
        refine itF (by show ¬ inV (.str sx) [.str "tone", .str "rest"] = true; rw [hin]; decide) ?_
        refine ⟨some (.ref a), ?_, s.trans s3⟩
        rw [en, hno]
        rfl
  · rintro σ H1 ⟨c2, rfl, s⟩
    rw [hvl, List.take_length]
    exact ⟨_, rfl, kk H1 s⟩
end
theorem rpa_rep {H : Hp} {v : V} {d : PyData} (h : Rp H v d) : ∀ k : Nat, RpA H (List.replicate k [v]).flatten (List.replicate k d)
  | 0 => .nil
  | k + 1 => by
    rw [List.replicate_succ, List.replicate_succ, List.flatten_cons]
    exact .cons h (rpa_rep h k)
/-! ### a bar -/
def spBar : Sp := Sp1 fun a H Q _ => ∃ (h : Addr) (m : Nat), a = .ref h ∧ HandOk H h m ∧ m + 1100 ≤ 1000000000000000 ∧
  ∀ H' v size vss, HS h H H' (m + 1100) → Rp H' v (barD size vss) → FB 200 size → VsOk 200 vss → FvOk vss → Q v H'
section
variable {P : Program} {w : World} {K : PySem.W.Frag} {mg : Str → Option Value} {base : Heap}
/- slots of _law_bar: 0 _law_hand_here, 1 _law_most, 2 _law_deep, 3 _law_items_here, 4 _law_size -/
theorem sc_law_bar : FnScope ["_law_hand_here", "_law_most", "_law_deep", "_law_items_here", "_law_size"] ["_law_hand_here"] (defScope s_law_bar) := ⟨rfl, rfl, rfl, by decide +kernel, rfl, by decide +kernel, by decide +kernel⟩
theorem cal_law_bar (T : Tx w K mg) : Cal P w K mg base CX0 (12) "_law_bar" ["_law_hand_here"] spBar := by
  refine Cal.of T.f_law_bar T.g_law_bar sc_law_bar (fun _ _ _ _ _ _ us hl => match us, hl with | [_], _ => rfl) (fun vs H Q E h => by obtain ⟨x0, rfl, _⟩ := h; rfl) (fun f cdv A outer s H vs Q E hr h => ?_)
  obtain ⟨v0, rfl, h⟩ := h
  refine ⟨_, (pss_cons (ps_asg (pe_ix ix_list (pe_lst (pa_cons (pe_tup (pa_cons pe_int (pa_cons pe_int pa_nil))) (pa_cons (pe_tup (pa_cons pe_int (pa_cons pe_int pa_nil))) (pa_cons (pe_tup (pa_cons pe_int (pa_cons pe_int pa_nil))) (pa_cons (pe_tup (pa_cons pe_int (pa_cons pe_int pa_nil))) pa_nil))))) (pc (cal_law_take T) hr (pa_cons (pv 0) (pa_cons pe_int pa_nil))) (fun _ _ => rfl)) (pg_tup (by rfl) (pgs_cons (pg_name (i := 1) sc_law_bar.nd rfl (Or.inl rfl)) (pgs_cons (pg_name (i := 2) sc_law_bar.nd rfl (Or.inl rfl)) pgs_nil))))
    (pss_cons (ps_set (i := 3) sc_law_bar.nd rfl (Or.inl rfl) (pe_op op_catA (pc (cal_law_items T 7) hr (pa_cons (pv 0) (pa_cons (pc (cal_law_take T) hr (pa_cons (pv 0) (pa_cons (pe_op op_add (pv 1) pe_int) pa_nil))) (pa_cons (pv 2) pa_nil)))) (pe_tup (pa_cons (pc (cal_law_tone T) hr (pa_cons (pv 0) pa_nil)) pa_nil))))
    (pss_cons (ps_set (i := 4) sc_law_bar.nd rfl (Or.inl rfl) (pc (cal_law_come T 7) hr (pa_cons (pv 3) pa_nil)))
    (pss_one (ps_ret (pe_tup (pa_cons pe_str (pa_cons (pv 4) (pa_cons (pe_op op_catA (pe_tup (pa_cons (pv 3) pa_nil)) (pe_op op_repTA (pe_tup (pa_cons (pe_tup (pa_cons (pe_tup (pa_cons pe_str (pa_cons (pv 4) pa_nil))) pa_nil)) pa_nil)) (pe_ix ix_list (pe_lst (pa_cons pe_int (pa_cons pe_int (pa_cons pe_int (pa_cons pe_int pa_nil))))) (pc (cal_law_take T) hr (pa_cons (pv 0) (pa_cons pe_int pa_nil))) (fun _ _ => rfl)))) pa_nil))))))))), ?_⟩
  obtain ⟨h, m, rfl, o, hn, kk⟩ := h
  refine ⟨(by show 2 ≤ sizeLine; decide), fun p1 h1 => ⟨(by show 2 ≤ sizeLine; decide), fun p2 h2 => ⟨(by show 2 ≤ sizeLine; decide), fun p3 h3 => ⟨(by show 2 ≤ sizeLine; decide), fun p4 h4 => ⟨(by show 4 ≤ sizeLine; decide), fun l hl => ?_⟩⟩⟩⟩⟩
  have q4 := upd_same (H := upd (upd (upd H p1 (.tup [.int 3, .int 2])) p2 (.tup [.int 3, .int 2])) p3 (.tup [.int 9, .int 1])) (a := p4) (o := .tup [.int 1, .int 6])
  have q3 := (same_new (o := .tup [.int 1, .int 6]) h4).on (upd_same (H := upd (upd H p1 (.tup [.int 3, .int 2])) p2 (.tup [.int 3, .int 2])) (a := p3) (o := .tup [.int 9, .int 1]))
  have q2 := (same_new (o := .tup [.int 1, .int 6]) h4).on ((same_new (o := .tup [.int 9, .int 1]) h3).on (upd_same (H := upd H p1 (.tup [.int 3, .int 2])) (a := p2) (o := .tup [.int 3, .int 2])))
  have q1 := (same_new (o := .tup [.int 1, .int 6]) h4).on ((same_new (o := .tup [.int 9, .int 1]) h3).on ((same_new (o := .tup [.int 3, .int 2]) h2).on (upd_same (H := H) (a := p1) (o := .tup [.int 3, .int 2]))))
  have s4 := (((same_new (o := .tup [.int 3, .int 2]) h1).trans (same_new (o := .tup [.int 3, .int 2]) h2)).trans (same_new (o := .tup [.int 9, .int 1]) h3)).trans (same_new (o := .tup [.int 1, .int 6]) h4)
  have sl := same_new (o := .lst [.ref p1, .ref p2, .ref p3, .ref p4]) hl
  have lh := (HS.same o s4).o.ne hl
  have sA := HS.same o (s4.trans sl)
  refine ⟨_, rfl, _, _, rfl, h, m, 4, rfl, sA.o, by omega, rfl, by omega, by omega, fun H3 r s3 hr => ?_⟩
  have hl3 := s3.on upd_same lh
  obtain ⟨mo, de, q, hq, hqv, e1, e2, e3, e4, e5⟩ : ∃ (mo de : Nat) (q : Addr), ([V.ref p1, V.ref p2, V.ref p3, V.ref p4] : List V)[r]? = some (.ref q) ∧ H3 q = some (.tup [.int (mo : Nat), .int (de : Nat)]) ∧ mo * pN de ≤ 1020 ∧ mo * cN de ≤ 18 ∧ mo * kN de ≤ 90 ∧ mo ≤ 9 ∧ de ≤ 6 := by
    match r, hr with
    | 0, _ => exact ⟨3, 2, p1, rfl, s3.t _ _ (sl.on q1), by decide, by decide, by decide, by decide, by decide⟩
    | 1, _ => exact ⟨3, 2, p2, rfl, s3.t _ _ (sl.on q2), by decide, by decide, by decide, by decide, by decide⟩
    | 2, _ => exact ⟨9, 1, p3, rfl, s3.t _ _ (sl.on q3), by decide, by decide, by decide, by decide, by decide⟩
    | 3, _ => exact ⟨1, 6, p4, rfl, s3.t _ _ (sl.on q4), by decide, by decide, by decide, by decide, by decide⟩
  refine ⟨l, _, _, _, rfl, rfl, SqL.of hl3, atI_nat hq, ?_⟩
  refine ⟨q, _, rfl, SqT.of hqv, rfl, _, _, rfl, _, _, rfl, rfl, ?_⟩
  have s03 := sA.trans s3
  clear q1 q2 q3 q4 s4 sl lh sA hl3 h1 h2 h3 h4 hl
  refine ⟨_, rfl, _, rfl, _, rfl, _, _, rfl, rfl, ?_⟩
  refine ⟨_, _, rfl, h, m + 1, mo + 1, rfl, s03.o, by omega, rfl, by omega, by omega, fun H4 r4 s4 hr4 => ?_⟩
  have hr4' : r4 ≤ mo := by omega
  have g1 : r4 * pN de ≤ mo * pN de := Nat.mul_le_mul_right _ hr4'
  have g2 : r4 * cN de ≤ mo * cN de := Nat.mul_le_mul_right _ hr4'
  have g3 : r4 * kN de ≤ mo * kN de := Nat.mul_le_mul_right _ hr4'
  refine ⟨_, rfl, ?_⟩
  refine ⟨_, _, _, rfl, h, m + 2, r4, de, rfl, s4.o, by omega, rfl, by omega, rfl, by omega, fun H5 v5 its s5 r5 ok5 l5 c5 k5 => ?_⟩
  refine ⟨_, rfl, _, rfl, h, m + 2 + r4 * pN de, rfl, s5.o, by omega, fun H6 v6 x s6 r6 lf ok6 => ?_⟩
  refine ⟨(by show 1 ≤ sizeLine; decide), fun q7 hq7 => ?_⟩
  have s7 := same_new (o := .tup [v6]) hq7
  have r7 : Rp (upd H6 q7 (.tup [v6])) (.ref q7) (.tuple (itemsD [x])) := by
    rw [itemsD, itemsD]
    exact .tup upd_same (.cons (r6.mono s7.tk) .nil)
  refine catA_rp ((r5.mono s6.t).mono s7.tk) r7 (by rw [itemsD_map, itemsD_map, List.length_map, List.length_map, sizeLine_eq, l5]; show r4 + 1 ≤ _; omega) fun H8 v8 s8 r8 => ?_
  rw [← itemsD_app] at r8
  have s68 := (s6.and s7).and s8
  have s08 := ((s03.trans s4).trans s5).trans s68
  have okA : itemsOk 2 de (its ++ [x]) := itemsOk_app ok5 (itemsOk_one (ok6 de))
  have xk : x.kb = 3 := by cases x <;> first | rfl | cases lf
  have xc : x.cnt = 1 := by cases x <;> first | rfl | cases lf
  have xn : x.notes = 1 := by cases x <;> first | rfl | cases lf
  have kA : kbI (its ++ [x]) ≤ 93 := by rw [kbI_app, kbI, kbI, xk]; omega
  have cA : cntI (its ++ [x]) ≤ 19 := by rw [cntI_app, cntI, cntI, xc]; omega
  have nA : 1 ≤ notesI (its ++ [x]) := by rw [notesI_app, notesI, notesI, xn]; omega
  have lA : (its ++ [x]).length ≤ 10 := by rw [List.length_append, l5]; show r4 + 1 ≤ 10; omega
  refine ⟨_, rfl, _, rfl, de, its ++ [x], by omega, okA, r8, by omega, fun H9 v9 f s9 hf bf => ?_⟩
  have bf2 : FB 200 f := bf.mono (by omega)
  refine ⟨_, rfl, ?_⟩
  refine ⟨_, rfl, (by show 1 ≤ sizeLine; decide), fun u1 hu1 => ?_⟩
  have t1 := same_new (o := .tup [v8]) hu1
  refine ⟨_, rfl, (by show 2 ≤ sizeLine; decide), fun u2 hu2 => ⟨(by show 1 ≤ sizeLine; decide), fun u3 hu3 => ⟨(by show 1 ≤ sizeLine; decide), fun u4 hu4 => ?_⟩⟩⟩
  have t2 := same_new (o := .tup [.str "rest", v9]) hu2
  have t3 := same_new (o := .tup [.ref u2]) hu3
  have t4 := same_new (o := .tup [.ref u3]) hu4
  refine ⟨(by show 4 ≤ sizeLine; decide), fun l2 hl2 => ?_⟩
  have t5 := same_new (o := .lst [.int 0, .int 0, .int 1, .int 3]) hl2
  have t14 := ((t1.trans t2).trans t3).trans t4
  have s0b := (s08.and s9).and (t14.trans t5)
  have l2h := ((s08.and s9).and t14).o.ne hl2
  have rsh : Rp (upd (upd (upd (upd (upd H9 u1 (.tup [v8])) u2 (.tup [.str "rest", v9])) u3 (.tup [.ref u2])) u4 (.tup [.ref u3])) l2 (.lst [.int 0, .int 0, .int 1, .int 3])) (.ref u3) (.tuple (itemsD [.rest f])) := by
    rw [itemsD, itemsD]
    refine Rp.mono (t4.trans t5).tk (.tup upd_same (.cons ?_ .nil))
    exact rp_rest (t3.on upd_same) (hf.mono ((t1.trans t2).trans t3).tk)
  have hu4v := t5.on (upd_same (H := upd (upd (upd H9 u1 (.tup [v8])) u2 (.tup [.str "rest", v9])) u3 (.tup [.ref u2])) (a := u4) (o := .tup [.ref u3]))
  have hu1v := (((t2.trans t3).trans t4).trans t5).on (upd_same (H := H9) (a := u1) (o := .tup [v8]))
  have r8b := r8.mono (s9.trans (t14.trans t5)).tk
  have hfb := hf.mono (t14.trans t5).tk
  refine hgen (fun Hb => HS h H Hb (m + 2 + r4 * pN de + 11) ∧ Rp Hb (.ref u3) (.tuple (itemsD [.rest f])) ∧ Hb u4 = some (.tup [.ref u3]) ∧ Hb u1 = some (.tup [v8]) ∧ Rp Hb v8 (.tuple (itemsD (its ++ [x]))) ∧ FAt Hb v9 f ∧ Hb l2 = some (.lst (([0, 0, 1, 3] : List Nat).map natV))) ⟨s0b, rsh, hu4v, hu1v, r8b, hfb, upd_same⟩ ?_
  rintro Hb ⟨sb, rshb, u4b, u1b, r8c, hfc, l2b⟩
  refine ⟨_, rfl, _, _, rfl, h, m + 2 + r4 * pN de + 11, 4, rfl, sb.o, by omega, rfl, by omega, by omega, fun Hc rc sc hrc => ?_⟩
  have l2c := sc.on l2b l2h
  obtain ⟨kr, hkr3, hkr⟩ : ∃ kr : Nat, kr ≤ 3 ∧ ([0, 0, 1, 3] : List Nat)[rc]? = some kr := by
    have hl : ([0, 0, 1, 3] : List Nat).length = 4 := rfl
    have hg : ([0, 0, 1, 3] : List Nat)[rc]? = some _ := List.getElem?_eq_getElem (by rw [hl]; exact hrc)
    refine ⟨_, ?_, hg⟩
    exact (by decide : ∀ x ∈ ([0, 0, 1, 3] : List Nat), x ≤ 3) _ (List.mem_of_getElem? hg)
  refine ⟨l2, _, _, natV kr, rfl, rfl, SqL.of l2c, atI_nat (by rw [List.getElem?_map, hkr]; rfl), ?_⟩
  have okR : VsOk 200 ((its ++ [x]) :: List.replicate kr [.rest f]) := by
    refine ⟨by rw [List.length_cons, List.length_replicate]; omega, fun z hz => ?_⟩
    rcases List.mem_cons.mp hz with rfl | hz
    · exact ⟨by omega, itemsOk_mono (by omega) e5 okA⟩
    · rw [(List.mem_replicate.mp hz).2]
      exact ⟨by show 1 ≤ 100; omega, itemsOk_one (by rw [Item.ok]; exact bf2)⟩
  have fvR : FvOk ((its ++ [x]) :: List.replicate kr [.rest f]) := ⟨its ++ [x], _, rfl, itemsOk_mono (by omega) e5 okA, by omega, by omega, nA⟩
  have r1c : Rp Hc (.ref u1) (.tuple [.tuple (itemsD (its ++ [x]))]) := .tup (sc.t _ _ u1b) (.cons (r8c.mono sc.t) .nil)
  have rshc := rshb.mono sc.t
  have mid : ∀ {Hd : Hp} {vd : V}, Same Hc Hd → Rp Hd vd (.tuple (List.replicate kr (.tuple (itemsD [.rest f])))) → ∀ {Q' : VK}, (∀ He ve, Same Hd He → Rp He ve (.tuple (((its ++ [x]) :: List.replicate kr [.rest f]).map fun its => .tuple (itemsD its))) → Q' ve He) → rCatA K (.ref u1) vd Hd Q' := by
    intro Hd vd sd rd Q' kq
    refine catA_rp (r1c.mono sd.tk) rd (by rw [List.length_replicate, sizeLine_eq]; show 1 + kr ≤ _; omega) fun He ve se re => kq He ve se ?_
    rw [List.map_cons, List.map_replicate]
    exact re
  have last : ∀ {Hd : Hp}, Same Hc Hd → ∀ He ve, Same Hd He → Rp He ve (.tuple (((its ++ [x]) :: List.replicate kr [.rest f]).map fun its => .tuple (itemsD its))) → ∀ p, He p = none → Q (.ref p) (upd He p (.tup [.str "bar", v9, ve])) := by
    intro Hd sd He ve se re p hp
    have sf := (sd.trans se).trans (same_new (o := .tup [.str "bar", v9, ve]) hp)
    exact kk _ _ f _ (((sb.trans sc).and sf).mono (by omega)) (rp_bar upd_same ((hfc.mono sc.t).mono sf.tk) (re.mono (tk_new hp))) bf2 okR fvR
  refine ⟨u4, (kr : Nat), _, rfl, rfl, SqT.of (sc.t _ _ u4b), List.cons_ne_nil _ _, by omega, by omega, (by show 1 ≤ 1000; decide), fun z p hp => ?_, fun z => ?_, fun z p hp => ?_⟩
  · have z' : kr = 0 := by omega
    have sn := same_new (o := .tup []) hp
    refine mid sn (by rw [z']; exact .tup upd_same .nil) fun He ve se re => ⟨(by show 3 ≤ sizeLine; decide), fun p hp => last sn He ve se re p hp⟩
  · have z' : kr = 1 := by omega
    refine mid (same_refl Hc) (by rw [z']; exact .tup (sc.t _ _ u4b) (.cons rshc .nil)) fun He ve se re => ⟨(by show 3 ≤ sizeLine; decide), fun p hp => last (same_refl Hc) He ve se re p hp⟩
  · have sn := same_new (o := .tup (List.replicate ((kr : Nat) : Int).toNat [V.ref u3]).flatten) hp
    refine mid sn ?_ fun He ve se re => ⟨(by show 3 ≤ sizeLine; decide), fun p hp => last sn He ve se re p hp⟩
    refine .tup upd_same ?_
    rw [show ((kr : Nat) : Int).toNat = kr from rfl]
    exact rpa_rep (rshc.mono sn.tk) kr
end
end MC
set_option Elab.async false
set_option linter.all false
set_option maxRecDepth 100000
set_option maxHeartbeats 4000000
namespace MC
open PySem PySem.Spec PyProof.Rows L2
/-! ### things: more nest, a longer book, weights -/
mutual
theorem TOk.up {book : Str → Option (List Thing)} {Sg : List Str} : ∀ {n W : Nat} {t : Thing}, TOk book Sg n t W → ∀ {m : Nat}, n ≤ m → TOk book Sg m t W
  | _, _, _, .bar h1 h2 h3, m, _ => .bar h1 h2 h3
  | _, _, _, .sign, m, _ => .sign
  | _, _, _, .turn h1 h2 h3, m, _ => .turn h1 h2 h3
  | _, _, _, .use h1 h2 h3 h4 h5, m + 1, l => .use h1 h2 (ThsOk.up h3 (Nat.le_of_succ_le_succ l)) h4 h5
  | _, _, _, .rep h1 h2 h3 h4 h5 h6 h7, m + 1, l => .rep h1 h2 (ThsOk.up h3 (Nat.le_of_succ_le_succ l)) h4 (EndsOk.up h5 (Nat.le_of_succ_le_succ l)) h6 h7
theorem ThsOk.up {book : Str → Option (List Thing)} {Sg : List Str} : ∀ {n W : Nat} {t : List Thing}, ThsOk book Sg n t W → ∀ {m : Nat}, n ≤ m → ThsOk book Sg m t W
  | _, _, _, .nil, m, _ => .nil
  | _, _, _, .cons h1 h2, m, l => .cons (TOk.up h1 l) (ThsOk.up h2 l)
theorem EndsOk.up {book : Str → Option (List Thing)} {Sg : List Str} : ∀ {n W : Nat} {t : List (List Nat × List Thing)}, EndsOk book Sg n t W → ∀ {m : Nat}, n ≤ m → EndsOk book Sg m t W
  | _, _, _, .nil, m, _ => .nil
  | _, _, _, .cons h1 h2 h3 h4 h5, m, l => .cons h1 h2 (ThsOk.up h3 l) h4 (EndsOk.up h5 l)
end
mutual
theorem TOk.book {b b' : Str → Option (List Thing)} (hb : ∀ x ths, b x = some ths → b' x = some ths) {Sg : List Str} : ∀ {n W : Nat} {t : Thing}, TOk b Sg n t W → TOk b' Sg n t W
  | _, _, _, .bar h1 h2 h3 => .bar h1 h2 h3
  | _, _, _, .sign => .sign
  | _, _, _, .turn h1 h2 h3 => .turn h1 h2 h3
  | _, _, _, .use h1 h2 h3 h4 h5 => .use h1 (hb _ _ h2) (ThsOk.book hb h3) h4 h5
  | _, _, _, .rep h1 h2 h3 h4 h5 h6 h7 => .rep h1 h2 (ThsOk.book hb h3) h4 (EndsOk.book hb h5) h6 h7
theorem ThsOk.book {b b' : Str → Option (List Thing)} (hb : ∀ x ths, b x = some ths → b' x = some ths) {Sg : List Str} : ∀ {n W : Nat} {t : List Thing}, ThsOk b Sg n t W → ThsOk b' Sg n t W
  | _, _, _, .nil => .nil
  | _, _, _, .cons h1 h2 => .cons (TOk.book hb h1) (ThsOk.book hb h2)
theorem EndsOk.book {b b' : Str → Option (List Thing)} (hb : ∀ x ths, b x = some ths → b' x = some ths) {Sg : List Str} : ∀ {n W : Nat} {t : List (List Nat × List Thing)}, EndsOk b Sg n t W → EndsOk b' Sg n t W
  | _, _, _, .nil => .nil
  | _, _, _, .cons h1 h2 h3 h4 h5 => .cons h1 h2 (ThsOk.book hb h3) h4 (EndsOk.book hb h5)
end
mutual
/-- the nest is at most the weight -/
theorem TOk.low {b : Str → Option (List Thing)} {Sg : List Str} : ∀ {n W : Nat} {t : Thing}, TOk b Sg n t W → TOk b Sg W t W
  | _, _, _, .bar h1 h2 h3 => .bar h1 h2 h3
  | _, _, _, .sign => .sign
  | _, _, _, .turn h1 h2 h3 => .turn h1 h2 h3
  | _, _, _, .use (W := W) h1 h2 h3 h4 h5 => by
    rw [Nat.add_comm 1 W]
    have h := TOk.use (up := by assumption) h1 h2 (ThsOk.low h3) h4 h5 (Sg := Sg)
    rw [Nat.add_comm 1 W] at h
    exact h
  | _, _, _, .rep (W := W) (W' := W') h1 h2 h3 h4 h5 h6 h7 => by
    have e : 1 + W + W' = (W + W') + 1 := by omega
    have h := TOk.rep h1 h2 (ThsOk.up (ThsOk.low h3) (Nat.le_add_right W W')) h4 (EndsOk.up (EndsOk.low h5) (Nat.le_add_left W' W)) h6 h7
    rw [e] at h ⊢
    exact h
theorem ThsOk.low {b : Str → Option (List Thing)} {Sg : List Str} : ∀ {n W : Nat} {t : List Thing}, ThsOk b Sg n t W → ThsOk b Sg W t W
  | _, _, _, .nil => .nil
  | _, _, _, .cons (W := W) (W' := W') h1 h2 => .cons (TOk.up (TOk.low h1) (Nat.le_add_right W W')) (ThsOk.up (ThsOk.low h2) (Nat.le_add_left W' W))
theorem EndsOk.low {b : Str → Option (List Thing)} {Sg : List Str} : ∀ {n W : Nat} {t : List (List Nat × List Thing)}, EndsOk b Sg n t W → EndsOk b Sg W t W
  | _, _, _, .nil => .nil
  | _, _, _, .cons (W := W) (W' := W') h1 h2 h3 h4 h5 => .cons h1 h2 (ThsOk.up (ThsOk.low h3) (by omega)) h4 (EndsOk.up (EndsOk.low h5) (by omega))
end
mutual
/-- the weight is told by the things -/
theorem TOk.uniq {b : Str → Option (List Thing)} {Sg Sg' : List Str} : ∀ {n m W W' : Nat} {t : Thing}, TOk b Sg n t W → TOk b Sg' m t W' → W = W'
  | _, _, _, _, _, .bar .., h => by cases h; rfl
  | _, _, _, _, _, .sign, h => by cases h; rfl
  | _, _, _, _, _, .turn .., h => by cases h; rfl
  | _, _, _, _, _, .use h1 h2 h3 h4 h5, h => by
    cases h with
    | use g1 g2 g3 g4 g5 =>
      rw [h2] at g2
      cases g2
      rw [ThsOk.uniq h3 g3]
  | _, _, _, _, _, .rep h1 h2 h3 h4 h5 h6 h7, h => by
    cases h with
    | rep g1 g2 g3 g4 g5 g6 g7 => rw [ThsOk.uniq h3 g3, EndsOk.uniq h5 g5]
theorem ThsOk.uniq {b : Str → Option (List Thing)} {Sg Sg' : List Str} : ∀ {n m W W' : Nat} {t : List Thing}, ThsOk b Sg n t W → ThsOk b Sg' m t W' → W = W'
  | _, _, _, _, _, .nil, h => by cases h; rfl
  | _, _, _, _, _, .cons h1 h2, h => by
    cases h with
    | cons g1 g2 => rw [TOk.uniq h1 g1, ThsOk.uniq h2 g2]
theorem EndsOk.uniq {b : Str → Option (List Thing)} {Sg Sg' : List Str} : ∀ {n m W W' : Nat} {t : List (List Nat × List Thing)}, EndsOk b Sg n t W → EndsOk b Sg' m t W' → W = W'
  | _, _, _, _, _, .nil, h => by cases h; rfl
  | _, _, _, _, _, .cons h1 h2 h3 h4 h5, h => by
    cases h with
    | cons g1 g2 g3 g4 g5 => rw [ThsOk.uniq h3 g3, EndsOk.uniq h5 g5]
end
theorem ThsOk.app {b : Str → Option (List Thing)} {Sg : List Str} {n : Nat} : ∀ {W W' : Nat} {l r : List Thing}, ThsOk b Sg n l W → ThsOk b Sg n r W' → ThsOk b Sg n (l ++ r) (W + W')
  | _, _, _, _, .nil, h => by rw [Nat.zero_add]; exact h
  | _, _, _, _, .cons h1 h2, h => by
    rw [Nat.add_assoc]
    exact .cons h1 (ThsOk.app h2 h)
theorem ThsOk.one {b : Str → Option (List Thing)} {Sg : List Str} {n W : Nat} {t : Thing} (h : TOk b Sg n t W) : ThsOk b Sg n [t] W := .cons h .nil
theorem EndsOk.app {b : Str → Option (List Thing)} {Sg : List Str} {n : Nat} : ∀ {W W' : Nat} {l r : List (List Nat × List Thing)}, EndsOk b Sg n l W → EndsOk b Sg n r W' → EndsOk b Sg n (l ++ r) (W + W')
  | _, _, _, _, .nil, h => by rw [Nat.zero_add]; exact h
  | _, _, _, _, .cons (W := W1) (W' := W2) h1 h2 h3 h4 h5, h => by
    rw [Nat.add_assoc]
    exact .cons h1 h2 h3 h4 (EndsOk.app h5 h)
theorem Lays.right {x : Str} {r : List Thing} (h : Lays x r) : ∀ l : List Thing, Lays x (l ++ r)
  | [] => h
  | t :: l => .there (Lays.right h l)
theorem Lays.left {x : Str} {l : List Thing} (h : Lays x l) (r : List Thing) : Lays x (l ++ r) := by
  induction h with
  | here => exact .here
  | there _ ih => exact .there ih
  | rep h1 _ => exact .rep h1
  | ends h1 h2 _ => exact .ends h1 h2
end MC
set_option Elab.async false
set_option linter.all false
set_option maxRecDepth 100000
set_option maxHeartbeats 4000000
namespace MC
open PySem PySem.Spec PyProof.Rows L2
/-! ### the stock -/
def stK (pl sl ol : Addr) (left : Int) : List (Key × V) := [(.inr "phrases", .ref pl), (.inr "signs", .ref sl), (.inr "open", .ref ol), (.inr "left", .int left)]
section
variable {pl sl ol : Addr} {left : Int}
theorem stK_ph : valV (stK pl sl ol left) (.inr "phrases") = some (.ref pl) := valV_pos rfl
theorem kne {a b : Str} (h : a ≠ b) : ¬ (Sum.inr a : Key) = .inr b := fun z => h (Sum.inr.inj z)
theorem stK_sg : valV (stK pl sl ol left) (.inr "signs") = some (.ref sl) := (valV_neg (kne (by decide +kernel))).trans (valV_pos rfl)
theorem stK_op : valV (stK pl sl ol left) (.inr "open") = some (.ref ol) := (valV_neg (kne (by decide +kernel))).trans ((valV_neg (kne (by decide +kernel))).trans (valV_pos rfl))
theorem stK_le : valV (stK pl sl ol left) (.inr "left") = some (.int left) := (valV_neg (kne (by decide +kernel))).trans ((valV_neg (kne (by decide +kernel))).trans ((valV_neg (kne (by decide +kernel))).trans (valV_pos rfl)))
theorem stK_put (l : Int) : putK (stK pl sl ol left) (.inr "left") (.int l) = stK pl sl ol l := by
  unfold putK
  rw [if_pos (by rw [valV_any, stK_le]; rfl)]
  show [(if (Sum.inr "phrases" : Key) = .inr "left" then ((Sum.inr "phrases" : Key), V.int l) else _), (if (Sum.inr "signs" : Key) = .inr "left" then ((Sum.inr "signs" : Key), V.int l) else _), (if (Sum.inr "open" : Key) = .inr "left" then ((Sum.inr "open" : Key), V.int l) else _), (if (Sum.inr "left" : Key) = .inr "left" then ((Sum.inr "left" : Key), V.int l) else _)] = _
  rw [if_neg (kne (by decide +kernel)), if_neg (kne (by decide +kernel)), if_neg (kne (by decide +kernel)), if_pos rfl]
  rfl
end
theorem dgetK {H : Hp} {a : Addr} {kvs : List (Key × V)} {x : Str} {v : V} (h : H a = some (.dK kvs)) (hv : valV kvs (.inr x) = some v) : DGet H a (.str x) (some v) := by
  have g := DGet.k (k := .inr x) h
  rw [hv] at g
  exact g
def MenuV (H : Hp) (v : V) (e : Str × Nat) : Prop := ∃ q, v = .ref q ∧ H q = some (.tup [.str e.1, .int (e.2 : Nat)])
structure Stk (H : Hp) (h sd pl sl ol : Addr) (menu : List (Str × Nat)) (Sg : List Str) : Prop where
  pm : ∃ mvs, H pl = some (.lst mvs) ∧ All2 (MenuV H) mvs menu
  sg : H sl = some (.lst (Sg.map V.str))
  ph : pl ≠ h
  po : pl ≠ ol
  sh : sl ≠ h
  so : sl ≠ ol
  oh : ol ≠ h
structure Sto (H : Hp) (h sd pl sl ol : Addr) (m : Nat) (left : Int) (op : List Str) : Prop where
  o : HandOk H h m
  d : H sd = some (.dK (stK pl sl ol left))
  p : H ol = some (.lst (op.map V.str))
structure RS (h sd pl sl ol : Addr) (H H' : Hp) (m : Nat) (left : Int) (op : List Str) : Prop where
  k : Kp [h, sd, ol] H H'
  t : Tk H H'
  s : Sto H' h sd pl sl ol m left op
section
variable {h sd pl sl ol : Addr} {H H1 H2 : Hp} {m n : Nat} {left l2 : Int} {op op2 : List Str} {menu : List (Str × Nat)} {Sg : List Str}
theorem Sto.sdh (o : Sto H h sd pl sl ol m left op) : sd ≠ h := fun e => by
  obtain ⟨_, _, _, q, _⟩ := o.o
  have := o.d
  rw [e, q] at this
  cases this
theorem Sto.sdo (o : Sto H h sd pl sl ol m left op) : sd ≠ ol := fun e => by
  have q := o.p
  have := o.d
  rw [e, q] at this
  cases this
theorem Sto.mono (o : Sto H h sd pl sl ol m left op) (l : m ≤ n) : Sto H h sd pl sl ol n left op := ⟨o.o.mono l, o.d, o.p⟩
theorem Sto.hs (o : Sto H h sd pl sl ol m left op) (oh : ol ≠ h) (s : HS h H H1 n) : Sto H1 h sd pl sl ol n left op := ⟨s.o, s.on o.d o.sdh, s.on o.p oh⟩
theorem RS.refl (o : Sto H h sd pl sl ol m left op) : RS h sd pl sl ol H H m left op := ⟨Kp.refl _ _, Tk.refl _, o⟩
theorem RS.trans (a : RS h sd pl sl ol H H1 m left op) (b : RS h sd pl sl ol H1 H2 n l2 op2) : RS h sd pl sl ol H H2 n l2 op2 := ⟨a.k.trans b.k, a.t.trans b.t, b.s⟩
theorem RS.mono (a : RS h sd pl sl ol H H1 m left op) (l : m ≤ n) : RS h sd pl sl ol H H1 n left op := ⟨a.k, a.t, a.s.mono l⟩
theorem RS.hs (a : RS h sd pl sl ol H H1 m left op) (oh : ol ≠ h) (s : HS h H1 H2 n) : RS h sd pl sl ol H H2 n left op :=
  ⟨a.k.trans (s.k.sub fun b hb => by rw [List.mem_singleton.mp hb]; simp), a.t.trans s.t, a.s.hs oh s⟩
theorem RS.and (a : RS h sd pl sl ol H H1 m left op) (s : Same H1 H2) : RS h sd pl sl ol H H2 m left op := by
  obtain ⟨d, c, t, h1, h2⟩ := a.s.o
  exact ⟨a.k.trans (Kp.of s), a.t.trans s.tk, ⟨⟨d, c, t, s.on h1, h2⟩, s.on a.s.d, s.on a.s.p⟩⟩
theorem RS.on (a : RS h sd pl sl ol H H1 m left op) {b : Addr} {o : HO} (q : H b = some o) (n1 : b ≠ h) (n2 : b ≠ sd) (n3 : b ≠ ol) : H1 b = some o := a.k b o q fun z => by
  rcases List.mem_cons.mp z with z | z
  · exact n1 z
  rcases List.mem_cons.mp z with z | z
  · exact n2 z
  · exact n3 (List.mem_singleton.mp z)
/-- an own list is changed -/
theorem RS.up (a : RS h sd pl sl ol H H1 m left op) {p : Addr} {xs : List V} {o : HO} (hp : H p = none) (hx : H1 p = some (.lst xs)) (n1 : p ≠ h) (n2 : p ≠ sd) (n3 : p ≠ ol) : RS h sd pl sl ol H (upd H1 p o) m left op := by
  refine ⟨fun b u q z => ?_, a.t.trans (tk_lst hx), ?_⟩
  · rw [upd_ne (ne_of_none q hp)]
    exact a.k b u q z
  · obtain ⟨d, c, t, h1, h2⟩ := a.s.o
    exact ⟨⟨d, c, t, by rw [upd_ne (Ne.symm n1)]; exact h1, h2⟩, by rw [upd_ne (Ne.symm n2)]; exact a.s.d, by rw [upd_ne (Ne.symm n3)]; exact a.s.p⟩
theorem Sto.new (o : Sto H h sd pl sl ol m left op) {p : Addr} (hp : H p = none) : p ≠ h ∧ p ≠ sd ∧ p ≠ ol := by
  refine ⟨o.o.ne hp, fun e => ?_, fun e => ?_⟩
  · rw [e, o.d] at hp; cases hp
  · rw [e, o.p] at hp; cases hp
theorem RS.none (a : RS h sd pl sl ol H H1 m left op) {p : Addr} (hp : H1 p = none) : H p = none := by
  obtain ⟨n1, n2, n3⟩ := a.s.new hp
  cases e : H p with
  | none => rfl
  | some o' => rw [a.on e n1 n2 n3] at hp; cases hp
/-- what is left is changed -/
theorem RS.setLeft (a : RS h sd pl sl ol H H1 m left op) (l : Int) : RS h sd pl sl ol H (upd H1 sd (.dK (stK pl sl ol l))) m l op := by
  have e1 := a.s.sdh
  have e2 := a.s.sdo
  refine ⟨a.k.trans (kp_upd.sub fun b hb => by rw [List.mem_singleton.mp hb]; simp), a.t.trans (tk_dict a.s.d), ?_⟩
  obtain ⟨d, c, t, h1, h2⟩ := a.s.o
  exact ⟨⟨d, c, t, by rw [upd_ne (Ne.symm e1)]; exact h1, h2⟩, upd_same, by rw [upd_ne (Ne.symm e2)]; exact a.s.p⟩
/-- one sign less is open -/
theorem RS.pop (a : RS h sd pl sl ol H H1 m left op) (oh : ol ≠ h) (op' : List Str) : RS h sd pl sl ol H (upd H1 ol (.lst (op'.map V.str))) m left op' := by
  have e2 := a.s.sdo
  refine ⟨a.k.trans (kp_upd.sub fun b hb => by rw [List.mem_singleton.mp hb]; simp), a.t.trans (tk_lst a.s.p), ?_⟩
  obtain ⟨d, c, t, h1, h2⟩ := a.s.o
  exact ⟨⟨d, c, t, by rw [upd_ne (Ne.symm oh)]; exact h1, h2⟩, by rw [upd_ne e2]; exact a.s.d, upd_same⟩
theorem Stk.rs (S : Stk H h sd pl sl ol menu Sg) (o : Sto H h sd pl sl ol m left op) (r : RS h sd pl sl ol H H1 n l2 op2) : Stk H1 h sd pl sl ol menu Sg := by
  obtain ⟨⟨mvs, p1, p2⟩, sg, ph, po, sh, so, oh⟩ := S
  have pd : pl ≠ sd := fun e => by have := o.d; rw [← e, p1] at this; cases this
  have sd' : sl ≠ sd := fun e => by have := o.d; rw [← e, sg] at this; cases this
  exact ⟨⟨mvs, r.on p1 ph pd po, p2.mono fun v e ⟨q, e1, e2⟩ => ⟨q, e1, r.t _ _ e2⟩⟩, r.on sg sh sd' so, ph, po, sh, so, oh⟩
end
def MenuOk (book : Str → Option (List Thing)) (menu : List (Str × Nat)) (M : Nat) (left : Int) : Prop :=
  ∀ e ∈ menu, e.1 ≠ "" ∧ ∃ ths Sg', book e.1 = some ths ∧ ths.length ≤ 100 ∧ (∀ y ∈ Sg', Lays y ths) ∧ (1 + (e.2 : Int) ≤ left → ThsOk book Sg' M ths e.2)
theorem MenuOk.mono {book : Str → Option (List Thing)} {menu : List (Str × Nat)} {M : Nat} {l l' : Int} (h : MenuOk book menu M l) (q : l' ≤ l) : MenuOk book menu M l' := fun e he => by
  obtain ⟨h1, ths, Sg', h2, h3, h4, h5⟩ := h e he
  exact ⟨h1, ths, Sg', h2, h3, h4, fun z => h5 (Int.le_trans z q)⟩
/-- how often is drawn -/
def rC : Nat → Nat
  | 0 => 0
  | d + 1 => 11 + (1 + 3 * (1102 + rC d)) + 3 * (1 + 2 * (1102 + rC d))
def uC (d most : Nat) : Nat := 1 + most * (1102 + rC d)
/-- what things and repeat start from -/
structure Pre (book : Str → Option (List Thing)) (H : Hp) (h sd pl sl ol : Addr) (menu : List (Str × Nat)) (Sg : List Str) (M m : Nat) (left : Int) (op : List Str) : Prop where
  k : Stk H h sd pl sl ol menu Sg
  s : Sto H h sd pl sl ol m left op
  m : MenuOk book menu M left
  ml : menu.length ≤ 20
  ok : ∀ y ∈ op, PyData.strOk y = true
  sl : Sg.length ≤ 20
  ol : op.length ≤ 20
theorem Pre.go {book : Str → Option (List Thing)} {H H1 : Hp} {h sd pl sl ol : Addr} {menu : List (Str × Nat)} {Sg : List Str} {M m n : Nat} {left l2 : Int} {op op2 : List Str} (p : Pre book H h sd pl sl ol menu Sg M m left op) (r : RS h sd pl sl ol H H1 n l2 op2) (hl : l2 ≤ left)
    (ho : ∀ y ∈ op2, y ∈ op) (hol : op2.length ≤ op.length) : Pre book H1 h sd pl sl ol menu Sg M n l2 op2 :=
  ⟨p.k.rs p.s r, r.s, p.m.mono hl, p.ml, fun y hy => p.ok y (ho y hy), p.sl, Nat.le_trans hol p.ol⟩
def spThings2 (book : Str → Option (List Thing)) (n : Nat) : Sp := Sp4 fun a b c e H Q _ => ∃ (h sd pl sl ol : Addr) (menu : List (Str × Nat)) (Sg : List Str) (M m : Nat) (left : Int) (op : List Str) (d most : Nat), a = .ref h ∧ b = .ref sd ∧ c = .int (d : Nat) ∧ e = .int (most : Nat) ∧
  Pre book H h sd pl sl ol menu Sg M m left op ∧ d ≤ n ∧ most ≤ 20 ∧ m + uC d most ≤ 1000000000000000 ∧
  ∀ H' v ths W l' op', RS h sd pl sl ol H H' (m + uC d most) l' op' → Rp H' v (.tuple (thingsD ths)) → ThsOk book Sg (M + 1 + d) ths W → ths.length ≤ most → l' ≤ left → W + 13 * l'.toNat ≤ most + 13 * left.toNat → (∀ y ∈ op', y ∈ op) → op'.length ≤ op.length → (∀ y ∈ op, y ∈ op' ∨ Lays y ths) → Q v H'
def spRepeat2 (book : Str → Option (List Thing)) (n : Nat) : Sp := Sp3 fun a b c H Q _ => ∃ (h sd pl sl ol : Addr) (menu : List (Str × Nat)) (Sg : List Str) (M m : Nat) (left : Int) (op : List Str) (d : Nat), a = .ref h ∧ b = .ref sd ∧ c = .int (d : Nat) ∧
  Pre book H h sd pl sl ol menu Sg M m left op ∧ d ≤ n ∧ 1 ≤ d ∧ m + rC d ≤ 1000000000000000 ∧
  ∀ H' v t W l' op', RS h sd pl sl ol H H' (m + rC d) l' op' → Rp H' v (Thing.d t) → TOk book Sg (M + 1 + d) t W → l' ≤ left → W + 13 * l'.toNat ≤ 13 + 13 * left.toNat → (∀ y ∈ op', y ∈ op) → op'.length ≤ op.length → (∀ y ∈ op, y ∈ op' ∨ Lays y [t]) → Q v H'
theorem thingsD_app (xs ys : List Thing) : thingsD (xs ++ ys) = thingsD xs ++ thingsD ys := by rw [thingsD_map, thingsD_map, thingsD_map, List.map_append]
theorem eqv_strs_nil (ns : List Str) : PyData.eqv (.list (ns.map PyData.str)) (.list []) = ns.isEmpty := by
  cases ns with
  | nil => rfl
  | cons n r => simp [PyData.eqv, PyData.eqvAll]
theorem dpa_strs {K : PySem.W.Frag} {H : Hp} : ∀ ns : List Str, DpAll K H (ns.map V.str) (ns.map PyData.str)
  | [] => .nil
  | n :: r => .cons (.str _) (dpa_strs r)
def goalV : Option Str → V
  | none => .non
  | some x => .str x
theorem rp_goal {H : Hp} (g : Option Str) : Rp H (goalV g) (goalD g) := by
  cases g with
  | none => exact .non
  | some x => exact .str x
theorem rpa_goals {H : Hp} : ∀ gs : List (Option Str), RpA H (gs.map goalV) (gs.map goalD)
  | [] => .nil
  | g :: r => .cons (rp_goal g) (rpa_goals r)
theorem andE {c U A B : Prop} [Decidable c] (hB : B) (hU : c → B → U) : if c then U else (if false = true then A else B) := by
  by_cases h : c
  · rw [if_pos h]; exact hU h hB
  · rw [if_neg h, if_neg Bool.false_ne_true]; exact hB
section
variable {P : Program} {w : World} {K : PySem.W.Frag} {mg : Str → Option Value} {base : Heap} {book : Str → Option (List Thing)}
/- slots of _law_things: 0 _law_hand_here*, 1 _law_stock, 2 _law_deep, 3 _law_most, 4 _law_things_here, 5 _law_k, 6 _law_way, 7 _law_at, 8 _law_name, 9 _law_size, 10 _law_some*, 11 _law_many, 12 _law_goals, 13 _law_j -/
theorem sc_law_things : FnScope ["_law_hand_here", "_law_stock", "_law_deep", "_law_most", "_law_things_here", "_law_k", "_law_way", "_law_at", "_law_name", "_law_size", "_law_some", "_law_many", "_law_goals", "_law_j"] ["_law_hand_here", "_law_stock", "_law_deep", "_law_most"] (defScope s_law_things) := ⟨rfl, rfl, rfl, by decide +kernel, rfl, by decide +kernel, by decide +kernel⟩
theorem things_of (T : Tx w K mg) {n : Nat} (hR : Cal P w K mg base CX0 (2 * n + 12) "_law_repeat" ["_law_hand_here", "_law_stock", "_law_deep"] (spRepeat2 book n)) :
    Cal P w K mg base CX0 (2 * n + 13) "_law_things" ["_law_hand_here", "_law_stock", "_law_deep", "_law_most"] (spThings2 book n) := by
  refine Cal.of T.f_law_things T.g_law_things sc_law_things (fun _ _ _ _ _ _ us hl => match us, hl with | [_, _, _, _], _ => rfl) (fun vs H Q E h => by obtain ⟨x0, x1, x2, x3, rfl, _⟩ := h; rfl) (fun f cdv A outer s H vs Q E hr h => ?_)
  obtain ⟨v0, v1, v2, v3, rfl, h⟩ := h
  refine ⟨_, (pss_cons (ps_set (i := 4) sc_law_things.nd rfl (Or.inl rfl) (pe_lst pa_nil))
    (pss_cons (ps_for PassesOwn.never rfl (pi_range1 (by rfl) T.b_range (pa_cons (pc (cal_law_take T) hr (pa_cons (pv 0) (pa_cons (pe_op op_add (pv 3) pe_int) pa_nil))) pa_nil)) (pg_name (i := 5) sc_law_things.nd rfl (Or.inl rfl)) (pss_cons (ps_set (i := 6) sc_law_things.nd rfl (Or.inl rfl) (pc (cal_law_take T) hr (pa_cons (pv 0) (pa_cons pe_int pa_nil))))
      (pss_cons (ps_set (i := 7) sc_law_things.nd rfl (Or.inl rfl) (pe_op op_mul (pc (cal_law_take T) hr (pa_cons (pv 0) (pa_cons (pe_op op_add pe_int (pe_callB call_len_seq (by rfl) T.b_len PySem.boot_len (pa_cons (pe_dget (hu_of hr) (pv 1) pe_str (fun _ _ => rfl)) pa_nil))) pa_nil))) (pe_callTy call_int1 (by rfl) T.b_int (by decide +kernel) (pa_cons (pe_cmpR op_gt (pv 6) pe_int (nomark _)) pa_nil))))
      (pss_cons (ps_asg (pe_ix ix_list (pe_op op_cat (pe_lst (pa_cons (pe_tup (pa_cons pe_str (pa_cons pe_int pa_nil))) pa_nil)) (pe_dget (hu_of hr) (pv 1) pe_str (fun _ _ => rfl))) (pv 7) (fun _ _ => rfl)) (pg_tup (by rfl) (pgs_cons (pg_name (i := 8) sc_law_things.nd rfl (Or.inl rfl)) (pgs_cons (pg_name (i := 9) sc_law_things.nd rfl (Or.inl rfl)) pgs_nil))))
      (pss_cons (ps_daug (hu_of hr) (pv 1) pe_str (pe_op op_add pe_int (pv 9)) in_sub (fun _ _ _ => rfl))
      (pss_one (ps_if (PW.pt (pw_and (pt_cmpR op_ne (pv 8) pe_str (nomark _)) (pw_and1 (pt_cmpR op_ge (pe_dget (hu_of hr) (pv 1) pe_str (fun _ _ => rfl)) pe_int (nomark _))))) (pss_one (ps_expr (pe_bm PySem.F.plainAttrs_list PySem.F.slot_list_append PySem.F.type_list_append mt_append (pv 4) (pa_cons (pe_tup (pa_cons pe_str (pa_cons (pv 8) (pa_cons (pe_op op_sub (pc (cal_law_take T) hr (pa_cons (pv 0) (pa_cons pe_int pa_nil))) pe_int) (pa_cons (pc (cal_law_length T) hr (pa_cons (pv 0) pa_nil)) pa_nil))))) pa_nil)))) (pss_one (ps_if (PW.pt (pw_and (pt_cmpR op_lt (pv 6) pe_int (nomark _)) (pw_and (pt_cmpR op_gt (pv 2) pe_int (nomark _)) (pw_and1 (pt_cmpR op_gt (pe_dget (hu_of hr) (pv 1) pe_str (fun _ _ => rfl)) pe_int (nomark _)))))) (pss_one (ps_expr (pe_bm PySem.F.plainAttrs_list PySem.F.slot_list_append PySem.F.type_list_append mt_append (pv 4) (pa_cons (pc (hR) hr (pa_cons (pv 0) (pa_cons (pv 1) (pa_cons (pv 2) pa_nil)))) pa_nil)))) (pss_one (ps_if (pt_cmpR op_eq (pv 6) pe_int (nomark _)) (pss_cons (ps_set (i := 10) sc_law_things.nd rfl (Or.inr rfl) (pe_op op_cat (pe_lst (pa_cons pe_non pa_nil)) (pe_dget (hu_of hr) (pv 1) pe_str (fun _ _ => rfl))))
            (pss_cons (ps_set (i := 11) sc_law_things.nd rfl (Or.inl rfl) (pe_op op_add pe_int (pc (cal_law_take T) hr (pa_cons (pv 0) (pa_cons (pe_ix ix_list (pe_lst (pa_cons pe_int (pa_cons pe_int pa_nil))) (pe_callTy call_int1 (by rfl) T.b_int (by decide +kernel) (pa_cons (pe_cmpR op_eq (pc (cal_law_take T) hr (pa_cons (pv 0) (pa_cons pe_int pa_nil))) pe_int (nomark _)) pa_nil)) (fun _ _ => rfl)) pa_nil)))))
            (pss_cons (ps_setLc (i := 12) (own := [("_law_j", 13)]) (by rfl) sc_law_things.nd rfl rfl (sw_true rfl rfl rfl (by decide +kernel)) (pi_range1 (by rfl) T.b_range (pa_cons (pv 11) pa_nil)) (blkOk_by (own := [("_law_j", 13)]) (N := ["_law_hand_here", "_law_stock", "_law_deep", "_law_most", "_law_things_here", "_law_k", "_law_way", "_law_at", "_law_name", "_law_size", "_law_some", "_law_many", "_law_goals", "_law_j"]) (sc := defScope s_law_things) (by decide +kernel)) (fun _ _ _ _ _ => (pg_name (i := 13) sc_law_things.nd rfl (Or.inl rfl))) (fun _ _ _ _ _ => pts_nil) (fun _ _ _ _ _ => (pe_ix (ix_listK K) (pv 10) (pc (cal_law_take T) hr (pa_cons (pv 0) (pa_cons (pe_callB (call_lenK K) (by rfl) T.b_len PySem.boot_len (pa_cons (pv 10) pa_nil)) pa_nil))) (fun _ _ => rfl))))
            (pss_one (ps_expr (pe_bm PySem.F.plainAttrs_list PySem.F.slot_list_append PySem.F.type_list_append mt_append (pv 4) (pa_cons (pe_tup (pa_cons pe_str (pa_cons (pe_callTy call_tuple_of (by rfl) T.b_tuple (by decide +kernel) (pa_cons (pv 12) pa_nil)) pa_nil))) pa_nil))))))) (pss_one (ps_if (PW.pt (pw_and (pt_cmpR op_eq (pv 6) pe_int (nomark _)) (pw_and1 (pt_cmpR (op_neD hr.units) (pe_dget (hu_of hr) (pv 1) pe_str (fun _ _ => rfl)) (pe_lst pa_nil) (nomark _))))) (pss_one (ps_expr (pe_bm PySem.F.plainAttrs_list PySem.F.slot_list_append PySem.F.type_list_append mt_append (pv 4) (pa_cons (pe_tup (pa_cons pe_str (pa_cons (pe_bm0 PySem.F.plainAttrs_list PySem.F.slot_list_pop PySem.F.type_list_pop mt_pop (pe_dget (hu_of hr) (pv 1) pe_str (fun _ _ => rfl))) pa_nil))) pa_nil)))) (pss_one (ps_if (pt_cmpR op_gt (pe_dget (hu_of hr) (pv 1) pe_str (fun _ _ => rfl)) pe_int (nomark _)) (pss_one (ps_expr (pe_bm PySem.F.plainAttrs_list PySem.F.slot_list_append PySem.F.type_list_append mt_append (pv 4) (pa_cons (pc (cal_law_bar T) hr (pa_cons (pv 0) pa_nil)) pa_nil)))) pss_nil)))))))))))))))
    (pss_one (ps_ret (pe_callTy call_tuple_of (by rfl) T.b_tuple (by decide +kernel) (pa_cons (pv 4) pa_nil)))))), ?_⟩
  obtain ⟨h, sd, pl, sl, ol, menu, Sg, M, m, left, op, d, most, rfl, rfl, rfl, rfl, pre, hd, hmost, hn, kk⟩ := h
  have oh := pre.k.oh
  refine ⟨Nat.zero_le _, fun p hp => ?_⟩
  obtain ⟨np1, np2, np3⟩ := pre.s.new hp
  have r0 := (RS.refl pre.s).and (same_new (o := .lst []) hp)
  have huC : uC d most = 1 + most * (1102 + rC d) := rfl
  rw [huC] at hn
  refine ⟨_, rfl, _, rfl, _, _, rfl, rfl, ?_⟩
  refine ⟨_, _, rfl, h, m, most + 1, rfl, r0.s.o, by omega, rfl, by omega, by omega, fun H1 cnt s1 hcnt => ?_⟩
  have r1 := r0.hs oh s1
  have hp1 := s1.on (upd_same (H := H) (a := p) (o := .lst [])) np1
  refine ⟨(cnt : Nat), rfl, by omega, by omega, ?_⟩
  rw [show ((cnt : Nat) : Int).toNat = cnt from rfl]
  have hic : ∀ i, i ≤ cnt → i * (1102 + rC d) ≤ most * (1102 + rC d) := fun i hi => Nat.mul_le_mul_right _ (by omega)
  refine for_it (walk_range (lo := 0) (n := cnt)) (fun i σ H' => ∃ c5 c6 c7 c8 c9 c10 c11 c12 c13 vs ths W l' op', σ = [some (.ref h), some (.ref sd), some (.int (d : Nat)), some (.int (most : Nat)), some (.ref p), c5, c6, c7, c8, c9, c10, c11, c12, c13] ∧
      RS h sd pl sl ol H H' (m + 1 + i * (1102 + rC d)) l' op' ∧ H' p = some (.lst vs) ∧ RpA H' vs (thingsD ths) ∧ ThsOk book Sg (M + 1 + d) ths W ∧ ths.length ≤ i ∧ l' ≤ left ∧ W + 13 * l'.toNat ≤ i + 13 * left.toNat ∧ (∀ y ∈ op', y ∈ op) ∧ op'.length ≤ op.length ∧ (∀ y ∈ op, y ∈ op' ∨ Lays y ths))
    ⟨_, _, _, _, _, _, _, _, _, [], [], 0, left, op, rfl, r1.mono (by omega), hp1, by rw [thingsD]; exact .nil, .nil, Nat.le_refl _, Int.le_refl _, by omega, fun y hy => hy, Nat.le_refl _, fun y hy => .inl hy⟩ (fun _ _ _ _ _ => trivial) ?_ ?_
  · rintro i x σ H1 H2 hi ⟨c5, c6, c7, c8, c9, c10, c11, c12, c13, vs, ths, W, l1, op1, rfl, ra, hpa, rva, oka, hla, lea, wa, opa, ola, lya⟩ ⟨rfl, rfl⟩
    have hii := hic (i + 1) hi
    have hi1 : (i + 1) * (1102 + rC d) = i * (1102 + rC d) + (1102 + rC d) := by rw [Nat.add_mul, Nat.one_mul]
    have pa := pre.go ra lea opa ola
    have hvl : vs.length < sizeLine := by
      have e : vs.length = ths.length := by rw [rva.len, thingsD_map, List.length_map]
      rw [e, sizeLine_eq]; omega
    -- one thing more
    have fin : ∀ {H3 : Hp} {q : Nat} {v : V} {t : Thing} {w3 : Nat} {l3 : Int} {op3 : List Str}, RS h sd pl sl ol H2 H3 q l3 op3 → q ≤ m + 1 + (i + 1) * (1102 + rC d) → Rp H3 v t.d → TOk book Sg (M + 1 + d) t w3 → l3 ≤ l1 → w3 + 13 * l3.toNat ≤ 1 + 13 * l1.toNat → (∀ y ∈ op3, y ∈ op1) → op3.length ≤ op1.length → (∀ y ∈ op1, y ∈ op3 ∨ Lays y [t]) →
        H3 p = some (.lst vs) ∧ ∃ vs' ths' W' l' op', RS h sd pl sl ol H (upd H3 p (.lst (vs ++ [v]))) (m + 1 + (i + 1) * (1102 + rC d)) l' op' ∧ (upd H3 p (.lst (vs ++ [v]))) p = some (.lst vs') ∧ RpA (upd H3 p (.lst (vs ++ [v]))) vs' (thingsD ths') ∧ ThsOk book Sg (M + 1 + d) ths' W' ∧ ths'.length ≤ i + 1 ∧ l' ≤ left ∧ W' + 13 * l'.toNat ≤ (i + 1) + 13 * left.toNat ∧ (∀ y ∈ op', y ∈ op) ∧ op'.length ≤ op.length ∧ (∀ y ∈ op, y ∈ op' ∨ Lays y ths') := by
      intro H3 q v t w3 l3 op3 r3 hq rt okt le3 hw3 ho3 hol3 hly3
      have hp3 := r3.on hpa np1 np2 np3
      have tk := tk_lst (o := .lst (vs ++ [v])) hp3
      refine ⟨hp3, vs ++ [v], ths ++ [t], W + w3, l3, op3, ((ra.trans r3).up hp hp3 np1 np2 np3).mono hq, upd_same, ?_, oka.app (.one okt), by rw [List.length_append]; show ths.length + 1 ≤ _; omega, Int.le_trans le3 lea, by omega, fun y hy => opa y (ho3 y hy), Nat.le_trans hol3 ola, fun y hy => ?_⟩
      · rw [thingsD_app, thingsD, thingsD]
        exact ((rva.mono r3.t).mono tk).app (.cons (rt.mono tk) .nil)
      · rcases lya y hy with h1 | h1
        · rcases hly3 y h1 with h2 | h2
          · exact .inl h2
          · exact .inr (h2.right ths)
        · exact .inr (h1.left [t])
    refine ⟨_, rfl, _, _, rfl, h, m + 1 + i * (1102 + rC d), 10, rfl, pa.s.o, by omega, rfl, by omega, by omega, fun H3 way s3 hway => ?_⟩
    have r3 := (RS.refl pa.s).hs oh s3
    have p3 := pa.go r3 (Int.le_refl _) (fun y h => h) (Nat.le_refl _)
    obtain ⟨mvs, hm1, hm2⟩ := p3.k.pm
    have hml : mvs.length = menu.length := hm2.len
    have hml20 := pre.ml
    refine ⟨_, rfl, _, rfl, sd, _, rfl, dgetK p3.s.d stK_ph, pl, mvs, rfl, .inl (SqL.of hm1), _, _, rfl, rfl, ?_⟩
    have eml : (1 : Int) + ((mvs.length : Nat) : Int) = ((1 + menu.length : Nat) : Int) := by omega
    refine ⟨_, _, rfl, h, _, 1 + menu.length, rfl, p3.s.o, by omega, congrArg V.int eml, by omega, by omega, fun H4 r2 s4 hr2 => ?_⟩
    have r4 := r3.hs oh s4
    have p4 := pa.go r4 (Int.le_refl _) (fun y h => h) (Nat.le_refl _)
    refine ⟨_, rfl, _, _, rfl, rfl, ?_⟩
    refine .inr ⟨_, rfl, _, _, rfl, rfl, .inr (by split <;> omega), ?_⟩
    obtain ⟨atN, hat, hatl⟩ : ∃ atN : Nat, ((r2 : Int) * if decide ((6 : Int) < (way : Int)) = true then 1 else 0) = (atN : Int) ∧ atN ≤ menu.length := by
      by_cases c6 : (6 : Int) < (way : Int)
      · exact ⟨r2, by rw [if_pos (dT c6)]; omega, by omega⟩
      · exact ⟨0, by rw [if_neg (dF c6)]; omega, Nat.zero_le _⟩
    refine ⟨(by show 2 ≤ sizeLine; decide), fun q1 hq1 => ⟨(by show 1 ≤ sizeLine; decide), fun z1 hz1 => ?_⟩⟩
    have sA := (same_new (o := .tup [.str "", .int 0]) hq1).trans (same_new (o := .lst [.ref q1]) hz1)
    have r5 := r4.and sA
    have p5 := pa.go r5 (Int.le_refl _) (fun y h => h) (Nat.le_refl _)
    obtain ⟨mvs5, hm51, hm52⟩ := p5.k.pm
    have hml5 : mvs5.length = menu.length := hm52.len
    refine ⟨_, rfl, sd, _, rfl, dgetK p5.s.d stK_ph, ?_⟩
    refine ⟨z1, pl, _, _, rfl, rfl, upd_same, hm51, (by rw [hml5]; show 1 + menu.length ≤ sizeLine; rw [sizeLine_eq]; omega), fun z2 hz2 => ?_⟩
    have sB := same_new (o := .lst ([.ref q1] ++ mvs5)) hz2
    have r6 := r5.and sB
    have p6 := pa.go r6 (Int.le_refl _) (fun y h => h) (Nat.le_refl _)
    obtain ⟨nm, size, qe, hqe, hqv, hent⟩ : ∃ (nm : Str) (size : Nat) (qe : Addr), ([V.ref q1] ++ mvs5)[atN]? = some (.ref qe) ∧ (upd (upd (upd H4 q1 (.tup [.str "", .int 0])) z1 (.lst [.ref q1])) z2 (.lst ([.ref q1] ++ mvs5))) qe = some (.tup [.str nm, .int (size : Nat)]) ∧ (nm = "" ∨ (nm, size) ∈ menu) := by
      cases atN with
      | zero => exact ⟨"", 0, q1, rfl, sB.on ((same_new hz1).on upd_same), .inl rfl⟩
      | succ j =>
        have hj : j < menu.length := by omega
        obtain ⟨v, hv, q, rfl, hq⟩ := hm52.getR (List.getElem?_eq_getElem hj)
        exact ⟨_, _, q, hv, sB.on hq, .inr (List.getElem_mem hj)⟩
    refine ⟨_, rfl, z2, _, _, _, rfl, congrArg V.int hat, SqL.of upd_same, atI_nat hqe, ?_⟩
    refine ⟨qe, _, rfl, SqT.of hqv, rfl, _, _, rfl, _, _, rfl, rfl, ?_⟩
    -- what is left
    refine ⟨_, rfl, sd, _, rfl, dgetK p6.s.d stK_le, ?_⟩
    refine ⟨_, rfl, _, _, rfl, rfl, _, _, rfl, rfl, _, DPut.k (k := .inr "left") p6.s.d (by rw [sizeLine_eq]; show 4 < _; omega), ?_⟩
    rw [stK_put]
    obtain ⟨l2, hl2⟩ : ∃ l2 : Int, l2 = l1 - (1 + (size : Int)) := ⟨_, rfl⟩
    have r7 := r6.setLeft l2
    have hl21 : l2 ≤ l1 := by omega
    have p7 := pa.go r7 hl21 (fun y h => h) (Nat.le_refl _)
    rw [← hl2]
    clear r3 p3 hm1 hm2 hml r4 p4 sA r5 p5 hqv sB r6 p6 s3 s4
    refine hgen (fun H8 => RS h sd pl sl ol H2 H8 (m + 1 + i * (1102 + rC d) + 1 + 1) l2 op1) r7 ?_
    clear r7 p7
    intro H8 r8
    have p8 := pa.go r8 hl21 (fun y h => h) (Nat.le_refl _)
    have hp8 : ∀ {H9 : Hp} {q : Nat} {l : Int} {o : List Str}, RS h sd pl sl ol H2 H9 q l o → H9 p = some (.lst vs) := fun r => r.on hpa np1 np2 np3
    refine ⟨_, rfl, rfl, _, rfl, ?_⟩
    -- the tests from the left: use, repeat, turn, sign, bar
    have useStep : nm ≠ "" → 0 ≤ l2 → ∃ ths' Sg', book nm = some ths' ∧ ths'.length ≤ 100 ∧ (∀ y ∈ Sg', Lays y ths') ∧ ThsOk book Sg' (M + d) ths' size := by
      intro hne hl0
      rcases hent with h1 | h1
      · exact absurd h1 hne
      · obtain ⟨_, ths', Sg', b1, b2, b3, b4⟩ := pa.m _ h1
        exact ⟨ths', Sg', b1, b2, b3, (b4 (by show 1 + (size : Int) ≤ l1; omega)).up (Nat.le_add_right _ _)⟩
    refine andE ?_ (fun hc b => ?_)
    · -- repeat
      refine ⟨_, rfl, _, _, rfl, rfl, _, rfl, andE ?_ (fun hc b => ⟨_, rfl, _, _, rfl, rfl, _, rfl, andE b (fun hc2 b => ⟨_, rfl, sd, _, rfl, dgetK p8.s.d stK_le, _, _, rfl, rfl, _, rfl, ?_⟩)⟩)⟩
      · -- turn
        refine ⟨_, rfl, rfl, _, rfl, ?_⟩
        by_cases cw : way = 2
        · refine itT (dT (by rw [cw]; rfl)) ?_
          refine ⟨(by show 1 ≤ sizeLine; decide), fun z1 hz1 => ?_⟩
          have sA := same_new (o := .lst [.non]) hz1
          have r9 := r8.and sA
          have p9 := pa.go r9 hl21 (fun y h => h) (Nat.le_refl _)
          refine ⟨_, rfl, sd, _, rfl, dgetK p9.s.d stK_sg, ?_⟩
          have hSl := pre.sl
          refine ⟨z1, sl, _, _, rfl, rfl, upd_same, p9.k.sg, (by rw [List.length_map]; show 1 + Sg.length ≤ sizeLine; rw [sizeLine_eq]; omega), fun z2 hz2 => ?_⟩
          have sB := same_new (o := .lst ([.non] ++ Sg.map V.str)) hz2
          have r10 := r9.and sB
          have p10 := pa.go r10 hl21 (fun y h => h) (Nat.le_refl _)
          obtain ⟨nz1, nz2, nz3⟩ := r9.s.new hz2
          have hz20 := upd_same (H := upd H8 z1 (.lst [.non])) (a := z2) (o := .lst ([.non] ++ Sg.map V.str))
          refine ⟨_, rfl, (by show 2 ≤ sizeLine; decide), fun z3 hz3 => ?_⟩
          have sC := same_new (o := .lst [.int 3, .int 9]) hz3
          have r11 := r10.and sC
          have p11 := pa.go r11 hl21 (fun y h => h) (Nat.le_refl _)
          obtain ⟨ny1, ny2, ny3⟩ := r10.s.new hz3
          refine ⟨_, rfl, _, _, rfl, h, _, 8, rfl, p11.s.o, by omega, rfl, by omega, by omega, fun H12 r12 s12 hr12 => ?_⟩
          have q12 := r11.hs oh s12
          have p12 := pa.go q12 hl21 (fun y h => h) (Nat.le_refl _)
          have hz3v := s12.on (upd_same (H := upd (upd H8 z1 (.lst [.non])) z2 (.lst ([.non] ++ Sg.map V.str))) (a := z3) (o := .lst [.int 3, .int 9])) ny1
          have hz2v := s12.on (sC.on hz20) nz1
          refine ⟨rfl, .inr ⟨_, rfl, ?_⟩⟩
          obtain ⟨mm, hmm, hmv⟩ : ∃ mm : Nat, (mm = 3 ∨ mm = 9) ∧ atI [V.int 3, V.int 9] (if decide (V.int (r12 : Nat) = V.int 0) = true then 1 else 0) = some (.int (mm : Nat)) := by
            by_cases cz : decide (V.int (r12 : Nat) = V.int 0) = true
            · exact ⟨9, .inr rfl, by rw [if_pos cz]; rfl⟩
            · exact ⟨3, .inl rfl, by rw [if_neg cz]; rfl⟩
          refine ⟨z3, _, _, _, rfl, rfl, SqL.of hz3v, hmv, ?_⟩
          refine ⟨_, _, rfl, h, _, mm, rfl, p12.s.o, by omega, rfl, by omega, by omega, fun H13 r13 s13 hr13 => ?_⟩
          have q13 := q12.hs oh s13
          have p13 := pa.go q13 hl21 (fun y h => h) (Nat.le_refl _)
          have hz2w := s13.on hz2v nz1
          refine ⟨_, _, rfl, rfl, ?_⟩
          have eg : (1 : Int) + (r13 : Int) = ((1 + r13 : Nat) : Int) := by omega
          refine ⟨_, rfl, ((1 + r13 : Nat) : Int), congrArg (fun z => [V.int z]) eg, by omega, by omega, fun D hD => ?_⟩
          rw [show ((1 + r13 : Nat) : Int).toNat = 1 + r13 from rfl]
          obtain ⟨nd1, nd2, nd3⟩ := p13.s.new hD
          have hD2 : H2 D = none := q13.none hD
          refine lc_it (walk_range (lo := 0) (n := 1 + r13)) (fun j H' => ∃ gs : List (Option Str), RS h sd pl sl ol H2 H' (m + 1 + i * (1102 + rC d) + 1 + 1 + 1 + 1 + j) l2 op1 ∧ H' z2 = some (.lst ([.non] ++ Sg.map V.str)) ∧ H' D = some (.lst (gs.map goalV)) ∧ gs.length = j ∧ ∀ x, some x ∈ gs → x ∈ Sg)
            ⟨[], q13.and (same_new hD), (same_new hD).on hz2w, upd_same, rfl, fun x hx => absurd hx (List.not_mem_nil)⟩ (fun _ _ _ _ => trivial) ?_ ?_
          · rintro j x H14 H15 hj ⟨gs, q14, hz14, hD14, hgl, hgs⟩ ⟨rfl, rfl⟩
            refine ⟨rfl, yesT ?_⟩
            have p14 := pa.go q14 hl21 (fun y h => h) (Nat.le_refl _)
            have e20 : (([V.non] ++ Sg.map V.str : List V).length : Nat) = 1 + Sg.length := by rw [List.length_append, List.length_map]; rfl
            refine ⟨_, rfl, _, rfl, _, rfl, z2, _, rfl, .inl (SqL.of hz14), ?_⟩
            rw [e20]
            refine ⟨_, _, rfl, h, _, 1 + Sg.length, rfl, p14.s.o, by omega, rfl, by omega, by omega, fun H16 r16 s16 hr16 => ?_⟩
            have q16 := q14.hs oh s16
            have hz16 := s16.on hz14 nz1
            obtain ⟨g, hgv, hgS⟩ : ∃ g : Option Str, ([V.non] ++ Sg.map V.str : List V)[r16]? = some (goalV g) ∧ ∀ x, g = some x → x ∈ Sg := by
              cases r16 with
              | zero => exact ⟨none, rfl, fun x hx => by cases hx⟩
              | succ k =>
                have hk : k < Sg.length := by omega
                refine ⟨some Sg[k], ?_, fun x hx => by cases hx; exact List.getElem_mem hk⟩
                show (Sg.map V.str)[k]? = _
                rw [List.getElem?_map, List.getElem?_eq_getElem hk]
                rfl
            refine ⟨z2, _, _, _, rfl, rfl, SqL.of hz16, atI_nat hgv, ?_⟩
            have hD16 := s16.on hD14 nd1
            have nzD : z2 ≠ D := fun e => by rw [← e, hz2w] at hD; cases hD
            refine ⟨_, hD16, (by rw [List.length_map, hgl, sizeLine_eq]; omega), gs ++ [g], (q16.up hD2 hD16 nd1 nd2 nd3).mono (by omega), by rw [upd_ne nzD]; exact hz16, by rw [upd_same, List.map_append]; rfl, by rw [List.length_append, hgl]; rfl, fun x hx => ?_⟩
            rcases List.mem_append.mp hx with hx | hx
            · exact hgs x hx
            · exact hgS x (List.mem_singleton.mp hx).symm
          · rintro H14 ⟨gs, q14, hz14, hD14, hgl, hgs⟩
            refine ⟨_, rfl, .inl ⟨rfl, _, SqL.of (hp8 q14)⟩, ?_⟩
            refine ⟨_, rfl, D, _, rfl, .inl ⟨SqL.of hD14, fun u1 hu1 => ⟨(by show 2 ≤ sizeLine; decide), fun u2 hu2 => ?_⟩⟩⟩
            have sD := (same_new (o := .tup (gs.map goalV)) hu1).trans (same_new (o := .tup [.str "turn", .ref u1]) hu2)
            have rt : Rp (upd (upd H14 u1 (.tup (gs.map goalV))) u2 (.tup [.str "turn", .ref u1])) (.ref u2) (Thing.turn gs).d := by
              rw [Thing.d]
              exact .tup upd_same (.cons (.str _) (.cons (.tup ((same_new hu2).on upd_same) (rpa_goals gs)) .nil))
            obtain ⟨f0, vs', ths', W', l', op', f1⟩ := fin (w3 := 1) (q14.and sD) (by omega) rt (.turn (fun z => by rw [z] at hgl; have h0 : 0 = 1 + r13 := hgl; omega) (by omega) hgs) hl21 (by omega) (fun y h => h) (Nat.le_refl _) (fun y h => .inl h)
            exact ⟨p, vs, _, rfl, rfl, f0, hvl, _, _, _, _, _, _, _, _, _, vs', ths', W', l', op', rfl, f1⟩
        · refine itF (dF (fun z => cw (by have := V.int.inj z; omega))) ?_
          -- sign
          refine ⟨_, rfl, rfl, _, rfl, andE ?_ (fun hc b => ?_)⟩
          · -- bar
            refine ⟨_, rfl, sd, _, rfl, dgetK p8.s.d stK_le, _, _, rfl, rfl, _, rfl, ?_⟩
            by_cases cl : 0 < l2
            · refine itT (dT cl) ?_
              refine ⟨_, rfl, .inl ⟨rfl, _, SqL.of (hp8 r8)⟩, ?_⟩
              refine ⟨_, rfl, _, rfl, h, _, rfl, p8.s.o, by omega, fun H9 v9 size vss s9 r9 b1 b2 b3 => ?_⟩
              have q9 := r8.hs oh s9
              obtain ⟨f0, vs', ths', W', l', op', f1⟩ := fin (w3 := 1) (t := .bar size vss) q9 (by omega) (by rw [Thing.d]; exact r9) (.bar b1 b2 b3) hl21 (by omega) (fun y h => h) (Nat.le_refl _) (fun y h => .inl h)
              exact ⟨p, vs, _, rfl, rfl, f0, hvl, _, _, _, _, _, _, _, _, _, vs', ths', W', l', op', rfl, f1⟩
            · refine itF (dF cl) ?_
              exact ⟨_, _, _, _, _, _, _, _, _, vs, ths, W, l2, op1, rfl, (ra.trans r8).mono (by omega), hp8 r8, rva.mono r8.t, oka, by omega, by omega, by omega, opa, ola, lya⟩
          · refine ⟨_, rfl, sd, _, rfl, dgetK p8.s.d stK_op, ?_⟩
            refine ⟨Nat.zero_le _, fun z1 hz1 => ?_⟩
            have sA := same_new (o := .lst []) hz1
            have r9 := r8.and sA
            have p9 := pa.go r9 hl21 (fun y h => h) (Nat.le_refl _)
            refine ⟨.list (op1.map PyData.str), .list [], .lst (SqL.of p9.s.p) (dpa_strs op1), .lst (SqL.of upd_same) .nil, Dep.shaped (n := 2) (Dep.lst fun dd hdd => by
              obtain ⟨y, hy, rfl⟩ := List.mem_map.mp hdd; exact Dep.str _ (p9.ok y hy)) (by omega), (by decide), _, rfl, ?_⟩
            rw [eqv_strs_nil]
            rcases List.eq_nil_or_concat op1 with e | ⟨op', y, e⟩
            · refine itF (by rw [e]; decide) ?_
              refine ⟨_, rfl, sd, _, rfl, dgetK p9.s.d stK_le, _, _, rfl, rfl, _, rfl, ?_⟩
              by_cases cl : 0 < l2
              · refine itT (dT cl) ?_
                refine ⟨_, rfl, .inl ⟨rfl, _, SqL.of (hp8 r9)⟩, ?_⟩
                refine ⟨_, rfl, _, rfl, h, _, rfl, p9.s.o, by omega, fun H9 v9 size vss s9 rb b1 b2 b3 => ?_⟩
                have q9 := r9.hs oh s9
                obtain ⟨f0, vs', ths', W', l', op', f1⟩ := fin (w3 := 1) (t := .bar size vss) q9 (by omega) (by rw [Thing.d]; exact rb) (.bar b1 b2 b3) hl21 (by omega) (fun y h => h) (Nat.le_refl _) (fun y h => .inl h)
                exact ⟨p, vs, _, rfl, rfl, f0, hvl, _, _, _, _, _, _, _, _, _, vs', ths', W', l', op', rfl, f1⟩
              · refine itF (dF cl) ?_
                exact ⟨_, _, _, _, _, _, _, _, _, vs, ths, W, l2, op1, rfl, (ra.trans r9).mono (by omega), hp8 r9, rva.mono r9.t, oka, by omega, by omega, by omega, opa, ola, lya⟩
            · have e : op1 = op' ++ [y] := by rw [e]; simp
              have hne : op1.isEmpty = false := by rw [e]; cases op' <;> rfl
              refine itT (by rw [hne]; rfl) ?_
              refine ⟨_, rfl, .inl ⟨rfl, _, SqL.of (hp8 r9)⟩, ?_⟩
              have hop := p9.s.p
              refine ⟨_, rfl, sd, _, rfl, dgetK p9.s.d stK_op, .inl ⟨rfl, _, SqL.of hop⟩, ol, _, .str y, rfl, rfl, hop, ?_, ?_⟩
              · rw [e, List.map_append, List.length_append, List.getElem?_append_right (by simp)]
                simp
              have ed : (op1.map V.str).dropLast = op'.map V.str := by rw [e, List.map_append]; simp
              rw [ed]
              have r10 := r9.pop oh op'
              refine ⟨(by show 2 ≤ sizeLine; decide), fun u hu => ?_⟩
              have r11 := r10.and (same_new (o := .tup [.str "sign", .str y]) hu)
              have rt : Rp (upd (upd (upd H8 z1 (.lst [])) ol (.lst (op'.map V.str))) u (.tup [.str "sign", .str y])) (.ref u) (Thing.sign y).d := by
                rw [Thing.d]
                exact .tup upd_same (.cons (.str _) (.cons (.str _) .nil))
              obtain ⟨f0, vs', ths', W', l', op'', f1⟩ := fin (w3 := 0) r11 (by omega) rt .sign hl21 (by omega) (fun z hz => by rw [e]; simp [hz]) (by rw [e, List.length_append]; exact Nat.le_add_right _ _) (fun z hz => by
                rw [e] at hz
                rcases List.mem_append.mp hz with hz | hz
                · exact .inl hz
                · rw [List.mem_singleton.mp hz]; exact .inr .here)
              exact ⟨p, vs, _, rfl, rfl, f0, hvl, _, _, _, _, _, _, _, _, _, vs', ths', W', l', op'', rfl, f1⟩
      · -- repeat, drawn
        by_cases cl : 0 < l2
        · refine itT (dT cl) ?_
          have hd0 : 0 < d := by
            have := of_decide_eq_true hc2
            omega
          refine ⟨_, rfl, .inl ⟨rfl, _, SqL.of (hp8 r8)⟩, ?_⟩
          refine ⟨_, rfl, _, rfl, _, rfl, ?_⟩
          refine ⟨_, _, _, rfl, h, sd, pl, sl, ol, menu, Sg, M, _, l2, op1, d, rfl, rfl, rfl, p8, hd, hd0, by omega, fun H9 v9 t W9 l9 op9 r9 rt okt le9 w9 ho9 hol9 hly9 => ?_⟩
          obtain ⟨f0, vs', ths', W', l', op', f1⟩ := fin (w3 := W9) (r8.trans r9) (by omega) rt okt (by omega) (by omega) ho9 hol9 hly9
          exact ⟨p, vs, _, rfl, rfl, f0, hvl, _, _, _, _, _, _, _, _, _, vs', ths', W', l', op', rfl, f1⟩
        · exact itF (dF cl) b
    · -- use
      refine ⟨_, rfl, sd, _, rfl, dgetK p8.s.d stK_le, _, _, rfl, rfl, _, rfl, ?_⟩
      by_cases cl : 0 ≤ l2
      · refine itT (dT cl) ?_
        have hne : nm ≠ "" := fun z => by
          rw [z] at hc
          exact absurd hc (by decide +kernel)
        obtain ⟨ths9, Sg9, b1, b2, b3, b4⟩ := useStep hne cl
        refine ⟨_, rfl, .inl ⟨rfl, _, SqL.of (hp8 r8)⟩, ?_⟩
        refine ⟨_, rfl, _, rfl, _, _, rfl, h, _, 5, rfl, p8.s.o, by omega, rfl, by omega, by omega, fun H9 r9 s9 hr9 => ?_⟩
        have q9 := r8.hs oh s9
        refine ⟨_, _, rfl, rfl, ?_⟩
        refine ⟨_, rfl, _, rfl, h, _, rfl, q9.s.o, by omega, fun H10 v10 f10 s10 hf10 bf10 => ?_⟩
        have q10 := q9.hs oh s10
        refine ⟨(by show 4 ≤ sizeLine; decide), fun u hu => ?_⟩
        have q11 := q10.and (same_new (o := .tup [.str "use", .str nm, .int ((r9 : Int) - 2), v10]) hu)
        have rt : Rp (upd H10 u (.tup [.str "use", .str nm, .int ((r9 : Int) - 2), v10])) (.ref u) (Thing.use nm ((r9 : Int) - 2) f10).d := by
          rw [Thing.d]
          exact .tup upd_same (.cons (.str _) (.cons (.str _) (.cons (.int _) (.cons (hf10.mono (tk_new hu)).rp .nil))))
        have okt : TOk book Sg (M + 1 + d) (.use nm ((r9 : Int) - 2) f10) (1 + size) := by
          have := TOk.use (Sg := Sg) (up := (r9 : Int) - 2) bf10 b1 b4 b3 b2
          rw [show M + 1 + d = M + d + 1 by omega]
          exact this
        obtain ⟨f0, vs', ths', W', l', op', f1⟩ := fin (w3 := 1 + size) q11 (by omega) rt okt hl21 (by omega) (fun y h => h) (Nat.le_refl _) (fun y h => .inl h)
        exact ⟨p, vs, _, rfl, rfl, f0, hvl, _, _, _, _, _, _, _, _, _, vs', ths', W', l', op', rfl, f1⟩
      · exact itF (dF cl) b
  · rintro σ H1 ⟨c5, c6, c7, c8, c9, c10, c11, c12, c13, vs, ths, W, l1, op1, rfl, ra, hpa, rva, oka, hla, lea, wa, opa, ola, lya⟩
    have hcc := hic cnt (Nat.le_refl _)
    refine ⟨_, rfl, p, vs, rfl, .inl ⟨SqL.of hpa, fun q hq => ?_⟩⟩
    exact kk _ _ ths W l1 op1 ((ra.and (same_new hq)).mono (by rw [huC]; omega)) (.tup upd_same (rva.mono (tk_new hq))) oka (by omega) lea (by omega) opa ola lya
/- slots of _law_repeat: 0 _law_hand_here, 1 _law_stock, 2 _law_deep, 3 _law_many, 4 _law_things_here, 5 _law_sorts, 6 _law_k, 7 _law_endings, 8 _law_numbers -/
theorem sc_law_repeat : FnScope ["_law_hand_here", "_law_stock", "_law_deep", "_law_many", "_law_things_here", "_law_sorts", "_law_k", "_law_endings", "_law_numbers"] ["_law_hand_here", "_law_stock", "_law_deep"] (defScope s_law_repeat) := ⟨rfl, rfl, rfl, by decide +kernel, rfl, by decide +kernel, by decide +kernel⟩
theorem repeat_of (T : Tx w K mg) {n : Nat} (hT : Cal P w K mg base CX0 (2 * n + 13) "_law_things" ["_law_hand_here", "_law_stock", "_law_deep", "_law_most"] (spThings2 book n)) :
    Cal P w K mg base CX0 (2 * n + 14) "_law_repeat" ["_law_hand_here", "_law_stock", "_law_deep"] (spRepeat2 book (n + 1)) := by
  refine Cal.of T.f_law_repeat T.g_law_repeat sc_law_repeat (fun _ _ _ _ _ _ us hl => match us, hl with | [_, _, _], _ => rfl) (fun vs H Q E h => by obtain ⟨x0, x1, x2, rfl, _⟩ := h; rfl) (fun f cdv A outer s H vs Q E hr h => ?_)
  obtain ⟨v0, v1, v2, rfl, h⟩ := h
  refine ⟨_, (pss_cons (ps_set (i := 3) sc_law_repeat.nd rfl (Or.inl rfl) (pe_ix ix_list (pe_lst (pa_cons pe_int (pa_cons pe_int (pa_cons pe_int (pa_cons pe_int (pa_cons pe_int pa_nil)))))) (pc (cal_law_take T) hr (pa_cons (pv 0) (pa_cons pe_int pa_nil))) (fun _ _ => rfl)))
    (pss_cons (ps_set (i := 4) sc_law_repeat.nd rfl (Or.inl rfl) (pc (hT) hr (pa_cons (pv 0) (pa_cons (pv 1) (pa_cons (pe_op op_sub (pv 2) pe_int) (pa_cons pe_int pa_nil))))))
    (pss_cons (ps_set (i := 5) sc_law_repeat.nd rfl (Or.inl rfl) (pe_lst (pa_cons (pe_lst pa_nil) (pa_cons (pe_lst pa_nil) (pa_cons (pe_lst pa_nil) pa_nil)))))
    (pss_cons (ps_if (pt_cmpR op_eq (pc (cal_law_take T) hr (pa_cons (pv 0) (pa_cons pe_int pa_nil))) pe_int (nomark _)) (pss_one (ps_ret (pe_tup (pa_cons pe_str (pa_cons (pv 3) (pa_cons (pv 4) (pa_cons (pe_tup pa_nil) pa_nil))))))) pss_nil)
    (pss_cons (ps_for PassesOwn.never rfl (pi_range1 (by rfl) T.b_range (pa_cons (pv 3) pa_nil)) (pg_name (i := 6) sc_law_repeat.nd rfl (Or.inl rfl)) (pss_one (ps_expr (pe_bm PySem.F.plainAttrs_list PySem.F.slot_list_append PySem.F.type_list_append mt_append (pe_ix ix_list (pv 5) (pc (cal_law_take T) hr (pa_cons (pv 0) (pa_cons pe_int pa_nil))) (fun _ _ => rfl)) (pa_cons (pe_op op_add (pv 6) pe_int) pa_nil)))))
    (pss_cons (ps_set (i := 7) sc_law_repeat.nd rfl (Or.inl rfl) (pe_lst pa_nil))
    (pss_cons (ps_for PassesOwn.never rfl (pi_list (pv 5)) (pg_name (i := 8) sc_law_repeat.nd rfl (Or.inl rfl)) (pss_one (ps_if (pt_cmpR (op_neD hr.units) (pv 8) (pe_lst pa_nil) (nomark _)) (pss_one (ps_expr (pe_bm PySem.F.plainAttrs_list PySem.F.slot_list_append PySem.F.type_list_append mt_append (pv 7) (pa_cons (pe_tup (pa_cons (pe_callTy call_tuple_of (by rfl) T.b_tuple (by decide +kernel) (pa_cons (pv 8) pa_nil)) (pa_cons (pc (hT) hr (pa_cons (pv 0) (pa_cons (pv 1) (pa_cons (pe_op op_sub (pv 2) pe_int) (pa_cons pe_int pa_nil))))) pa_nil))) pa_nil)))) pss_nil)))
    (pss_one (ps_ret (pe_tup (pa_cons pe_str (pa_cons (pv 3) (pa_cons (pv 4) (pa_cons (pe_callTy call_tuple_of (by rfl) T.b_tuple (by decide +kernel) (pa_cons (pv 7) pa_nil)) pa_nil)))))))))))))), ?_⟩
  obtain ⟨h, sd, pl, sl, ol, menu, Sg, M, m, left, op, d, rfl, rfl, rfl, pre, hd, hd1, hn, kk⟩ := h
  have oh := pre.k.oh
  obtain ⟨d', rfl⟩ : ∃ d', d = d' + 1 := ⟨d - 1, by omega⟩
  have erC : rC (d' + 1) = 11 + uC d' 3 + 3 * uC d' 2 := rfl
  rw [erC] at hn kk
  -- how many
  refine ⟨(by show 5 ≤ sizeLine; decide), fun z1 hz1 => ?_⟩
  have s1 := same_new (o := .lst (([1, 2, 2, 3, 9] : List Nat).map natV)) hz1
  have r1 := (RS.refl pre.s).and s1
  obtain ⟨nz1, _, _⟩ := pre.s.new hz1
  refine ⟨_, rfl, _, _, rfl, h, m, 5, rfl, r1.s.o, by omega, rfl, by omega, by omega, fun H2 r2 s2 hr2 => ?_⟩
  have q2 := r1.hs oh s2
  have hz2 := s2.on (upd_same (H := H) (a := z1) (o := .lst (([1, 2, 2, 3, 9] : List Nat).map natV))) nz1
  obtain ⟨many, hm9, hm1, hmv⟩ : ∃ many : Nat, many ≤ 9 ∧ 1 ≤ many ∧ ([1, 2, 2, 3, 9] : List Nat)[r2]? = some many := by
    have hl : ([1, 2, 2, 3, 9] : List Nat).length = 5 := rfl
    have hg : ([1, 2, 2, 3, 9] : List Nat)[r2]? = some _ := List.getElem?_eq_getElem (by rw [hl]; exact hr2)
    exact ⟨_, (by decide : ∀ x ∈ ([1, 2, 2, 3, 9] : List Nat), x ≤ 9) _ (List.mem_of_getElem? hg), (by decide : ∀ x ∈ ([1, 2, 2, 3, 9] : List Nat), 1 ≤ x) _ (List.mem_of_getElem? hg), hg⟩
  refine ⟨z1, _, _, natV many, rfl, rfl, SqL.of hz2, atI_nat (by rw [List.getElem?_map, hmv]; rfl), ?_⟩
  have p2 := pre.go q2 (Int.le_refl _) (fun y h => h) (Nat.le_refl _)
  -- the things
  have ed : ((d' + 1 : Nat) : Int) - 1 = ((d' : Nat) : Int) := by omega
  refine ⟨_, rfl, _, rfl, _, rfl, _, _, rfl, rfl, ?_⟩
  refine ⟨_, _, _, _, rfl, h, sd, pl, sl, ol, menu, Sg, M, m + 1, left, op, d', 3, rfl, rfl, congrArg V.int ed, rfl, p2, by omega, by omega, by omega, fun H3 v3 ths W3 l3 op3 r3 rt3 ok3 ln3 le3 w3 ho3 hol3 hly3 => ?_⟩
  have q3 := q2.trans r3
  have p3 := pre.go q3 le3 ho3 hol3
  -- the sorts
  refine ⟨Nat.zero_le _, fun g0 hg0 => ⟨Nat.zero_le _, fun g1 hg1 => ⟨Nat.zero_le _, fun g2 hg2 => ⟨(by show 3 ≤ sizeLine; decide), fun gl hgl => ?_⟩⟩⟩⟩
  have t0 := same_new (o := .lst []) hg0
  have t1 := same_new (o := .lst []) hg1
  have t2 := same_new (o := .lst []) hg2
  have t3 := same_new (o := .lst [.ref g0, .ref g1, .ref g2]) hgl
  have n01 : g0 ≠ g1 := fun e => by rw [← e, upd_same] at hg1; cases hg1
  have n02 : g0 ≠ g2 := fun e => by rw [← e, t1.on upd_same] at hg2; cases hg2
  have n12 : g1 ≠ g2 := fun e => by rw [← e, upd_same] at hg2; cases hg2
  have n0l : g0 ≠ gl := fun e => by rw [← e, t2.on (t1.on upd_same)] at hgl; cases hgl
  have n1l : g1 ≠ gl := fun e => by rw [← e, t2.on upd_same] at hgl; cases hgl
  have n2l : g2 ≠ gl := fun e => by rw [← e, upd_same] at hgl; cases hgl
  have t03 := ((t0.trans t1).trans t2).trans t3
  have q4 := q3.and t03
  have hg00 : H g0 = none := q3.none hg0
  have hg10 : H g1 = none := (q3.and t0).none hg1
  have hg20 : H g2 = none := (q3.and (t0.trans t1)).none hg2
  have hgl0 : H gl = none := (q3.and ((t0.trans t1).trans t2)).none hgl
  refine hgen (fun H4 => RS h sd pl sl ol H H4 (m + 1 + uC d' 3) l3 op3 ∧ Same H3 H4 ∧ H4 g0 = some (.lst []) ∧ H4 g1 = some (.lst []) ∧ H4 g2 = some (.lst []) ∧ H4 gl = some (.lst [.ref g0, .ref g1, .ref g2])) ⟨q4, t03, t3.on (t2.on (t1.on upd_same)), t3.on (t2.on upd_same), t3.on upd_same, upd_same⟩ ?_
  clear q4 hg0 hg1 hg2 hgl t0 t1 t2 t3 t03
  rintro H4 ⟨q4, s34, e0, e1, e2, el⟩
  have rt4 := rt3.mono s34.tk
  refine ⟨_, rfl, _, _, rfl, h, _, 2, rfl, q4.s.o, by omega, rfl, by omega, by omega, fun H5 r5 s5 hr5 => ?_⟩
  have q5 := q4.hs oh s5
  refine ⟨rfl, _, rfl, ?_⟩
  by_cases c5 : r5 = 0
  · refine itT (dT (by rw [c5]; rfl)) ?_
    refine ⟨_, rfl, _, rfl, Nat.zero_le _, fun u1 hu1 => ⟨(by show 4 ≤ sizeLine; decide), fun u2 hu2 => ?_⟩⟩
    have s6 := (same_new (o := .tup []) hu1).trans (same_new (o := .tup [.str "repeat", natV many, v3, .ref u1]) hu2)
    refine kk _ _ (.rep many ths []) (1 + W3 + 0) l3 op3 ((q5.and s6).mono (by omega)) ?_ ?_ le3 (by omega) ho3 hol3 fun y hy => ?_
    · rw [Thing.d, endsD]
      exact .tup upd_same (.cons (.str _) (.cons (.int _) (.cons ((rt4.mono s5.t).mono s6.tk) (.cons (.tup ((same_new hu2).on upd_same) .nil) .nil))))
    · exact .rep hm1 hm9 ok3 (by omega) .nil (Nat.zero_le _) (fun z => absurd rfl z)
    · rcases hly3 y hy with h1 | h1
      · exact .inl h1
      · exact .inr (.rep h1)
  · refine itF (dF (fun z => c5 (by have := V.int.inj z; omega))) ?_
    refine ⟨_, rfl, (many : Nat), rfl, by omega, by omega, ?_⟩
    rw [show ((many : Nat) : Int).toNat = many from rfl]
    have hne : ∀ {b : Addr}, H b = none → b ≠ h ∧ b ≠ sd ∧ b ≠ ol := fun hb => pre.s.new hb
    obtain ⟨a01, a02, a03⟩ := hne hg00
    obtain ⟨a11, a12, a13⟩ := hne hg10
    obtain ⟨a21, a22, a23⟩ := hne hg20
    obtain ⟨al1, al2, al3⟩ := hne hgl0
    refine for_it (walk_range (lo := 0) (n := many)) (fun i σ H' => ∃ c6 c7 c8, ∃ x0 x1 x2 : List Nat, σ = [some (.ref h), some (.ref sd), some (.int ((d' + 1 : Nat) : Int)), some (natV many), some v3, some (.ref gl), c6, c7, c8] ∧ RS h sd pl sl ol H H' (m + 1 + uC d' 3 + 1 + i) l3 op3 ∧ Tk H5 H' ∧
        H' g0 = some (.lst (x0.map natV)) ∧ H' g1 = some (.lst (x1.map natV)) ∧ H' g2 = some (.lst (x2.map natV)) ∧ H' gl = some (.lst [.ref g0, .ref g1, .ref g2]) ∧ x0.length ≤ i ∧ x1.length ≤ i ∧ x2.length ≤ i ∧ ∀ k, 1 ≤ k → k ≤ i → k ∈ x0 ∨ k ∈ x1 ∨ k ∈ x2)
      ⟨_, _, _, [], [], [], rfl, q5, Tk.refl _, s5.on e0 a01, s5.on e1 a11, s5.on e2 a21, s5.on el al1, Nat.le_refl _, Nat.le_refl _, Nat.le_refl _, fun k h1 h2 => by omega⟩ (fun _ _ _ _ _ => trivial) ?_ ?_
    · rintro i x σ H6 H7 hi ⟨c6, c7, c8, x0, x1, x2, rfl, q6, k6, f0, f1, f2, fl, l0, l1, l2, cov⟩ ⟨rfl, rfl⟩
      have mem_snoc : ∀ {l : List Nat} {k z : Nat}, k ∈ l → k ∈ l ++ [z] := fun hk => by simp [hk]
      refine ⟨_, rfl, _, rfl, ?_⟩
      refine ⟨_, _, rfl, h, _, 3, rfl, q6.s.o, by omega, rfl, by omega, by omega, fun H8 r8 s8 hr8 => ?_⟩
      have q8 := q6.hs oh s8
      have gl8 := s8.on fl al1
      have g08 := s8.on f0 a01
      have g18 := s8.on f1 a11
      have g28 := s8.on f2 a21
      have ev : (0 : Int) + (i : Int) + 1 = ((i + 1 : Nat) : Int) := by omega
      match r8, hr8 with
      | 0, _ =>
        refine ⟨gl, _, _, .ref g0, rfl, rfl, SqL.of gl8, atI_nat (j := 0) rfl, .inl ⟨rfl, _, SqL.of g08⟩, ?_⟩
        refine ⟨_, rfl, _, _, rfl, rfl, g0, _, _, rfl, rfl, g08, (by rw [List.length_map, sizeLine_eq]; omega), ?_⟩
        refine ⟨_, _, _, x0 ++ [i + 1], x1, x2, rfl, (q8.up hg00 g08 a01 a02 a03).mono (by omega), (k6.trans s8.t).trans (tk_lst g08), ?_, by rw [upd_ne (Ne.symm n01)]; exact g18, by rw [upd_ne (Ne.symm n02)]; exact g28, by rw [upd_ne (Ne.symm n0l)]; exact gl8, by rw [List.length_append]; show x0.length + 1 ≤ _; omega, by omega, by omega, fun k h1 h2 => ?_⟩
        · rw [upd_same, List.map_append]
          show some (HO.lst (_ ++ [V.int ((0 : Int) + (i : Int) + 1)])) = _
          rw [ev]
          rfl
        · by_cases ck : k = i + 1
          · left; rw [ck]; simp
          · rcases cov k h1 (by omega) with z | z | z
            · exact .inl (mem_snoc z)
            · exact .inr (.inl z)
            · exact .inr (.inr z)
      | 1, _ =>
        refine ⟨gl, _, _, .ref g1, rfl, rfl, SqL.of gl8, atI_nat (j := 1) rfl, .inl ⟨rfl, _, SqL.of g18⟩, ?_⟩
        refine ⟨_, rfl, _, _, rfl, rfl, g1, _, _, rfl, rfl, g18, (by rw [List.length_map, sizeLine_eq]; omega), ?_⟩
        refine ⟨_, _, _, x0, x1 ++ [i + 1], x2, rfl, (q8.up hg10 g18 a11 a12 a13).mono (by omega), (k6.trans s8.t).trans (tk_lst g18), by rw [upd_ne n01]; exact g08, ?_, by rw [upd_ne (Ne.symm n12)]; exact g28, by rw [upd_ne (Ne.symm n1l)]; exact gl8, by omega, by rw [List.length_append]; show x1.length + 1 ≤ _; omega, by omega, fun k h1 h2 => ?_⟩
        · rw [upd_same, List.map_append]
          show some (HO.lst (_ ++ [V.int ((0 : Int) + (i : Int) + 1)])) = _
          rw [ev]
          rfl
        · by_cases ck : k = i + 1
          · right; left; rw [ck]; simp
          · rcases cov k h1 (by omega) with z | z | z
            · exact .inl z
            · exact .inr (.inl (mem_snoc z))
            · exact .inr (.inr z)
      | 2, _ =>
        refine ⟨gl, _, _, .ref g2, rfl, rfl, SqL.of gl8, atI_nat (j := 2) rfl, .inl ⟨rfl, _, SqL.of g28⟩, ?_⟩
        refine ⟨_, rfl, _, _, rfl, rfl, g2, _, _, rfl, rfl, g28, (by rw [List.length_map, sizeLine_eq]; omega), ?_⟩
        refine ⟨_, _, _, x0, x1, x2 ++ [i + 1], rfl, (q8.up hg20 g28 a21 a22 a23).mono (by omega), (k6.trans s8.t).trans (tk_lst g28), by rw [upd_ne n02]; exact g08, by rw [upd_ne n12]; exact g18, ?_, by rw [upd_ne (Ne.symm n2l)]; exact gl8, by omega, by omega, by rw [List.length_append]; show x2.length + 1 ≤ _; omega, fun k h1 h2 => ?_⟩
        · rw [upd_same, List.map_append]
          show some (HO.lst (_ ++ [V.int ((0 : Int) + (i : Int) + 1)])) = _
          rw [ev]
          rfl
        · by_cases ck : k = i + 1
          · right; right; rw [ck]; simp
          · rcases cov k h1 (by omega) with z | z | z
            · exact .inl z
            · exact .inr (.inl z)
            · exact .inr (.inr (mem_snoc z))
    · rintro σ H6 ⟨c6, c7, c8, x0, x1, x2, rfl, q6, k6, f0, f1, f2, fl, l0, l1, l2, cov⟩
      -- the endings
      refine ⟨Nat.zero_le _, fun el0 hel => ?_⟩
      have s7 := same_new (o := .lst []) hel
      have q7 := q6.and s7
      have hel0 : H el0 = none := q6.none hel
      obtain ⟨ae1, ae2, ae3⟩ := hne hel0
      have rt7 := ((rt4.mono s5.t).mono k6).mono s7.tk
      have p7 := pre.go q7 le3 ho3 hol3
      let xs : List (List Nat) := [x0, x1, x2]
      let gs : List Addr := [g0, g1, g2]
      have e0l : g0 ≠ el0 := fun e => by rw [← e, f0] at hel; cases hel
      have e1l : g1 ≠ el0 := fun e => by rw [← e, f1] at hel; cases hel
      have e2l : g2 ≠ el0 := fun e => by rw [← e, f2] at hel; cases hel
      have ell : gl ≠ el0 := fun e => by rw [← e, fl] at hel; cases hel
      have hxl : ∀ l ∈ xs, l.length ≤ many := by
        intro l hl
        rcases List.mem_cons.mp hl with rfl | hl
        · exact l0
        rcases List.mem_cons.mp hl with rfl | hl
        · exact l1
        · rw [List.mem_singleton.mp hl]; exact l2
      refine ⟨_, rfl, gl, rfl, ⟨_, SqL.of (s7.on fl)⟩, ?_⟩
      refine for_it (walk_list (xs := [V.ref g0, V.ref g1, V.ref g2])) (fun i σ H' => ∃ c8 vs ends W' l' op', σ = [some (.ref h), some (.ref sd), some (.int ((d' + 1 : Nat) : Int)), some (natV many), some v3, some (.ref gl), c6, some (.ref el0), c8] ∧ RS h sd pl sl ol H H' (m + 1 + uC d' 3 + 1 + many + i * uC d' 2) l' op' ∧ Tk H6 H' ∧
          H' g0 = some (.lst (x0.map natV)) ∧ H' g1 = some (.lst (x1.map natV)) ∧ H' g2 = some (.lst (x2.map natV)) ∧ H' gl = some (.lst [.ref g0, .ref g1, .ref g2]) ∧ H' el0 = some (.lst vs) ∧ RpA H' vs (endsD ends) ∧ EndsOk book Sg (M + 1 + d') ends W' ∧ ends.length ≤ i ∧ l' ≤ l3 ∧ W' + 13 * l'.toNat ≤ 3 * i + 13 * l3.toNat ∧
          (∀ y ∈ op', y ∈ op3) ∧ op'.length ≤ op3.length ∧ (∀ y ∈ op3, y ∈ op' ∨ ∃ e ∈ ends, Lays y e.2) ∧ ∀ j l, j < i → xs[j]? = some l → l ≠ [] → ∃ e ∈ ends, e.1 = l)
        ⟨_, [], [], 0, l3, op3, rfl, q7.mono (by omega), s7.tk, s7.on f0, s7.on f1, s7.on f2, s7.on fl, upd_same, by rw [endsD]; exact .nil, .nil, Nat.le_refl _, Int.le_refl _, by omega, fun y hy => hy, Nat.le_refl _, fun y hy => .inl hy, fun j l hj => by omega⟩ ?_ ?_ ?_
      · rintro i σ H8 _ ⟨c8, vs, ends, W', l', op', rfl, q8, k8, b0, b1, b2, bl, _⟩
        exact SqL.of bl
      · rintro i x σ H8 H9 hi ⟨c8, vs, ends, W', l', op', rfl, q8, k8, b0, b1, b2, bl, be, rve, oke, lne, lee, we, ho8, hol8, hly8, cov8⟩ ⟨rfl, hx⟩
        have hi3 : i < 3 := hi
        have hiu : i * uC d' 2 + uC d' 2 ≤ 3 * uC d' 2 := by
          have : (i + 1) * uC d' 2 ≤ 3 * uC d' 2 := Nat.mul_le_mul_right _ hi3
          rw [Nat.add_mul, Nat.one_mul] at this
          exact this
        have hi1 : (i + 1) * uC d' 2 = i * uC d' 2 + uC d' 2 := by rw [Nat.add_mul, Nat.one_mul]
        obtain ⟨g, l, hgx, hgv, hgl2, hg8, gne, g0ne⟩ : ∃ (g : Addr) (l : List Nat), x = .ref g ∧ xs[i]? = some l ∧ l.length ≤ 9 ∧ H9 g = some (.lst (l.map natV)) ∧ g ≠ el0 ∧ (g ≠ h ∧ g ≠ sd ∧ g ≠ ol) := by
          match i, hi3 with
          | 0, _ => exact ⟨g0, x0, by simpa using hx.symm, rfl, by omega, b0, e0l, a01, a02, a03⟩
          | 1, _ => exact ⟨g1, x1, by simpa using hx.symm, rfl, by omega, b1, e1l, a11, a12, a13⟩
          | 2, _ => exact ⟨g2, x2, by simpa using hx.symm, rfl, by omega, b2, e2l, a21, a22, a23⟩
        subst hgx
        refine ⟨_, rfl, Nat.zero_le _, fun u0 hu0 => ?_⟩
        have sA := same_new (o := .lst []) hu0
        refine ⟨.list (l.map fun n => .int (n : Nat)), .list [], .lst (SqL.of (sA.on hg8)) (dpa_nats l), .lst (SqL.of upd_same) .nil, Dep.shaped (n := 2) (Dep.lst fun dd hdd => by
          obtain ⟨y, _, rfl⟩ := List.mem_map.mp hdd; exact Dep.int _ _) (by omega), (by decide), _, rfl, ?_⟩
        rw [eqv_list_nil]
        have q9 := q8.and sA
        have p9 := pre.go q9 (Int.le_trans lee le3) (fun y hy => ho3 y (ho8 y hy)) (Nat.le_trans hol8 hol3)
        by_cases cl : l = []
        · refine itF (by rw [cl]; decide) ?_
          exact ⟨_, vs, ends, W', l', op', rfl, q9.mono (by omega), k8.trans sA.tk, sA.on b0, sA.on b1, sA.on b2, sA.on bl, sA.on be, rve.mono sA.tk, oke, by omega, lee, by omega, ho8, hol8, hly8, fun j l2 hj hl2 hne2 => by
            by_cases cj : j = i
            · rw [cj, hgv] at hl2
              cases hl2
              exact absurd cl hne2
            · exact cov8 j l2 (by omega) hl2 hne2⟩
        · have hne2 : l.isEmpty = false := by cases l <;> first | rfl | exact absurd rfl cl
          refine itT (by rw [hne2]; rfl) ?_
          refine ⟨_, rfl, .inl ⟨rfl, _, SqL.of (sA.on be)⟩, ?_⟩
          refine ⟨_, rfl, g, _, rfl, .inl ⟨SqL.of (sA.on hg8), fun u1 hu1 => ?_⟩⟩
          have sB := same_new (o := .tup (l.map natV)) hu1
          have qB := q9.and sB
          have pB := pre.go qB (Int.le_trans lee le3) (fun y hy => ho3 y (ho8 y hy)) (Nat.le_trans hol8 hol3)
          have hu1v := upd_same (H := upd H9 u0 (.lst [])) (a := u1) (o := .tup (l.map natV))
          refine ⟨_, rfl, _, rfl, _, rfl, _, _, rfl, rfl, ?_⟩
          refine ⟨_, _, _, _, rfl, h, sd, pl, sl, ol, menu, Sg, M, _, l', op', d', 2, rfl, rfl, congrArg V.int ed, rfl, pB, by omega, by omega, by omega, fun H10 v10 th10 W10 l10 op10 r10 rt10 ok10 ln10 le10 w10 ho10 hol10 hly10 => ?_⟩
          have q10 := qB.trans r10
          refine ⟨(by show 2 ≤ sizeLine; decide), fun u2 hu2 => ?_⟩
          have sC := same_new (o := .tup [.ref u1, v10]) hu2
          have q11 := q10.and sC
          have sAB := sA.trans sB
          have rg : ∀ {b : Addr} {o : HO}, H9 b = some o → b ≠ h → b ≠ sd → b ≠ ol → upd H10 u2 (.tup [.ref u1, v10]) b = some o := fun hb h1 h2 h3 => sC.on (r10.on (sAB.on hb) h1 h2 h3)
          have hel2 := rg be ae1 ae2 ae3
          have tkA : Tk H9 (upd H10 u2 (.tup [.ref u1, v10])) := (sAB.tk.trans r10.t).trans sC.tk
          refine ⟨el0, vs, _, rfl, rfl, hel2, (by
            have e : vs.length = ends.length := by rw [rve.len, endsD_map, List.length_map]
            rw [e, sizeLine_eq]; omega), ?_⟩
          have tkB := tk_lst (o := .lst (vs ++ [.ref u2])) hel2
          refine ⟨_, vs ++ [.ref u2], ends ++ [(l, th10)], W' + (1 + W10 + 0), l10, op10, rfl, (q11.up hel0 hel2 ae1 ae2 ae3).mono (by omega), (k8.trans tkA).trans tkB, by rw [upd_ne e0l]; exact rg b0 a01 a02 a03, by rw [upd_ne e1l]; exact rg b1 a11 a12 a13, by rw [upd_ne e2l]; exact rg b2 a21 a22 a23, by rw [upd_ne ell]; exact rg bl al1 al2 al3, upd_same, ?_, oke.app (.cons cl (by omega) ok10 (by omega) .nil), by rw [List.length_append]; show ends.length + 1 ≤ _; omega, Int.le_trans le10 lee, by omega, fun y hy => ho8 y (ho10 y hy), Nat.le_trans hol10 hol8, fun y hy => ?_, fun j l2 hj hl2 hn2 => ?_⟩
          · rw [endsD_map, List.map_append, ← endsD_map]
            refine ((rve.mono tkA).mono tkB).app (.cons ?_ .nil)
            refine .tup (tkB _ _ upd_same) (.cons (.tup (tkB _ _ (sC.on (r10.t _ _ hu1v))) ?_) (.cons ((rt10.mono sC.tk).mono tkB) .nil))
            have e : (l.map fun n => PyData.int (n : Nat)) = (l.map fun n => ((n : Nat) : Int)).map PyData.int := by rw [List.map_map]; rfl
            rw [e]
            have e2 : l.map natV = (l.map fun n => ((n : Nat) : Int)).map V.int := by rw [List.map_map]; rfl
            rw [e2]
            exact rpa_ints _
          · rcases hly8 y hy with z | ⟨e, he, hz⟩
            · rcases hly10 y z with z | z
              · exact .inl z
              · exact .inr ⟨(l, th10), by simp, z⟩
            · exact .inr ⟨e, by simp [he], hz⟩
          · by_cases cj : j = i
            · rw [cj, hgv] at hl2
              cases hl2
              exact ⟨(l, th10), by simp, rfl⟩
            · obtain ⟨e, he, hz⟩ := cov8 j l2 (by omega) hl2 hn2
              exact ⟨e, by simp [he], hz⟩
      · rintro σ H8 ⟨c8, vs, ends, W', l', op', rfl, q8, k8, b0, b1, b2, bl, be, rve, oke, lne, lee, we, ho8, hol8, hly8, cov8⟩
        have lne : ends.length ≤ 3 := lne
        have cov8 : ∀ j l, j < 3 → xs[j]? = some l → l ≠ [] → ∃ e ∈ ends, e.1 = l := cov8
        have we : W' + 13 * l'.toNat ≤ 3 * 3 + 13 * l3.toNat := we
        refine ⟨_, rfl, _, rfl, ?_⟩
        refine ⟨_, rfl, el0, vs, rfl, .inl ⟨SqL.of be, fun u1 hu1 => ⟨(by show 4 ≤ sizeLine; decide), fun u2 hu2 => ?_⟩⟩⟩
        have s9 := (same_new (o := .tup vs) hu1).trans (same_new (o := .tup [.str "repeat", natV many, v3, .ref u1]) hu2)
        have q8' : RS h sd pl sl ol H H8 (m + 1 + uC d' 3 + 1 + many + 3 * uC d' 2) l' op' := q8
        refine kk _ _ (.rep many ths ends) (1 + W3 + W') l' op' ((q8'.and s9).mono (by omega)) ?_ ?_ (Int.le_trans lee le3) (by omega) (fun y hy => ho3 y (ho8 y hy)) (Nat.le_trans hol8 hol3) fun y hy => ?_
        · rw [Thing.d]
          exact .tup upd_same (.cons (.str _) (.cons (.int _) (.cons ((((rt4.mono s5.t).mono k6).mono k8).mono s9.tk) (.cons (.tup ((same_new hu2).on upd_same) (rve.mono s9.tk)) .nil))))
        · refine .rep hm1 hm9 ok3 (by omega) oke (by omega) fun _ k h1 h2 => ?_
          have inl : ∀ j l, j < 3 → xs[j]? = some l → k ∈ l → ∃ e ∈ ends, k ∈ e.1 := fun j l hj hl hk => by
            obtain ⟨e, he, hz⟩ := cov8 j l hj hl (fun z => by rw [z] at hk; cases hk)
            exact ⟨e, he, by rw [hz]; exact hk⟩
          rcases cov k h1 h2 with z | z | z
          · exact inl 0 x0 (by omega) rfl z
          · exact inl 1 x1 (by omega) rfl z
          · exact inl 2 x2 (by omega) rfl z
        · rcases hly3 y hy with z | z
          · rcases hly8 y z with z | ⟨e, he, hz⟩
            · exact .inl z
            · exact .inr (.ends he hz)
          · exact .inr (.rep z)
theorem cal_law_things2 (T : Tx w K mg) : ∀ n, Cal P w K mg base CX0 (2 * n + 13) "_law_things" ["_law_hand_here", "_law_stock", "_law_deep", "_law_most"] (spThings2 book n) := by
  intro n
  induction n with
  | zero =>
    refine things_of T ?_
    have no : ∀ vs H Q E, ¬ spRepeat2 book 0 vs H Q E := by
      rintro vs H Q E ⟨a, b, c, _, h, sd, pl, sl, ol, menu, Sg, M, m, left, op, d, _, _, _, _, h1, h2, _⟩
      omega
    exact Cal.of T.f_law_repeat T.g_law_repeat sc_law_repeat (fun _ _ _ _ _ _ us hl => match us, hl with | [_, _, _], _ => rfl) (fun vs H Q E h => (no vs H Q E h).elim) (fun _ _ _ _ _ H vs Q E _ h => (no vs H Q E h).elim)
  | succ n ih => exact things_of T (repeat_of T ih)
end
end MC
set_option Elab.async false
set_option linter.all false
set_option maxRecDepth 100000
set_option maxHeartbeats 4000000
namespace MC
open PySem PySem.Spec PyProof.Rows L2
/-- the sizes told by a dict are the weights -/
def SizesOk (book : Str → Option (List Thing)) (kvs : List (Key × V)) : Prop := ∀ x ths Sg n W, book x = some ths → ThsOk book Sg n ths W → valV kvs (.inr x) = some (.int (W : Nat))
def spEntr (n : Nat) : Sp := Sp2 fun a b H Q _ => ∃ (book : Str → Option (List Thing)) (ths : List Thing) (Sg : List Str) (k W : Nat) (sd : Addr) (kvs : List (Key × V)), Rp H a (.tuple (thingsD ths)) ∧ ThsOk book Sg k ths W ∧ k < n ∧ b = .ref sd ∧ H sd = some (.dK kvs) ∧ SizesOk book kvs ∧ Q (.int (W : Nat)) H
section
variable {P : Program} {w : World} {K : PySem.W.Frag} {mg : Str → Option Value} {base : Heap}
/- slots of _law_entries: 0 _law_things_here, 1 _law_sizes, 2 _law_total, 3 _law_thing, 4 _law_numbers, 5 _law_inner -/
theorem sc_law_entries : FnScope ["_law_things_here", "_law_sizes", "_law_total", "_law_thing", "_law_numbers", "_law_inner"] ["_law_things_here", "_law_sizes"] (defScope s_law_entries) := ⟨rfl, rfl, rfl, by decide +kernel, rfl, by decide +kernel, by decide +kernel⟩
theorem cal_law_entries (T : Tx w K mg) : ∀ n, Cal P w K mg base CX0 (n + 1) "_law_entries" ["_law_things_here", "_law_sizes"] (spEntr n) := by
  intro n
  induction n with
  | zero =>
    have no : ∀ vs H Q E, ¬ spEntr 0 vs H Q E := by
      rintro vs H Q E ⟨a, b, _, book, ths, Sg, k, W, sd, kvs, _, _, h, _⟩
      omega
    exact Cal.of T.f_law_entries T.g_law_entries sc_law_entries (fun _ _ _ _ _ _ us hl => match us, hl with | [_, _], _ => rfl) (fun vs H Q E h => (no vs H Q E h).elim) (fun _ _ _ _ _ H vs Q E _ h => (no vs H Q E h).elim)
  | succ n ih =>
  refine Cal.of T.f_law_entries T.g_law_entries sc_law_entries (fun _ _ _ _ _ _ us hl => match us, hl with | [_, _], _ => rfl) (fun vs H Q E h => by obtain ⟨x0, x1, rfl, _⟩ := h; rfl) (fun f cdv A outer s H vs Q E hr h => ?_)
  obtain ⟨v0, v1, rfl, h⟩ := h
  refine ⟨_, (pss_cons (ps_set (i := 2) sc_law_entries.nd rfl (Or.inl rfl) pe_int)
    (pss_cons (ps_for PassesOwn.never rfl (pi_tup (pv 0)) (pg_name (i := 3) sc_law_entries.nd rfl (Or.inl rfl)) (pss_one (ps_if (pt_cmpR op_eq (pe_ix ix_tup (pv 3) pe_int (fun _ _ => rfl)) pe_str (nomark _)) (pss_one (ps_set (i := 2) sc_law_entries.nd rfl (Or.inl rfl) (pe_op op_add (pe_op op_add (pv 2) pe_int) (pe_dget (hu_of hr) (pv 1) (pe_ix ix_tup (pv 3) pe_int (fun _ _ => rfl)) (fun _ _ => rfl))))) (pss_one (ps_if (pt_cmpR op_eq (pe_ix ix_tup (pv 3) pe_int (fun _ _ => rfl)) pe_str (nomark _)) (pss_cons (ps_set (i := 2) sc_law_entries.nd rfl (Or.inl rfl) (pe_op op_add (pe_op op_add (pv 2) pe_int) (pc (ih) hr (pa_cons (pe_ix ix_tup (pv 3) pe_int (fun _ _ => rfl)) (pa_cons (pv 1) pa_nil)))))
          (pss_one (ps_for PassesOwn.never rfl (pi_tup (pe_ix ix_tup (pv 3) pe_int (fun _ _ => rfl))) (pg_tup (by rfl) (pgs_cons (pg_name (i := 4) sc_law_entries.nd rfl (Or.inl rfl)) (pgs_cons (pg_name (i := 5) sc_law_entries.nd rfl (Or.inl rfl)) pgs_nil))) (pss_one (ps_set (i := 2) sc_law_entries.nd rfl (Or.inl rfl) (pe_op op_add (pe_op op_add (pv 2) pe_int) (pc (ih) hr (pa_cons (pv 5) (pa_cons (pv 1) pa_nil))))))))) (pss_one (ps_if (pt_cmpR op_ne (pe_ix ix_tup (pv 3) pe_int (fun _ _ => rfl)) pe_str (nomark _)) (pss_one (ps_set (i := 2) sc_law_entries.nd rfl (Or.inl rfl) (pe_op op_add (pv 2) pe_int))) pss_nil)))))))
    (pss_one (ps_ret (pv 2))))), ?_⟩
  obtain ⟨book, ths, Sg, k, W, sd, kvs, hths, ok, hk, rfl, hsd, hsz, kk⟩ := h
  obtain ⟨a, vs, rfl, ha, rv⟩ := hths.tup_inv
  have hvl : vs.length = ths.length := by rw [rv.len, thingsD_map, List.length_map]
  refine ⟨_, rfl, a, rfl, ⟨vs, SqT.of ha⟩, for_it (walk_tup (xs := vs)) (fun i σ H' => ∃ c3 c4 c5, ∃ W1 W2 : Nat, σ = [some (.ref a), some (.ref sd), some (.int (W1 : Nat)), c3, c4, c5] ∧ H' = H ∧ ThsOk book Sg k (ths.drop i) W2 ∧ W1 + W2 = W)
    ⟨_, _, _, 0, W, rfl, rfl, ok, Nat.zero_add _⟩ ?_ ?_ ?_⟩
  · rintro i σ H' _ ⟨c3, c4, c5, W1, W2, rfl, rfl, _⟩
    exact SqT.of ha
  · rintro i x σ H1 H2 hi ⟨c3, c4, c5, W1, W2, rfl, rfl, ok2, ew⟩ ⟨rfl, hx⟩
    obtain ⟨th, hth, rth⟩ := rpa_things_get rv hx
    rw [drop_of_get hth] at ok2
    cases ok2 with
    | cons okt okr =>
    rename_i Wt Wr
    cases th with
    | bar size vss =>
      cases okt
      have rth' : Rp H2 x (barD size vss) := by rw [Thing.d] at rth; exact rth
      obtain ⟨b, vl, vv, rfl, hb, _, _⟩ := rth'.bar_inv
      refine ⟨_, rfl, _, _, _, _, rfl, rfl, SqT.of (hb), atI_nat (j := 0) rfl, rfl, _, rfl, itF (bF (by decide +kernel)) ?_⟩
      refine ⟨_, rfl, _, _, _, _, rfl, rfl, SqT.of (hb), atI_nat (j := 0) rfl, rfl, _, rfl, itF (bF (by decide +kernel)) ?_⟩
      refine ⟨_, rfl, _, _, _, _, rfl, rfl, SqT.of (hb), atI_nat (j := 0) rfl, rfl, _, rfl, itT (by decide +kernel) ?_⟩
      exact ⟨_, rfl, _, _, rfl, rfl, _, _, _, W1 + 1, Wr, rfl, rfl, okr, by omega⟩
    | sign s =>
      cases okt
      obtain ⟨b, rfl, hb⟩ := rth.sign_inv
      refine ⟨_, rfl, _, _, _, _, rfl, rfl, SqT.of (hb), atI_nat (j := 0) rfl, rfl, _, rfl, itF (bF (by decide +kernel)) ?_⟩
      refine ⟨_, rfl, _, _, _, _, rfl, rfl, SqT.of (hb), atI_nat (j := 0) rfl, rfl, _, rfl, itF (bF (by decide +kernel)) ?_⟩
      refine ⟨_, rfl, _, _, _, _, rfl, rfl, SqT.of (hb), atI_nat (j := 0) rfl, rfl, _, rfl, itF (bF (by decide +kernel)) ?_⟩
      exact ⟨_, _, _, W1, Wr, rfl, rfl, okr, by omega⟩
    | turn goals =>
      cases okt
      obtain ⟨b, g, rfl, hb, _⟩ := rth.turn_inv
      refine ⟨_, rfl, _, _, _, _, rfl, rfl, SqT.of (hb), atI_nat (j := 0) rfl, rfl, _, rfl, itF (bF (by decide +kernel)) ?_⟩
      refine ⟨_, rfl, _, _, _, _, rfl, rfl, SqT.of (hb), atI_nat (j := 0) rfl, rfl, _, rfl, itF (bF (by decide +kernel)) ?_⟩
      refine ⟨_, rfl, _, _, _, _, rfl, rfl, SqT.of (hb), atI_nat (j := 0) rfl, rfl, _, rfl, itT (by decide +kernel) ?_⟩
      exact ⟨_, rfl, _, _, rfl, rfl, _, _, _, W1 + 1, Wr, rfl, rfl, okr, by omega⟩
    | use f up by_ =>
      cases okt with
      | use u1 u2 u3 u4 u5 =>
      rename_i Sg' n' W' ths'
      obtain ⟨b, vb, rfl, hb, _⟩ := rth.use_inv
      have hv := hsz f ths' Sg' n' W' u2 u3
      refine ⟨_, rfl, _, _, _, _, rfl, rfl, SqT.of (hb), atI_nat (j := 0) rfl, rfl, _, rfl, itT (dT rfl) ?_⟩
      refine ⟨_, rfl, _, _, rfl, rfl, _, rfl, _, rfl, _, _, _, _, rfl, rfl, SqT.of (hb), atI_nat (j := 1) rfl, sd, _, rfl, dgetK hsd hv, _, _, rfl, rfl, ?_⟩
      refine ⟨some (.ref b), c4, c5, W1 + 1 + W', Wr, ?_, rfl, okr, by omega⟩
      rfl
    | rep many tb ends =>
      cases okt with
      | rep m1 m2 m3 m4 m5 m6 m7 =>
      rename_i n' Wb We
      obtain ⟨b, vt, ve, rfl, hb, hvt, hve⟩ := rth.rep_inv
      obtain ⟨ae, ves, rfl, hae, rve⟩ := hve.tup_inv
      have hvel : ves.length = ends.length := by rw [rve.len, endsD_map, List.length_map]
      refine ⟨_, rfl, _, _, _, _, rfl, rfl, SqT.of (hb), atI_nat (j := 0) rfl, rfl, _, rfl, itF (bF (by decide +kernel)) ?_⟩
      refine ⟨_, rfl, _, _, _, _, rfl, rfl, SqT.of (hb), atI_nat (j := 0) rfl, rfl, _, rfl, itT (dT rfl) ?_⟩
      refine ⟨_, rfl, _, _, rfl, rfl, _, rfl, _, _, _, _, rfl, rfl, SqT.of (hb), atI_nat (j := 2) rfl, _, rfl, ?_⟩
      refine ⟨_, _, rfl, book, tb, Sg, n', Wb, sd, kvs, hvt, m3, by omega, rfl, hsd, hsz, _, _, rfl, rfl, ?_⟩
      refine ⟨_, rfl, _, _, _, _, rfl, rfl, SqT.of (hb), atI_nat (j := 3) rfl, ae, rfl, ⟨ves, SqT.of hae⟩, ?_⟩
      refine for_it (walk_tup (xs := ves)) (fun j σ H' => ∃ c4 c5, ∃ V1 V2 : Nat, σ = [some (.ref a), some (.ref sd), some (.int (V1 : Nat)), some (.ref b), c4, c5] ∧ H' = H2 ∧ EndsOk book Sg n' (ends.drop j) V2 ∧ V1 + V2 = W1 + 1 + Wb + We)
        ⟨_, _, W1 + 1 + Wb, We, rfl, rfl, m5, rfl⟩ ?_ ?_ ?_
      · rintro j σ H' _ ⟨c4, c5, V1, V2, rfl, rfl, _⟩
        exact SqT.of hae
      · rintro j y σ H3 H4 hj ⟨c4, c5, V1, V2, rfl, rfl, ok3, ev⟩ ⟨rfl, hy⟩
        obtain ⟨en, q, vn, vth, hen, rfl, hq, hn, hth2⟩ := rpa_ends_get rve hy
        rw [drop_of_get hen] at ok3
        obtain ⟨ns, eths⟩ := en
        cases ok3 with
        | cons c1 c2 c3' c4' c5' =>
        rename_i Wx Wy
        refine ⟨q, _, rfl, SqT.of hq, rfl, _, _, rfl, _, _, rfl, rfl, ?_⟩
        refine ⟨_, rfl, _, _, rfl, rfl, _, rfl, _, rfl, ?_⟩
        refine ⟨_, _, rfl, book, eths, Sg, n', Wx, sd, kvs, hth2, c3', by omega, rfl, hsd, hsz, _, _, rfl, rfl, ?_⟩
        refine ⟨some vn, some vth, V1 + 1 + Wx, Wy, ?_, rfl, c5', by omega⟩
        rfl
      · rintro σ H3 ⟨c4, c5, V1, V2, rfl, rfl, ok3, ev⟩
        rw [hvel, List.drop_length] at ok3
        cases ok3
        exact ⟨_, _, _, V1, Wr, rfl, rfl, okr, by omega⟩
  · rintro σ H1 ⟨c3, c4, c5, W1, W2, rfl, rfl, ok2, ew⟩
    rw [hvl, List.drop_length] at ok2
    cases ok2
    have e : W1 = W := by omega
    rw [e]
    exact ⟨_, rfl, kk⟩
end
/-! ### a row -/
def nineS : List Str := ["q", "rr", "sss", "t", "uu", "vvv", "w", "xx", "yyy"]
def rowN : Nat := 13197005845
theorem stK_merge (pl sl ol : Addr) (left : Int) : mergeK [] [((.inr "phrases" : Key), V.ref pl), (.inr "signs", .ref sl), (.inr "open", .ref ol), (.inr "left", .int left)] = stK pl sl ol left := by
  show putK (putK (putK (putK [] (.inr "phrases" : Key) (V.ref pl)) (.inr "signs" : Key) (V.ref sl)) (.inr "open" : Key) (V.ref ol)) (.inr "left" : Key) (V.int left) = _
  have e1 : putK [] (.inr "phrases" : Key) (V.ref pl) = [((.inr "phrases" : Key), V.ref pl)] := putK_new _ rfl
  have e2 : putK [((.inr "phrases" : Key), V.ref pl)] (.inr "signs" : Key) (V.ref sl) = [((.inr "phrases" : Key), V.ref pl), (.inr "signs", .ref sl)] := putK_new _ ((valV_neg (kne (by decide +kernel))).trans rfl)
  have e3 : putK [((.inr "phrases" : Key), V.ref pl), (.inr "signs", .ref sl)] (.inr "open" : Key) (V.ref ol) = [((.inr "phrases" : Key), V.ref pl), (.inr "signs", .ref sl), (.inr "open", .ref ol)] := putK_new _ ((valV_neg (kne (by decide +kernel))).trans ((valV_neg (kne (by decide +kernel))).trans rfl))
  have e4 : putK [((.inr "phrases" : Key), V.ref pl), (.inr "signs", .ref sl), (.inr "open", .ref ol)] (.inr "left" : Key) (V.int left) = [((.inr "phrases" : Key), V.ref pl), (.inr "signs", .ref sl), (.inr "open", .ref ol), (.inr "left", .int left)] := putK_new _ ((valV_neg (kne (by decide +kernel))).trans ((valV_neg (kne (by decide +kernel))).trans ((valV_neg (kne (by decide +kernel))).trans rfl)))
  rw [e1, e2, e3, e4]
  rfl
theorem cut_take (xs : List V) (k : Nat) : cutV xs none (some (k : Int)) = xs.take k := by
  unfold cutV
  rw [HT.sIx_none, HT.sIx_nat]
  show (xs.drop 0).take (min k xs.length - 0) = _
  rw [List.drop_zero, Nat.sub_zero]
  by_cases c : k ≤ xs.length
  · rw [Nat.min_eq_left c]
  · rw [Nat.min_eq_right (by omega), List.take_length, List.take_of_length_le (by omega)]
def spRow : Sp := Sp3 fun a b c H Q _ => ∃ (book : Str → Option (List Thing)) (h pl : Addr) (mvs : List V) (menu : List (Str × Nat)) (M m most : Nat), a = .ref h ∧ b = .ref pl ∧ c = .int (most : Nat) ∧ HandOk H h m ∧ H pl = some (.lst mvs) ∧ All2 (MenuV H) mvs menu ∧ pl ≠ h ∧
  MenuOk book menu M most ∧ menu.length ≤ 20 ∧ m + rowN ≤ 1000000000000000 ∧
  ∀ H' v ths W Sg, HS h H H' (m + rowN) → Rp H' v (.tuple (thingsD ths)) → ThsOk book Sg (M + 7) ths W → (∀ y ∈ Sg, Lays y ths) → ths.length ≤ 40 → W ≤ 20 + 13 * most → Q v H'
theorem lays_sign {y : Str} : ∀ {l : List Str}, y ∈ l → Lays y (l.map Thing.sign)
  | x :: r, h => by
    rcases List.mem_cons.mp h with rfl | h
    · exact .here
    · exact .there (lays_sign h)
theorem ths_signs {book : Str → Option (List Thing)} {Sg : List Str} {n : Nat} : ∀ l : List Str, ThsOk book Sg n (l.map Thing.sign) 0
  | [] => .nil
  | x :: r => .cons (W := 0) (W' := 0) .sign (ths_signs r)
section
variable {P : Program} {w : World} {K : PySem.W.Frag} {mg : Str → Option Value} {base : Heap}
/- slots of _law_row_of: 0 _law_hand_here, 1 _law_phrases, 2 _law_most, 3 _law_signs, 4 _law_stock, 5 _law_deep, 6 _law_things_here, 7 _law_sign -/
theorem sc_law_row_of : FnScope ["_law_hand_here", "_law_phrases", "_law_most", "_law_signs", "_law_stock", "_law_deep", "_law_things_here", "_law_sign"] ["_law_hand_here", "_law_phrases", "_law_most"] (defScope s_law_row_of) := ⟨rfl, rfl, rfl, by decide +kernel, rfl, by decide +kernel, by decide +kernel⟩
theorem cal_law_row_of (T : Tx w K mg) : Cal P w K mg base CX0 26 "_law_row_of" ["_law_hand_here", "_law_phrases", "_law_most"] spRow := by
  refine Cal.of T.f_law_row_of T.g_law_row_of sc_law_row_of (fun _ _ _ _ _ _ us hl => match us, hl with | [_, _, _], _ => rfl) (fun vs H Q E h => by obtain ⟨x0, x1, x2, rfl, _⟩ := h; rfl) (fun f cdv A outer s H vs Q E hr h => ?_)
  obtain ⟨v0, v1, v2, rfl, h⟩ := h
  obtain ⟨book, h, pl, mvs, menu, M, m, most, rfl, rfl, rfl, o, hpl, hmv, hph, hmenu, hml, hn, kk⟩ := h
  refine ⟨_, (pss_cons (ps_set (i := 3) sc_law_row_of.nd rfl (Or.inl rfl) (pe_lst (pa_cons pe_str (pa_cons pe_str (pa_cons pe_str (pa_cons pe_str (pa_cons pe_str (pa_cons pe_str (pa_cons pe_str (pa_cons pe_str (pa_cons pe_str pa_nil)))))))))))
    (pss_cons (ps_set (i := 3) sc_law_row_of.nd rfl (Or.inl rfl) (pe_slice sl_list (pv 3) po_none (po_some (pe_ix ix_list (pe_lst (pa_cons (pc (cal_law_take T) hr (pa_cons (pv 0) (pa_cons pe_int pa_nil))) (pa_cons pe_int pa_nil))) (pe_callTy call_int1 (by rfl) T.b_int (by decide +kernel) (pa_cons (pe_cmpR op_eq (pc (cal_law_take T) hr (pa_cons (pv 0) (pa_cons pe_int pa_nil))) pe_int (nomark _)) pa_nil)) (fun _ _ => rfl)))))
    (pss_cons (ps_set (i := 4) sc_law_row_of.nd rfl (Or.inl rfl) (pe_disp (pps_cons pe_str (pv 1) (pps_cons pe_str (pv 3) (pps_cons pe_str (pe_callTy call_list_of (by rfl) T.b_list (by decide +kernel) (pa_cons (pv 3) pa_nil)) (pps_cons pe_str (pv 2) pps_nil)))) (by rfl) (by rfl) (fun z => by cases z) (by decide)))
    (pss_cons (ps_set (i := 5) sc_law_row_of.nd rfl (Or.inl rfl) (pe_ix ix_list (pe_lst (pa_cons pe_int (pa_cons pe_int (pa_cons pe_int (pa_cons pe_int pa_nil))))) (pc (cal_law_take T) hr (pa_cons (pv 0) (pa_cons pe_int pa_nil))) (fun _ _ => rfl)))
    (pss_cons (ps_set (i := 6) sc_law_row_of.nd rfl (Or.inl rfl) (pc (cal_law_things2 (book := book) T 6) hr (pa_cons (pv 0) (pa_cons (pv 4) (pa_cons (pv 5) (pa_cons (pe_ix ix_list (pe_lst (pa_cons pe_int (pa_cons pe_int (pa_cons pe_int (pa_cons pe_int pa_nil))))) (pc (cal_law_take T) hr (pa_cons (pv 0) (pa_cons pe_int pa_nil))) (fun _ _ => rfl)) pa_nil))))))
    (pss_one (ps_ret (pe_op op_catA (pv 6) (pe_callTy call_tuple_of (by rfl) T.b_tuple (by decide +kernel) (pa_cons (pe_lc (own := [("_law_sign", 7)]) (by rfl) sc_law_row_of.nd (pi_list (pe_dget (hu_of hr) (pv 4) pe_str (fun _ _ => rfl))) (blkOk_by (own := [("_law_sign", 7)]) (N := ["_law_hand_here", "_law_phrases", "_law_most", "_law_signs", "_law_stock", "_law_deep", "_law_things_here", "_law_sign"]) (sc := defScope s_law_row_of) (by decide +kernel)) (fun _ _ _ _ _ => (pg_name (i := 7) sc_law_row_of.nd rfl (Or.inl rfl))) (fun _ _ _ _ _ => pts_nil) (fun _ _ _ _ _ => (pe_tup (pa_cons pe_str (pa_cons (pv 7) pa_nil))))) pa_nil)))))))))), ?_⟩
  unfold rowN at hn kk
  refine ⟨(by show 9 ≤ sizeLine; decide), fun n1 hn1 => ?_⟩
  have s1 := HS.same o (same_new (o := .lst (nineS.map V.str)) hn1)
  have hn1h := o.ne hn1
  refine ⟨_, rfl, _, rfl, _, _, rfl, h, m, 3, rfl, s1.o, by omega, rfl, by omega, by omega, fun H2 r2 s2 hr2 => ?_⟩
  have s12 := s1.trans s2
  have hn2 := s2.on (upd_same (H := H) (a := n1) (o := .lst (nineS.map V.str))) hn1h
  refine ⟨(by show 2 ≤ sizeLine; decide), fun z1 hz1 => ?_⟩
  have t3 := same_new (o := .lst [.int (r2 : Nat), .int 9]) hz1
  have s13 := s12.and t3
  have hz1h := s12.o.ne hz1
  refine ⟨_, rfl, _, _, rfl, h, m + 1, 8, rfl, s13.o, by omega, rfl, by omega, by omega, fun H4 r4 s4 hr4 => ?_⟩
  have s14 := s13.trans s4
  have hz14 := s4.on (upd_same (H := H2) (a := z1) (o := .lst [.int (r2 : Nat), .int 9])) hz1h
  have hn4 := s4.on (t3.on hn2) hn1h
  refine ⟨rfl, .inr ⟨_, rfl, ?_⟩⟩
  obtain ⟨ks, hks, hkv⟩ : ∃ ks : Nat, ks ≤ 9 ∧ atI [V.int (r2 : Nat), V.int 9] (if decide (V.int (r4 : Nat) = V.int 0) = true then 1 else 0) = some (.int (ks : Nat)) := by
    by_cases cz : decide (V.int (r4 : Nat) = V.int 0) = true
    · exact ⟨9, by omega, by rw [if_pos cz]; rfl⟩
    · exact ⟨r2, by omega, by rw [if_neg cz]; rfl⟩
  refine ⟨z1, _, _, _, rfl, rfl, SqL.of hz14, hkv, ?_⟩
  refine ⟨(ks : Nat), rfl, n1, _, rfl, SqL.of hn4, fun sl hsl => ?_⟩
  obtain ⟨Sg, hSg⟩ : ∃ Sg, Sg = nineS.take ks := ⟨_, rfl⟩
  have ecut : cutV (nineS.map V.str) none (some (ks : Int)) = Sg.map V.str := by rw [cut_take, hSg, List.map_take]
  rw [ecut]
  have hSgl : Sg.length ≤ 9 := by rw [hSg, List.length_take]; exact Nat.min_le_right _ _
  have hSgo : ∀ y ∈ Sg, PyData.strOk y = true := fun y hy => by
    rw [hSg] at hy
    exact (by decide +kernel : ∀ y ∈ nineS, PyData.strOk y = true) y (List.mem_of_mem_take hy)
  have t5 := same_new (o := .lst (Sg.map V.str)) hsl
  have s15 := s14.and t5
  have hslh := s14.o.ne hsl
  have hsl0 : H sl = none := none_hs s14 hsl
  -- the stock
  intro sd hsd
  have t6 := same_new (o := .dK []) hsd
  have hsd0 : H sd = none := none_hs s15 hsd
  have hsdh := s15.o.ne hsd
  have hsds : sl ≠ sd := fun e => by rw [← e, upd_same] at hsd; cases hsd
  refine ⟨_, rfl, _, rfl, ?_⟩
  refine ⟨_, rfl, sl, _, rfl, .inl (SqL.of (t6.on upd_same)), fun ol hol => ?_⟩
  have t7 := same_new (o := .lst (Sg.map V.str)) hol
  have s17 := (s15.and t6).and t7
  have hol0 : H ol = none := none_hs (s15.and t6) hol
  have holh := (s15.and t6).o.ne hol
  have hols : sl ≠ ol := fun e => by rw [← e, t6.on upd_same] at hol; cases hol
  have hold : sd ≠ ol := fun e => by rw [← e, upd_same] at hol; cases hol
  have hslv := t7.on (t6.on (upd_same (H := H4) (a := sl) (o := .lst (Sg.map V.str))))
  have holv := upd_same (H := upd (upd H4 sl (.lst (Sg.map V.str))) sd (.dK [])) (a := ol) (o := .lst (Sg.map V.str))
  have hsdv := t7.on (upd_same (H := upd H4 sl (.lst (Sg.map V.str))) (a := sd) (o := .dK []))
  refine ⟨_, rfl, hsdv, [(.inr "phrases", .ref pl), (.inr "signs", .ref sl), (.inr "open", .ref ol), (.inr "left", .int (most : Nat))], rfl, (by show 4 ≤ 15; decide), ?_⟩
  rw [stK_merge]
  have hplv := s17.on hpl hph
  refine hgen (fun H8 => HS h H H8 (m + 1 + 1) ∧ H8 sd = some (.dK (stK pl sl ol (most : Nat))) ∧ H8 sl = some (.lst (Sg.map V.str)) ∧ H8 ol = some (.lst (Sg.map V.str)) ∧ H8 pl = some (.lst mvs)) ⟨?_, upd_same, by rw [upd_ne hsds]; exact hslv, by rw [upd_ne (Ne.symm hold)]; exact holv, by rw [upd_ne (fun e => by rw [e, hsd0] at hpl; cases hpl)]; exact hplv⟩ ?_
  · refine ⟨fun b u q z => ?_, s17.t.trans (tk_dict hsdv), ?_⟩
    · rw [upd_ne (ne_of_none q hsd0)]
      exact s17.k b u q z
    · obtain ⟨d, c, t, h1, h2⟩ := s17.o
      exact ⟨d, c, t, by rw [upd_ne (Ne.symm hsdh)]; exact h1, h2⟩
  clear hslv holv hsdv t7 t6 s17 t5 s15 hol hsd hsl hplv
  rintro H8 ⟨s8, dsd, dsl, dol, dpl⟩
  -- the depth
  refine ⟨(by show 4 ≤ sizeLine; decide), fun z2 hz2 => ?_⟩
  have t9 := same_new (o := .lst (([2, 2, 2, 6] : List Nat).map natV)) hz2
  have hz2h := s8.o.ne hz2
  refine ⟨_, rfl, _, _, rfl, h, m + 2, 4, rfl, (s8.and t9).o, by omega, rfl, by omega, by omega, fun H10 r10 s10 hr10 => ?_⟩
  have hz210 := s10.on (upd_same (H := H8) (a := z2) (o := .lst (([2, 2, 2, 6] : List Nat).map natV))) hz2h
  obtain ⟨d, hdm, hdv⟩ : ∃ d : Nat, (d = 2 ∨ d = 6) ∧ ([2, 2, 2, 6] : List Nat)[r10]? = some d := by
    have hl : ([2, 2, 2, 6] : List Nat).length = 4 := rfl
    have hg : ([2, 2, 2, 6] : List Nat)[r10]? = some _ := List.getElem?_eq_getElem (by rw [hl]; exact hr10)
    exact ⟨_, (by decide : ∀ x ∈ ([2, 2, 2, 6] : List Nat), x = 2 ∨ x = 6) _ (List.mem_of_getElem? hg), hg⟩
  refine ⟨z2, _, _, natV d, rfl, rfl, SqL.of hz210, atI_nat (by rw [List.getElem?_map, hdv]; rfl), ?_⟩
  have s11 := (s8.and t9).trans s10
  refine ⟨_, rfl, _, rfl, _, rfl, (by show 4 ≤ sizeLine; decide), fun z3 hz3 => ?_⟩
  have t12 := same_new (o := .lst (([5, 8, 8, 20] : List Nat).map natV)) hz3
  have hz3h := s11.o.ne hz3
  refine ⟨_, rfl, _, _, rfl, h, m + 3, 4, rfl, (s11.and t12).o, by omega, rfl, by omega, by omega, fun H13 r13 s13' hr13 => ?_⟩
  have hz313 := s13'.on (upd_same (H := H10) (a := z3) (o := .lst (([5, 8, 8, 20] : List Nat).map natV))) hz3h
  obtain ⟨mo, hmo, hmov⟩ : ∃ mo : Nat, (mo = 5 ∨ mo = 8 ∨ mo = 20) ∧ ([5, 8, 8, 20] : List Nat)[r13]? = some mo := by
    have hl : ([5, 8, 8, 20] : List Nat).length = 4 := rfl
    have hg : ([5, 8, 8, 20] : List Nat)[r13]? = some _ := List.getElem?_eq_getElem (by rw [hl]; exact hr13)
    exact ⟨_, (by decide : ∀ x ∈ ([5, 8, 8, 20] : List Nat), x = 5 ∨ x = 8 ∨ x = 20) _ (List.mem_of_getElem? hg), hg⟩
  refine ⟨z3, _, _, natV mo, rfl, rfl, SqL.of hz313, atI_nat (by rw [List.getElem?_map, hmov]; rfl), ?_⟩
  have s14' := (s11.and t12).trans s13'
  have s8d := ((HS.same s8.o t9).trans s10).trans ((HS.same s10.o t12).trans s13')
  have hcost : uC d mo ≤ 13197005841 := by
    rcases hdm with rfl | rfl <;> rcases hmo with rfl | rfl | rfl <;> decide
  have hd6 : d ≤ 6 := by omega
  have hmo20 : mo ≤ 20 := by omega
  have hplol : pl ≠ ol := fun e => by rw [e, hol0] at hpl; cases hpl
  have pre : Pre book H13 h sd pl sl ol menu Sg M (m + 3 + 1) (most : Nat) Sg := by
    refine ⟨⟨⟨mvs, s8d.on dpl hph, hmv.mono fun v e ⟨q, e1, e2⟩ => ⟨q, e1, s14'.t _ _ e2⟩⟩, s8d.on dsl hslh, hph, hplol, hslh, hols, holh⟩, ⟨s14'.o, s8d.on dsd hsdh, s8d.on dol holh⟩, hmenu, hml, hSgo, by omega, by omega⟩
  refine ⟨_, _, _, _, rfl, h, sd, pl, sl, ol, menu, Sg, M, m + 3 + 1, (most : Nat), Sg, d, mo, rfl, rfl, rfl, rfl, pre, hd6, hmo20, by omega, fun H14 v14 ths W l14 op14 r14 rt14 ok14 ln14 le14 w14 ho14 hol14 hly14 => ?_⟩
  -- the open signs behind
  have hs14 : HS h H H14 (m + 3 + 1 + uC d mo) := by
    refine ⟨fun b u q z => ?_, s14'.t.trans r14.t, r14.s.o⟩
    refine r14.k b u (s14'.k b u q z) fun y => ?_
    rcases List.mem_cons.mp y with rfl | y
    · exact z (List.mem_singleton.mpr rfl)
    rcases List.mem_cons.mp y with rfl | y
    · rw [hsd0] at q; cases q
    · rw [List.mem_singleton.mp y, hol0] at q; cases q
  refine ⟨_, rfl, ?_⟩
  refine ⟨_, rfl, sd, _, rfl, dgetK r14.s.d stK_op, ol, rfl, ⟨_, SqL.of r14.s.p⟩, fun D hD => ?_⟩
  refine lc_rp (walk_list (xs := op14.map V.str)) hD (thingsD (op14.map Thing.sign)) (by rw [thingsD_map, List.length_map, List.length_map, List.length_map]) (by rw [List.length_map, sizeLine_eq]; omega) (fun H s => SqL.of (s.on r14.s.p)) ?_ ?_
  · rintro j x H15 H16 dd hj s e ⟨rfl, hx⟩ C N kk2
    rw [List.getElem?_map] at hx
    rw [thingsD_map, List.getElem?_map, List.getElem?_map] at e
    cases eo : op14[j]? with
    | none => rw [eo] at hx; cases hx
    | some y =>
      rw [eo] at hx e
      cases hx
      have e := Option.some.inj e
      refine ⟨rfl, yesT ⟨_, rfl, (by show 2 ≤ sizeLine; decide), fun u hu => ?_⟩⟩
      refine kk2 _ _ (same_new hu) ?_
      rw [← e, Thing.d]
      exact .tup upd_same (.cons (.str _) (.cons (.str _) .nil))
  · intro H15 us s15 hus rus
    refine ⟨D, us, rfl, .inl ⟨SqL.of hus, fun u hu => ?_⟩⟩
    have t16 := same_new (o := .tup us) hu
    have r16 : Rp (upd H15 u (.tup us)) (.ref u) (.tuple (thingsD (op14.map Thing.sign))) := .tup upd_same (rus.mono t16.tk)
    refine catA_rp ((rt14.mono s15.tk).mono t16.tk) r16 (by rw [thingsD_map, thingsD_map, List.length_map, List.length_map, List.length_map, sizeLine_eq]; omega) fun H17 v17 s17' r17 => ?_
    rw [← thingsD_app] at r17
    refine kk H17 v17 (ths ++ op14.map Thing.sign) W Sg ((((hs14.and s15).and t16).and s17').mono (by omega)) r17 ?_ ?_ ?_ ?_
    · have h1 := ok14.up (m := M + 7) (by omega)
      have h2 := h1.app (ths_signs (book := book) (Sg := Sg) (n := M + 7) op14)
      exact h2
    · intro y hy
      rcases hly14 y hy with z | z
      · exact (lays_sign z).right ths
      · exact z.left _
    · rw [List.length_append, List.length_map]
      omega
    · omega
end
end MC
set_option Elab.async false
set_option linter.all false
set_option maxRecDepth 100000
set_option maxHeartbeats 4000000
namespace MC
open PySem PySem.Spec PyProof.Rows L2
/-! ### the score of the law -/
structure PhR where
  a : Addr
  x : Str
  ths : List Thing
  W : Nat
def bkL (L : List PhR) : Str → Option (List Thing) := fun y => (L.map fun p => (p.x, p.ths)).lookup y
def szL (L : List PhR) : List (Str × V) := L.map fun p => (p.x, V.int (p.W : Nat))
def szK (L : List PhR) : List (Key × V) := (szL L).map fun e => (Sum.inr e.1, e.2)
def PhAt (H : Hp) (p : PhR) : Prop := ∃ v, H p.a = some (.tup [.str p.x, v]) ∧ Rp H v (.tuple (thingsD p.ths))
theorem PhAt.mono {H H' : Hp} {p : PhR} (t : Tk H H') (h : PhAt H p) : PhAt H' p := by
  obtain ⟨v, h1, h2⟩ := h
  exact ⟨v, t _ _ h1, h2.mono t⟩
structure PhsOk (L : List PhR) : Prop where
  nd : (L.map (·.x)).Nodup
  ne : ∀ p ∈ L, p.x ≠ ""
  ok : ∀ p ∈ L, p.ths.length ≤ 40 ∧ ∃ Sg, ThsOk (bkL L) Sg 14 p.ths p.W ∧ ∀ y ∈ Sg, Lays y p.ths
theorem bkL_of : ∀ {L : List PhR} {y : Str} {ths : List Thing}, bkL L y = some ths → ∃ p ∈ L, p.x = y ∧ p.ths = ths
  | [], y, ths, h => by cases h
  | q :: L, y, ths, h => by
    by_cases e : y = q.x
    · have h1 : bkL (q :: L) y = some q.ths := by
        show List.lookup y ((q.x, q.ths) :: L.map fun p => (p.x, p.ths)) = _
        rw [List.lookup_cons, e, beq_self_eq_true]
      rw [h1] at h
      exact ⟨q, List.mem_cons_self, e.symm, Option.some.inj h⟩
    · have h1 : bkL (q :: L) y = bkL L y := by
        show List.lookup y ((q.x, q.ths) :: L.map fun p => (p.x, p.ths)) = _
        rw [List.lookup_cons, beq_eq_false_iff_ne.mpr e]
        rfl
      rw [h1] at h
      obtain ⟨p, h2, h3⟩ := bkL_of h
      exact ⟨p, List.mem_cons_of_mem _ h2, h3⟩
theorem bkL_mem : ∀ {L : List PhR} {p : PhR}, (L.map (·.x)).Nodup → p ∈ L → bkL L p.x = some p.ths
  | q :: L, p, nd, h => by
    rw [List.map_cons, List.nodup_cons] at nd
    rcases List.mem_cons.mp h with rfl | h
    · show List.lookup p.x ((p.x, p.ths) :: L.map fun p => (p.x, p.ths)) = _
      rw [List.lookup_cons, beq_self_eq_true]
    · have e : p.x ≠ q.x := fun e => nd.1 (by rw [← e]; exact List.mem_map.mpr ⟨p, h, rfl⟩)
      show List.lookup p.x ((q.x, q.ths) :: L.map fun p => (p.x, p.ths)) = _
      rw [List.lookup_cons, beq_eq_false_iff_ne.mpr e]
      exact bkL_mem nd.2 h
theorem szK_mem : ∀ {L : List PhR} {p : PhR}, (L.map (·.x)).Nodup → p ∈ L → valV (szK L) (.inr p.x) = some (.int (p.W : Nat))
  | q :: L, p, nd, h => by
    rw [List.map_cons, List.nodup_cons] at nd
    rcases List.mem_cons.mp h with rfl | h
    · exact valV_pos (p := ((Sum.inr p.x : Key), V.int (p.W : Nat))) rfl
    · have e : q.x ≠ p.x := fun e => nd.1 (by rw [e]; exact List.mem_map.mpr ⟨p, h, rfl⟩)
      exact (valV_neg (p := ((Sum.inr q.x : Key), V.int (q.W : Nat))) (kne e)).trans (szK_mem nd.2 h)
theorem szK_none : ∀ {L : List PhR} {y : Str}, y ∉ L.map (·.x) → valV (szK L) (.inr y) = none
  | [], y, h => rfl
  | q :: L, y, h => by
    rw [List.map_cons, List.mem_cons, not_or] at h
    exact (valV_neg (p := ((Sum.inr q.x : Key), V.int (q.W : Nat))) (kne fun e => h.1 e.symm)).trans (szK_none h.2)
theorem PhsOk.sizes {L : List PhR} (h : PhsOk L) : SizesOk (bkL L) (szK L) := by
  intro x ths Sg n W hb ok
  obtain ⟨p, hp, rfl, rfl⟩ := bkL_of hb
  obtain ⟨_, Sg', ok', _⟩ := h.ok p hp
  rw [szK_mem h.nd hp, ok'.uniq ok]
theorem bkL_snoc {L : List PhR} {q : PhR} (nd : ((L ++ [q]).map (·.x)).Nodup) : ∀ x ths, bkL L x = some ths → bkL (L ++ [q]) x = some ths := by
  intro x ths h
  obtain ⟨p, hp, rfl, rfl⟩ := bkL_of h
  exact bkL_mem nd (List.mem_append_left _ hp)
theorem PhsOk.snoc {L : List PhR} {q : PhR} (h : PhsOk L) (nd : ((L ++ [q]).map (·.x)).Nodup) (ne : q.x ≠ "") (hl : q.ths.length ≤ 40) (ok : ∃ Sg, ThsOk (bkL L) Sg 14 q.ths q.W ∧ ∀ y ∈ Sg, Lays y q.ths) : PhsOk (L ++ [q]) := by
  refine ⟨nd, fun p hp => ?_, fun p hp => ?_⟩
  · rcases List.mem_append.mp hp with hp | hp
    · exact h.ne p hp
    · rw [List.mem_singleton.mp hp]; exact ne
  · rcases List.mem_append.mp hp with hp | hp
    · obtain ⟨h1, Sg, h2, h3⟩ := h.ok p hp
      exact ⟨h1, Sg, h2.book (bkL_snoc nd), h3⟩
    · rw [List.mem_singleton.mp hp]
      obtain ⟨Sg, h2, h3⟩ := ok
      exact ⟨hl, Sg, h2.book (bkL_snoc nd), h3⟩
theorem menu_of {H : Hp} {L : List PhR} : ∀ {ps : List (Addr × Str × V)}, (∀ z ∈ ps, ∃ p ∈ L, z.2 = (p.x, V.int (p.W : Nat))) → (∀ z ∈ ps, H z.1 = some (.tup [.str z.2.1, z.2.2])) →
    ∃ menu : List (Str × Nat), All2 (MenuV H) (ps.map fun z => V.ref z.1) menu ∧ menu.length = ps.length ∧ ∀ e ∈ menu, ∃ p ∈ L, e = (p.x, p.W)
  | [], _, _ => ⟨[], .nil, rfl, fun e h => by cases h⟩
  | z :: ps, h1, h2 => by
    obtain ⟨menu, m1, m2, m3⟩ := menu_of (fun y hy => h1 y (List.mem_cons_of_mem _ hy)) (fun y hy => h2 y (List.mem_cons_of_mem _ hy))
    obtain ⟨p, hp, e⟩ := h1 z List.mem_cons_self
    refine ⟨(p.x, p.W) :: menu, .cons ⟨z.1, rfl, ?_⟩ m1, by rw [List.length_cons, List.length_cons, m2], fun e he => ?_⟩
    · have := h2 z List.mem_cons_self
      rw [e] at this
      exact this
    · rcases List.mem_cons.mp he with rfl | he
      · exact ⟨p, hp, rfl⟩
      · exact m3 e he
theorem PhsOk.menu {L : List PhR} (h : PhsOk L) {menu : List (Str × Nat)} (hm : ∀ e ∈ menu, ∃ p ∈ L, e = (p.x, p.W)) (left : Int) : MenuOk (bkL L) menu 14 left := by
  intro e he
  obtain ⟨p, hp, rfl⟩ := hm e he
  obtain ⟨h1, Sg, h2, h3⟩ := h.ok p hp
  exact ⟨h.ne p hp, p.ths, Sg, bkL_mem h.nd hp, by omega, h3, fun _ => h2⟩
theorem PhsOk.menu7 {L : List PhR} (h : PhsOk L) {menu : List (Str × Nat)} (hm : ∀ e ∈ menu, ∃ p ∈ L, e = (p.x, p.W)) : MenuOk (bkL L) menu 7 8 := by
  intro e he
  obtain ⟨p, hp, rfl⟩ := hm e he
  obtain ⟨h1, Sg, h2, h3⟩ := h.ok p hp
  exact ⟨h.ne p hp, p.ths, Sg, bkL_mem h.nd hp, by omega, h3, fun (z : 1 + (p.W : Int) ≤ 8) => h2.low.up (by omega)⟩
theorem szK_put {L : List PhR} {q : PhR} (h : q.x ∉ L.map (·.x)) : putK (szK L) (.inr q.x) (.int (q.W : Nat)) = szK (L ++ [q]) := by
  rw [putK_new _ (szK_none h)]
  unfold szK szL
  rw [List.map_append, List.map_append]
  rfl
theorem lookup_keyed {f : Str → List PyData} {y : Str} : ∀ {us : List (Addr × Str)}, y ∈ us.map (·.2) → (us.map fun t => (t.2, f t.2)).lookup y = some (f y)
  | [], h => by cases h
  | u :: us, h => by
    rw [List.map_cons, List.lookup_cons]
    by_cases e : y = u.2
    · rw [e, beq_self_eq_true]
    · rw [beq_eq_false_iff_ne.mpr e]
      rcases List.mem_cons.mp h with h | h
      · exact absurd h e
      · exact lookup_keyed h
theorem rpa_keyed {H : Hp} {f : Str → List PyData} : ∀ {us : List (Addr × Str)}, (∀ t ∈ us, Rp H (.ref t.1) (.tuple (.str t.2 :: f t.2))) → Rp H (.non) .none → RpA H (us.map fun t => V.ref t.1) ((us.map fun t => (t.2, f t.2)).map fun h => .tuple (.str h.1 :: h.2))
  | [], _, _ => .nil
  | u :: us, h, z => .cons (h u List.mem_cons_self) (rpa_keyed (fun t ht => h t (List.mem_cons_of_mem _ ht)) z)
theorem HS.upd {h : Addr} {H H1 : Hp} {m : Nat} (a : HS h H H1 m) {p : Addr} {kvs : List (Key × V)} {o : HO} (hp : H p = none) (hx : H1 p = some (.dK kvs)) (ne : p ≠ h) : HS h H (L2.upd H1 p o) m := by
  refine ⟨fun b u q z => ?_, a.t.trans (tk_dict hx), ?_⟩
  · rw [upd_ne (ne_of_none q hp)]
    exact a.k b u q z
  · obtain ⟨d, c, t, h1, h2⟩ := a.o
    exact ⟨d, c, t, by rw [upd_ne (Ne.symm ne)]; exact h1, h2⟩
def scoreN : Nat := 200000000000
def spScore : Sp := Sp1 fun a H Q _ => ∃ h : Addr, a = .ref h ∧ HandOk H h 0 ∧ ∀ H' q sv s, HS h H H' scoreN → H' q = some (.tup [sv, .str s.name]) → SongAt H' sv s → SongOk s → Q (.ref q) H'
section
variable {P : Program} {w : World} {K : PySem.W.Frag} {mg : Str → Option Value} {base : Heap}
/- slots of _law_score: 0 _law_hand_here, 1 _law_names_here, 2 _law_phrases, 3 _law_sizes, 4 _law_k, 5 _law_things_here, 6 _law_on, 7 _law_parts, 8 _law_clocks -/
theorem sc_law_score : FnScope ["_law_hand_here", "_law_names_here", "_law_phrases", "_law_sizes", "_law_k", "_law_things_here", "_law_on", "_law_parts", "_law_clocks"] ["_law_hand_here"] (defScope s_law_score) := ⟨rfl, rfl, rfl, by decide +kernel, rfl, by decide +kernel, by decide +kernel⟩
theorem cal_law_score (T : Tx w K mg) : Cal P w K mg base CX0 40 "_law_score" ["_law_hand_here"] spScore := by
  refine Cal.of T.f_law_score T.g_law_score sc_law_score (fun _ _ _ _ _ _ us hl => match us, hl with | [_], _ => rfl) (fun vs H Q E h => by obtain ⟨x0, rfl, _⟩ := h; rfl) (fun f cdv A outer s H vs Q E hr h => ?_)
  obtain ⟨v0, rfl, h⟩ := h
  refine ⟨_, (pss_cons (ps_set (i := 1) sc_law_score.nd rfl (Or.inl rfl) (pc (cal_law_names T) hr (pa_cons (pv 0) (pa_cons pe_int pa_nil))))
    (pss_cons (ps_set (i := 2) sc_law_score.nd rfl (Or.inl rfl) (pe_lst pa_nil))
    (pss_cons (ps_set (i := 3) sc_law_score.nd rfl (Or.inl rfl) pe_dnewK)
    (pss_cons (ps_for PassesOwn.never rfl (pi_range1 (by rfl) T.b_range (pa_cons (pe_ix ix_list (pe_lst (pa_cons (pc (cal_law_take T) hr (pa_cons (pv 0) (pa_cons pe_int pa_nil))) (pa_cons (pc (cal_law_take T) hr (pa_cons (pv 0) (pa_cons pe_int pa_nil))) pa_nil))) (pe_callTy call_int1 (by rfl) T.b_int (by decide +kernel) (pa_cons (pe_cmpR op_eq (pc (cal_law_take T) hr (pa_cons (pv 0) (pa_cons pe_int pa_nil))) pe_int (nomark _)) pa_nil)) (fun _ _ => rfl)) pa_nil)) (pg_name (i := 4) sc_law_score.nd rfl (Or.inl rfl)) (pss_cons (ps_expr (pe_bm PySem.F.plainAttrs_list PySem.F.slot_list_append PySem.F.type_list_append mt_append (pv 2) (pa_cons (pe_tup (pa_cons (pe_ix ix_list (pv 1) (pv 4) (fun _ _ => rfl)) (pa_cons (pc (cal_law_row_of T) hr (pa_cons (pv 0) (pa_cons (pe_callB (cr_sortedIt (by rfl)) (by rfl) T.b_sorted (by decide +kernel) (pa_cons (pe_bm0 PySem.F.plainAttrs_dict PySem.F.slot_dict_items PySem.F.type_dict_items mt_itemsK (pv 3)) pa_nil)) (pa_cons pe_int pa_nil)))) pa_nil))) pa_nil)))
      (pss_one (ps_dput (hu_of hr) (pv 3) (pe_ix ix_list (pv 1) (pv 4) (fun _ _ => rfl)) (pc (cal_law_entries T 15) hr (pa_cons (pe_ix ix_tup (pe_ix ix_list (pv 2) (pv 4) (fun _ _ => rfl)) pe_int (fun _ _ => rfl)) (pa_cons (pv 3) pa_nil))) rfl))))
    (pss_cons (ps_set (i := 5) sc_law_score.nd rfl (Or.inl rfl) (pc (cal_law_row_of T) hr (pa_cons (pv 0) (pa_cons (pe_callB (cr_sortedIt (by rfl)) (by rfl) T.b_sorted (by decide +kernel) (pa_cons (pe_bm0 PySem.F.plainAttrs_dict PySem.F.slot_dict_items PySem.F.type_dict_items mt_itemsK (pv 3)) pa_nil)) (pa_cons (pe_ix ix_list (pe_lst (pa_cons pe_int (pa_cons pe_int pa_nil))) (pe_callTy call_int1 (by rfl) T.b_int (by decide +kernel) (pa_cons (pe_cmpR op_eq (pc (cal_law_take T) hr (pa_cons (pv 0) (pa_cons pe_int pa_nil))) pe_int (nomark _)) pa_nil)) (fun _ _ => rfl)) pa_nil)))))
    (pss_cons (ps_set (i := 6) sc_law_score.nd rfl (Or.inl rfl) (pe_ix ix_list (pe_lst (pa_cons pe_non (pa_cons (pe_ix ix_list (pv 1) pe_int (fun _ _ => rfl)) pa_nil))) (pc (cal_law_take T) hr (pa_cons (pv 0) (pa_cons pe_int pa_nil))) (fun _ _ => rfl)))
    (pss_cons (ps_set (i := 7) sc_law_score.nd rfl (Or.inl rfl) (pe_lst (pa_cons (pe_tup (pa_cons (pe_ix ix_list (pv 1) pe_int (fun _ _ => rfl)) (pa_cons (pv 6) (pa_cons (pe_tup (pa_cons pe_int (pa_cons pe_int pa_nil))) (pa_cons (pv 5) pa_nil))))) (pa_cons (pe_tup (pa_cons (pe_ix ix_list (pv 1) pe_int (fun _ _ => rfl)) (pa_cons pe_non (pa_cons (pe_tup (pa_cons pe_int (pa_cons pe_int pa_nil))) (pa_cons (pe_tup pa_nil) pa_nil))))) pa_nil))))
    (pss_cons (ps_set (i := 7) sc_law_score.nd rfl (Or.inl rfl) (pe_slice sl_list (pv 7) po_none (po_some (pe_op op_add pe_int (pc (cal_law_take T) hr (pa_cons (pv 0) (pa_cons pe_int pa_nil)))))))
    (pss_cons (ps_set (i := 8) sc_law_score.nd rfl (Or.inl rfl) (pe_tup (pa_cons (pe_tup (pa_cons (pe_ix ix_list (pv 1) pe_int (fun _ _ => rfl)) (pa_cons pe_non (pa_cons (pe_tup (pa_cons pe_int (pa_cons pe_int pa_nil))) (pa_cons (pe_tup (pa_cons (pe_tup (pa_cons (pe_tup (pa_cons pe_int (pa_cons pe_int pa_nil))) (pa_cons (pe_tup (pa_cons pe_str (pa_cons (pe_tup (pa_cons pe_int (pa_cons pe_int pa_nil))) pa_nil))) pa_nil))) pa_nil)) pa_nil))))) pa_nil)))
    (pss_one (ps_ret (pe_tup (pa_cons (pe_tup (pa_cons (pv 8) (pa_cons (pe_callTy call_tuple_of (by rfl) T.b_tuple (by decide +kernel) (pa_cons (pe_callB cr_sortedNm (by rfl) T.b_sorted (by decide +kernel) (pa_cons (pv 2) pa_nil)) pa_nil)) (pa_cons (pe_callTy call_tuple_of (by rfl) T.b_tuple (by decide +kernel) (pa_cons (pe_callB cr_sortedNm (by rfl) T.b_sorted (by decide +kernel) (pa_cons (pv 7) pa_nil)) pa_nil)) pa_nil)))) (pa_cons (pe_ix ix_list (pv 1) pe_int (fun _ _ => rfl)) pa_nil)))))))))))))), ?_⟩
  obtain ⟨h, rfl, o, kk⟩ := h
  unfold scoreN at kk
  refine ⟨_, rfl, _, _, rfl, h, 0, rfl, o, by omega, rfl, fun H1 na nm s1 hna0 hna nml nnd nne => ?_⟩
  have hnah := o.ne hna0
  refine ⟨Nat.zero_le _, fun pa hpa => ?_⟩
  have hpah := s1.o.ne hpa
  have hpa0 : H pa = none := none_hs s1 hpa
  have t2 := same_new (o := .lst []) hpa
  have s2 := s1.and t2
  intro sa hsa
  have hsah := s2.o.ne hsa
  have hsa0 : H sa = none := none_hs s2 hsa
  have t3 := same_new (o := .dK []) hsa
  have s3 := s2.and t3
  have hna3 := t3.on (t2.on hna)
  have hpa3 := t3.on (upd_same (H := H1) (a := pa) (o := .lst []))
  have hpsa : pa ≠ sa := fun e => by rw [← e, upd_same] at hsa; cases hsa
  have hnpa : na ≠ pa := fun e => by rw [e, hpa] at hna; cases hna
  have hnsa : na ≠ sa := fun e => by rw [e, none_of_same t2 hsa] at hna; cases hna
  refine ⟨_, rfl, _, _, rfl, h, 0 + 2, 3, rfl, s3.o, by omega, rfl, by omega, by omega, fun H4 r1 s4 hr1 => ?_⟩
  refine ⟨_, rfl, _, _, rfl, h, 3, 10, rfl, s4.o, by omega, rfl, by omega, by omega, fun H5 r2 s5 hr2 => ?_⟩
  refine ⟨(by show 2 ≤ sizeLine; decide), fun z1 hz1 => ?_⟩
  have t6 := same_new (o := .lst [.int (r1 : Nat), .int (r2 : Nat)]) hz1
  have s35 := (s3.trans s4).trans s5
  have hz1h := s35.o.ne hz1
  refine ⟨_, rfl, _, _, rfl, h, 4, 8, rfl, (s35.and t6).o, by omega, rfl, by omega, by omega, fun H7 r3 s7 hr3 => ?_⟩
  refine ⟨rfl, .inr ⟨_, rfl, ?_⟩⟩
  obtain ⟨ks, hks, hkv⟩ : ∃ ks : Nat, ks ≤ 9 ∧ atI [V.int (r1 : Nat), V.int (r2 : Nat)] (if decide (V.int (r3 : Nat) = V.int 0) = true then 1 else 0) = some (.int (ks : Nat)) := by
    by_cases cz : decide (V.int (r3 : Nat) = V.int 0) = true
    · exact ⟨r2, by omega, by rw [if_pos cz]; rfl⟩
    · exact ⟨r1, by omega, by rw [if_neg cz]; rfl⟩
  have hz17 := s7.on (upd_same (H := H5) (a := z1) (o := .lst [.int (r1 : Nat), .int (r2 : Nat)])) hz1h
  refine ⟨z1, _, _, _, rfl, rfl, SqL.of hz17, hkv, ?_⟩
  refine ⟨(ks : Nat), rfl, by omega, by omega, ?_⟩
  rw [show ((ks : Nat) : Int).toNat = ks from rfl]
  have s47 := (s4.trans s5).trans ((HS.same s5.o t6).trans s7)
  have hna7 := s47.on hna3 hnah
  have hpa7 := s47.on hpa3 hpah
  have hsa7 := s47.on (upd_same (H := upd H1 pa (.lst [])) (a := sa) (o := .dK [])) hsah
  refine hgen (fun H7 => HS h H H7 5 ∧ H7 na = some (.lst (nm.map V.str)) ∧ H7 pa = some (.lst []) ∧ H7 sa = some (.dK [])) ⟨((s35.and t6).trans s7), hna7, hpa7, hsa7⟩ ?_
  clear hna7 hpa7 hsa7 s47 hz17 s7 t6 s35 hz1 hz1h hkv s5 s4 s3 t3 s2 t2 hna hna3 hpa3 hpa hsa s1
  rintro H7 ⟨s7, hna7, hpa7, hsa7⟩
  refine for_it (walk_range (lo := 0) (n := ks)) (fun i σ H' => ∃ c4 c5 c6 c7 c8, ∃ L : List PhR, σ = [some (.ref h), some (.ref na), some (.ref pa), some (.ref sa), c4, c5, c6, c7, c8] ∧ HS h H H' (5 + i * rowN) ∧ H' na = some (.lst (nm.map V.str)) ∧
      H' pa = some (.lst (L.map fun p => V.ref p.a)) ∧ H' sa = some (.dK (szK L)) ∧ (∀ p ∈ L, PhAt H' p) ∧ PhsOk L ∧ L.map (·.x) = nm.take i)
    ⟨_, _, _, _, _, [], rfl, s7.mono (by omega), hna7, hpa7, hsa7, (fun p hp => by cases hp), ⟨List.nodup_nil, (fun p hp => by cases hp), (fun p hp => by cases hp)⟩, rfl⟩ (fun _ _ _ _ _ => trivial) ?_ ?_
  · rintro i x σ H8 H9 hi ⟨c4, c5, c6, c7, c8, L, rfl, s8, nav, pav, sav, hL, okL, hx⟩ ⟨rfl, rfl⟩
    have hLl : L.length = i := by
      have e := congrArg List.length hx
      rw [List.length_map, List.length_take, nml] at e
      omega
    have hi14 : i < nm.length := by omega
    have hir : i * rowN + rowN ≤ 9 * rowN := by
      have := Nat.mul_le_mul_right rowN (show i + 1 ≤ 9 by omega)
      rw [Nat.add_mul, Nat.one_mul] at this
      exact this
    have hrn : rowN = 13197005845 := rfl
    have hnx : (nm.map V.str)[i]? = some (.str nm[i]) := by rw [List.getElem?_map, List.getElem?_eq_getElem hi14]; rfl
    refine ⟨_, rfl, .inl ⟨rfl, _, SqL.of pav⟩, ?_⟩
    refine ⟨_, rfl, _, rfl, na, _, _, _, rfl, rfl, SqL.of nav, by rw [Int.zero_add]; exact atI_nat hnx, ?_⟩
    -- the menu
    refine ⟨_, rfl, ?_⟩
    refine ⟨_, rfl, .inr (.inr (.inl ⟨rfl, .inl ⟨_, sav⟩⟩)), ?_⟩
    refine ⟨sa, szK L, rfl, rfl, sav, fun ip hip => ?_⟩
    have t10 := same_new (o := DX.itemsO ip sa) hip
    refine ⟨ip, sa, szL L, rfl, upd_same, t10.on sav, ?_, fun H11 ml ps s11 hml pml hml1 hps => ?_⟩
    · unfold szL
      rw [List.map_map]
      exact okL.nd
    have s11' : Same H9 H11 := t10.trans s11
    have hps' : ∀ z ∈ ps, ∃ p ∈ L, z.2 = (p.x, V.int (p.W : Nat)) := fun z hz => by
      have h1 : z.2 ∈ szL L := pml.mem_iff.mp (List.mem_map.mpr ⟨z, hz, rfl⟩)
      obtain ⟨p, hp, e⟩ := List.mem_map.mp h1
      exact ⟨p, hp, e.symm⟩
    obtain ⟨menu, mn1, mn2, mn3⟩ := menu_of hps' hps
    have hmlen : menu.length = L.length := by
      rw [mn2]
      have e := pml.length_eq
      rw [List.length_map] at e
      rw [e, szL, List.length_map]
    have s8' := s8.and s11'
    have hmlh : ml ≠ h := by
      intro e
      obtain ⟨d', c', t', h1, _⟩ := (s8.and t10).o
      rw [e, h1] at hml
      cases hml
    refine ⟨_, _, _, rfl, bkL L, h, ml, _, menu, 7, 5 + i * rowN, 8, rfl, rfl, rfl, s8'.o, hml1, mn1, hmlh, okL.menu7 mn3, by omega, by omega, fun H12 v12 ths W Sg s12 r12 ok12 ly12 ln12 w12 => ?_⟩
    have s8r : HS h H H12 (5 + (i + 1) * rowN) := (s8'.trans s12).mono (by rw [Nat.add_mul]; omega)
    refine ⟨(by show 2 ≤ sizeLine; decide), fun q hq => ?_⟩
    have t13 := same_new (o := .tup [.str nm[i], v12]) hq
    have pav13 := t13.on (s12.on (s11'.on pav) hpah)
    have nav13 := t13.on (s12.on (s11'.on nav) hnah)
    have sav13 := t13.on (s12.on (s11'.on sav) hsah)
    refine ⟨pa, _, _, rfl, rfl, pav13, (by rw [List.length_map, sizeLine_eq]; omega), ?_⟩
    obtain ⟨L', hL'⟩ : ∃ L', L' = L ++ [⟨q, nm[i], ths, W⟩] := ⟨_, rfl⟩
    have eL : (L.map fun p => V.ref p.a) ++ [V.ref q] = L'.map fun p => V.ref p.a := by rw [hL', List.map_append]; rfl
    rw [eL]
    have hx' : L'.map (·.x) = nm.take (i + 1) := by
      rw [hL', List.map_append, hx, List.take_succ, List.getElem?_eq_getElem hi14]
      rfl
    have nd' : (L'.map (·.x)).Nodup := by rw [hx']; exact nnd.sublist (List.take_sublist _ _)
    have nq : nm[i] ∉ L.map (·.x) := by
      intro z
      rw [hL', List.map_append, List.nodup_append] at nd'
      exact nd'.2.2 _ z _ (List.mem_singleton.mpr rfl) rfl
    have okL' : PhsOk L' := by
      rw [hL'] at nd' ⊢
      exact okL.snoc nd' (nne _ (List.getElem_mem hi14)) ln12 ⟨Sg, ok12, ly12⟩
    have hpq : pa ≠ q := fun e => by rw [← e] at hq; rw [s12.on (s11'.on pav) hpah] at hq; cases hq
    have hsq : sa ≠ pa := Ne.symm hpsa
    have qv : (upd (upd H12 q (.tup [.str nm[i], v12])) pa (.lst (L'.map fun p => V.ref p.a))) q = some (.tup [.str nm[i], v12]) := by rw [upd_ne (Ne.symm hpq)]; exact upd_same
    have s14 : HS h H (upd (upd H12 q (.tup [.str nm[i], v12])) pa (.lst (L'.map fun p => V.ref p.a))) (5 + (i + 1) * rowN) := (s8r.and t13).up hpa0 pav13 hpah
    have tk14 : Tk H9 (upd (upd H12 q (.tup [.str nm[i], v12])) pa (.lst (L'.map fun p => V.ref p.a))) := ((s11'.tk.trans s12.t).trans t13.tk).trans (tk_lst pav13)
    have hL14 : ∀ p ∈ L', PhAt (upd (upd H12 q (.tup [.str nm[i], v12])) pa (.lst (L'.map fun p => V.ref p.a))) p := by
      intro p hp
      rw [hL'] at hp
      rcases List.mem_append.mp hp with hp | hp
      · exact (hL p hp).mono tk14
      · rw [List.mem_singleton.mp hp]
        exact ⟨v12, qv, r12.mono (t13.tk.trans (tk_lst pav13))⟩
    have r14 : Rp (upd (upd H12 q (.tup [.str nm[i], v12])) pa (.lst (L'.map fun p => V.ref p.a))) v12 (.tuple (thingsD ths)) := r12.mono (t13.tk.trans (tk_lst pav13))
    have na14 : (upd (upd H12 q (.tup [.str nm[i], v12])) pa (.lst (L'.map fun p => V.ref p.a))) na = some (.lst (nm.map V.str)) := by rw [upd_ne hnpa]; exact nav13
    have sa14 : (upd (upd H12 q (.tup [.str nm[i], v12])) pa (.lst (L'.map fun p => V.ref p.a))) sa = some (.dK (szK L)) := by rw [upd_ne hsq]; exact sav13
    have hgq : (L'.map fun p => V.ref p.a)[i]? = some (.ref q) := by
      rw [hL', List.map_append, List.getElem?_append_right (by rw [List.length_map]; omega), List.length_map, hLl, Nat.sub_self]
      rfl
    refine hgen (fun H14 => HS h H H14 (5 + (i + 1) * rowN) ∧ H14 na = some (.lst (nm.map V.str)) ∧ H14 pa = some (.lst (L'.map fun p => V.ref p.a)) ∧ H14 sa = some (.dK (szK L)) ∧ (∀ p ∈ L', PhAt H14 p) ∧ H14 q = some (.tup [.str nm[i], v12]) ∧ Rp H14 v12 (.tuple (thingsD ths))) ⟨s14, na14, upd_same, sa14, hL14, qv, r14⟩ ?_
    clear s14 na14 sa14 hL14 qv r14 tk14 pav13 nav13 sav13 t13 s8r r12 s12 s8' mn1 mn2 hml hml1 hps s11 s11' t10 hq pav nav sav hL s8
    rintro H14 ⟨s14, na14, pa14, sa14, hL14, qv, r14⟩
    refine ⟨_, rfl, _, rfl, pa, _, _, _, rfl, rfl, SqL.of pa14, by rw [Int.zero_add]; exact atI_nat hgq, ?_⟩
    refine ⟨_, _, _, _, rfl, rfl, SqT.of (qv), atI_nat (j := 1) rfl, _, rfl, ?_⟩
    refine ⟨_, _, rfl, bkL L, ths, Sg, 14, W, sa, szK L, r14, ok12, by omega, rfl, sa14, okL.sizes, ?_⟩
    refine ⟨_, rfl, _, rfl, _, rfl, na, _, _, _, rfl, rfl, SqL.of na14, by rw [Int.zero_add]; exact atI_nat hnx, ?_⟩
    have hkl : (szK L).length < sizeLine := by
      rw [szK, szL, List.length_map, List.length_map, sizeLine_eq]; omega
    refine ⟨sa, _, rfl, DPut.k (k := .inr nm[i]) sa14 hkl, ?_⟩
    have ep : putK (szK L) (.inr nm[i]) (.int (W : Nat)) = szK L' := by
      rw [hL']
      exact szK_put (q := ⟨q, nm[i], ths, W⟩) nq
    rw [ep]
    refine ⟨_, _, _, _, _, L', rfl, ?_, by rw [upd_ne hnsa]; exact na14, by rw [upd_ne hpsa]; exact pa14, upd_same, fun p hp => (hL14 p hp).mono (tk_dict sa14), okL', hx'⟩
    exact s14.upd hsa0 sa14 hsah
  · rintro σ H8 ⟨c4, c5, c6, c7, c8, L, rfl, s8, nav, pav, sav, hL, okL, hx⟩
    have hLl : L.length ≤ 9 := by
      have e := congrArg List.length hx
      rw [List.length_map, List.length_take] at e
      omega
    have hir : ks * rowN ≤ 9 * rowN := Nat.mul_le_mul_right rowN hks
    have hrn : rowN = 13197005845 := rfl
    -- the menu
    refine ⟨_, rfl, ?_⟩
    refine ⟨_, rfl, .inr (.inr (.inl ⟨rfl, .inl ⟨_, sav⟩⟩)), ?_⟩
    refine ⟨sa, szK L, rfl, rfl, sav, fun ip hip => ?_⟩
    have t10 := same_new (o := DX.itemsO ip sa) hip
    refine ⟨ip, sa, szL L, rfl, upd_same, t10.on sav, ?_, fun H11 ml ps s11 hml pml hml1 hps => ?_⟩
    · unfold szL
      rw [List.map_map]
      exact okL.nd
    have s11' : Same H8 H11 := t10.trans s11
    have hps' : ∀ z ∈ ps, ∃ p ∈ L, z.2 = (p.x, V.int (p.W : Nat)) := fun z hz => by
      have h1 : z.2 ∈ szL L := pml.mem_iff.mp (List.mem_map.mpr ⟨z, hz, rfl⟩)
      obtain ⟨p, hp, e⟩ := List.mem_map.mp h1
      exact ⟨p, hp, e.symm⟩
    obtain ⟨menu, mn1, mn2, mn3⟩ := menu_of hps' hps
    have hmlen : menu.length = L.length := by
      rw [mn2]
      have e := pml.length_eq
      rw [List.length_map] at e
      rw [e, szL, List.length_map]
    have s8' := s8.and s11'
    have hmlh : ml ≠ h := by
      intro e
      obtain ⟨d', c', t', h1, _⟩ := (s8.and t10).o
      rw [e, h1] at hml
      cases hml
    -- how many at most
    refine ⟨(by show 2 ≤ sizeLine; decide), fun z2 hz2 => ?_⟩
    have t12 := same_new (o := .lst [.int 14, .int 60]) hz2
    have hz2h := s8'.o.ne hz2
    refine ⟨_, rfl, _, _, rfl, h, 5 + ks * rowN, 8, rfl, (s8'.and t12).o, by omega, rfl, by omega, by omega, fun H13 r4 s13 hr4 => ?_⟩
    refine ⟨rfl, .inr ⟨_, rfl, ?_⟩⟩
    obtain ⟨most, hmo, hmov⟩ : ∃ most : Nat, most ≤ 60 ∧ atI [V.int 14, V.int 60] (if decide (V.int (r4 : Nat) = V.int 0) = true then 1 else 0) = some (.int (most : Nat)) := by
      by_cases cz : decide (V.int (r4 : Nat) = V.int 0) = true
      · exact ⟨60, by omega, by rw [if_pos cz]; rfl⟩
      · exact ⟨14, by omega, by rw [if_neg cz]; rfl⟩
    have hz213 := s13.on (upd_same (H := H11) (a := z2) (o := .lst [.int 14, .int 60])) hz2h
    refine ⟨z2, _, _, _, rfl, rfl, SqL.of hz213, hmov, ?_⟩
    have s813 := (s8'.and t12).trans s13
    have t813 : Tk H11 H13 := t12.tk.trans s13.t
    refine ⟨_, _, _, rfl, bkL L, h, ml, _, menu, 14, 5 + ks * rowN + 1, most, rfl, rfl, rfl, s813.o, s13.on (t12.on hml1) hmlh, mn1.mono (fun v e ⟨q, e1, e2⟩ => ⟨q, e1, t813 _ _ e2⟩), hmlh, okL.menu mn3 _, by omega, by omega, fun H14 v14 ths W Sg s14 r14 ok14 ly14 ln14 w14 => ?_⟩
    have s8r : HS h H8 H14 (5 + ks * rowN + 1 + rowN) := ((HS.same s8.o s11').and t12).trans (s13.trans s14)
    have nav14 := s8r.on nav hnah
    have pav14 := s8r.on pav hpah
    have hL14 : ∀ p ∈ L, PhAt H14 p := fun p hp => (hL p hp).mono s8r.t
    have s814 : HS h H H14 (5 + ks * rowN + 1 + rowN) := s8.trans s8r
    clear s8r mn1 s813 t813 hz213 s13 t12 hz2 hml hml1 hps s8' s11' t10 s11 nav pav sav hL
    -- the clock that is kept to
    have hn10 : (nm.map V.str)[10]? = some (.str nm[10]) := by rw [List.getElem?_map, List.getElem?_eq_getElem (by omega)]; rfl
    have hn11 : (nm.map V.str)[11]? = some (.str nm[11]) := by rw [List.getElem?_map, List.getElem?_eq_getElem (by omega)]; rfl
    have hn12 : (nm.map V.str)[12]? = some (.str nm[12]) := by rw [List.getElem?_map, List.getElem?_eq_getElem (by omega)]; rfl
    refine ⟨_, rfl, na, _, _, _, rfl, rfl, SqL.of nav14, atI_nat (j := 12) hn12, ?_⟩
    refine ⟨(by show 2 ≤ sizeLine; decide), fun z3 hz3 => ?_⟩
    have t15 := same_new (o := .lst [.non, .str nm[12]]) hz3
    have hz3h := s814.o.ne hz3
    refine ⟨_, rfl, _, _, rfl, h, 5 + ks * rowN + 1 + rowN, 2, rfl, (s814.and t15).o, by omega, rfl, by omega, by omega, fun H16 r5 s16 hr5 => ?_⟩
    have hz316 := s16.on (upd_same (H := H14) (a := z3) (o := .lst [.non, .str nm[12]])) hz3h
    obtain ⟨vo, od, hvo, hod⟩ : ∃ (vo : V) (od : PyData), atI [V.non, V.str nm[12]] (r5 : Nat) = some vo ∧ ∀ H, Rp H vo od := by
      rcases (show r5 = 0 ∨ r5 = 1 by omega) with rfl | rfl
      · exact ⟨_, _, rfl, fun _ => .non⟩
      · exact ⟨_, _, rfl, fun _ => .str _⟩
    refine ⟨z3, _, _, _, rfl, rfl, SqL.of hz316, hvo, ?_⟩
    have s1416 := (HS.same s814.o t15).trans s16
    have nav16 := s1416.on nav14 hnah
    have pav16 := s1416.on pav14 hpah
    have hL16 : ∀ p ∈ L, PhAt H16 p := fun p hp => (hL14 p hp).mono s1416.t
    have r16 := r14.mono s1416.t
    have s816 := s814.trans s1416
    clear s1416 hz316 s16 t15 hz3 nav14 pav14 hL14 r14 s814
    -- the parts
    refine ⟨_, rfl, na, _, _, _, rfl, rfl, SqL.of nav16, atI_nat (j := 10) hn10, ?_⟩
    refine ⟨_, rfl, (by show 2 ≤ sizeLine; decide), fun t1 ht1 => ?_⟩
    have u1 := same_new (o := .tup [.int 0, .int 1]) ht1
    refine ⟨_, rfl, (by show 4 ≤ sizeLine; decide), fun p1 hp1 => ?_⟩
    have u2 := same_new (o := .tup [.str nm[10], vo, .ref t1, v14]) hp1
    refine ⟨_, rfl, na, _, _, _, rfl, rfl, SqL.of ((u1.trans u2).on nav16), atI_nat (j := 11) hn11, ?_⟩
    refine ⟨(by show 2 ≤ sizeLine; decide), fun t2 ht2 => ?_⟩
    have u3 := same_new (o := .tup [.int 1, .int 2]) ht2
    refine ⟨Nat.zero_le _, fun t3 ht3 => ?_⟩
    have u4 := same_new (o := .tup []) ht3
    refine ⟨(by show 4 ≤ sizeLine; decide), fun p2 hp2 => ?_⟩
    have u5 := same_new (o := .tup [.str nm[11], .non, .ref t2, .ref t3]) hp2
    refine ⟨(by show 2 ≤ sizeLine; decide), fun l1 hl1 => ?_⟩
    have u6 := same_new (o := .lst [.ref p1, .ref p2]) hl1
    have u := ((((u1.trans u2).trans u3).trans u4).trans u5).trans u6
    have q1 : Rp (upd (upd (upd (upd (upd (upd H16 t1 (.tup [.int 0, .int 1])) p1 (.tup [.str nm[10], vo, .ref t1, v14])) t2 (.tup [.int 1, .int 2])) t3 (.tup [])) p2 (.tup [.str nm[11], .non, .ref t2, .ref t3])) l1 (.lst [.ref p1, .ref p2])) (.ref p1) (.tuple [.str nm[10], od, .tuple [.int 0, .int 1], .tuple (thingsD ths)]) :=
      .tup ((((u3.trans u4).trans u5).trans u6).on upd_same) (.cons (.str _) (.cons (hod _) (.cons (.tup (((((u2.trans u3).trans u4).trans u5).trans u6).on upd_same) (.cons (.int _) (.cons (.int _) .nil))) (.cons (r16.mono u.tk) .nil))))
    have q2 : Rp (upd (upd (upd (upd (upd (upd H16 t1 (.tup [.int 0, .int 1])) p1 (.tup [.str nm[10], vo, .ref t1, v14])) t2 (.tup [.int 1, .int 2])) t3 (.tup [])) p2 (.tup [.str nm[11], .non, .ref t2, .ref t3])) l1 (.lst [.ref p1, .ref p2])) (.ref p2) (.tuple [.str nm[11], .none, .tuple [.int 1, .int 2], .tuple []]) :=
      .tup (u6.on upd_same) (.cons (.str _) (.cons .non (.cons (.tup (((u4.trans u5).trans u6).on upd_same) (.cons (.int _) (.cons (.int _) .nil))) (.cons (.tup ((u5.trans u6).on upd_same) .nil) .nil))))
    have q3 := upd_same (H := upd (upd (upd (upd (upd H16 t1 (.tup [.int 0, .int 1])) p1 (.tup [.str nm[10], vo, .ref t1, v14])) t2 (.tup [.int 1, .int 2])) t3 (.tup [])) p2 (.tup [.str nm[11], .non, .ref t2, .ref t3])) (a := l1) (o := .lst [.ref p1, .ref p2])
    refine hgen (fun H17 => Same H16 H17 ∧ Rp H17 (.ref p1) (.tuple [.str nm[10], od, .tuple [.int 0, .int 1], .tuple (thingsD ths)]) ∧ Rp H17 (.ref p2) (.tuple [.str nm[11], .none, .tuple [.int 1, .int 2], .tuple []]) ∧ H17 l1 = some (.lst [.ref p1, .ref p2])) ⟨u, q1, q2, q3⟩ ?_
    have hl1h := (s816.and (((((u1.trans u2).trans u3).trans u4).trans u5))).o.ne hl1
    clear q1 q2 q3 u u6 hl1 u5 hp2 u4 ht3 u3 ht2 u2 hp1 u1 ht1
    rintro H17 ⟨u, q1, q2, q3⟩
    refine ⟨_, rfl, ?_⟩
    refine ⟨_, rfl, _, _, rfl, h, 5 + ks * rowN + 1 + rowN + 1, 2, rfl, (s816.and u).o, by omega, rfl, by omega, by omega, fun H18 r6 s18 hr6 => ?_⟩
    refine ⟨_, _, rfl, rfl, ?_⟩
    refine ⟨1 + (r6 : Int), rfl, l1, _, rfl, SqL.of (s18.on q3 hl1h), fun l2 hl2 => ?_⟩
    have ecut : ∃ ts : List (Addr × Str), cutV [V.ref p1, .ref p2] none (some (1 + (r6 : Int))) = ts.map (fun t => V.ref t.1) ∧ (ts = [(p1, nm[10])] ∨ ts = [(p1, nm[10]), (p2, nm[11])]) := by
      rcases (show r6 = 0 ∨ r6 = 1 by omega) with rfl | rfl
      · exact ⟨_, (cut_take _ 1), .inl rfl⟩
      · exact ⟨_, (cut_take _ 2), .inr rfl⟩
    obtain ⟨ts, ecut, hts⟩ := ecut
    rw [ecut]
    have t19 := same_new (o := .lst (ts.map fun t => V.ref t.1)) hl2
    have s19 : HS h H16 (upd H18 l2 (.lst (ts.map fun t => V.ref t.1))) (5 + ks * rowN + 1 + rowN + 2) := ((HS.same s816.o u).trans s18).and t19
    have q1' := (q1.mono s18.t).mono t19.tk
    have q2' := (q2.mono s18.t).mono t19.tk
    have nav19 := s19.on nav16 hnah
    have pav19 := s19.on pav16 hpah
    have hL19 : ∀ p ∈ L, PhAt (upd H18 l2 (.lst (ts.map fun t => V.ref t.1))) p := fun p hp => (hL16 p hp).mono s19.t
    have s819 := s816.trans s19
    refine hgen (fun H19 => HS h H H19 (5 + ks * rowN + 1 + rowN + 2) ∧ H19 na = some (.lst (nm.map V.str)) ∧ H19 pa = some (.lst (L.map fun p => V.ref p.a)) ∧ (∀ p ∈ L, PhAt H19 p) ∧ Rp H19 (.ref p1) (.tuple [.str nm[10], od, .tuple [.int 0, .int 1], .tuple (thingsD ths)]) ∧ Rp H19 (.ref p2) (.tuple [.str nm[11], .none, .tuple [.int 1, .int 2], .tuple []]) ∧ H19 l2 = some (.lst (ts.map fun t => V.ref t.1))) ⟨s819, nav19, pav19, hL19, q1', q2', upd_same⟩ ?_
    clear s819 nav19 pav19 hL19 q1' q2' s19 t19 hl2 s18 q1 q2 q3 u nav16 pav16 hL16 r16 s816
    rintro H19 ⟨s19, nav19, pav19, hL19, q1, q2, q3⟩
    -- the clocks
    refine ⟨_, rfl, na, _, _, _, rfl, rfl, SqL.of nav19, atI_nat (j := 12) hn12, ?_⟩
    refine ⟨(by show 2 ≤ sizeLine; decide), fun d1 hd1 => ?_⟩
    have w1 := same_new (o := .tup [.int 1, .int 3]) hd1
    refine ⟨(by show 2 ≤ sizeLine; decide), fun d2 hd2 => ?_⟩
    have w2 := same_new (o := .tup [.int 0, .int 1]) hd2
    refine ⟨(by show 2 ≤ sizeLine; decide), fun d3 hd3 => ?_⟩
    have w3 := same_new (o := .tup [.int 2, .int 1]) hd3
    refine ⟨(by show 2 ≤ sizeLine; decide), fun d4 hd4 => ?_⟩
    have w4 := same_new (o := .tup [.str "pace", .ref d3]) hd4
    refine ⟨(by show 2 ≤ sizeLine; decide), fun d5 hd5 => ?_⟩
    have w5 := same_new (o := .tup [.ref d2, .ref d4]) hd5
    refine ⟨(by show 1 ≤ sizeLine; decide), fun d6 hd6 => ?_⟩
    have w6 := same_new (o := .tup [.ref d5]) hd6
    refine ⟨(by show 4 ≤ sizeLine; decide), fun d7 hd7 => ?_⟩
    have w7 := same_new (o := .tup [.str nm[12], .non, .ref d1, .ref d6]) hd7
    refine ⟨(by show 1 ≤ sizeLine; decide), fun d8 hd8 => ?_⟩
    have w8 := same_new (o := .tup [.ref d7]) hd8
    have w78 := w7.trans w8
    have w68 := w6.trans w78
    have w58 := w5.trans w68
    have w48 := w4.trans w58
    have w38 := w3.trans w48
    have w28 := w2.trans w38
    have w18 := w1.trans w28
    have hck := Rp.tup (H := upd (upd (upd (upd (upd (upd (upd (upd H19 d1 (.tup [.int 1, .int 3])) d2 (.tup [.int 0, .int 1])) d3 (.tup [.int 2, .int 1])) d4 (.tup [.str "pace", .ref d3])) d5 (.tup [.ref d2, .ref d4])) d6 (.tup [.ref d5])) d7 (.tup [.str nm[12], .non, .ref d1, .ref d6])) d8 (.tup [.ref d7])) upd_same
      (.cons (.tup (w8.on upd_same) (.cons (.str nm[12]) (.cons .non (.cons (.tup (w28.on upd_same) (.cons (.int 1) (.cons (.int 3) .nil))) (.cons (.tup (w78.on upd_same) (.cons (.tup (w68.on upd_same) (.cons (.tup (w38.on upd_same) (.cons (.int 0) (.cons (.int 1) .nil)))
        (.cons (.tup (w58.on upd_same) (.cons (.str "pace") (.cons (.tup (w48.on upd_same) (.cons (.int 2) (.cons (.int 1) .nil))) .nil))) .nil))) .nil)) .nil))))) .nil)
    obtain ⟨cd, hcd⟩ : ∃ cd, Rp (upd (upd (upd (upd (upd (upd (upd (upd H19 d1 (.tup [.int 1, .int 3])) d2 (.tup [.int 0, .int 1])) d3 (.tup [.int 2, .int 1])) d4 (.tup [.str "pace", .ref d3])) d5 (.tup [.ref d2, .ref d4])) d6 (.tup [.ref d5])) d7 (.tup [.str nm[12], .non, .ref d1, .ref d6])) d8 (.tup [.ref d7])) (.ref d8) cd := ⟨_, hck⟩
    refine hgen (fun H20 => Same H19 H20 ∧ Rp H20 (.ref d8) cd) ⟨w18, hcd⟩ ?_
    clear hck hcd w18 w28 w38 w48 w58 w68 w78 w8 hd8 w7 hd7 w6 hd6 w5 hd5 w4 hd4 w3 hd3 w2 hd2 w1 hd1
    rintro H20 ⟨w, hcd⟩
    -- all of it
    refine ⟨_, rfl, ?_⟩
    have hLm : (L.map fun p => V.ref p.a) = (L.map fun p => (p.a, p.x)).map fun t => V.ref t.1 := by rw [List.map_map]; rfl
    refine ⟨_, rfl, ?_⟩
    refine ⟨pa, L.map fun p => (p.a, p.x), rfl, by rw [← hLm]; exact SqL.of (w.on pav19), ?_, ?_, fun us pp pmu hpp => ?_⟩
    · rintro t ht
      obtain ⟨p, hp, rfl⟩ := List.mem_map.mp ht
      obtain ⟨v, h1, _⟩ := hL19 p hp
      exact ⟨_, w.on h1⟩
    · rw [List.map_map]
      exact okL.nd
    have w1 := same_new (o := .lst (us.map fun t => V.ref t.1)) hpp
    refine ⟨pp, _, rfl, .inl ⟨SqL.of upd_same, fun pt hpt => ?_⟩⟩
    have w2 := same_new (o := .tup (us.map fun t => V.ref t.1)) hpt
    have wq := (w.trans w1).trans w2
    refine ⟨_, rfl, ?_⟩
    have n1110 : nm[10] ≠ nm[11] := fun e => by
      exact (List.pairwise_iff_getElem.mp nnd) 10 11 (by omega) (by omega) (by omega) e
    refine ⟨l2, ts, rfl, SqL.of (wq.on q3), ?_, ?_, fun vs2 pq pmv hpq => ?_⟩
    · have g1 : ∃ r, H19 p1 = some (.tup (.str nm[10] :: r)) := by
        obtain ⟨b, bs, e1, e2, e3⟩ := q1.tup_inv
        obtain ⟨v1, r1', rfl, e4, _⟩ := e3.cons_inv
        cases e1
        rw [e4.str_inv] at e2
        exact ⟨_, e2⟩
      have g2 : ∃ r, H19 p2 = some (.tup (.str nm[11] :: r)) := by
        obtain ⟨b, bs, e1, e2, e3⟩ := q2.tup_inv
        obtain ⟨v1, r1', rfl, e4, _⟩ := e3.cons_inv
        cases e1
        rw [e4.str_inv] at e2
        exact ⟨_, e2⟩
      intro t ht
      have ht2 : t = (p1, nm[10]) ∨ t = (p2, nm[11]) := by
        rcases hts with rfl | rfl
        · exact .inl (List.mem_singleton.mp ht)
        · rcases List.mem_cons.mp ht with e | e
          · exact .inl e
          · exact .inr (List.mem_singleton.mp e)
      rcases ht2 with rfl | rfl
      · obtain ⟨r, e⟩ := g1
        exact ⟨r, wq.on e⟩
      · obtain ⟨r, e⟩ := g2
        exact ⟨r, wq.on e⟩
    · rcases hts with rfl | rfl
      · simp
      · simp [n1110]
    have w3 := same_new (o := .lst (vs2.map fun t => V.ref t.1)) hpq
    refine ⟨pq, _, rfl, .inl ⟨SqL.of upd_same, fun pu hpu => ?_⟩⟩
    have w4 := same_new (o := .tup (vs2.map fun t => V.ref t.1)) hpu
    refine ⟨(by show 3 ≤ sizeLine; decide), fun sc hsc => ?_⟩
    have w5 := same_new (o := .tup [.ref d8, .ref pt, .ref pu]) hsc
    have ww := ((wq.trans w3).trans w4).trans w5
    refine ⟨_, rfl, na, _, _, _, rfl, rfl, SqL.of (ww.on nav19), atI_nat (j := 10) hn10, ?_⟩
    refine ⟨(by show 2 ≤ sizeLine; decide), fun res hres => ?_⟩
    have w6 := same_new (o := .tup [.ref sc, .str nm[10]]) hres
    have www := ww.trans w6
    have tkw := www.tk
    refine kk _ res (.ref sc) ⟨L.map fun p => (p.x, p.ths), nm[10], ths⟩ ((s19.and www).mono (by omega)) upd_same ?_ ?_
    · obtain ⟨pd, hpd⟩ : ∃ pd : Str → List PyData, pd = fun y => if y = nm[10] then [od, .tuple [.int 0, .int 1], .tuple (thingsD ths)] else [.none, .tuple [.int 1, .int 2], .tuple []] := ⟨_, rfl⟩
      have hmem : ∀ t ∈ us, ∃ p ∈ L, t = (p.a, p.x) := fun t ht => by
        obtain ⟨p, hp, e⟩ := List.mem_map.mp (pmu.mem_iff.mp ht)
        exact ⟨p, hp, e.symm⟩
      have hmem2 : ∀ t ∈ vs2, t = (p1, nm[10]) ∨ t = (p2, nm[11]) := fun t ht => by
        have ht := pmv.mem_iff.mp ht
        rcases hts with rfl | rfl
        · exact .inl (List.mem_singleton.mp ht)
        · rcases List.mem_cons.mp ht with e | e
          · exact .inl e
          · exact .inr (List.mem_singleton.mp e)
      have h10 : nm[10] ∈ vs2.map (·.2) := by
        refine List.mem_map.mpr ⟨(p1, nm[10]), pmv.mem_iff.mpr ?_, rfl⟩
        rcases hts with rfl | rfl
        · exact List.mem_singleton.mpr rfl
        · exact List.mem_cons_self
      refine ⟨us.map fun t => (t.2, [.tuple (thingsD ((bkL L t.2).getD []))]), vs2.map fun t => (t.2, pd t.2), od, .tuple [.int 0, .int 1], [], ⟨cd, ?_⟩, ?_, ?_⟩
      · refine .tup (w6.on upd_same) (.cons (hcd.mono (((((w1.trans w2).trans w3).trans w4).trans w5).trans w6).tk) (.cons ?_ (.cons ?_ .nil)))
        · refine .tup ((((w3.trans w4).trans w5).trans w6).on upd_same) (rpa_keyed (f := fun y => [.tuple (thingsD ((bkL L y).getD []))]) (fun t ht => ?_) .non)
          obtain ⟨p, hp, rfl⟩ := hmem t ht
          obtain ⟨v, h1, h2⟩ := hL19 p hp
          have e : (bkL L p.x).getD [] = p.ths := by rw [bkL_mem okL.nd hp]; rfl
          refine .tup (tkw _ _ h1) (.cons (.str _) (.cons ?_ .nil))
          show Rp _ v (.tuple (thingsD ((bkL L p.x).getD [])))
          rw [e]
          exact h2.mono tkw
        · refine .tup ((w5.trans w6).on upd_same) (rpa_keyed (f := pd) (fun t ht => ?_) .non)
          rcases hmem2 t ht with rfl | rfl
          · rw [hpd]
            show Rp _ (.ref p1) (.tuple (.str nm[10] :: if nm[10] = nm[10] then _ else _))
            rw [if_pos rfl]
            exact q1.mono tkw
          · rw [hpd]
            show Rp _ (.ref p2) (.tuple (.str nm[11] :: if nm[11] = nm[10] then _ else _))
            rw [if_neg (Ne.symm n1110)]
            exact q2.mono tkw
      · intro x ths' hb
        have hb : bkL L x = some ths' := hb
        obtain ⟨p, hp, rfl, rfl⟩ := bkL_of hb
        have hx1 : p.x ∈ us.map (·.2) := List.mem_map.mpr ⟨(p.a, p.x), pmu.mem_iff.mpr (List.mem_map.mpr ⟨p, hp, rfl⟩), rfl⟩
        have h1 := lookup_keyed (f := fun y => [PyData.tuple (thingsD ((bkL L y).getD []))]) hx1
        rw [h1]
        show some [PyData.tuple (thingsD ((bkL L p.x).getD []))] = _
        rw [hb]
        rfl
      · have h1 := lookup_keyed (f := pd) h10
        rw [h1, hpd]
        show some (if nm[10] = nm[10] then _ else _) = _
        rw [if_pos rfl]
    · exact ⟨⟨Sg, W, ok14.up (by omega), by omega, ly14⟩, by show ths.length ≤ 100; omega⟩
end
end MC
set_option Elab.async false
set_option linter.all false
set_option maxRecDepth 100000
set_option maxHeartbeats 4000000
namespace MC
open PySem PySem.Spec PyProof.Rows L2
/-- a list of lists of numbers, none of them the hand -/
def LVh (h : Addr) (H : Hp) (v : V) (gs : List Nat) : Prop := ∃ q, v = .ref q ∧ q ≠ h ∧ H q = some (.lst (gs.map natV))
def LLh (h : Addr) (H : Hp) (l : Addr) (a : List (List Nat)) : Prop := ∃ vs, H l = some (.lst vs) ∧ l ≠ h ∧ All2 (LVh h H) vs a
theorem LLh.hs {h l : Addr} {H H' : Hp} {m : Nat} {a : List (List Nat)} (q : LLh h H l a) (s : HS h H H' m) : LLh h H' l a := by
  obtain ⟨vs, h1, h2, h3⟩ := q
  exact ⟨vs, s.on h1 h2, h2, h3.mono fun v gs ⟨q, e, n, x⟩ => ⟨q, e, n, s.on x n⟩⟩
theorem LLh.get {h l : Addr} {H : Hp} {a : List (List Nat)} {i : Nat} {gs : List Nat} (x : LLh h H l a) (hg : a[i]? = some gs) : ∃ vs q, H l = some (.lst vs) ∧ vs[i]? = some (.ref q) ∧ H q = some (.lst (gs.map natV)) ∧ q ≠ h := by
  obtain ⟨vs, h1, _, h2⟩ := x
  obtain ⟨v, h3, q, rfl, n, h4⟩ := h2.getR hg
  exact ⟨vs, q, h1, h3, h4, n⟩
theorem LLh.len {h l : Addr} {H : Hp} {a : List (List Nat)} (x : LLh h H l a) : ∃ vs, H l = some (.lst vs) ∧ vs.length = a.length := by
  obtain ⟨vs, h1, _, h2⟩ := x
  exact ⟨vs, h1, h2.len⟩
theorem LLh.of {h l : Addr} {H0 H : Hp} {a : List (List Nat)} {m : Nat} (x : LLNew H0 H l a) (o : HandOk H0 h m) (hl : H0 l = none) : LLh h H l a := by
  obtain ⟨vs, h1, h2⟩ := x
  exact ⟨vs, h1, o.ne hl, h2.mono fun v gs ⟨q, e, n, x⟩ => ⟨q, e, o.ne n, x⟩⟩
/-- a way of next things -/
structure WayOk (after : List (List Nat)) (vs : List Nat) : Prop where
  lt : ∀ v ∈ vs, v < after.length
  go : ∀ k u v, vs[k]? = some u → vs[k + 1]? = some v → v ∈ after.getD u []
theorem WayOk.nil {after : List (List Nat)} : WayOk after [] := ⟨fun v h => (by cases h), fun k u v h => (by simp at h)⟩
theorem WayOk.snoc {after : List (List Nat)} {vs : List Nat} {x : Nat} (w : WayOk after vs) (hx : x < after.length) (h : ∀ u, vs.getLast? = some u → x ∈ after.getD u []) : WayOk after (vs ++ [x]) := by
  refine ⟨fun v hv => ?_, fun k u v hu hv => ?_⟩
  · rcases List.mem_append.mp hv with hv | hv
    · exact w.lt v hv
    · rw [List.mem_singleton.mp hv]; exact hx
  · by_cases ck : k + 1 < vs.length
    · rw [List.getElem?_append_left (by omega)] at hu hv
      exact w.go k u v hu hv
    · have hk := (List.getElem?_eq_some_iff.mp hv).1
      rw [List.length_append] at hk
      have hi1 : k + 1 = vs.length := by simp at hk; omega
      rw [List.getElem?_append_left (by omega)] at hu
      rw [List.getElem?_append_right (by omega), hi1, Nat.sub_self] at hv
      simp at hv
      subst hv
      refine h u ?_
      rw [List.getLast?_eq_getElem?, ← hi1]
      exact hu
def spLedW : Sp := Sp3 fun a b c H Q _ => ∃ (h la : Addr) (m many : Nat) (after : List (List Nat)), a = .ref h ∧ b = .ref la ∧ c = .int (many : Nat) ∧ HandOk H h m ∧ m + 1 + many ≤ 1000000000000000 ∧ LLh h H la after ∧ after.length ≤ 80000 ∧ (∀ gs ∈ after, gs ≠ [] ∧ gs.length ≤ 80001) ∧ many ≤ 40 ∧
  ∀ H' p vs, HS h H H' (m + 1 + many) → H p = none → H' p = some (.lst (vs.map natV)) → vs.length ≤ many → WayOk after vs → Q (.ref p) H'
section
variable {P : Program} {w : World} {K : PySem.W.Frag} {mg : Str → Option Value} {base : Heap}
/- slots of _law_led: 0 _law_hand_here, 1 _law_after, 2 _law_many, 3 _law_found, 4 _law_v, 5 _law_k -/
theorem sc_law_led : FnScope ["_law_hand_here", "_law_after", "_law_many", "_law_found", "_law_v", "_law_k"] ["_law_hand_here", "_law_after", "_law_many"] (defScope s_law_led) := ⟨rfl, rfl, rfl, by decide +kernel, rfl, by decide +kernel, by decide +kernel⟩
theorem cal_law_led (T : Tx w K mg) : Cal P w K mg base CX0 40 "_law_led" ["_law_hand_here", "_law_after", "_law_many"] spLedW := by
  refine Cal.of T.f_law_led T.g_law_led sc_law_led (fun _ _ _ _ _ _ us hl => match us, hl with | [_, _, _], _ => rfl) (fun vs H Q E h => by obtain ⟨x0, x1, x2, rfl, _⟩ := h; rfl) (fun f cdv A outer s H vs Q E hr h => ?_)
  obtain ⟨v0, v1, v2, rfl, h⟩ := h
  refine ⟨_, (pss_cons (ps_set (i := 3) sc_law_led.nd rfl (Or.inl rfl) (pe_lst pa_nil))
    (pss_cons (ps_set (i := 4) sc_law_led.nd rfl (Or.inl rfl) (pc (cal_law_take T) hr (pa_cons (pv 0) (pa_cons (pe_op op_add (pe_callB call_len_seq (by rfl) T.b_len PySem.boot_len (pa_cons (pv 1) pa_nil)) pe_int) pa_nil))))
    (pss_cons (ps_for PassesOwn.never rfl (pi_range1 (by rfl) T.b_range (pa_cons (pv 2) pa_nil)) (pg_name (i := 5) sc_law_led.nd rfl (Or.inl rfl)) (pss_one (ps_if (pt_cmpR op_lt (pv 4) (pe_callB call_len_seq (by rfl) T.b_len PySem.boot_len (pa_cons (pv 1) pa_nil)) (nomark _)) (pss_cons (ps_expr (pe_bm PySem.F.plainAttrs_list PySem.F.slot_list_append PySem.F.type_list_append mt_append (pv 3) (pa_cons (pv 4) pa_nil)))
        (pss_one (ps_set (i := 4) sc_law_led.nd rfl (Or.inl rfl) (pe_ix ix_list (pe_ix ix_list (pv 1) (pv 4) (fun _ _ => rfl)) (pc (cal_law_take T) hr (pa_cons (pv 0) (pa_cons (pe_callB call_len_seq (by rfl) T.b_len PySem.boot_len (pa_cons (pe_ix ix_list (pv 1) (pv 4) (fun _ _ => rfl)) pa_nil)) pa_nil))) (fun _ _ => rfl))))) pss_nil)))
    (pss_one (ps_ret (pv 3)))))), ?_⟩
  obtain ⟨h, la, m, many, after, rfl, rfl, rfl, o, hm, hla, hal, hgs, hmany, kk⟩ := h
  refine ⟨Nat.zero_le _, fun p hp => ?_⟩
  have hph := o.ne hp
  have s1 := HS.same o (same_new (o := .lst []) hp)
  have hla1 := hla.hs s1
  obtain ⟨lvs, hl1, hl2⟩ := hla1.len
  refine ⟨_, rfl, _, rfl, la, lvs, rfl, .inl (SqL.of hl1), _, _, rfl, rfl, ?_⟩
  refine ⟨_, _, rfl, h, m, after.length + 1, rfl, s1.o, by omega, congrArg V.int (by omega), by omega, by omega, fun H2 r s2 hr => ?_⟩
  have s12 := s1.trans s2
  have hp2 := s2.on (upd_same (H := H) (a := p) (o := .lst [])) hph
  refine ⟨_, rfl, (many : Nat), rfl, by omega, by omega, ?_⟩
  rw [show ((many : Nat) : Int).toNat = many from rfl]
  refine for_it (walk_range (lo := 0) (n := many)) (fun i σ H' => ∃ c5, ∃ (vs : List Nat) (v : Nat), σ = [some (.ref h), some (.ref la), some (.int (many : Nat)), some (.ref p), some (.int (v : Nat)), c5] ∧ HS h H H' (m + 1 + i) ∧ H' p = some (.lst (vs.map natV)) ∧ vs.length ≤ i ∧ WayOk after vs ∧ (∀ u, vs.getLast? = some u → v ∈ after.getD u []))
    ⟨_, [], r, rfl, s12, hp2, Nat.le_refl _, .nil, fun u hu => by cases hu⟩ (fun _ _ _ _ _ => trivial) ?_ ?_
  · rintro i x σ H3 H4 hi ⟨c5, vs, v, rfl, s3, hp3, hvl, hw, hlast⟩ ⟨rfl, rfl⟩
    have hla4 := hla.hs s3
    obtain ⟨lvs4, hl41, hl42⟩ := hla4.len
    refine ⟨_, rfl, _, rfl, la, lvs4, rfl, .inl (SqL.of hl41), _, _, rfl, rfl, _, rfl, ?_⟩
    by_cases c : v < after.length
    · refine itT (dT (by rw [hl42]; omega)) ?_
      refine ⟨_, rfl, .inl ⟨rfl, _, SqL.of hp3⟩, _, rfl, p, _, _, rfl, rfl, hp3, (by rw [List.length_map, sizeLine_eq]; omega), ?_⟩
      have s5 := s3.up (o := .lst ((vs ++ [v]).map natV)) (H := H) (by
        exact hp) hp3 hph
      have em : (vs.map natV ++ [.int (v : Nat)]) = (vs ++ [v]).map natV := by rw [List.map_append]; rfl
      rw [em]
      have hg : after[v]? = some after[v] := List.getElem?_eq_getElem c
      have hla5 := hla.hs s5
      obtain ⟨lv5, q, g1, g2, g3, g4⟩ := hla5.get hg
      obtain ⟨n1, n2⟩ := hgs _ (List.getElem_mem c)
      have n3 : 0 < (after[v]).length := List.length_pos_iff.mpr n1
      refine ⟨_, rfl, _, rfl, _, _, _, _, rfl, rfl, SqL.of (g1), atI_nat (j := v) (g2), ?_⟩
      refine ⟨_, rfl, _, rfl, _, rfl, _, _, _, _, rfl, rfl, SqL.of (g1), atI_nat (j := v) (g2), q, _, rfl, .inl (SqL.of g3), ?_⟩
      refine ⟨_, _, rfl, h, m + 1 + i, (after[v]).length, rfl, s5.o, by omega, congrArg V.int (by rw [List.length_map]), n3, by omega, fun H6 r6 s6 hr6 => ?_⟩
      have hr6' : (after[v])[r6]? = some (after[v])[r6] := List.getElem?_eq_getElem hr6
      refine ⟨q, _, _, _, rfl, rfl, SqL.of (s6.on g3 g4), atI_nat (v := natV (after[v])[r6]) (by rw [List.getElem?_map, hr6']; rfl), ?_⟩
      refine ⟨_, vs ++ [v], (after[v])[r6], rfl, (s5.trans s6).mono (by omega), s6.on upd_same hph, by rw [List.length_append]; show vs.length + 1 ≤ i + 1; omega, hw.snoc c hlast, fun u hu => ?_⟩
      rw [List.getLast?_append] at hu
      simp at hu
      subst hu
      rw [List.getD_eq_getElem?_getD, hg]
      exact List.getElem_mem hr6
    · refine itF (dF (by rw [hl42]; omega)) ?_
      exact ⟨_, vs, v, rfl, s3.mono (by omega), hp3, by omega, hw, hlast⟩
  · rintro σ H3 ⟨c5, vs, v, rfl, s3, hp3, hvl, hw, hlast⟩
    exact ⟨_, rfl, kk H3 p vs s3 hp hp3 hvl hw⟩
end
end MC
set_option Elab.async false
set_option linter.all false
set_option maxRecDepth 100000
set_option maxHeartbeats 4000000
namespace MC
open PySem PySem.Spec PyProof.Rows L2
/-! ### what is walked is a way of next things -/
theorem nextsUp_get {es : List Entry} {p j : Nat} {e : Entry} (he : es[p]? = some e) (hj : j < e.n) : ∀ q, p < q → q ≤ es.length → (nextsUp es q)[pre es p + j]? = some (if j + 1 < e.n then [pre es p + j + 1] else ledOf es (p + 1))
  | 0, h, _ => by omega
  | q + 1, h, hq => by
    have ee : es[q]? = some es[q] := List.getElem?_eq_getElem (by omega)
    have hl : (nextsUp es q).length = pre es q := nextsUp_len q (by omega)
    by_cases c : p = q
    · subst c
      rw [he] at ee
      have ee := Option.some.inj ee
      rw [nextsUp, he, List.getElem?_append_right (by omega), hl, Nat.add_sub_cancel_left]
      show (nextsBar es p e)[j]? = _
      rw [nextsBar, List.getElem?_map, List.getElem?_range hj]
      rfl
    · have ih := nextsUp_get he hj q (by omega) (by omega)
      have hlt : pre es p + j < (nextsUp es q).length := (List.getElem?_eq_some_iff.mp ih).1
      rw [nextsUp, List.getElem?_append_left hlt]
      exact ih
theorem nextsOf_get {es : List Entry} {p j : Nat} {e : Entry} (he : es[p]? = some e) (hj : j < e.n) : (nextsOf es)[pre es p + j]? = some (if j + 1 < e.n then [pre es p + j + 1] else ledOf es (p + 1)) :=
  nextsUp_get he hj _ (List.getElem?_eq_some_iff.mp he).1 (Nat.le_refl _)
open Classical in
theorem led_of_reach {es : List Entry} {b q : Nat} {s : Frac} {v : List (List Item)} {w : List Int} (h : Reach es b q) (hq : es[q]? = some (.bar s v w)) : pre es q ∈ ledOf es b := by
  have hm : pre es q ∈ ledSet es b := by
    rw [ledSet, List.mem_filter]
    exact ⟨List.mem_range.mpr (by have := pre_le_total es q; omega), (by rw [decide_eq_true_eq]; exact ⟨q, h, .inr ⟨s, v, w, hq⟩, rfl⟩)⟩
  rw [ledOf, if_neg (fun e => by rw [e] at hm; cases hm)]
  exact hm
theorem WayOk.drop {after : List (List Nat)} {vs : List Nat} (w : WayOk after vs) (n : Nat) : WayOk after (vs.drop n) :=
  ⟨fun v hv => w.lt v (List.mem_of_mem_drop hv), fun k u v hu hv => by
    rw [List.getElem?_drop] at hu hv
    exact w.go (n + k) u v hu (by rw [Nat.add_assoc]; exact hv)⟩
theorem WayOk.take {after : List (List Nat)} {vs : List Nat} (w : WayOk after vs) (n : Nat) : WayOk after (vs.take n) :=
  ⟨fun v hv => w.lt v (List.mem_of_mem_take hv), fun k u v hu hv => by
    rw [List.getElem?_take] at hu hv
    by_cases c : k + 1 < n
    · rw [if_pos c] at hv
      rw [if_pos (by omega)] at hu
      exact w.go k u v hu hv
    · rw [if_neg c] at hv
      cases hv⟩
def spWalked : Sp := Sp2 fun a b H Q _ => ∃ s, SongAt H a s ∧ b = .str s.name ∧ SongGood s ∧ ∀ H' q vs, Same H H' → H q = none → H' q = some (.lst (vs.map natV)) → vs.length ≤ 40000 → WayOk (nextsOf s.line) vs → Q (.ref q) H'
section
variable {P : Program} {w : World} {K : PySem.W.Frag} {mg : Str → Option Value} {base : Heap}
/- slots of _law_walked: 0 _law_score_here, 1 _law_name, 2 _law_begins, 3 _law_entry, 4 _law_many, 5 _law_found, 6 _law_places, 7 _law_place, 8 _law_v -/
theorem sc_law_walked : FnScope ["_law_score_here", "_law_name", "_law_begins", "_law_entry", "_law_many", "_law_found", "_law_places", "_law_place", "_law_v"] ["_law_score_here", "_law_name"] (defScope s_law_walked) := ⟨rfl, rfl, rfl, by decide +kernel, rfl, by decide +kernel, by decide +kernel⟩
theorem cal_law_walked (T : Tx w K mg) : Cal P w K mg base CX0 130 "_law_walked" ["_law_score_here", "_law_name"] spWalked := by
  refine Cal.of T.f_law_walked T.g_law_walked sc_law_walked (fun _ _ _ _ _ _ us hl => match us, hl with | [_, _], _ => rfl) (fun vs H Q E h => by obtain ⟨x0, x1, rfl, _⟩ := h; rfl) (fun f cdv A outer s H vs Q E hr h => ?_)
  obtain ⟨v0, v1, rfl, h⟩ := h
  refine ⟨_, (pss_cons (ps_set (i := 2) sc_law_walked.nd rfl (Or.inl rfl) (pe_lst (pa_cons pe_int pa_nil)))
    (pss_cons (ps_for PassesOwn.never rfl (pi_list (pc (cal_lineG T) hr (pa_cons (pv 0) (pa_cons (pv 1) pa_nil)))) (pg_name (i := 3) sc_law_walked.nd rfl (Or.inl rfl)) (pss_cons (ps_set (i := 4) sc_law_walked.nd rfl (Or.inl rfl) pe_int)
      (pss_cons (ps_if (pt_cmpR op_eq (pe_ix ix_tup (pv 3) pe_int (fun _ _ => rfl)) pe_str (nomark _)) (pss_one (ps_set (i := 4) sc_law_walked.nd rfl (Or.inl rfl) (pc (cal_law_count T 7) hr (pa_cons (pe_ix ix_tup (pe_ix ix_tup (pe_ix ix_tup (pv 3) pe_int (fun _ _ => rfl)) pe_int (fun _ _ => rfl)) pe_int (fun _ _ => rfl)) pa_nil)))) pss_nil)
      (pss_one (ps_expr (pe_bm PySem.F.plainAttrs_list PySem.F.slot_list_append PySem.F.type_list_append mt_append (pv 2) (pa_cons (pe_op op_add (pe_ix ix_list (pv 2) (pe_un un_neg pe_int) (fun _ _ => rfl)) (pv 4)) pa_nil)))))))
    (pss_cons (ps_set (i := 5) sc_law_walked.nd rfl (Or.inl rfl) (pe_lst pa_nil))
    (pss_cons (ps_try_only (tb := fun W => tAsg (tCallS (spWalk K) (WE W) (tCons (tVar 0) (tCons (tVar 1) tNil))) (gName 6)) (ts := fun _ _ _ => tAsg (tLst tNil) (gName 6)) (Wout := fun _ _ _ _ => False) rfl rfl ⟨rfl, by decide, Or.inl T.g_TooLong⟩ takes0 (fun W pn xe tk _ => (pss_one (ps_set (i := 6) sc_law_walked.nd rfl (Or.inl rfl) (pcS (cal_walk T) hr tk (pa_cons (pv 0) (pa_cons (pv 1) pa_nil)))))) (fun _ _ _ _ _ _ _ => (pss_one (ps_set (i := 6) sc_law_walked.nd rfl (Or.inl rfl) (pe_lst pa_nil)))))
    (pss_cons (ps_for PassesOwn.never rfl (pi_list (pv 6)) (pg_name (i := 7) sc_law_walked.nd rfl (Or.inl rfl)) (pss_one (ps_for PassesOwn.never rfl (pi_range2 (by rfl) T.b_range (pa_cons (pe_ix ix_list (pv 2) (pv 7) (fun _ _ => rfl)) (pa_cons (pe_ix ix_list (pv 2) (pe_op op_add (pv 7) pe_int) (fun _ _ => rfl)) pa_nil))) (pg_name (i := 8) sc_law_walked.nd rfl (Or.inl rfl)) (pss_one (ps_expr (pe_bm PySem.F.plainAttrs_list PySem.F.slot_list_append PySem.F.type_list_append mt_append (pv 5) (pa_cons (pv 8) pa_nil)))))))
    (pss_one (ps_ret (pv 5)))))))), ?_⟩
  obtain ⟨s, hs, rfl, good, kk⟩ := h
  have ok := good.line
  refine ⟨(by show 1 ≤ sizeLine; decide), fun bg hbg => ?_⟩
  have s1 := same_new (o := .lst [.int 0]) hbg
  refine ⟨_, rfl, _, rfl, ?_⟩
  refine ⟨_, _, rfl, s, hs.mono s1.tk, rfl, good, fun H2 le s2 hle hes => ?_⟩
  generalize hE : s.line = es at *
  have hlen := ok.len
  obtain ⟨evs, he1, he2⟩ := hes
  have hel : evs.length = es.length := by rw [he2.len, List.length_map]
  have hbg2 := s2.on (upd_same (H := H) (a := bg) (o := .lst [.int 0]))
  have hleb : le ≠ bg := fun e => by rw [e, upd_same] at hle; cases hle
  refine ⟨le, rfl, ⟨evs, SqL.of he1⟩, for_it (walk_list (xs := evs)) (fun i σ H' => ∃ c3 c4 c5 c6 c7 c8, σ = [some v0, some (.str s.name), some (.ref bg), c3, c4, c5, c6, c7, c8] ∧ Same H H' ∧ H' le = some (.lst evs) ∧ Tk H2 H' ∧ H' bg = some (.lst (((List.range (i + 1)).map (pre es)).map natV)))
    ⟨_, _, _, _, _, _, rfl, s1.trans s2, he1, Tk.refl _, hbg2⟩ ?_ ?_ ?_⟩
  · rintro i σ H' _ ⟨c3, c4, c5, c6, c7, c8, rfl, _, h1, _⟩
    exact SqL.of h1
  · rintro i x σ H3 H4 hi ⟨c3, c4, c5, c6, c7, c8, rfl, s3, hle3, tk3, hb3⟩ ⟨rfl, hx⟩
    have hil : i < es.length := by omega
    have ee : es[i]? = some es[i] := List.getElem?_eq_getElem hil
    generalize hE0 : es[i] = E0 at ee
    obtain ⟨d0, hd0, rx⟩ := he2.get hx
    rw [List.getElem?_map, ee] at hd0
    cases hd0
    have rx := rx.mono tk3
    have hEok := ok.ok E0 (List.mem_of_getElem? ee)
    have hlast : (((List.range (i + 1)).map (pre es)).map natV).getLast? = some (natV (pre es i)) := by
      rw [List.getLast?_map, List.getLast?_map, List.getLast?_range]
      simp
    have fin : ∀ {H5 : Hp} {c3 c4 c5 c6 c7 c8 : Option V} {n : Nat}, Same H4 H5 → n = E0.n → ∃ c3' c4' c5' c6' c7' c8', [some v0, some (.str s.name), some (.ref bg), c3, c4, c5, c6, c7, c8] = [some v0, some (.str s.name), some (.ref bg), c3', c4', c5', c6', c7', c8'] ∧ Same H (upd H5 bg (.lst (((List.range (i + 1)).map (pre es)).map natV ++ [V.int ((pre es i : Int) + (n : Nat))]))) ∧ (upd H5 bg (.lst (((List.range (i + 1)).map (pre es)).map natV ++ [V.int ((pre es i : Int) + (n : Nat))]))) le = some (.lst evs) ∧ Tk H2 (upd H5 bg (.lst (((List.range (i + 1)).map (pre es)).map natV ++ [V.int ((pre es i : Int) + (n : Nat))]))) ∧
        (upd H5 bg (.lst (((List.range (i + 1)).map (pre es)).map natV ++ [V.int ((pre es i : Int) + (n : Nat))]))) bg = some (.lst (((List.range (i + 1 + 1)).map (pre es)).map natV)) := by
      intro H5 c3 c4 c5 c6 c7 c8 n s5 en
      refine ⟨_, _, _, _, _, _, rfl, same_up (s3.trans s5) hbg, by rw [upd_ne hleb]; exact s5.on hle3, (tk3.trans s5.tk).trans (tk_lst (s5.on hb3)), ?_⟩
      rw [upd_same, List.range_succ (n := i + 1), List.map_append, List.map_append, en]
      have e1 := pre_succ ee
      have e2 : (pre es i : Int) + (E0.n : Nat) = ((pre es (i + 1) : Nat) : Int) := by omega
      rw [e2]
      rfl
    cases E0 with
    | turn gs =>
      obtain ⟨at_, ag, rfl, hat, _⟩ := rx.eturn_inv
      refine ⟨_, rfl, _, _, _, _, rfl, rfl, SqT.of (hat), atI_nat (j := 0) rfl, rfl, _, rfl, itF (bF (by decide +kernel)) ?_⟩
      refine ⟨_, rfl, .inl ⟨rfl, _, SqL.of hb3⟩, _, rfl, _, rfl, bg, _, _, _, rfl, rfl, SqL.of hb3, atI_last hlast, _, rfl, _, _, rfl, rfl, ?_⟩
      refine ⟨bg, _, _, rfl, rfl, hb3, (by rw [List.length_map, List.length_map, List.length_range, sizeLine_eq]; omega), ?_⟩
      exact fin (n := 0) (same_refl _) rfl
    | bar sz vss way =>
      cases vss with
      | nil => exact hEok.elim
      | cons its rest =>
        obtain ⟨⟨_, d, L, hd6, _, hio, _, _⟩, hn1, hn2⟩ : BOk its ∧ 1 ≤ notesI its ∧ notesI its ≤ 40 := hEok
        obtain ⟨ab, vb, vw, rfl, hab, rb, _⟩ := rx.ebar_inv
        obtain ⟨b2, vl, vv, rfl, hb2, _, rv⟩ := rb.bar_inv
        obtain ⟨b3, vvs, rfl, hb3', rvv⟩ := rv.tup_inv
        obtain ⟨v4, r4, rfl, rits, _⟩ := rvv.cons_inv
        refine ⟨_, rfl, _, _, _, _, rfl, rfl, SqT.of (hab), atI_nat (j := 0) rfl, rfl, _, rfl, itT (dT rfl) ?_⟩
        refine ⟨_, rfl, _, _, _, _, rfl, rfl, SqT.of (hab), atI_nat (j := 1) rfl, _, _, _, _, rfl, rfl, SqT.of (hb2), atI_nat (j := 2) rfl, _, _, _, _, rfl, rfl, SqT.of (hb3'), atI_nat (j := 0) rfl, ?_⟩
        refine ⟨_, rfl, d, L, its, by omega, hio, rits, fun H5 s5 => ?_⟩
        have hb5 := s5.on hb3
        refine ⟨_, rfl, .inl ⟨rfl, _, SqL.of hb5⟩, _, rfl, _, rfl, bg, _, _, _, rfl, rfl, SqL.of hb5, atI_last hlast, _, rfl, _, _, rfl, rfl, ?_⟩
        refine ⟨bg, _, _, rfl, rfl, hb5, (by rw [List.length_map, List.length_map, List.length_range, sizeLine_eq]; omega), ?_⟩
        exact fin s5 (things0_len its way).symm
  · rintro σ H3 ⟨c3, c4, c5, c6, c7, c8, rfl, s3, hle3, tk3, hb3⟩
    rw [hel] at hb3
    have hfs : ((List.range (es.length + 1)).map (pre es)).map natV = (firstsOf es).map natV := rfl
    rw [hfs] at hb3
    refine ⟨Nat.zero_le _, fun fo hfo => ?_⟩
    have s4 := same_new (o := .lst []) hfo
    have s14 := s3.trans s4
    have hfo0 : H fo = none := none_of_same s3 hfo
    have hb4 := s4.on hb3
    refine ⟨_, rfl, _, rfl, ?_⟩
    have wp0 : WalkP es [] := ⟨fun p hp => absurd hp (List.not_mem_nil), fun i p q h => by simp at h, Nat.zero_le _⟩
    refine (fun main => ⟨_, _, rfl, s, hs.mono s14.tk, rfl, good, main, fun H5 s5 => ⟨true, T.e_TooLong, fun _ a ha => ⟨Nat.zero_le _, fun q hq0 => main (upd H5 q (.lst [])) q [] (s5.trans (same_new hq0)) (none_of_same s5 hq0) upd_same (hE.symm ▸ wp0)⟩, fun z => by cases z⟩⟩) ?_
    · rintro H6 q ps s6 hq0 hq wp
      rw [hE] at wp
      have hfo6 := s6.on (upd_same (H := H3) (a := fo) (o := .lst []))
      have hqf : q ≠ fo := fun e => by rw [e, upd_same] at hq0; cases hq0
      have s16 := s14.trans s6
      have hb6 := s6.on hb4
      have hbf : bg ≠ fo := fun e => by rw [e, hfo] at hb3; cases hb3
      have hal : (nextsOf es).length = total es := by rw [nextsOf, nextsUp_len _ (Nat.le_refl _), pre_len]
      refine ⟨_, rfl, q, rfl, ⟨ps.map natV, SqL.of hq⟩, ?_⟩
      refine for_it (walk_list (xs := ps.map natV)) (fun i σ H' => ∃ c3 c4 c7 c8, ∃ vs : List Nat, σ = [some v0, some (.str s.name), some (.ref bg), c3, c4, some (.ref fo), some (.ref q), c7, c8] ∧ Same H H' ∧ H' bg = some (.lst ((firstsOf es).map natV)) ∧ H' q = some (.lst (ps.map natV)) ∧ H' fo = some (.lst (vs.map natV)) ∧
        vs.length ≤ 40 * i ∧ WayOk (nextsOf es) vs ∧ ∀ u, vs.getLast? = some u → ∀ p, ps[i]? = some p → pre es p ∈ (nextsOf es).getD u [])
        ⟨_, _, _, _, [], rfl, s16, hb6, hq, hfo6, Nat.le_refl _, .nil, fun u hu => by cases hu⟩ ?_ ?_ ?_
      · rintro i σ H' _ ⟨c3, c4, c7, c8, vs, rfl, _, _, h, _⟩
        exact SqL.of h
      · rintro i x σ H7 H8 hi ⟨c3, c4, c7, c8, vs, rfl, s7, hb7, hq7, hf7, hvl, hw, hlast⟩ ⟨rfl, hx⟩
        rw [List.getElem?_map] at hx
        cases ep : ps[i]? with
        | none => rw [ep] at hx; cases hx
        | some p =>
          rw [ep] at hx
          cases hx
          obtain ⟨sz, vss, way, ee⟩ := wp.bar p (List.mem_of_getElem? ep)
          have hEok := ok.ok _ (List.mem_of_getElem? ee)
          have hpl := (List.getElem?_eq_some_iff.mp ee).1
          have hn40 : (Entry.bar sz vss way).n ≤ 40 := hEok.things
          have hn1 : 1 ≤ (Entry.bar sz vss way).n := by
            cases vss with
            | nil => exact hEok.elim
            | cons its rest =>
              show 1 ≤ (things0 its way).length
              rw [things0_len]
              exact hEok.2.1
          generalize hE0 : Entry.bar sz vss way = E0 at ee hn40 hn1
          have hil : i < 1000 := by have := (List.getElem?_eq_some_iff.mp ep).1; have := wp.len; omega
          have k1 : ((firstsOf es).map natV)[p]? = some (natV (pre es p)) := by rw [List.getElem?_map, firstsOf_get (by omega)]; rfl
          have k2 : ((firstsOf es).map natV)[p + 1]? = some (natV (pre es (p + 1))) := by rw [List.getElem?_map, firstsOf_get (by omega)]; rfl
          have p1 := pre_le_total es p
          have p2 := pre_le_total es (p + 1)
          have pss := pre_succ ee
          have htot := ok.total
          refine ⟨_, rfl, _, rfl, _, _, _, _, rfl, rfl, SqL.of (hb7), atI_nat (j := p) (k1), ?_⟩
          refine ⟨_, rfl, _, rfl, _, _, rfl, rfl, _, _, _, _, rfl, rfl, SqL.of hb7, atI_nat (j := p + 1) k2, ?_⟩
          have en : ((pre es (p + 1) : Int) - (pre es p : Int)).toNat = E0.n := by omega
          refine ⟨(pre es p : Nat), (pre es (p + 1) : Nat), rfl, ⟨by omega, by omega, by omega, by omega⟩, ?_⟩
          rw [en]
          refine for_it (walk_range (lo := ((pre es p : Nat) : Int)) (n := E0.n)) (fun j σ H' => ∃ c8, ∃ vs : List Nat, σ = [some v0, some (.str s.name), some (.ref bg), c3, c4, some (.ref fo), some (.ref q), some (.int (p : Nat)), c8] ∧ Same H H' ∧ H' bg = some (.lst ((firstsOf es).map natV)) ∧ H' q = some (.lst (ps.map natV)) ∧ H' fo = some (.lst (vs.map natV)) ∧
            vs.length ≤ 40 * i + j ∧ WayOk (nextsOf es) vs ∧ ((j = 0 ∧ ∀ u, vs.getLast? = some u → pre es p ∈ (nextsOf es).getD u []) ∨ (0 < j ∧ vs.getLast? = some (pre es p + (j - 1)))))
            ⟨_, vs, rfl, s7, hb7, hq7, hf7, hvl, hw, .inl ⟨rfl, fun u hu => hlast u hu p ep⟩⟩ (fun _ _ _ _ _ => trivial) ?_ ?_
          · rintro j x σ H9 H10 hj ⟨c8, vs, rfl, s9, hb9, hq9, hf9, hvl9, hw9, hl9⟩ ⟨rfl, rfl⟩
            refine ⟨_, rfl, .inl ⟨rfl, _, SqL.of hf9⟩, _, rfl, fo, _, _, rfl, rfl, hf9, (by rw [List.length_map, sizeLine_eq]; omega), ?_⟩
            refine ⟨_, vs ++ [pre es p + j], rfl, same_up s9 hfo0, by rw [upd_ne hbf]; exact hb9, by rw [upd_ne hqf]; exact hq9, ?_, by rw [List.length_append]; show vs.length + 1 ≤ _; omega, hw9.snoc (by rw [hal]; omega) ?_, .inr ⟨by omega, by rw [List.getLast?_append]; simp⟩⟩
            · have e1 : ((pre es p : Nat) : Int) + (j : Nat) = ((pre es p + j : Nat) : Int) := by omega
              rw [upd_same, List.map_append]
              show some (HO.lst (_ ++ [V.int (((pre es p : Nat) : Int) + (j : Nat))])) = _
              rw [e1]
              rfl
            · intro u hu
              rcases hl9 with ⟨rfl, h⟩ | ⟨h0, h⟩
              · exact h u hu
              · rw [h] at hu
                cases hu
                rw [List.getD_eq_getElem?_getD, nextsOf_get ee (j := j - 1) (by omega), if_pos (by omega)]
                have e2 : pre es p + (j - 1) + 1 = pre es p + j := by omega
                rw [e2]
                exact List.mem_singleton.mpr rfl
          · rintro σ H9 ⟨c8, vs, rfl, s9, hb9, hq9, hf9, hvl9, hw9, hl9⟩
            refine ⟨_, _, _, _, vs, rfl, s9, hb9, hq9, hf9, by omega, hw9, fun u hu p' hp' => ?_⟩
            rcases hl9 with ⟨h0, _⟩ | ⟨h0, h⟩
            · omega
            · rw [h] at hu
              cases hu
              obtain ⟨sz', vss', way', ee'⟩ := wp.bar p' (List.mem_of_getElem? hp')
              rw [List.getD_eq_getElem?_getD, nextsOf_get ee (j := E0.n - 1) (by omega), if_neg (by omega)]
              exact led_of_reach (wp.go i p p' ep hp') ee'
      · rintro σ H7 ⟨c3, c4, c7, c8, vs, rfl, s7, hb7, hq7, hf7, hvl, hw, hlast⟩
        refine ⟨_, rfl, kk H7 fo vs s7 hfo0 hf7 ?_ hw⟩
        have := wp.len
        rw [List.length_map] at hvl
        omega
end
end MC
set_option Elab.async false
set_option linter.all false
set_option maxRecDepth 100000
set_option maxHeartbeats 4000000
namespace MC
open PySem PySem.Spec PyProof.Rows L2
/-! ### what is heard of a way is right -/
def Nt.note (t : Nt) : Note := (t.ps, t.len)
def notesOf (es : List Entry) (vs : List Nat) : List Note := vs.map fun v => match (thingsL es)[v]? with
  | some t => t.note
  | none => ([], (0, 1))
theorem notesOf_get {es : List Entry} {vs : List Nat} {k v : Nat} {t : Nt} (hv : vs[k]? = some v) (ht : (thingsL es)[v]? = some t) : (notesOf es vs)[k]? = some t.note := by
  rw [notesOf, List.getElem?_map, hv]
  show some (match (thingsL es)[v]? with | some t => t.note | none => ([], (0, 1))) = _
  rw [ht]
theorem nextsOf_len (es : List Entry) : (nextsOf es).length = total es := by rw [nextsOf, nextsUp_len _ (Nat.le_refl _), pre_len]
theorem price_zero {n : Note} {t : Nt} (h : priceOf n t = 0) : t.note = n := by
  unfold priceOf at h
  by_cases c1 : n.1 = t.ps
  · by_cases c2 : n.2 = t.len
    · exact Prod.ext c1.symm c2.symm
    · rw [if_pos c1, if_neg c2] at h; cases h
  · rw [if_neg c1] at h
    split at h <;> cases h
theorem minL_zero {l : List Int} (hn : ∀ x ∈ l, 0 ≤ x) (h : (0 : Int) ∈ l) : minL l = 0 := by
  obtain ⟨h1, h2⟩ := minL_spec (l := l) (fun e => by rw [e] at h; cases h)
  have := h2 _ h
  have := hn _ h1
  omega
theorem way_heard {s : Song} (good : LineOk s.line) {vs : List Nat} (w : WayOk (nextsOf s.line) vs) (hl : vs.length ≤ 40) :
    costOf (pbOf s (notesOf s.line vs)) = 0 ∧ ∃ us, HearWay (pbOf s (notesOf s.line vs)) us ∧ (wayOf (pbOf s (notesOf s.line vs)) (goalOf (pbOf s (notesOf s.line vs)))).reverse = hearsOf (pbOf s (notesOf s.line vs)) us := by
  have hnl : (notesOf s.line vs).length = vs.length := List.length_map _
  have ok := pbOf_ok good (notes := notesOf s.line vs) (by omega)
  have hN : (pbOf s (notesOf s.line vs)).N = total s.line := thingsL_len s.line
  have hlen := nextsOf_len s.line
  have h1 : ∀ k v, vs[k]? = some v → v < (pbOf s (notesOf s.line vs)).N ∧ (pbOf s (notesOf s.line vs)).price k v = 0 := by
    intro k v hv
    have hlt := w.lt v (List.mem_of_getElem? hv)
    have hvN : v < (thingsL s.line).length := by rw [thingsL_len]; omega
    have ht : (thingsL s.line)[v]? = some (thingsL s.line)[v] := List.getElem?_eq_getElem hvN
    refine ⟨hvN, ?_⟩
    unfold Pb.price
    show (match (notesOf s.line vs)[k]?, (thingsL s.line)[v]? with | some n, some t => priceOf n t | _, _ => 0) = 0
    rw [notesOf_get hv ht, ht]
    show priceOf (Nt.note _) _ = 0
    unfold priceOf Nt.note
    rw [if_pos rfl, if_pos rfl]
    rfl
  have h2 : ∀ k u v, vs[k]? = some u → vs[k + 1]? = some v → v ∈ (pbOf s (notesOf s.line vs)).nx u := by
    intro k u v hu hv
    have := w.go k u v hu hv
    rw [List.getD_eq_getElem?_getD] at this
    exact this
  obtain ⟨g, hg, hc⟩ := path_zero ok (show vs.length = (notesOf s.line vs).length from hnl.symm) h1 h2 fun v hv => pbOf_ne hv
  have rb := row_back ok (pbOf s (notesOf s.line vs)).notes.length
  have c0 : costOf (pbOf s (notesOf s.line vs)) = 0 := by
    refine minL_zero (fun x hx => ?_) ?_
    · obtain ⟨i, hi⟩ := List.mem_iff_getElem?.mp hx
      rw [lastC, List.getElem?_map] at hi
      cases e : (rowAt (pbOf s (notesOf s.line vs)) (pbOf s (notesOf s.line vs)).notes.length)[i]? with
      | none => rw [e] at hi; cases hi
      | some c =>
        rw [e] at hi
        have h3 := rb.nn i
        rw [cst_get e] at h3
        cases hi
        exact h3
    · have hlt : g < (rowAt (pbOf s (notesOf s.line vs)) (pbOf s (notesOf s.line vs)).notes.length).length := by rw [rb.len]; omega
      have e : (rowAt (pbOf s (notesOf s.line vs)) (pbOf s (notesOf s.line vs)).notes.length)[g]? = some _ := List.getElem?_eq_getElem hlt
      rw [cst_get e] at hc
      refine List.mem_of_getElem? (i := g) ?_
      rw [lastC, List.getElem?_map, e]
      exact congrArg some hc
  obtain ⟨g1, g2⟩ := cost_cell ok
  rw [c0] at g2
  obtain ⟨us, u1, u2, u3, u4⟩ := zero_wayOf ok g1 g2
  exact ⟨c0, us, ⟨u1, u2, u3⟩, u4⟩
theorem Dep.frac' (n : Nat) (f : Frac) : Dep (n + 2) (fD f) := Dep.frac n f
theorem Dep.note (n : Nat) (x : Note) : Dep (n + 3) (noteD x) := Dep.tup fun d hd => by
  rcases List.mem_cons.mp hd with rfl | hd
  · exact Dep.ints n _
  · rw [List.mem_singleton.mp hd]; exact Dep.frac n _
theorem cut2 (a b : V) (r : List V) : cutV (a :: b :: r) none (some 2) = [a, b] := by
  have h := cut_take (a :: b :: r) 2
  exact h
def spRight : Sp := Sp5 fun a b c d e H Q _ => ∃ (s : Song) (lt la ln : Addr) (tvs : List V) (vs : List Nat), SongAt H a s ∧ b = .str s.name ∧ SongGood s ∧ c = .ref lt ∧ H lt = some (.lst tvs) ∧ RpA H tvs ((thingsL s.line).map Nt.d) ∧ d = .ref la ∧ LLAt H la (nextsOf s.line) ∧
  e = .ref ln ∧ H ln = some (.lst (vs.map natV)) ∧ WayOk (nextsOf s.line) vs ∧ vs.length ≤ 40 ∧ ∀ H', Same H H' → Q (.bl true) H'
section
variable {P : Program} {w : World} {K : PySem.W.Frag} {mg : Str → Option Value} {base : Heap}
/- slots of _law_right: 0 _law_score_here, 1 _law_name, 2 _law_things_here*, 3 _law_after, 4 _law_numbers, 5 _law_notes, 6 _law_told, 7 _law_k, 8 _law_step, 9 _law_v -/
theorem sc_law_right : FnScope ["_law_score_here", "_law_name", "_law_things_here", "_law_after", "_law_numbers", "_law_notes", "_law_told", "_law_k", "_law_step", "_law_v"] ["_law_score_here", "_law_name", "_law_things_here", "_law_after", "_law_numbers"] (defScope s_law_right) := ⟨rfl, rfl, rfl, by decide +kernel, rfl, by decide +kernel, by decide +kernel⟩
theorem cal_law_right (T : Tx w K mg) : Cal P w K mg base CX0 (129) "_law_right" ["_law_score_here", "_law_name", "_law_things_here", "_law_after", "_law_numbers"] spRight := by
  refine Cal.of T.f_law_right T.g_law_right sc_law_right (fun _ _ _ _ _ _ us hl => match us, hl with | [_, _, _, _, _], _ => rfl) (fun vs H Q E h => by obtain ⟨x0, x1, x2, x3, x4, rfl, _⟩ := h; rfl) (fun f cdv A outer s H vs Q E hr h => ?_)
  obtain ⟨v0, v1, v2, v3, v4, rfl, h⟩ := h
  refine ⟨_, (pss_cons (ps_setLc (i := 5) (own := [("_law_v", 9)]) (by rfl) sc_law_right.nd rfl rfl (sw_true rfl rfl rfl (by decide +kernel)) (pi_list (pv 4)) (blkOk_by (own := [("_law_v", 9)]) (N := ["_law_score_here", "_law_name", "_law_things_here", "_law_after", "_law_numbers", "_law_notes", "_law_told", "_law_k", "_law_step", "_law_v"]) (sc := defScope s_law_right) (by decide +kernel)) (fun _ _ _ _ _ => (pg_name (i := 9) sc_law_right.nd rfl (Or.inl rfl))) (fun _ _ _ _ _ => pts_nil) (fun _ _ _ _ _ => (pe_slice (sl_tupAK K) (pe_ix (ix_listK K) (pv 2) (pv 9) (fun _ _ => rfl)) po_none (po_some pe_int))))
    (pss_cons (ps_set (i := 6) sc_law_right.nd rfl (Or.inl rfl) (pc (cal_heard T) hr (pa_cons (pv 0) (pa_cons (pv 1) (pa_cons (pv 5) pa_nil)))))
    (pss_cons (ps_if (PW.pt (pw_or (pt_cmpR op_ne (pe_ix ix_tup (pv 6) pe_int (fun _ _ => rfl)) pe_int (nomark _)) (pw_or1 (pt_cmpR op_ne (pe_callB call_len_seq (by rfl) T.b_len PySem.boot_len (pa_cons (pe_ix ix_tup (pv 6) pe_int (fun _ _ => rfl)) pa_nil)) (pe_callB call_len_seq (by rfl) T.b_len PySem.boot_len (pa_cons (pv 5) pa_nil)) (nomark _))))) (pss_one (ps_ret pe_bl)) pss_nil)
    (pss_cons (ps_for PassesOwn.never rfl (pi_enumT (by rfl) T.b_enumerate (pa_cons (pe_ix ix_tup (pv 6) pe_int (fun _ _ => rfl)) pa_nil)) (pg_tup (by rfl) (pgs_cons (pg_name (i := 7) sc_law_right.nd rfl (Or.inl rfl)) (pgs_cons (pg_name (i := 8) sc_law_right.nd rfl (Or.inl rfl)) pgs_nil))) (pss_cons (ps_if (PW.pt (pw_or (pt_cmpR (op_neD hr.units) (pe_slice sl_tupA (pv 8) po_none (po_some pe_int)) (pe_tup (pa_cons pe_str (pa_cons (pv 7) pa_nil))) (nomark _)) (pw_or1 (pt_cmpR (op_neD hr.units) (pe_slice sl_tupA (pe_ix ix_list (pv 2) (pe_ix ix_tup (pv 8) pe_int (fun _ _ => rfl)) (fun _ _ => rfl)) po_none (po_some pe_int)) (pe_ix ix_list (pv 5) (pv 7) (fun _ _ => rfl)) (nomark _))))) (pss_one (ps_ret pe_bl)) pss_nil)
      (pss_one (ps_if (PW.pt (pw_and (pt_cmpR op_gt (pv 7) pe_int (nomark _)) (pw_and1 (pt_cmpR op_notIn_seq (pe_ix ix_tup (pv 8) pe_int (fun _ _ => rfl)) (pe_ix ix_list (pv 3) (pe_ix ix_tup (pe_ix ix_tup (pe_ix ix_tup (pv 6) pe_int (fun _ _ => rfl)) (pe_op op_sub (pv 7) pe_int) (fun _ _ => rfl)) pe_int (fun _ _ => rfl)) (fun _ _ => rfl)) (by rfl))))) (pss_one (ps_ret pe_bl)) pss_nil))))
    (pss_one (ps_ret (pe_cmpR op_is_bl (pc (cal_shows_heard T) hr (pa_cons (pv 0) (pa_cons (pv 1) (pa_cons (pv 5) (pa_cons (pv 6) pa_nil))))) pe_bl (nomark _)))))))), ?_⟩
  obtain ⟨s, lt, la, ln, tvs, vs, hs, rfl, good, rfl, hlt, rt, rfl, hla, rfl, hln, hw, hvl, kk⟩ := h
  have hlen := nextsOf_len s.line
  have hnl : (notesOf s.line vs).length = vs.length := List.length_map _
  have ok := pbOf_ok good.line (notes := notesOf s.line vs) (by omega)
  have hN : (pbOf s (notesOf s.line vs)).N = total s.line := thingsL_len s.line
  have htvl : tvs.length = total s.line := by rw [rt.len, List.length_map, thingsL_len]
  obtain ⟨c0, us, hus, hway⟩ := way_heard good.line hw hvl
  -- a thing of the written ones
  have thing : ∀ {v : Nat}, v < total s.line → ∃ (t : Nt) (q : Addr) (x y z : V), (thingsL s.line)[v]? = some t ∧ tvs[v]? = some (.ref q) ∧ H q = some (.tup [x, y, z]) ∧ Rp H x (iD t.ps) ∧ Rp H y (fD t.len) := by
    intro v hv
    obtain ⟨t, ht⟩ : ∃ t, (thingsL s.line)[v]? = some t := ⟨_, List.getElem?_eq_getElem (by rw [thingsL_len]; exact hv)⟩
    obtain ⟨tv, h1, h2⟩ := rt.getD (i := v) (by rw [List.getElem?_map, ht]; rfl)
    obtain ⟨q, zs, rfl, hq, r⟩ := h2.tup_inv
    obtain ⟨x, r1, rfl, e1, r⟩ := r.cons_inv
    obtain ⟨y, r1, rfl, e2, r⟩ := r.cons_inv
    obtain ⟨z, r1, rfl, e3, r⟩ := r.cons_inv
    cases r.nil_inv
    exact ⟨_, q, x, y, z, ht, h1, hq, e1, e2⟩
  refine ⟨_, rfl, ln, rfl, ⟨_, SqL.of hln⟩, fun D hD => ?_⟩
  refine lc_rp (walk_list (xs := vs.map natV)) hD ((notesOf s.line vs).map noteD) (by rw [List.length_map, List.length_map, hnl]) (by rw [List.length_map, sizeLine_eq]; omega) (fun H s => SqL.of (s.on hln)) ?_ ?_
  · rintro i x H1 H2 dd hi s1 e ⟨rfl, hx⟩ C N kk2
    rw [List.getElem?_map] at hx
    cases ev : vs[i]? with
    | none => rw [ev] at hx; cases hx
    | some v =>
      rw [ev] at hx
      cases hx
      have hv := hw.lt v (List.mem_of_getElem? ev)
      obtain ⟨t, q, x, y, z, ht, hq1, hq, r1, r2⟩ := thing (v := v) (by omega)
      rw [List.getElem?_map, notesOf_get ev ht] at e
      cases e
      refine ⟨rfl, yesT ?_⟩
      refine ⟨_, rfl, _, rfl, _, _, _, _, rfl, rfl, SqL.of (s1.on hlt), atI_nat (j := v) (hq1), 2, rfl, q, _, rfl, SqT.of (s1.on hq), fun z => absurd z (by show ¬ (HT.sIx 3 0 none = 0 ∧ HT.sIx 3 3 (some 2) = 3); decide), fun _ p hp => ?_⟩
      rw [cut2]
      have s2 := same_new (o := .tup [x, y]) hp
      exact kk2 _ _ s2 (.tup upd_same (.cons (r1.mono (s1.trans s2).tk) (.cons (r2.mono (s1.trans s2).tk) .nil)))
  intro H1 nvs s1 hnv rnv
  have hnvl : nvs.length = vs.length := by rw [rnv.len, List.length_map, hnl]
  -- heard
  refine ⟨_, rfl, _, rfl, _, rfl, ?_⟩
  refine ⟨_, _, _, rfl, s, D, nvs, notesOf s.line vs, hs.mono s1.tk, rfl, good, rfl, hnv, rnv, by omega, fun H2 told s2 rtold => ?_⟩
  have rtold0 := rtold
  generalize hP : pbOf s (notesOf s.line vs) = P at *
  obtain ⟨a, ts, rfl, ha, rr⟩ := rtold.tup_inv
  obtain ⟨t1, r1, rfl, e1, rr⟩ := rr.cons_inv
  obtain ⟨t2, r2, rfl, e2, rr⟩ := rr.cons_inv
  obtain ⟨t3, r3, rfl, e3, rr⟩ := rr.cons_inv
  cases rr.nil_inv
  cases e1.int_inv
  rw [c0] at ha
  rw [hway] at e2
  obtain ⟨wa, wvs, rfl, hwa, rwv⟩ := e2.tup_inv
  have hPn : P.notes.length = vs.length := by rw [← hP]; exact hnl
  have hwl : wvs.length = vs.length := by rw [rwv.len, List.length_map, hearsOf, List.length_map, List.length_range, hPn]
  have s12 := s1.trans s2
  -- a step of the way
  have stepv : ∀ {k : Nat}, k < vs.length → ∃ (q : Addr) (u : Nat), us[k]? = some u ∧ wvs[k]? = some (.ref q) ∧ H2 q = some (.tup [.str "hear", .int (k : Nat), .int (u : Nat)]) := by
    intro k hk
    obtain ⟨u, hu⟩ : ∃ u, us[k]? = some u := ⟨_, List.getElem?_eq_getElem (by rw [hus.len]; omega)⟩
    obtain ⟨v, h1, h2⟩ := rwv.getD (i := k) (d := (Stp.hear k (us.getD k 0)).d) (by rw [List.getElem?_map, hearsOf, List.getElem?_map, List.getElem?_range (by omega)]; rfl)
    have egd : us.getD k 0 = u := by rw [List.getD_eq_getElem?_getD, hu]; rfl
    rw [egd] at h2
    obtain ⟨q, rfl, h3⟩ := h2.hear_inv
    exact ⟨q, _, hu, h1, h3⟩
  refine ⟨_, rfl, _, _, _, _, rfl, rfl, SqT.of (ha), atI_nat (j := 0) rfl, rfl, _, rfl, itF (by decide) ?_⟩
  refine ⟨_, rfl, _, _, _, _, rfl, rfl, SqT.of (ha), atI_nat (j := 1) rfl, wa, wvs, rfl, .inr (SqT.of hwa), _, rfl, D, nvs, rfl, .inl (SqL.of (s2.on hnv)), rfl, _, rfl, itF (by rw [hwl, hnvl]; simp) ?_⟩
  refine ⟨_, rfl, _, _, _, _, rfl, rfl, SqT.of (ha), atI_nat (j := 1) rfl, wa, wvs, rfl, SqT.of hwa, ?_⟩
  refine for_it (walk_enumT (xs := wvs)) (fun i σ H' => ∃ c7 c8 c9, σ = [some v0, some (.str s.name), some (.ref lt), some (.ref la), some (.ref ln), some (.ref D), some (.ref a), c7, c8, c9] ∧ Same H2 H') ⟨_, _, _, rfl, same_refl _⟩ ?_ ?_ ?_
  · rintro i σ H' _ ⟨_, _, _, rfl, s3⟩
    exact SqT.of (s3.on hwa)
  · rintro i x σ H3 H4 hi ⟨c7, c8, c9, rfl, s3⟩ ⟨t, x, y, rfl, ht, rfl, hx, hy⟩
    cases hx
    have hil : i < vs.length := by omega
    obtain ⟨q, u, hu, hq1, hq⟩ := stepv hil
    have hy : wvs[i]? = some y := hy
    rw [hq1] at hy
    cases hy
    have s4 := s3.trans (same_new (o := .tup [.int (i : Nat), .ref q]) ht)
    refine ⟨t, _, rfl, SqT.of upd_same, rfl, _, _, rfl, _, _, rfl, rfl, ?_⟩
    -- the step's form
    refine ⟨_, rfl, 2, rfl, q, _, rfl, SqT.of (s4.on hq), fun z => absurd z (by show ¬ (HT.sIx 3 0 none = 0 ∧ HT.sIx 3 3 (some 2) = 3); decide), fun _ p hp => ?_⟩
    rw [cut2]
    have s5 := same_new (o := .tup [.str "hear", .int (i : Nat)]) hp
    refine ⟨_, rfl, (by show 2 ≤ sizeLine; decide), fun p2 hp2 => ?_⟩
    have s6 := same_new (o := .tup [.str "hear", .int (i : Nat)]) hp2
    have d1 : Dep 3 (.tuple [.str "hear", .int (i : Nat)]) := Dep.tup fun d hd => by
      rcases List.mem_cons.mp hd with rfl | hd
      · exact Dep.str 1 (by decide +kernel)
      · rw [List.mem_singleton.mp hd]; exact Dep.int 1 _
    refine ⟨.tuple [.str "hear", .int (i : Nat)], .tuple [.str "hear", .int (i : Nat)], (Rp.tup (s6.on upd_same) (.cons (.str _) (.cons (.int _) .nil))).dp, (Rp.tup upd_same (.cons (.str _) (.cons (.int _) .nil))).dp, d1.shaped (by omega), d1.shaped (by omega), _, rfl, itF (by rw [SeqAt.eqv_refl _ d1.1]; decide) ?_⟩
    -- the thing's pitches and length
    have s46 := s4.trans (s5.trans s6)
    generalize (upd (upd (upd H3 t (.tup [.int (i : Nat), .ref q])) p (.tup [.str "hear", .int (i : Nat)])) p2 (.tup [.str "hear", .int (i : Nat)])) = H6 at s46
    have hi' := hus.ok i u hu
    have huN : u < total s.line := by have := hi'.1; omega
    obtain ⟨th, qt, x, y, z, hth, hqt1, hqt, x1, x2⟩ := thing huN
    have s26 := s12.trans s46
    refine ⟨_, rfl, _, rfl, _, _, _, _, rfl, rfl, SqT.of (s46.on hq), atI_nat (j := 2) rfl, _, _, _, _, rfl, rfl, SqL.of (s26.on hlt), atI_nat (j := u) (hqt1), 2, rfl, qt, _, rfl, SqT.of (s26.on hqt), fun z => absurd z (by show ¬ (HT.sIx 3 0 none = 0 ∧ HT.sIx 3 3 (some 2) = 3); decide), fun _ p3 hp3 => ?_⟩
    rw [cut2]
    have s7 := same_new (o := .tup [x, y]) hp3
    have s67 := s46.trans s7
    have s27 := s26.trans s7
    obtain ⟨vi, evi⟩ : ∃ v, vs[i]? = some v := ⟨_, List.getElem?_eq_getElem hil⟩
    have hvi := hw.lt vi (List.mem_of_getElem? evi)
    obtain ⟨tv, _, _, _, _, htv, _⟩ := thing (v := vi) (by omega)
    have hnt := notesOf_get evi htv
    obtain ⟨nv, hnv1, hnv2⟩ := rnv.getD (i := i) (by rw [List.getElem?_map, hnt]; rfl)
    have enote : th.note = tv.note := by
      have h3 := hi'.2
      rw [← hP] at h3
      unfold Pb.price at h3
      have h4 : (pbOf s (notesOf s.line vs)).notes[i]? = some tv.note := hnt
      have h5 : (pbOf s (notesOf s.line vs)).things[u]? = some th := hth
      rw [h4, h5] at h3
      exact price_zero h3
    refine ⟨_, rfl, _, rfl, _, _, _, _, rfl, rfl, SqL.of ((s2.trans s67).on hnv), atI_nat (j := i) (hnv1), ?_⟩
    refine ⟨noteD th.note, noteD tv.note, (Rp.tup upd_same (.cons (x1.mono s27.tk) (.cons (x2.mono s27.tk) .nil))).dp, (hnv2.mono (s2.trans s67).tk).dp, (Dep.note 0 _).shaped (by omega), (Dep.note 0 _).shaped (by omega), ?_⟩
    rw [enote, SeqAt.eqv_refl _ (Dep.note 0 _).1]
    refine ⟨_, rfl, itF (by decide) ?_⟩
    -- one of the next ones
    refine ⟨_, rfl, _, _, rfl, rfl, _, rfl, ?_⟩
    by_cases ci : 0 < i
    · refine itT (dT (by omega)) ?_
      obtain ⟨j, rfl⟩ : ∃ j, i = j + 1 := ⟨i - 1, by omega⟩
      obtain ⟨q', u', hu', hq1', hq'⟩ := stepv (k := j) (by omega)
      have hgo := hus.go j u' u hu' hu
      have hu'N : u' < (nextsOf s.line).length := by have := (hus.ok j u' hu').1; omega
      have hnx : (nextsOf s.line)[u']? = some (nextsOf s.line)[u'] := List.getElem?_eq_getElem hu'N
      have hmem : u ∈ (nextsOf s.line)[u'] := by
        have h3 : u ∈ P.nx u' := hgo
        rw [← hP] at h3
        have h4 : (pbOf s (notesOf s.line vs)).nx u' = (nextsOf s.line)[u'] := by
          unfold Pb.nx
          show ((nextsOf s.line)[u']?).getD [] = _
          rw [hnx]
          rfl
        rw [h4] at h3
        exact h3
      obtain ⟨avs, gq, ha1, ha2, ha3⟩ := hla.get hnx
      refine ⟨_, rfl, _, _, _, _, rfl, rfl, SqT.of (s67.on hq), atI_nat (j := 2) rfl, ?_⟩
      refine ⟨_, rfl, _, rfl, _, _, _, _, rfl, rfl, SqT.of (s67.on ha), atI_nat (j := 1) rfl, _, rfl, _, _, rfl, rfl, ?_⟩
      refine ⟨wa, wvs, ((j + 1 : Nat) : Int) - 1, .ref q', rfl, rfl, SqT.of (s67.on hwa), by rw [show ((j + 1 : Nat) : Int) - 1 = ((j : Nat) : Int) by omega]; exact atI_nat hq1', ?_⟩
      refine ⟨_, _, _, _, rfl, rfl, SqT.of (s67.on hq'), atI_nat (j := 2) rfl, _, _, _, _, rfl, rfl, SqL.of (s27.on ha1), atI_nat (j := u') (ha2), ?_⟩
      refine ⟨gq, _, rfl, .inl (SqL.of (s27.on ha3)), rfl, flat_nats _, _, rfl, ?_⟩
      have einV : inV (V.int (u : Nat)) ((nextsOf s.line)[u'].map natV) = true := inV_nat hmem
      refine itF (by show ¬ (!inV (V.int (u : Nat)) ((nextsOf s.line)[u'].map natV)) = true; rw [einV]; decide) ?_
      exact ⟨_, _, _, rfl, s67⟩
    · refine itF (dF (by omega)) ?_
      refine itF Bool.false_ne_true ?_
      exact ⟨_, _, _, rfl, s67⟩
  · rintro σ H3 ⟨c7, c8, c9, rfl, s3⟩
    have s13 := s12.trans s3
    refine ⟨_, rfl, _, rfl, _, rfl, _, rfl, ?_⟩
    refine ⟨_, _, _, _, rfl, s, D, nvs, notesOf s.line vs, us, hs.mono s13.tk, rfl, good, rfl, (s2.trans s3).on hnv, rnv.mono (s2.trans s3).tk, by omega, ?_, ?_, ?_, ?_, fun H4 s4 => ?_⟩
    · rw [hP]; exact rtold0.mono s3.tk
    · rw [hP]; exact c0
    · rw [hP]; exact hus
    · rw [hP]; exact hway
    · exact ⟨_, _, rfl, rfl, kk H4 (s13.trans s4)⟩
end
end MC
set_option Elab.async false
set_option linter.all false
set_option maxRecDepth 100000
set_option maxHeartbeats 4000000
namespace MC
open PySem PySem.Spec PyProof.Rows L2
/-! ### all that is asked of one score -/
theorem cut_both (xs : List V) {a : Nat} (m : Nat) (h : a ≤ xs.length) : cutV xs (some (a : Int)) (some ((a : Int) + (m : Int))) = (xs.drop a).take m := by
  unfold cutV
  have e : (a : Int) + (m : Int) = ((a + m : Nat) : Int) := by omega
  rw [e, HT.sIx_nat, HT.sIx_nat, Nat.min_eq_left h]
  by_cases c : a + m ≤ xs.length
  · rw [Nat.min_eq_left c]
    congr 1
    omega
  · rw [Nat.min_eq_right (by omega), List.take_of_length_le (by rw [List.length_drop]; omega), List.take_of_length_le (by rw [List.length_drop]; omega)]
theorem LLh.at {h l : Addr} {H : Hp} {a : List (List Nat)} (x : LLh h H l a) : LLAt H l a := by
  obtain ⟨vs, h1, _, h2⟩ := x
  exact ⟨vs, h1, h2.mono fun v gs ⟨q, e, _, z⟩ => ⟨q, e, z⟩⟩
theorem nextsOf_mem {s : Song} (good : LineOk s.line) {gs : List Nat} (h : gs ∈ nextsOf s.line) : gs ≠ [] ∧ gs.length ≤ 80001 := by
  obtain ⟨q, e, j, h1, h2, h3⟩ := mem_nextsUp h
  have ht := good.total
  rw [h3]
  by_cases c : j + 1 < e.n
  · rw [if_pos c]
    exact ⟨List.cons_ne_nil _ _, by show 1 ≤ 80001; omega⟩
  · rw [if_neg c]
    have := ledOf_len s.line (q + 1)
    exact ⟨ledOf_ne _ _, by omega⟩
def spAll : Sp := Sp3 fun a b c H Q _ => ∃ (h : Addr) (s : Song) (m : Nat), a = .ref h ∧ HandOk H h m ∧ m + 1000 ≤ 1000000000000000 ∧ SongAt H b s ∧ c = .str s.name ∧ SongGood s ∧ ∀ H', HS h H H' (m + 1000) → Q (.bl true) H'
section
variable {P : Program} {w : World} {K : PySem.W.Frag} {mg : Str → Option Value} {base : Heap}
/- slots of _law_all: 0 _law_hand_here, 1 _law_score_here, 2 _law_name, 3 _law_things_here, 4 _law_after, 5 _law_gone, 6 _law_turn, 7 _law_many, 8 _law_at -/
theorem sc_law_all : FnScope ["_law_hand_here", "_law_score_here", "_law_name", "_law_things_here", "_law_after", "_law_gone", "_law_turn", "_law_many", "_law_at"] ["_law_hand_here", "_law_score_here", "_law_name"] (defScope s_law_all) := ⟨rfl, rfl, rfl, by decide +kernel, rfl, by decide +kernel, by decide +kernel⟩
theorem cal_law_all (T : Tx w K mg) : Cal P w K mg base CX0 (131) "_law_all" ["_law_hand_here", "_law_score_here", "_law_name"] spAll := by
  refine Cal.of T.f_law_all T.g_law_all sc_law_all (fun _ _ _ _ _ _ us hl => match us, hl with | [_, _, _], _ => rfl) (fun vs H Q E h => by obtain ⟨x0, x1, x2, rfl, _⟩ := h; rfl) (fun f cdv A outer s H vs Q E hr h => ?_)
  obtain ⟨v0, v1, v2, rfl, h⟩ := h
  refine ⟨_, (pss_cons (ps_set (i := 3) sc_law_all.nd rfl (Or.inl rfl) (pc (cal_written T) hr (pa_cons (pv 1) (pa_cons (pv 2) pa_nil))))
    (pss_cons (ps_set (i := 4) sc_law_all.nd rfl (Or.inl rfl) (pc (cal_nexts T) hr (pa_cons (pv 1) (pa_cons (pv 2) pa_nil))))
    (pss_cons (ps_set (i := 5) sc_law_all.nd rfl (Or.inl rfl) (pc (cal_law_walked T) hr (pa_cons (pv 1) (pa_cons (pv 2) pa_nil))))
    (pss_cons (ps_for PassesOwn.never rfl (pi_range1 (by rfl) T.b_range (pa_cons pe_int pa_nil)) (pg_name (i := 6) sc_law_all.nd rfl (Or.inl rfl)) (pss_cons (ps_set (i := 7) sc_law_all.nd rfl (Or.inl rfl) (pe_ix ix_list (pe_lst (pa_cons (pe_op op_add pe_int (pc (cal_law_take T) hr (pa_cons (pv 0) (pa_cons pe_int pa_nil)))) (pa_cons pe_int pa_nil))) (pe_callTy call_int1 (by rfl) T.b_int (by decide +kernel) (pa_cons (pe_cmpR op_eq (pc (cal_law_take T) hr (pa_cons (pv 0) (pa_cons pe_int pa_nil))) pe_int (nomark _)) pa_nil)) (fun _ _ => rfl)))
      (pss_cons (ps_set (i := 7) sc_law_all.nd rfl (Or.inl rfl) (pe_callB (call_min2 (by rfl)) (by rfl) T.b_min (by decide +kernel) (pa_cons (pv 7) (pa_cons (pe_op op_fdiv pe_int (pe_op op_add (pe_callB call_len_seq (by rfl) T.b_len PySem.boot_len (pa_cons (pv 3) pa_nil)) pe_int)) pa_nil))))
      (pss_cons (ps_set (i := 8) sc_law_all.nd rfl (Or.inl rfl) (pc (cal_law_take T) hr (pa_cons (pv 0) (pa_cons (pe_op op_add (pe_callB call_len_seq (by rfl) T.b_len PySem.boot_len (pa_cons (pv 5) pa_nil)) pe_int) pa_nil))))
      (pss_cons (ps_if (pt_not (pt_val (pc (cal_law_right T) hr (pa_cons (pv 1) (pa_cons (pv 2) (pa_cons (pv 3) (pa_cons (pv 4) (pa_cons (pe_slice sl_list (pv 5) (po_some (pv 8)) (po_some (pe_op op_add (pv 8) (pv 7)))) pa_nil)))))))) (pss_one (ps_ret pe_bl)) pss_nil)
      (pss_one (ps_if (pt_not (pt_val (pc (cal_law_right T) hr (pa_cons (pv 1) (pa_cons (pv 2) (pa_cons (pv 3) (pa_cons (pv 4) (pa_cons (pc (cal_law_led T) hr (pa_cons (pv 0) (pa_cons (pv 4) (pa_cons (pv 7) pa_nil)))) pa_nil)))))))) (pss_one (ps_ret pe_bl)) pss_nil)))))))
    (pss_one (ps_ret pe_bl)))))), ?_⟩
  obtain ⟨h, s, m, rfl, o, hm, hs, rfl, good, kk⟩ := h
  have ok := good.line
  have htot := ok.total
  have hlen := nextsOf_len s.line
  refine ⟨_, rfl, _, rfl, ?_⟩
  refine ⟨_, _, rfl, s, hs, rfl, good, fun H1 lt tvs s1 hlt0 hlt rlt => ?_⟩
  refine ⟨_, rfl, _, rfl, ?_⟩
  refine ⟨_, _, rfl, s, hs.mono s1.tk, rfl, good, fun H2 la s2 hla0 hlan => ?_⟩
  have s12 := s1.trans s2
  refine ⟨_, rfl, _, rfl, ?_⟩
  refine ⟨_, _, rfl, s, hs.mono s12.tk, rfl, good, fun H3 gl gvs s3 hgl0 hgl hgvl hgw => ?_⟩
  have s13 := s12.trans s3
  have S3 := HS.same o s13
  have hlth : lt ≠ h := o.ne hlt0
  have hglh : gl ≠ h := (HS.same o s12).o.ne hgl0
  have hlah : LLh h H3 la (nextsOf s.line) := (LLh.of hlan (HS.same o s1).o hla0).hs (HS.same (HS.same o s12).o s3)
  have hlt3 := (s2.trans s3).on hlt
  have rlt3 := rlt.mono (s2.trans s3).tk
  have htvl : tvs.length = total s.line := by rw [rlt.len, List.length_map, thingsL_len]
  have hs3 := hs.mono s13.tk
  have o3 := S3.o
  refine ⟨3, rfl, by decide, by decide, ?_⟩
  refine for_it (walk_range (lo := 0) (n := 3)) (fun i σ H' => ∃ c6 c7 c8, σ = [some (.ref h), some v1, some (.str s.name), some (.ref lt), some (.ref la), some (.ref gl), c6, c7, c8] ∧ HS h H3 H' (m + i * 100))
    ⟨_, _, _, rfl, (HS.refl o3).mono (by omega)⟩ (fun _ _ _ _ _ => trivial) ?_ ?_
  · rintro i x σ H4 H5 hi ⟨c6, c7, c8, rfl, s4⟩ ⟨rfl, rfl⟩
    -- how many
    refine ⟨_, rfl, _, _, rfl, h, m + i * 100, 12, rfl, s4.o, by omega, rfl, by omega, by omega, fun H6 r6 s6 hr6 => ?_⟩
    refine ⟨_, _, rfl, rfl, (by show 2 ≤ sizeLine; decide), fun z hz => ?_⟩
    have t7 := same_new (o := .lst [.int (1 + (r6 : Int)), .int 40]) hz
    have hzh := s6.o.ne hz
    refine ⟨_, rfl, _, _, rfl, h, m + i * 100 + 1, 8, rfl, (s6.and t7).o, by omega, rfl, by omega, by omega, fun H8 r8 s8 hr8 => ?_⟩
    have hz8 := s8.on (upd_same (H := H6) (a := z) (o := .lst [.int (1 + (r6 : Int)), .int 40])) hzh
    refine ⟨rfl, .inr ⟨_, rfl, ?_⟩⟩
    obtain ⟨n1, hn1, hnv⟩ : ∃ n1 : Nat, n1 ≤ 40 ∧ atI [V.int (1 + (r6 : Int)), V.int 40] (if decide (V.int (r8 : Nat) = V.int 0) = true then 1 else 0) = some (.int (n1 : Nat)) := by
      by_cases cz : decide (V.int (r8 : Nat) = V.int 0) = true
      · exact ⟨40, by omega, by rw [if_pos cz]; rfl⟩
      · refine ⟨1 + r6, by omega, ?_⟩
        rw [if_neg cz]
        show some (V.int (1 + (r6 : Int))) = _
        rw [show (1 + (r6 : Int)) = ((1 + r6 : Nat) : Int) by omega]
    refine ⟨z, _, _, _, rfl, rfl, SqL.of hz8, hnv, ?_⟩
    have s48 := (s4.trans (s6.and t7)).trans s8
    refine ⟨_, rfl, _, rfl, lt, tvs, rfl, .inl (SqL.of (s48.on hlt3 hlth)), _, _, rfl, rfl, _, _, rfl, rfl, ⟨by omega, by omega⟩, _, _, rfl, ?_⟩
    obtain ⟨n2, hn2, hn2v⟩ : ∃ n2 : Nat, n2 ≤ 40 ∧ (if (3000 : Int) / ((tvs.length : Nat) + 1) < (n1 : Int) then (3000 : Int) / ((tvs.length : Nat) + 1) else (n1 : Int)) = (n2 : Int) := by
      have h0 : (0 : Int) ≤ 3000 / (((tvs.length : Nat) : Int) + 1) := Int.ediv_nonneg (by omega) (by omega)
      obtain ⟨y, hy⟩ := Int.eq_ofNat_of_zero_le h0
      rw [hy]
      split
      · exact ⟨y, by omega, rfl⟩
      · exact ⟨n1, by omega, rfl⟩
    rw [hn2v]
    -- from where
    have hgl8 := s48.on hgl hglh
    refine ⟨_, rfl, _, rfl, gl, _, rfl, .inl (SqL.of hgl8), _, _, rfl, rfl, ?_⟩
    rw [List.length_map]
    refine ⟨_, _, rfl, h, m + i * 100 + 2, gvs.length + 1, rfl, s48.o, by omega, congrArg V.int (by omega), by omega, by omega, fun H9 ra s9 hra => ?_⟩
    have s49 := s48.trans s9
    -- the stretch of what is walked
    refine ⟨_, rfl, _, rfl, _, rfl, _, rfl, ?_⟩
    refine ⟨_, rfl, _, rfl, (ra : Nat), rfl, _, rfl, _, rfl, _, _, rfl, rfl, (ra : Int) + (n2 : Int), rfl, gl, _, rfl, SqL.of (s49.on hgl hglh), fun p hp => ?_⟩
    rw [cut_both _ n2 (by rw [List.length_map]; omega)]
    have ecut : ((gvs.map natV).drop ra).take n2 = ((gvs.drop ra).take n2).map natV := by rw [← List.map_drop, ← List.map_take]
    rw [ecut]
    have t10 := same_new (o := .lst (((gvs.drop ra).take n2).map natV)) hp
    have s410 := s49.and t10
    refine ⟨_, _, _, _, _, rfl, s, lt, la, p, tvs, (gvs.drop ra).take n2, hs3.mono s410.t, rfl, good, rfl, s410.on hlt3 hlth, rlt3.mono s410.t, rfl, (hlah.hs s410).at, rfl, upd_same, (hgw.drop ra).take n2, by rw [List.length_take]; omega, fun H11 s11 => ?_⟩
    refine ⟨_, rfl, itF (by decide) ?_⟩
    have s411 := s410.and s11
    -- a way by draws
    refine ⟨_, rfl, _, rfl, _, rfl, _, rfl, ?_⟩
    refine ⟨_, rfl, _, rfl, _, rfl, ?_⟩
    refine ⟨_, _, _, rfl, h, la, m + i * 100 + 3, n2, nextsOf s.line, rfl, rfl, rfl, s411.o, by omega, hlah.hs s411, by omega, fun gs hg => nextsOf_mem ok hg, hn2, fun H12 q ws s12' hq0 hq hql hqw => ?_⟩
    have s412 := s411.trans s12'
    refine ⟨_, _, _, _, _, rfl, s, lt, la, q, tvs, ws, hs3.mono s412.t, rfl, good, rfl, s412.on hlt3 hlth, rlt3.mono s412.t, rfl, (hlah.hs s412).at, rfl, hq, hqw, by omega, fun H13 s13' => ?_⟩
    refine ⟨_, rfl, itF (by decide) ?_⟩
    exact ⟨_, _, _, rfl, (s412.and s13').mono (by omega)⟩
  · rintro σ H4 ⟨c6, c7, c8, rfl, s4⟩
    exact kk H4 ((S3.trans s4).mono (by omega))
end
end MC
set_option Elab.async false
set_option linter.all false
set_option maxRecDepth 100000
set_option maxHeartbeats 4000000
namespace MC
open PySem PySem.Spec PyProof.Rows L2
/-! ### turned items are within bounds -/
section
variable {L B : Nat} {up : Int} {by_ : Frac}
mutual
theorem Item.ok_turned (bb : FB B by_) : ∀ (d : Nat) (x : Item), x.ok L d → (x.turned up by_).ok (L + B) d
  | d, .tone ps len ti he, h => by
    have h' : FB L len ∧ ps.length ≤ 10 := by cases d <;> exact h
    rw [Item.turned]
    have h2 : FB (L + B) (ftimes len by_) ∧ (ps.map fun p => p + up).length ≤ 10 := ⟨ftimes_FB h'.1 bb, by rw [List.length_map]; exact h'.2⟩
    cases d <;> exact h2
  | d, .rest len, h => by
    have h' : FB L len := by cases d <;> exact h
    rw [Item.turned]
    have h2 : FB (L + B) (ftimes len by_) := ftimes_FB h' bb
    cases d <;> exact h2
  | 0, .group m t its, h => h.elim
  | d + 1, .group m t its, h => by
    rw [Item.ok] at h
    rw [Item.turned, Item.ok]
    obtain ⟨h1, h2, h3, h4, h5, h6⟩ := h
    exact ⟨h1, h2, h3, h4, by rw [turnedI_map, List.length_map]; exact h5, itemsOk_turned bb d its h6⟩
  | d, .mark w ds, h => by
    rw [Item.turned]
    cases d <;> trivial
theorem itemsOk_turned (bb : FB B by_) : ∀ (d : Nat) (xs : List Item), itemsOk L d xs → itemsOk (L + B) d (turnedI up by_ xs)
  | d, [], h => by rw [turnedI, itemsOk]; trivial
  | d, x :: r, h => by
    rw [itemsOk] at h
    rw [turnedI, itemsOk]
    exact ⟨Item.ok_turned bb d x h.1, itemsOk_turned bb d r h.2⟩
end
mutual
theorem Item.cnt_turned : ∀ x : Item, (x.turned up by_).cnt = x.cnt
  | .tone .. => rfl
  | .rest _ => rfl
  | .group m t its => by rw [Item.turned, Item.cnt, Item.cnt]; exact cntI_turned its
  | .mark .. => rfl
theorem cntI_turned : ∀ xs : List Item, cntI (turnedI up by_ xs) = cntI xs
  | [] => rfl
  | x :: r => by rw [turnedI, cntI, cntI, Item.cnt_turned x, cntI_turned r]
end
mutual
theorem Item.notes_turned : ∀ x : Item, (x.turned up by_).notes = x.notes
  | .tone .. => rfl
  | .rest _ => rfl
  | .group m t its => by rw [Item.turned, Item.notes, Item.notes]; exact notesI_turned its
  | .mark .. => rfl
theorem notesI_turned : ∀ xs : List Item, notesI (turnedI up by_ xs) = notesI xs
  | [] => rfl
  | x :: r => by rw [turnedI, notesI, notesI, Item.notes_turned x, notesI_turned r]
end
mutual
theorem Item.notes_le : ∀ x : Item, x.notes ≤ x.cnt
  | .tone .. => Nat.le_refl _
  | .rest _ => Nat.le_refl _
  | .group m t its => by rw [Item.notes, Item.cnt]; exact notesI_le its
  | .mark .. => Nat.zero_le _
theorem notesI_le : ∀ xs : List Item, notesI xs ≤ cntI xs
  | [] => Nat.le_refl _
  | x :: r => by rw [notesI, cntI]; exact Nat.add_le_add (Item.notes_le x) (notesI_le r)
end
theorem bok_turned {its : List Item} (bb : FB B by_) (hB : B ≤ 100) (h : itemsOk 2 6 its) (hl : its.length ≤ 100) (hc : cntI its ≤ 40) : BOk (turnedI up by_ its) := by
  refine ⟨by rw [turnedI_map, List.length_map]; exact hl, 6, 2 + B, by omega, by omega, itemsOk_turned bb 6 its h, by omega, ?_⟩
  rw [cntI_turned]
  have h1 : cntI its * (2 + B + 2 * 6 + 2) ≤ 40 * 116 := Nat.mul_le_mul hc (by omega)
  omega
end
theorem EOk.mono {m n : Nat} (l : m ≤ n) : ∀ {e : Entry}, EOk m e → EOk n e
  | .bar _ (_ :: _) _, h => h
  | .bar _ [] _, h => h.elim
  | .turn _, h => ⟨h.1, h.2.1, fun g hg => ⟨(h.2.2 g hg).1, by have := (h.2.2 g hg).2; omega⟩⟩
/-! ### how a draft grows -/
def Has (S : DS) (j : Nat) (x : Str) : Prop := ∃ kvs, S.dicts[j]? = some kvs ∧ ∃ i : Nat, valV kvs (.inr x) = some (.int (i : Nat)) ∧ i ≤ S.ents.length
structure Up (S S' : DS) : Prop where
  e : S.ents.length ≤ S'.ents.length
  d : S.dicts.length ≤ S'.dicts.length
  h : ∀ j x, Has S j x → Has S' j x
theorem Up.refl (S : DS) : Up S S := ⟨Nat.le_refl _, Nat.le_refl _, fun _ _ h => h⟩
theorem Up.trans {S S1 S2 : DS} (a : Up S S1) (b : Up S1 S2) : Up S S2 := ⟨Nat.le_trans a.e b.e, Nat.le_trans a.d b.d, fun j x h => b.h j x (a.h j x h)⟩
theorem Up.ents {S S' : DS} (he : S.ents.length ≤ S'.ents.length) (hd : S'.dicts = S.dicts) : Up S S' := by
  refine ⟨he, by rw [hd]; exact Nat.le_refl _, fun j x ⟨kvs, h1, i, h2, h3⟩ => ⟨kvs, by rw [hd]; exact h1, i, h2, by omega⟩⟩
theorem up_add (S : DS) (e : Entry) : Up S (S.add e) := Up.ents (by rw [len_add]; exact Nat.le_succ _) rfl
theorem up_put (S : DS) (i : Nat) (gs : List Int) : Up S (S.put i gs) := Up.ents (by rw [len_put]; exact Nat.le_refl _) rfl
theorem up_new (S : DS) : Up S { S with uses := S.uses + 1, dicts := S.dicts ++ [[]] } := by
  refine ⟨Nat.le_refl _, ?_, ?_⟩
  · show S.dicts.length ≤ (S.dicts ++ [[]]).length
    rw [List.length_append]
    exact Nat.le_succ _
  · rintro j x ⟨kvs, h1, i, h2, h3⟩
    refine ⟨kvs, ?_, i, h2, h3⟩
    show (S.dicts ++ [[]])[j]? = some kvs
    rw [List.getElem?_append_left (List.getElem?_eq_some_iff.mp h1).1]
    exact h1
theorem up_dput (S : DS) (j : Nat) (y : Str) : Up S (S.dput j y) := by
  refine ⟨Nat.le_refl _, ?_, ?_⟩
  · show S.dicts.length ≤ (S.dicts.modify j _).length
    rw [List.length_modify]
    exact Nat.le_refl _
  · rintro k x ⟨kvs, h1, i, h2, h3⟩
    by_cases c : j = k
    · subst c
      have e1 : (S.dput j y).dicts[j]? = some (putK kvs (.inr y) (.int (S.ents.length : Nat))) := by
        show (S.dicts.modify j _)[j]? = _
        rw [List.getElem?_modify_eq, h1]
        rfl
      by_cases d : (Sum.inr x : Key) = .inr y
      · exact ⟨_, e1, S.ents.length, by rw [valV_put, if_pos d], Nat.le_refl _⟩
      · exact ⟨_, e1, i, by rw [valV_put, if_neg d]; exact h2, h3⟩
    · refine ⟨kvs, ?_, i, h2, h3⟩
      show (S.dicts.modify j _)[k]? = _
      rw [List.getElem?_modify_ne _ _ c]
      exact h1
theorem has_dput {S : DS} {j : Nat} (hj : j < S.dicts.length) (y : Str) : Has (S.dput j y) j y := by
  refine ⟨putK S.dicts[j] (.inr y) (.int (S.ents.length : Nat)), ?_, S.ents.length, by rw [valV_put, if_pos rfl], Nat.le_refl _⟩
  show (S.dicts.modify j _)[j]? = _
  rw [List.getElem?_modify_eq, List.getElem?_eq_getElem hj]
  rfl
structure TGood (S : DS) (sid : Nat) (Sg : List Str) (t : Nat × List (Option Str) × Nat) : Prop where
  lt : t.1 < S.ents.length
  ne : t.2.1 ≠ []
  len : t.2.1.length ≤ 100
  sl : t.2.2 < S.dicts.length
  has : ∀ x, some x ∈ t.2.1 → Has S t.2.2 x ∨ (t.2.2 = sid ∧ x ∈ Sg)
theorem TGood.up {S S' : DS} {sid : Nat} {Sg : List Str} {t : Nat × List (Option Str) × Nat} (h : TGood S sid Sg t) (u : Up S S') : TGood S' sid Sg t :=
  ⟨Nat.lt_of_lt_of_le h.lt u.e, h.ne, h.len, Nat.lt_of_lt_of_le h.sl u.d, fun x hx => (h.has x hx).imp (u.h _ x) id⟩
structure Grow (S S' : DS) (sid : Nat) (Sg : List Str) (hl : Nat → Prop) : Prop where
  up : Up S S'
  old : ∀ i, i < S.ents.length → S'.ents[i]? = S.ents[i]?
  new : ∀ i e, S.ents.length ≤ i → S'.ents[i]? = some e → EOk S'.ents.length e ∨ hl i ∨ ∃ t ∈ S'.turns, t.1 = i
  tn : ∃ ts, S'.turns = S.turns ++ ts ∧ ∀ t ∈ ts, TGood S' sid Sg t
section
variable {S S1 S2 S' : DS} {sid : Nat} {Sg : List Str} {hl h1 h2 : Nat → Prop}
theorem Grow.imp (g : Grow S S' sid Sg hl) (h : ∀ i, hl i → h1 i) : Grow S S' sid Sg h1 :=
  ⟨g.up, g.old, fun i e hi he => (g.new i e hi he).imp id (Or.imp (h i) id), g.tn⟩
theorem Grow.refl (S : DS) (sid : Nat) (Sg : List Str) (hl : Nat → Prop) : Grow S S sid Sg hl :=
  ⟨Up.refl S, fun _ _ => rfl, fun i e hi he => by
    have := (List.getElem?_eq_some_iff.mp he).1
    omega, [], by rw [List.append_nil], fun t h => absurd h (List.not_mem_nil)⟩
theorem Grow.trans (a : Grow S S1 sid Sg h1) (b : Grow S1 S2 sid Sg h2) : Grow S S2 sid Sg (fun i => h1 i ∨ h2 i) := by
  obtain ⟨ts, e1, q1⟩ := a.tn
  obtain ⟨us, e2, q2⟩ := b.tn
  refine ⟨a.up.trans b.up, fun i hi => (b.old i (Nat.lt_of_lt_of_le hi a.up.e)).trans (a.old i hi), fun i e hi he => ?_, ts ++ us, by rw [e2, e1, List.append_assoc], fun t ht => ?_⟩
  · by_cases c : i < S1.ents.length
    · rw [b.old i c] at he
      rcases a.new i e hi he with q | q | ⟨t, ht, q⟩
      · exact .inl (q.mono b.up.e)
      · exact .inr (.inl (.inl q))
      · exact .inr (.inr ⟨t, by rw [e2]; exact List.mem_append_left _ ht, q⟩)
    · rcases b.new i e (by omega) he with q | q | q
      · exact .inl q
      · exact .inr (.inl (.inr q))
      · exact .inr (.inr q)
  · rcases List.mem_append.mp ht with ht | ht
    · exact (q1 t ht).up b.up
    · exact q2 t ht
theorem Grow.add (e : Entry) (he : EOk (S.ents.length + 1) e ∨ hl S.ents.length) : Grow S (S.add e) sid Sg hl := by
  refine ⟨up_add S e, fun i hi => List.getElem?_append_left hi, fun i e' hi h => ?_, [], by rw [List.append_nil]; rfl, fun t h => absurd h (List.not_mem_nil)⟩
  have hlt := (List.getElem?_eq_some_iff.mp h).1
  rw [len_add] at hlt ⊢
  have ei : i = S.ents.length := by omega
  subst ei
  have h : (S.ents ++ [e])[S.ents.length]? = some e' := h
  rw [List.getElem?_append_right (Nat.le_refl _), Nat.sub_self] at h
  cases h
  exact he.imp id Or.inl
theorem Grow.put (g : Grow S S' sid Sg hl) {p : Nat} {gs : List Int} (h1 : S.ents.length ≤ p) (h2 : p < S'.ents.length) (hg : EOk S'.ents.length (.turn gs)) : Grow S (S'.put p gs) sid Sg (fun i => hl i ∧ i ≠ p) := by
  obtain ⟨ts, e1, q1⟩ := g.tn
  refine ⟨g.up.trans (up_put _ _ _), fun i hi => ?_, fun i e hi he => ?_, ts, e1, fun t ht => (q1 t ht).up (up_put _ _ _)⟩
  · show (S'.ents.set p _)[i]? = _
    rw [List.getElem?_set_ne (by omega)]
    exact g.old i hi
  · rw [len_put]
    have he : (S'.ents.set p (.turn gs))[i]? = some e := he
    by_cases c : p = i
    · subst c
      rw [List.getElem?_set_self h2] at he
      cases he
      exact .inl hg
    · rw [List.getElem?_set_ne c] at he
      rcases g.new i e hi he with q | q | q
      · exact .inl q
      · exact .inr (.inl ⟨q, fun z => c z.symm⟩)
      · exact .inr (.inr q)
/-- turns all resolved: of any row -/
theorem Grow.close {sid' : Nat} {Sg' : List Str} (g : Grow S S' sid' Sg' hl) (h : ∀ y ∈ Sg', Has S' sid' y) : Grow S S' sid Sg hl := by
  obtain ⟨ts, e1, q1⟩ := g.tn
  refine ⟨g.up, g.old, g.new, ts, e1, fun t ht => ?_⟩
  have q := q1 t ht
  refine ⟨q.lt, q.ne, q.len, q.sl, fun x hx => .inl ?_⟩
  rcases q.has x hx with z | ⟨z1, z2⟩
  · exact z
  · rw [z1]; exact h x z2
theorem Grow.ofUp (u : Up S S') (e : S'.ents = S.ents) (t : S'.turns = S.turns) : Grow S S' sid Sg hl := by
  refine ⟨u, fun i _ => by rw [e], fun i x hi he => ?_, [], by rw [t, List.append_nil], fun t h => absurd h (List.not_mem_nil)⟩
  rw [e] at he
  have := (List.getElem?_eq_some_iff.mp he).1
  omega
end
theorem eok_turn {n : Nat} {gs : List Int} (h1 : gs ≠ []) (h2 : gs.length ≤ 100) (h3 : ∀ g ∈ gs, 0 ≤ g ∧ g ≤ (n : Int)) : EOk n (.turn gs) := ⟨h1, h2, h3⟩
/-- all open turns are put -/
theorem grow_putOpens {S0 : DS} {sid : Nat} {Sg : List Str} {many begin behind : Nat} : ∀ (l : List (Nat × List Nat)) {S : DS} {hl : Nat → Prop}, Grow S0 S sid Sg hl → (∀ o ∈ l, S0.ents.length ≤ o.1 ∧ o.1 < S.ents.length ∧ o.2 ≠ [] ∧ o.2.length ≤ 100) →
    begin ≤ S.ents.length → behind ≤ S.ents.length → Grow S0 (putOpens many begin behind l S) sid Sg (fun i => hl i ∧ i ∉ l.map Prod.fst) ∧ Up S (putOpens many begin behind l S)
  | [], S, hl, g, _, _, _ => ⟨g.imp fun i h => ⟨h, List.not_mem_nil⟩, Up.refl S⟩
  | (p, ns) :: r, S, hl, g, ho, hb, hh => by
    obtain ⟨o1, o2, o3, o4⟩ := ho _ List.mem_cons_self
    have g1 := g.put (p := p) (gs := ns.map fun k => if k = many then (behind : Int) else (begin : Int)) o1 o2 (eok_turn (by simpa using o3) (by rw [List.length_map]; exact o4) fun x hx => by
      obtain ⟨k, _, rfl⟩ := List.mem_map.mp hx
      split <;> omega)
    obtain ⟨g2, u2⟩ := grow_putOpens r g1 (fun o h => by rw [len_put]; exact ho o (List.mem_cons_of_mem _ h)) (by rw [len_put]; exact hb) (by rw [len_put]; exact hh)
    refine ⟨g2.imp fun i h => ⟨h.1.1, ?_⟩, (up_put _ _ _).trans u2⟩
    rw [List.map_cons, List.mem_cons, not_or]
    exact ⟨h.1.2, h.2⟩
/-- a layer that grows well -/
def GrL (book : Str → Option (List Thing)) (n : Nat) (f : LayF) : Prop := ∀ Sg ths W m, n = m + 1 → ThsOk book Sg m ths W → ∀ w k S B, FB B w.by_ → B + 2 * m ≤ 100 → w.sid < S.dicts.length →
  Grow S (f ths w k S) w.sid Sg (fun _ => False) ∧ ∀ y, Lays y ths → Has (f ths w k S) w.sid y
def OpOk (S0 S : DS) (l : List (Nat × List Nat)) : Prop := ∀ o ∈ l, S0.ents.length ≤ o.1 ∧ o.1 < S.ents.length ∧ o.2 ≠ [] ∧ o.2.length ≤ 100
theorem Lays.split {y : Str} {t : Thing} {r : List Thing} (h : Lays y (t :: r)) : Lays y [t] ∨ Lays y r := by
  cases h with
  | here => exact .inl .here
  | there h => exact .inr h
  | rep h => exact .inl (.rep h)
  | ends h1 h2 => exact .inl (.ends h1 h2)
theorem lays_nil {y : Str} (h : Lays y []) : False := by cases h
section
variable {book : Str → Option (List Thing)} {n : Nat} {f : LayF} {Sg : List Str}
theorem grow_layEnds {m : Nat} (hf : GrL book (m + 1) f) (w : Wn) {B : Nat} (hB : FB B w.by_) (hBm : B + 2 * m ≤ 100) {S0 : DS} {c : Nat} : ∀ {ends : List (List Nat × List Thing)} {W : Nat}, EndsOk book Sg m ends W → ∀ x : ES, w.sid < x.s.dicts.length →
    Grow S0 x.s w.sid Sg (fun q => q = c ∨ q ∈ x.opens.map Prod.fst) → OpOk S0 x.s x.opens →
    Grow S0 (layEnds f w ends x).s w.sid Sg (fun q => q = c ∨ q ∈ (layEnds f w ends x).opens.map Prod.fst) ∧ OpOk S0 (layEnds f w ends x).s (layEnds f w ends x).opens ∧ Up x.s (layEnds f w ends x).s ∧
      ∀ e ∈ ends, ∀ y, Lays y e.2 → Has (layEnds f w ends x).s w.sid y
  | _, _, .nil, x, hs, g, o => ⟨g, o, Up.refl _, fun e he => absurd he (List.not_mem_nil)⟩
  | _, _, .cons (ns := ns) (ths := ths) (r := r) n1 n2 h n3 e, x, hs, g, o => by
    obtain ⟨g1, l1⟩ := hf Sg ths _ m rfl h w x.number x.s B hB hBm hs
    have g2 : Grow (f ths w x.number x.s) ((f ths w x.number x.s).add (.turn [])) w.sid Sg (fun q => q = (f ths w x.number x.s).ents.length) := Grow.add _ (.inr rfl)
    have u12 : Up x.s ((f ths w x.number x.s).add (.turn [])) := g1.up.trans g2.up
    have g3 : Grow S0 (layEnd f w (ns, ths) x).s w.sid Sg (fun q => q = c ∨ q ∈ (layEnd f w (ns, ths) x).opens.map Prod.fst) := by
      refine ((g.trans g1).trans g2).imp fun i hi => ?_
      show i = c ∨ i ∈ (x.opens ++ [((f ths w x.number x.s).ents.length, ns)]).map Prod.fst
      rw [List.map_append, List.mem_append]
      rcases hi with ((hi | hi) | hi) | hi
      · exact .inl hi
      · exact .inr (.inl hi)
      · exact hi.elim
      · exact .inr (.inr (by rw [hi]; exact List.mem_singleton.mpr rfl))
    have o3 : OpOk S0 (layEnd f w (ns, ths) x).s (layEnd f w (ns, ths) x).opens := by
      intro q hq
      rcases List.mem_append.mp (show q ∈ x.opens ++ [((f ths w x.number x.s).ents.length, ns)] from hq) with hq | hq
      · obtain ⟨a1, a2, a3⟩ := o q hq
        exact ⟨a1, Nat.lt_of_lt_of_le a2 u12.e, a3⟩
      · rw [List.mem_singleton.mp hq]
        refine ⟨Nat.le_trans g.up.e g1.up.e, ?_, n1, n2⟩
        show _ < ((f ths w x.number x.s).add (.turn [])).ents.length
        rw [len_add]
        exact Nat.lt_succ_self _
    obtain ⟨g4, o4, u4, l4⟩ := grow_layEnds hf w hB hBm e (layEnd f w (ns, ths) x) (Nat.lt_of_lt_of_le hs u12.d) g3 o3
    rw [layEnds]
    refine ⟨g4, o4, u12.trans u4, fun e he y hy => ?_⟩
    rcases List.mem_cons.mp he with rfl | he
    · exact u4.h _ _ (g2.up.h _ _ (l1 y hy))
    · exact l4 e he y hy
theorem grow_layThing (hf : GrL book n f) (gr : Gr f) {t : Thing} {W : Nat} (h : TOk book Sg n t W) (w : Wn) (S : DS) {B : Nat} (hB : FB B w.by_) (hBn : B + 2 * n ≤ 100) (hs : w.sid < S.dicts.length) :
    Grow S (layThing book f t w S) w.sid Sg (fun _ => False) ∧ ∀ y, Lays y [t] → Has (layThing book f t w S) w.sid y := by
  cases h with
  | bar b1 b2 b3 =>
    obtain ⟨its, rest, rfl, i1, i2, i3, i4⟩ := b3
    refine ⟨Grow.add _ (.inl ?_), fun y hy => ?_⟩
    · rw [List.map_cons]
      show BOk (turnedI w.up w.by_ its) ∧ 1 ≤ notesI (turnedI w.up w.by_ its) ∧ notesI (turnedI w.up w.by_ its) ≤ 40
      rw [notesI_turned]
      exact ⟨bok_turned hB (by omega) i1 i2 i3, i4, Nat.le_trans (notesI_le its) i3⟩
    · cases hy with
      | there h => exact (lays_nil h).elim
  | sign =>
    rename_i x
    refine ⟨Grow.ofUp (up_dput S w.sid x) rfl rfl, fun y hy => ?_⟩
    cases hy with
    | here => exact has_dput hs _
    | there h => exact (lays_nil h).elim
  | turn t1 t2 t3 =>
    rename_i goals
    refine ⟨?_, fun y hy => ?_⟩
    · have u : Up S (layThing book f (.turn goals) w S) := Up.ents (by
        show _ ≤ (S.add (.turn [])).ents.length
        rw [len_add]; exact Nat.le_succ _) rfl
      refine ⟨u, fun i hi => List.getElem?_append_left hi, fun i e hi he => ?_, [(S.ents.length, goals, w.sid)], rfl, fun t ht => ?_⟩
      · have hlt := (List.getElem?_eq_some_iff.mp he).1
        have hlt : i < (S.add (.turn [])).ents.length := hlt
        rw [len_add] at hlt
        refine .inr (.inr ⟨(S.ents.length, goals, w.sid), List.mem_append_right _ (List.mem_singleton.mpr rfl), ?_⟩)
        show S.ents.length = i
        omega
      · rw [List.mem_singleton.mp ht]
        refine ⟨?_, t1, t2, hs, fun x hx => .inr ⟨rfl, t3 x hx⟩⟩
        show S.ents.length < (S.add (.turn [])).ents.length
        rw [len_add]
        exact Nat.lt_succ_self _
    · cases hy with
      | there h => exact (lays_nil h).elim
  | use u1 u2 u3 u4 u5 =>
    rename_i Sg' n' W' x up by_ ths
    have hl : S.dicts.length < (S.dicts ++ [([] : List (Key × V))]).length := by
      rw [List.length_append]
      exact Nat.lt_succ_self _
    obtain ⟨g1, l1⟩ := hf Sg' ths W' n' rfl u3 ⟨w.way, S.dicts.length, w.up + up, ftimes w.by_ by_⟩ 0 { S with uses := S.uses + 1, dicts := S.dicts ++ [[]] } (B + 2) (ftimes_FB hB u1) (by omega) hl
    have g2 : Grow { S with uses := S.uses + 1, dicts := S.dicts ++ [[]] } _ w.sid Sg (fun _ => False) := g1.close fun y hy => l1 y (u4 y hy)
    have g0 : Grow S { S with uses := S.uses + 1, dicts := S.dicts ++ [[]] } w.sid Sg (fun _ => False) := Grow.ofUp (up_new S) rfl rfl
    rw [layThing, u2, Option.getD_some]
    refine ⟨(g0.trans g2).imp fun i hi => hi.elim id id, fun y hy => ?_⟩
    cases hy with
    | there h => exact (lays_nil h).elim
  | rep m1 m2 m3 m4 m5 m6 m7 =>
    rename_i n' Wb We many ths ends
    obtain ⟨g1, l1⟩ := hf Sg ths Wb n' rfl m3 w 0 S B hB (by omega) hs
    rw [layThing, layRep]
    generalize hs1 : f ths w 0 S = s1 at g1 l1
    by_cases e : ends.length = 0
    · rw [if_pos e]
      have e0 : ends = [] := List.length_eq_zero_iff.mp e
      subst e0
      have g2 : Grow s1 (s1.add (.turn [])) w.sid Sg (fun q => q = s1.ents.length) := Grow.add _ (.inr rfl)
      have g3 := (g1.trans g2).put (p := s1.ents.length) (gs := List.replicate (many - 1) (S.ents.length : Int) ++ [(s1.ents.length : Int) + 1]) g1.up.e (by rw [len_add]; exact Nat.lt_succ_self _) (by
        refine eok_turn (by simp) (by rw [List.length_append, List.length_replicate]; show many - 1 + 1 ≤ 100; omega) fun g hg => ?_
        rw [len_add]
        have hle := g1.up.e
        rcases List.mem_append.mp hg with hg | hg
        · rw [(List.mem_replicate.mp hg).2]; omega
        · rw [List.mem_singleton.mp hg]; omega)
      refine ⟨g3.imp fun i hi => ?_, fun y hy => ?_⟩
      · rcases hi.1 with h | h
        · exact h
        · exact hi.2 h
      · have hy2 : Lays y ths := by
          cases hy with
          | there h => exact (lays_nil h).elim
          | rep h => exact h
          | ends h1 h2 => exact absurd h1 (List.not_mem_nil)
        exact (up_put _ _ _).h _ _ (g2.up.h _ _ (l1 y hy2))
    · rw [if_neg e]
      have ene : ends ≠ [] := fun z => e (by rw [z]; rfl)
      have g2 : Grow s1 (s1.add (.turn [])) w.sid Sg (fun q => q = s1.ents.length) := Grow.add _ (.inr rfl)
      have g12 : Grow S (s1.add (.turn [])) w.sid Sg (fun q => q = s1.ents.length ∨ q ∈ ([] : List (Nat × List Nat)).map Prod.fst) := (g1.trans g2).imp fun i hi => by
        rcases hi with h | h
        · exact h.elim
        · exact .inl h
      obtain ⟨g3, o3, u3, l3⟩ := grow_layEnds hf w hB (by omega) m5 ⟨s1.add (.turn []), ths.length, [], []⟩ (Nat.lt_of_lt_of_le hs g12.up.d) g12 (fun o ho => absurd ho (List.not_mem_nil))
      rw [layEndings]
      have hbeg : ∀ k, k < many → Begun (layEnds f w ends ⟨s1.add (.turn []), ths.length, [], []⟩).begins (layEnds f w ends ⟨s1.add (.turn []), ths.length, [], []⟩).s.ents.length (k + 1) := fun k hk =>
        layEnds_has gr w ends _ (m7 ene (k + 1) (by omega) (by omega))
      generalize hx : layEnds f w ends ⟨s1.add (.turn []), ths.length, [], []⟩ = x at g3 o3 u3 l3 hbeg
      have hxl : s1.ents.length + 1 ≤ x.s.ents.length := by
        have := u3.e
        rw [len_add] at this
        exact this
      have g4 := g3.put (p := s1.ents.length) (gs := (List.range many).map fun k => intOf (valV x.begins (.inl ((k : Nat) + 1 : Int)))) g1.up.e (by omega) (by
        refine eok_turn (fun z => ?_) (by rw [List.length_map, List.length_range]; omega) fun g hg => ?_
        · have := congrArg List.length z
          rw [List.length_map, List.length_range] at this
          simp at this
          omega
        · obtain ⟨k, hk, rfl⟩ := List.mem_map.mp hg
          obtain ⟨z, z1, z2⟩ := hbeg k (List.mem_range.mp hk)
          have hk2 : ((k + 1 : Nat) : Int) = (k : Int) + 1 := by omega
          rw [hk2] at z2
          rw [z2]
          show 0 ≤ (z : Int) ∧ (z : Int) ≤ _
          omega)
      obtain ⟨g5, u5⟩ := grow_putOpens (many := many) (begin := S.ents.length) (behind := x.s.ents.length) x.opens g4 (fun o ho => by rw [len_put]; exact o3 o ho) (by rw [len_put]; have := g1.up.e; omega) (by rw [len_put]; exact Nat.le_refl _)
      refine ⟨g5.imp fun i hi => ?_, fun y hy => ?_⟩
      · rcases hi.1.1 with h | h
        · exact hi.1.2 h
        · exact hi.2 h
      · have u45 := (up_put x.s s1.ents.length ((List.range many).map fun k => intOf (valV x.begins (.inl ((k : Nat) + 1 : Int))))).trans u5
        refine u45.h _ _ ?_
        cases hy with
        | there h => exact (lays_nil h).elim
        | rep h => exact u3.h _ _ (g2.up.h _ _ (l1 y h))
        | ends h1 h2 => exact l3 _ h1 y h2
theorem grow_layThings (hf : GrL book n f) (gr : Gr f) : ∀ {ths : List Thing} {W : Nat}, ThsOk book Sg n ths W → ∀ w k S B, FB B w.by_ → B + 2 * n ≤ 100 → w.sid < S.dicts.length →
    Grow S (layThings book f ths w k S) w.sid Sg (fun _ => False) ∧ ∀ y, Lays y ths → Has (layThings book f ths w k S) w.sid y
  | _, _, .nil, w, k, S, B, _, _, _ => ⟨Grow.refl _ _ _ _, fun y hy => (lays_nil hy).elim⟩
  | _, _, .cons (t := t) (r := r) h rr, w, k, S, B, hB, hBn, hs => by
    obtain ⟨g1, l1⟩ := grow_layThing hf gr h { w with way := w.way ++ [(k : Int)] } S hB hBn hs
    obtain ⟨g2, l2⟩ := grow_layThings hf gr rr w (k + 1) (layThing book f t { w with way := w.way ++ [(k : Int)] } S) B hB hBn (Nat.lt_of_lt_of_le hs g1.up.d)
    have g1 : Grow S (layThing book f t { w with way := w.way ++ [(k : Int)] } S) w.sid Sg (fun _ => False) := g1
    rw [layThings]
    refine ⟨(g1.trans g2).imp fun i hi => hi.elim id id, fun y hy => ?_⟩
    rcases hy.split with h | h
    · exact g2.up.h _ _ (l1 y h)
    · exact l2 y h
end
theorem grl_layF (book : Str → Option (List Thing)) : ∀ n, GrL book n (layF book n)
  | 0 => fun _ _ _ _ e => by omega
  | n + 1 => fun Sg ths W m e h w k S B hB hBm hs => by
    have e' : n = m := by omega
    subst e'
    exact grow_layThings (grl_layF book n) (gr_layF book n) h w k S B hB hBm hs
/-! ### the turns' ends -/
theorem endTurns_len (dicts : List (List (Key × V))) : ∀ (ts : List (Nat × List (Option Str) × Nat)) (es : List Entry), (endTurns dicts ts es).length = es.length
  | [], es => rfl
  | (p, gs, sid) :: r, es => by rw [endTurns, endTurns_len dicts r, List.length_set]
theorem endTurns_ok {dicts : List (List (Key × V))} {len : Nat} : ∀ (ts : List (Nat × List (Option Str) × Nat)) (es : List Entry), es.length = len →
    (∀ t ∈ ts, t.1 < len ∧ t.2.1 ≠ [] ∧ t.2.1.length ≤ 100 ∧ ∀ x, some x ∈ t.2.1 → ∃ i : Nat, valV (dicts.getD t.2.2 []) (.inr x) = some (.int (i : Nat)) ∧ i ≤ len) →
    (∀ i e, es[i]? = some e → EOk len e ∨ ∃ t ∈ ts, t.1 = i) → ∀ e ∈ endTurns dicts ts es, EOk len e
  | [], es, _, _, h => fun e he => by
    obtain ⟨i, hi⟩ := List.mem_iff_getElem?.mp he
    rcases h i e hi with q | ⟨t, ht, _⟩
    · exact q
    · exact absurd ht (List.not_mem_nil)
  | (p, gs, sid) :: r, es, hl, ht, h => by
    rw [endTurns]
    obtain ⟨t1, t2, t3, t4⟩ := ht _ List.mem_cons_self
    refine endTurns_ok r _ (by rw [List.length_set]; exact hl) (fun t h' => ht t (List.mem_cons_of_mem _ h')) fun i e he => ?_
    have t1 : p < len := t1
    by_cases c : p = i
    · subst c
      rw [List.getElem?_set_self (by omega)] at he
      cases he
      refine .inl (eok_turn (by simpa using t2) (by rw [List.length_map]; exact t3) fun g hg => ?_)
      obtain ⟨o, ho, rfl⟩ := List.mem_map.mp hg
      cases o with
      | none => show 0 ≤ (p : Int) + 1 ∧ (p : Int) + 1 ≤ _; omega
      | some x =>
        obtain ⟨z, z1, z2⟩ := t4 x ho
        have z1 : valV (dicts.getD sid []) (.inr x) = some (.int (z : Nat)) := z1
        show 0 ≤ intOf (valV (dicts.getD sid []) (.inr x)) ∧ intOf (valV (dicts.getD sid []) (.inr x)) ≤ _
        rw [z1]
        show 0 ≤ (z : Int) ∧ (z : Int) ≤ _
        omega
    · rw [List.getElem?_set_ne c] at he
      rcases h i e he with q | ⟨t, ht', q⟩
      · exact .inl q
      · rcases List.mem_cons.mp ht' with rfl | ht'
        · exact absurd q c
        · exact .inr ⟨t, ht', q⟩
theorem SongOk.good {s : Song} (h : SongOk s) : SongGood s := by
  obtain ⟨Sg, W, ok, hW, hly⟩ := h.ths
  obtain ⟨g, l⟩ := grl_layF s.book 26 Sg s.ths W 25 rfl ok ⟨[], 0, 0, (1, 1)⟩ 0 DS0 1 FB11 (by omega) (by decide)
  have g : Grow DS0 s.lays 0 Sg (fun _ => False) := g
  have l : ∀ y, Lays y s.ths → Has s.lays 0 y := l
  have g : Grow DS0 s.lays 0 [] (fun _ => False) := g.close fun y hy => l y (hly y hy)
  have hsz : sz s.lays = sz DS0 + W := wt_layF s.book 26 Sg s.ths W 25 rfl ok ⟨[], 0, 0, (1, 1)⟩ 0 DS0
  have hlen : s.lays.ents.length ≤ 2000 := by
    have : s.lays.ents.length + s.lays.uses = 0 + 0 + W := hsz
    omega
  obtain ⟨ts, e1, q1⟩ := g.tn
  have e1 : s.lays.turns = ts := e1
  have hasT : ∀ t ∈ s.lays.turns, ∀ x, some x ∈ t.2.1 → Has s.lays t.2.2 x := fun t ht x hx => by
    rw [e1] at ht
    rcases (q1 t ht).has x hx with z | ⟨_, z⟩
    · exact z
    · exact absurd z (List.not_mem_nil)
  refine ⟨h, fun t ht => ?_, fun e he => ?_, ?_⟩
  · have q := q1 t (by rw [← e1]; exact ht)
    have qs := q.sl
    refine ⟨q.lt, q.len, s.lays.dicts[t.2.2], List.getElem?_eq_getElem qs, fun x hx => ?_⟩
    obtain ⟨kvs, k1, i, k2, _⟩ := hasT t ht x hx
    rw [List.getElem?_eq_getElem qs] at k1
    rw [Option.some.inj k1]
    exact ⟨_, k2⟩
  · have hll : s.line.length = s.lays.ents.length := endTurns_len _ _ _
    rw [hll]
    refine endTurns_ok s.lays.turns s.lays.ents rfl (fun t ht => ?_) (fun i e hi => ?_) e he
    · have q := q1 t (by rw [← e1]; exact ht)
      refine ⟨q.lt, q.ne, q.len, fun x hx => ?_⟩
      obtain ⟨kvs, k1, i, k2, k3⟩ := hasT t ht x hx
      rw [List.getD_eq_getElem?_getD, k1]
      exact ⟨i, k2, k3⟩
    · rcases g.new i e (Nat.zero_le _) hi with q | q | q
      · exact .inl q
      · exact q.elim
      · exact .inr q
  · rw [show s.line.length = s.lays.ents.length from endTurns_len _ _ _]
    exact hlen
end MC
set_option Elab.async false
set_option linter.all false
set_option maxRecDepth 100000
set_option maxHeartbeats 4000000
namespace MC
open PySem PySem.Spec PyProof.Rows L2
/-! ### the law itself -/
theorem same_of_hs {Hz Ha Hb : Hp} {h : Addr} {m : Nat} (s : Same Hz Ha) (hz : Hz h = none) (x : HS h Ha Hb m) : Same Hz Hb := fun b o e => x.on (s.on e) (ne_of_none e hz)
theorem Dep.stp (x : Stp) : Dep 3 x.d := by
  cases x with
  | hear n v =>
    refine Dep.tup fun d hd => ?_
    rcases List.mem_cons.mp hd with rfl | hd
    · exact Dep.str 1 (by decide +kernel)
    rcases List.mem_cons.mp hd with rfl | hd
    · exact Dep.int 1 _
    · rw [List.mem_singleton.mp hd]; exact Dep.int 1 _
  | miss v =>
    refine Dep.tup fun d hd => ?_
    rcases List.mem_cons.mp hd with rfl | hd
    · exact Dep.str 1 (by decide +kernel)
    · rw [List.mem_singleton.mp hd]; exact Dep.int 1 _
  | more n =>
    refine Dep.tup fun d hd => ?_
    rcases List.mem_cons.mp hd with rfl | hd
    · exact Dep.str 1 (by decide +kernel)
    · rw [List.mem_singleton.mp hd]; exact Dep.int 1 _
theorem Dep.heard (P : Pb) : Dep 5 (heardD P) := by
  refine Dep.tup fun d hd => ?_
  rcases List.mem_cons.mp hd with rfl | hd
  · exact Dep.int 3 _
  rcases List.mem_cons.mp hd with rfl | hd
  · refine Dep.tup fun d hd => ?_
    obtain ⟨x, _, rfl⟩ := List.mem_map.mp hd
    exact Dep.stp x
  · rw [List.mem_singleton.mp hd]
    refine Dep.tup fun d hd => ?_
    obtain ⟨x, _, rfl⟩ := List.mem_map.mp hd
    exact Dep.ints 1 x
def spLaw (K : PySem.W.Frag) : Sp := Sp1 fun a H Q _ => ∃ (sc : Addr) (ns : List Int), a = .ref sc ∧ SqL K H sc (ns.map V.int) ∧ ns.length ≤ 63 ∧ ∀ H', Q (.bl true) H'
section
variable {P : Program} {w : World} {K : PySem.W.Frag} {mg : Str → Option Value} {base : Heap}
/- slots of law: 0 _law_script, 1 _law_other, 2 _law_called, 3 _law_notes, 4 _law_first, 5 _law_k, 6 _law_hand_here, 7 _law_score_here, 8 _law_name -/
theorem sc_law : FnScope ["_law_script", "_law_other", "_law_called", "_law_notes", "_law_first", "_law_k", "_law_hand_here", "_law_score_here", "_law_name"] ["_law_script"] (defScope s_law) := ⟨rfl, rfl, rfl, by decide +kernel, rfl, by decide +kernel, by decide +kernel⟩
theorem ok_law (T : Tx w K mg) {fd : FuncData} (F : FunD K "law" "law" (defArgs s_law) (defBody s_law) (defScope s_law) [] [] (He.fAd K ("law", none)) fd) : FnOk P w K mg base CX0 133 (He.fAd K ("law", none)) fd ["_law_script"] (spLaw K) := by
  refine F.ok sc_law (fun vs H Q E h => by obtain ⟨x0, rfl, _⟩ := h; rfl) fun cdv A outer s H vs Q E hr h => ?_
  suffices hh : ∃ t, PSs (cxOf CX0 P w K mg base ["_law_script", "_law_other", "_law_called", "_law_notes", "_law_first", "_law_k", "_law_hand_here", "_law_score_here", "_law_name"] "law" (defScope s_law) (He.fAd K ("law", none)) cdv A outer s H E).nox (defBody s_law) t ∧
      t { nx := fun _ H' => Q .non H', rt := Q } (start ["_law_script", "_law_other", "_law_called", "_law_notes", "_law_first", "_law_k", "_law_hand_here", "_law_score_here", "_law_name"] vs) H by
    obtain ⟨t, h, q⟩ := hh
    exact ⟨t, h.nox, q⟩
  obtain ⟨v0, rfl, h⟩ := h
  obtain ⟨sc, ns, rfl, hsc, hnl, kk⟩ := h
  refine ⟨_, (pss_cons (ps_asg (pc (cal_law_score T) hr (pa_cons (pc (cal_law_hand T) hr (pa_cons (pv 0) (pa_cons pe_int pa_nil))) pa_nil)) (pg_tup (by rfl) (pgs_cons (pg_name (i := 1) sc_law.nd rfl (Or.inl rfl)) (pgs_cons (pg_name (i := 2) sc_law.nd rfl (Or.inl rfl)) pgs_nil))))
    (pss_cons (ps_set (i := 3) sc_law.nd rfl (Or.inl rfl) (pe_lst (pa_cons (pe_tup (pa_cons (pe_tup pa_nil) (pa_cons (pe_tup (pa_cons pe_int (pa_cons pe_int pa_nil))) pa_nil))) (pa_cons (pe_tup (pa_cons (pe_tup (pa_cons pe_int pa_nil)) (pa_cons (pe_tup (pa_cons pe_int (pa_cons pe_int pa_nil))) pa_nil))) pa_nil))))
    (pss_cons (ps_set (i := 4) sc_law.nd rfl (Or.inl rfl) (pc (cal_heard T) hr (pa_cons (pv 1) (pa_cons (pv 2) (pa_cons (pv 3) pa_nil)))))
    (pss_cons (ps_for PassesOwn.never rfl (pi_range1 (by rfl) T.b_range (pa_cons (pe_callB (call_max2 (by rfl)) (by rfl) T.b_max (by decide +kernel) (pa_cons pe_int (pa_cons (pe_callB (call_min2 (by rfl)) (by rfl) T.b_min (by decide +kernel) (pa_cons (pe_callB call_len_seq (by rfl) T.b_len PySem.boot_len (pa_cons (pv 0) pa_nil)) (pa_cons pe_int pa_nil))) pa_nil))) pa_nil)) (pg_name (i := 5) sc_law.nd rfl (Or.inl rfl)) (pss_cons (ps_set (i := 6) sc_law.nd rfl (Or.inl rfl) (pc (cal_law_hand T) hr (pa_cons (pv 0) (pa_cons (pv 5) pa_nil))))
      (pss_cons (ps_asg (pc (cal_law_score T) hr (pa_cons (pv 6) pa_nil)) (pg_tup (by rfl) (pgs_cons (pg_name (i := 7) sc_law.nd rfl (Or.inl rfl)) (pgs_cons (pg_name (i := 8) sc_law.nd rfl (Or.inl rfl)) pgs_nil))))
      (pss_one (ps_if (PW.pt (pw_or (pt_not (pt_val (pc (cal_law_all T) hr (pa_cons (pv 6) (pa_cons (pv 7) (pa_cons (pv 8) pa_nil)))))) (pw_or1 (pt_cmpR (op_neD hr.units) (pc (cal_heard T) hr (pa_cons (pv 1) (pa_cons (pv 2) (pa_cons (pv 3) pa_nil)))) (pv 4) (nomark _))))) (pss_one (ps_ret pe_bl)) pss_nil)))))
    (pss_one (ps_ret pe_bl)))))), ?_⟩
  refine ⟨_, rfl, ?_⟩
  refine ⟨_, _, rfl, sc, ns, 7, rfl, hsc, rfl, by omega, fun hd H1 s1 hhd o1 => ?_⟩
  refine ⟨_, rfl, hd, rfl, o1, fun H2 q ov s0 s2 hq hov ok0 => ?_⟩
  have good0 := ok0.good
  refine ⟨q, _, rfl, SqT.of hq, rfl, _, _, rfl, _, _, rfl, rfl, ?_⟩
  have s02 : Same H H2 := same_of_hs s1 hhd s2
  -- the notes of the other
  refine ⟨Nat.zero_le _, fun t1 h1 => ?_⟩
  have u1 := same_new (o := .tup []) h1
  refine ⟨(by show 2 ≤ sizeLine; decide), fun t2 h2 => ?_⟩
  have u2 := same_new (o := .tup [.int 1, .int 1]) h2
  refine ⟨(by show 2 ≤ sizeLine; decide), fun t3 h3 => ?_⟩
  have u3 := same_new (o := .tup [.ref t1, .ref t2]) h3
  refine ⟨(by show 1 ≤ sizeLine; decide), fun t4 h4 => ?_⟩
  have u4 := same_new (o := .tup [.int 0]) h4
  refine ⟨(by show 2 ≤ sizeLine; decide), fun t5 h5 => ?_⟩
  have u5 := same_new (o := .tup [.int 1, .int 2]) h5
  refine ⟨(by show 2 ≤ sizeLine; decide), fun t6 h6 => ?_⟩
  have u6 := same_new (o := .tup [.ref t4, .ref t5]) h6
  refine ⟨(by show 2 ≤ sizeLine; decide), fun nl h7 => ?_⟩
  have u7 := same_new (o := .lst [.ref t3, .ref t6]) h7
  have u67 := u6.trans u7
  have u57 := u5.trans u67
  have u47 := u4.trans u57
  have u37 := u3.trans u47
  have u27 := u2.trans u37
  have u17 := u1.trans u27
  have hnl7 := upd_same (H := (upd (upd (upd (upd (upd (upd H2 t1 (.tup [])) t2 (.tup [.int 1, .int 1])) t3 (.tup [.ref t1, .ref t2])) t4 (.tup [.int 0])) t5 (.tup [.int 1, .int 2])) t6 (.tup [.ref t4, .ref t5]))) (a := nl) (o := .lst [.ref t3, .ref t6])
  have rn7 : RpA (upd (upd (upd (upd (upd (upd (upd H2 t1 (.tup [])) t2 (.tup [.int 1, .int 1])) t3 (.tup [.ref t1, .ref t2])) t4 (.tup [.int 0])) t5 (.tup [.int 1, .int 2])) t6 (.tup [.ref t4, .ref t5])) nl (.lst [.ref t3, .ref t6])) [.ref t3, .ref t6] (([([], (1, 1)), ([0], (1, 2))] : List Note).map noteD) :=
    .cons (.tup (u47.on upd_same) (.cons (.tup (u27.on upd_same) .nil) (.cons (.tup (u37.on upd_same) (.cons (.int _) (.cons (.int _) .nil))) .nil)))
      (.cons (.tup (u7.on upd_same) (.cons (.tup (u57.on upd_same) (.cons (.int _) .nil)) (.cons (.tup (u67.on upd_same) (.cons (.int _) (.cons (.int _) .nil))) .nil))) .nil)
  refine hgen (fun H7 => Same H2 H7 ∧ H7 nl = some (.lst [.ref t3, .ref t6]) ∧ RpA H7 [.ref t3, .ref t6] (([([], (1, 1)), ([0], (1, 2))] : List Note).map noteD)) ⟨u17, hnl7, rn7⟩ ?_
  clear rn7 hnl7 u17 u27 u37 u47 u57 u67 u7 h7 u6 h6 u5 h5 u4 h4 u3 h3 u2 h2 u1 h1
  rintro H7 ⟨s27, hnl7, rn7⟩
  have hov7 := hov.mono s27.tk
  refine ⟨_, rfl, _, rfl, _, rfl, ?_⟩
  refine ⟨_, _, _, rfl, s0, nl, _, [([], (1, 1)), ([0], (1, 2))], hov7, rfl, good0, rfl, hnl7, rn7, by show 2 ≤ 40; omega, fun H8 fv s8 rfv => ?_⟩
  have s78 := s8
  have s08 := (s02.trans s27).trans s8
  have hsc8 := s08.seq hsc
  -- the turns
  refine ⟨_, rfl, sc, _, rfl, .inl hsc8, _, _, rfl, _, _, rfl, ?_⟩
  rw [List.length_map]
  obtain ⟨n, hn, hnv⟩ : ∃ n : Nat, n ≤ 6 ∧ (if (if (6 : Int) < (ns.length : Nat) then (6 : Int) else (ns.length : Nat)) > (1 : Int) then (if (6 : Int) < (ns.length : Nat) then (6 : Int) else (ns.length : Nat)) else 1) = (n : Int) := by
    by_cases c : 6 < ns.length
    · rw [if_pos (show (6 : Int) < (ns.length : Nat) by omega)]
      exact ⟨6, by omega, rfl⟩
    · rw [if_neg (show ¬ (6 : Int) < (ns.length : Nat) by omega)]
      by_cases c2 : 1 < ns.length
      · rw [if_pos (show ((ns.length : Nat) : Int) > 1 by omega)]
        exact ⟨ns.length, by omega, rfl⟩
      · rw [if_neg (show ¬ ((ns.length : Nat) : Int) > 1 by omega)]
        exact ⟨1, by omega, rfl⟩
  rw [hnv]
  refine ⟨(n : Nat), rfl, by omega, by omega, ?_⟩
  rw [show ((n : Nat) : Int).toNat = n from rfl]
  refine for_it (walk_range (lo := 0) (n := n)) (fun i σ H' => ∃ c5 c6 c7 c8, σ = [some (.ref sc), some ov, some (.str s0.name), some (.ref nl), some fv, c5, c6, c7, c8] ∧ Same H8 H')
    ⟨_, _, _, _, rfl, same_refl _⟩ (fun _ _ _ _ _ => trivial) ?_ ?_
  · rintro i x σ H9 H10 hi ⟨c5, c6, c7, c8, rfl, s9⟩ ⟨rfl, rfl⟩
    refine ⟨_, rfl, _, rfl, ?_⟩
    refine ⟨_, _, rfl, sc, ns, i, rfl, s9.seq hsc8, congrArg V.int (by omega), by omega, fun h2 H11 s11 hh2 o11 => ?_⟩
    refine ⟨_, rfl, ?_⟩
    refine ⟨_, rfl, h2, rfl, o11, fun H12 q2 sv s s12 hq2 hsv oks => ?_⟩
    refine ⟨q2, _, rfl, SqT.of hq2, rfl, _, _, rfl, _, _, rfl, rfl, ?_⟩
    refine ⟨_, rfl, _, rfl, _, rfl, ?_⟩
    refine ⟨_, _, _, rfl, h2, s, scoreN, rfl, s12.o, by decide, hsv, rfl, oks.good, fun H13 s13 => ?_⟩
    have s913 := same_of_hs s11 hh2 (s12.trans s13)
    have s813 := s9.trans s913
    refine ⟨_, rfl, itF (by decide) ?_⟩
    refine ⟨_, rfl, _, rfl, _, rfl, ?_⟩
    refine ⟨_, _, _, rfl, s0, nl, _, [([], (1, 1)), ([0], (1, 2))], hov7.mono (s78.trans s813).tk, rfl, good0, rfl, (s78.trans s813).on hnl7, rn7.mono (s78.trans s813).tk, by show 2 ≤ 40; omega, fun H14 fv2 s14 rfv2 => ?_⟩
    have d := Dep.heard (pbOf s0 [([], (1, 1)), ([0], (1, 2))])
    refine ⟨_, rfl, _, _, rfv2.dp, (rfv.mono (s813.trans s14).tk).dp, d.shaped (by omega), d.shaped (by omega), _, rfl, itF (by rw [SeqAt.eqv_refl _ d.1]; decide) ?_⟩
    exact ⟨_, _, _, _, rfl, s813.trans s14⟩
  · rintro σ H9 ⟨c5, c6, c7, c8, rfl, s9⟩
    exact kk H9
end
end MC
set_option Elab.async false
set_option linter.all false
set_option maxRecDepth 100000
set_option maxHeartbeats 0
namespace MC
open PySem PySem.Spec PyProof.Rows L2
theorem facts {P : Program} {w : World} {K : PySem.W.Frag} {h : Heap} {mg : Str → Option Value} {f : Addr} (X : K.In h) (G : h.Ns mainGlobals mg) (hlw : mg ("law" : Str) = some (.ref f)) (c : He.SaysT hfa hfn hts w K) (e : hex K = true) :
    ∃ fd : FuncData, (∀ (s : Shared) (v : Value), BindsTo s fd ⟨[v], []⟩ [("_law_script", v)]) ∧ ∀ base : Heap, K.In base → base.Ns mainGlobals mg → FnOk P w K mg base CX0 133 f fd ["_law_script"] (spLaw K) := by
  have T := tx_mk X G c e
  obtain ⟨fd, F⟩ := T.f_law
  have e2 := hlw.symm.trans T.g_law
  cases e2
  have b := FunD.bindsA (ps := ["_law_script"]) F fun _ _ _ _ _ _ us hl => match us, hl with | [_], _ => rfl
  exact ⟨fd, fun s v => b s [v] rfl, fun base _ _ => ok_law T F⟩
end MC
open PySem PySem.W PySem.Calls PyProof.Rows
theorem PySem.Challenge.cw_manyclocks_k81_whole_walks_are_heard_holds : PySem.Challenge.rw_manyclocks_k81_whole_walks_are_heard.Holds := by
  w_on; o_law
  refine HandSHeadRun.head_any (r := OpenLaw.row PySem.Challenge.rw_manyclocks_k81_whole_walks_are_heard) (q := view (OpenLaw.row PySem.Challenge.rw_manyclocks_k81_whole_walks_are_heard).prog [82]) (H := MC.hkM) (ob := MC.hobM) (M := 4200) (loose := MC.hloose) (d := HandSHeadRun.topDef (OpenLaw.row PySem.Challenge.rw_manyclocks_k81_whole_walks_are_heard).prog 82) (kwd := []) MC.hobM_eq
    (by kernel_rfl) (fun s => by kernel_rfl) MC.hrun (by kernel_rfl) (by kernel_rfl) (by kernel_rfl) (by rfl) (by first | assumption | decide +kernel) (by decide +kernel) ⟨rfl, rfl, rfl, rfl, rfl, by decide +kernel⟩ ?hw ?hc
  case hw => w_witness2
  case hc =>
    refine L2.walk_ofE (l := PySem.Challenge.rw_manyclocks_k81_whole_walks_are_heard) (n := 63) (k := 133) (x := "_law_script") (CX := L2.CX0) rfl (by decide) (by kernel_rfl) ⟨rfl, by decide, by decide⟩ ?F (fun _ _ _ _ z => z)
    intro w mg fa h Y G hmg0
    obtain ⟨K, KX, c, e⟩ := Y
    have hmg : mg ("law" : PySem.Str) = some (.ref fa) := by
      have e : (HandSHeadRun.topDef (OpenLaw.row PySem.Challenge.rw_manyclocks_k81_whole_walks_are_heard).prog 82).name = ("law" : PySem.Str) := by kernel_rfl
      rw [← e]
      exact hmg0
    obtain ⟨fd, hb, hF⟩ := MC.facts (P := (PySem.Challenge.rw_manyclocks_k81_whole_walks_are_heard).prog) (w := w) KX G hmg c e
    exact ⟨K, fd, MC.spLaw K, KX, hb, fun H a ns hl _ hS => ⟨_, rfl, a, ns, rfl, hS, hl, fun _ => rfl⟩, hF⟩
