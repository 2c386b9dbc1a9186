import PyProof.Rows.All
import Wide.All
import OpenK.AllK
import Wide.FinOn
import HandS.ForMost
import HandS.ForExc
import HandS.TryMany
import HandS.ExcInit
import HandS.Small
import HandS.TupAny
import HandS.TupMul
import HandS.Conv
import HandS.Zip
import HandS.Walk
import HandS.Flow
import HandS.Style
import HandS.IsInst
import HandS.Lambda
import KE.KTupSum
import HandS.Deep
import HandS.Replace
import HandS.SetFor
import HandS.Zip0
import HandS.WordsExc
import HandS.ExcOwn
import HandS.ExcField
import HandS.ExcIs
import HandS.Defaults
import KE.KStateDown
import HandS.Head0
import HandS.Head1
import HandS.Head2
import HandS.HeadEnd
import HandS.HeadHook1
import HandS.HeadHook2
import HandS.HeadHook3
import HandS.HeadHook4
import HandS.HeadWalk
import HandS.EndTab
import HandS.NestedK
import HandS.SortInts
import PyProof.ListStr
import PySem.Challenge.RW_cardroom_k86_whole_costs_of_runs
set_option Elab.async false
set_option linter.all false
set_option maxRecDepth 100000
set_option maxHeartbeats 4000000
set_option autoImplicit false
namespace Pf
open PySem PySem.Spec PyProof.Rows L2
def oexB (K : PySem.W.Frag) (C : Addr) : Bool := (match K.lookup C with
  | some ⟨.type "type", _, .cls cd, sl⟩ => (match cd.mro, sl.toList with
    | .ref C' :: bm, [_, _, _, _, some (.builtin n), _] => C' == C && n == "ValueError.__new__" && !cd.hasDel && cd.hasDict && PySem.HandSPX.refsVE bm
    | _, _ => false)
  | _ => false) && (decide (PySem.W.findIn K (.ref C) "__setattr__" = some (some (.builtin "object.__setattr__"))) && (decide (PySem.W.subIn K (.ref C) (.type "BaseException") = some true) && (decide (PySem.W.typeIn K (.ref C) = some (.type "type")) && PySem.W.keepIn K (.ref C))))
def excCB (K : PySem.W.Frag) (C : Addr) : Bool := decide (PySem.W.findIn K (.ref C) "__getattribute__" = some (some (.builtin "BaseException.__getattribute__"))) && (decide (PySem.W.findIn K (.ref C) "__getattr__" = some none) && (decide (PySem.W.subIn K (.ref C) (.type "BaseException") = some true) && (PySem.W.hasDictIn K C &&
  (decide (PySem.W.findIn K (.ref C) "__class__" = some (some (.builtin "object.__class__"))) && (decide (PySem.W.specialIn K (.builtin "object.__class__") "__get__" = some (some (.builtin "getset_descriptor.__get__"))) && (decide (PySem.W.takesIn K (.builtin "object.__class__") = some true) && decide (PySem.W.mroIn K C (.type "object") = some true)))))))
def subC (base nm c : Str) : Bool := decide (c = base) || decide (nm = c)
def isaB (K : PySem.W.Frag) (known : List Str) (A : Str) : Bool := known.all fun nm => excCB K (He.ga K nm) && decide (PySem.W.kitOne K (.ref (He.ga K nm)) (.ref (He.ga K A)) = some (decide (nm = A)))
def exmB (K : PySem.W.Frag) (base : Str) (known : List Str) (c : Str) : Bool := known.all fun nm => decide (PySem.W.exmOne K (.ref (He.ga K nm)) (.ref (He.ga K c)) = some (subC base nm c))
def exFB (K : PySem.W.Frag) (x f : Str) : Bool := oexB K (He.ga K x) && (xfB K (He.ga K x) && (decide (PySem.W.findIn K (.ref (He.ga K x)) f = some none) && (decide (PySem.W.findIn K (.ref (He.ga K x)) "__init__" = some (some (.ref (He.ma K (He.ga K x) "__init__")))) &&
  decide (PySem.W.typeIn K (.ref (He.ma K (He.ga K x) "__init__")) = some (.type "function")))))
def top (i : Nat) : Stmt := PySem.Challenge.pw_cardroom_k86_whole_costs_of_runs.main.body.getD i (.Pass ⟨0, 0, 0, 0⟩)
abbrev known : List Str := [(PySem.Str.ofString "NoBoard"), (PySem.Str.ofString "NoDeck"), (PySem.Str.ofString "NoPrices")]
abbrev s_is_integer : Stmt := top 10
abbrev N_is_integer : List Str := [(PySem.Str.ofString "thing")]
abbrev s_is_within : Stmt := top 11
abbrev N_is_within : List Str := [(PySem.Str.ofString "thing"), (PySem.Str.ofString "low"), (PySem.Str.ofString "high")]
abbrev s_is_tuple_of : Stmt := top 12
abbrev N_is_tuple_of : List Str := [(PySem.Str.ofString "thing"), (PySem.Str.ofString "size")]
abbrev s_is_few : Stmt := top 13
abbrev N_is_few : List Str := [(PySem.Str.ofString "thing"), (PySem.Str.ofString "most")]
abbrev s_is_sign : Stmt := top 14
abbrev N_is_sign : List Str := [(PySem.Str.ofString "thing")]
abbrev s_is_width : Stmt := top 15
abbrev N_is_width : List Str := [(PySem.Str.ofString "thing")]
abbrev s_raw_is_card : Stmt := top 16
abbrev N_raw_is_card : List Str := [(PySem.Str.ofString "width"), (PySem.Str.ofString "thing"), (PySem.Str.ofString "sign")]
abbrev s_raw_is_deck : Stmt := top 17
abbrev N_raw_is_deck : List Str := [(PySem.Str.ofString "width"), (PySem.Str.ofString "thing"), (PySem.Str.ofString "card")]
abbrev s_raw_is_field : Stmt := top 18
abbrev N_raw_is_field : List Str := [(PySem.Str.ofString "width"), (PySem.Str.ofString "thing")]
abbrev s_is_name : Stmt := top 44
abbrev N_is_name : List Str := [(PySem.Str.ofString "thing"), (PySem.Str.ofString "sign")]
abbrev s_is_flag : Stmt := top 45
abbrev N_is_flag : List Str := [(PySem.Str.ofString "thing")]
abbrev s_is_factor : Stmt := top 46
abbrev N_is_factor : List Str := [(PySem.Str.ofString "thing")]
abbrev s_is_worded : Stmt := top 47
abbrev N_is_worded : List Str := [(PySem.Str.ofString "thing"), (PySem.Str.ofString "word"), (PySem.Str.ofString "size")]
abbrev s_are_levels : Stmt := top 48
abbrev N_are_levels : List Str := [(PySem.Str.ofString "width"), (PySem.Str.ofString "thing"), (PySem.Str.ofString "found"), (PySem.Str.ofString "lot"), (PySem.Str.ofString "column"), (PySem.Str.ofString "one"), (PySem.Str.ofString "other")]
abbrev s_is_latch : Stmt := top 49
abbrev N_is_latch : List Str := [(PySem.Str.ofString "width"), (PySem.Str.ofString "levels"), (PySem.Str.ofString "thing")]
abbrev s_is_test : Stmt := top 50
abbrev N_is_test : List Str := [(PySem.Str.ofString "board"), (PySem.Str.ofString "thing"), (PySem.Str.ofString "on_cards")]
abbrev s_is_when : Stmt := top 51
abbrev N_is_when : List Str := [(PySem.Str.ofString "board"), (PySem.Str.ofString "thing"), (PySem.Str.ofString "on_cards"), (PySem.Str.ofString "test")]
abbrev s_are_pairs : Stmt := top 52
abbrev N_are_pairs : List Str := [(PySem.Str.ofString "many"), (PySem.Str.ofString "thing"), (PySem.Str.ofString "pair"), (PySem.Str.ofString "one"), (PySem.Str.ofString "other")]
abbrev s_raw_keys : Stmt := top 53
abbrev N_raw_keys : List Str := [(PySem.Str.ofString "board"), (PySem.Str.ofString "found"), (PySem.Str.ofString "lot")]
abbrev s_is_item : Stmt := top 54
abbrev N_is_item : List Str := [(PySem.Str.ofString "board"), (PySem.Str.ofString "thing"), (PySem.Str.ofString "on_cards")]
abbrev s_are_items : Stmt := top 55
abbrev N_are_items : List Str := [(PySem.Str.ofString "board"), (PySem.Str.ofString "thing"), (PySem.Str.ofString "on_cards"), (PySem.Str.ofString "item")]
abbrev s_is_add : Stmt := top 56
abbrev N_is_add : List Str := [(PySem.Str.ofString "board"), (PySem.Str.ofString "thing")]
abbrev s_is_list : Stmt := top 57
abbrev N_is_list : List Str := [(PySem.Str.ofString "board"), (PySem.Str.ofString "thing")]
abbrev s_is_deed : Stmt := top 58
abbrev N_is_deed : List Str := [(PySem.Str.ofString "board"), (PySem.Str.ofString "thing")]
abbrev s_are_deeds : Stmt := top 59
abbrev N_are_deeds : List Str := [(PySem.Str.ofString "board"), (PySem.Str.ofString "thing"), (PySem.Str.ofString "deed")]
abbrev s_is_board : Stmt := top 60
abbrev N_is_board : List Str := [(PySem.Str.ofString "thing"), (PySem.Str.ofString "width"), (PySem.Str.ofString "levels"), (PySem.Str.ofString "latches"), (PySem.Str.ofString "many"), (PySem.Str.ofString "adds"), (PySem.Str.ofString "lists"), (PySem.Str.ofString "totals"), (PySem.Str.ofString "latch"), (PySem.Str.ofString "add"), (PySem.Str.ofString "one"), (PySem.Str.ofString "deeds")]
abbrev s_check_board : Stmt := top 61
abbrev N_check_board : List Str := [(PySem.Str.ofString "board")]
abbrev s_does_hold : Stmt := top 68
abbrev N_does_hold : List Str := [(PySem.Str.ofString "when"), (PySem.Str.ofString "latches"), (PySem.Str.ofString "card"), (PySem.Str.ofString "test")]
abbrev s_keys_on : Stmt := top 69
abbrev N_keys_on : List Str := [(PySem.Str.ofString "board"), (PySem.Str.ofString "card"), (PySem.Str.ofString "column")]
abbrev s_raw_broken : Stmt := top 70
abbrev N_raw_broken : List Str := [(PySem.Str.ofString "board"), (PySem.Str.ofString "keys"), (PySem.Str.ofString "later"), (PySem.Str.ofString "columns"), (PySem.Str.ofString "greatest"), (PySem.Str.ofString "level"), (PySem.Str.ofString "lot"), (PySem.Str.ofString "column")]
abbrev s_latches_off : Stmt := top 71
abbrev N_latches_off : List Str := [(PySem.Str.ofString "board"), (PySem.Str.ofString "latches"), (PySem.Str.ofString "level"), (PySem.Str.ofString "latch"), (PySem.Str.ofString "sign")]
abbrev s_latches_on : Stmt := top 72
abbrev N_latches_on : List Str := [(PySem.Str.ofString "board"), (PySem.Str.ofString "latches"), (PySem.Str.ofString "card"), (PySem.Str.ofString "latch"), (PySem.Str.ofString "sign")]
abbrev s_deed_events : Stmt := top 73
abbrev N_deed_events : List Str := [(PySem.Str.ofString "board"), (PySem.Str.ofString "level"), (PySem.Str.ofString "latches"), (PySem.Str.ofString "found"), (PySem.Str.ofString "at"), (PySem.Str.ofString "deed")]
abbrev s_raw_events : Stmt := top 74
abbrev N_raw_events : List Str := [(PySem.Str.ofString "board"), (PySem.Str.ofString "state"), (PySem.Str.ofString "card"), (PySem.Str.ofString "keys"), (PySem.Str.ofString "latches"), (PySem.Str.ofString "later"), (PySem.Str.ofString "found"), (PySem.Str.ofString "level"), (PySem.Str.ofString "at"), (PySem.Str.ofString "add"), (PySem.Str.ofString "one")]
abbrev s_raw_end_events : Stmt := top 75
abbrev N_raw_end_events : List Str := [(PySem.Str.ofString "board"), (PySem.Str.ofString "state"), (PySem.Str.ofString "keys"), (PySem.Str.ofString "latches"), (PySem.Str.ofString "found"), (PySem.Str.ofString "level")]
abbrev s_raw_first_state : Stmt := top 76
abbrev N_raw_first_state : List Str := [(PySem.Str.ofString "board")]
abbrev s_check_run : Stmt := top 77
abbrev N_check_run : List Str := [(PySem.Str.ofString "board"), (PySem.Str.ofString "deck")]
abbrev s_are_prices : Stmt := top 81
abbrev N_are_prices : List Str := [(PySem.Str.ofString "thing"), (PySem.Str.ofString "one")]
abbrev s_check_prices : Stmt := top 82
abbrev N_check_prices : List Str := [(PySem.Str.ofString "board"), (PySem.Str.ofString "prices")]
abbrev s_event_price : Stmt := top 83
abbrev N_event_price : List Str := [(PySem.Str.ofString "board"), (PySem.Str.ofString "event"), (PySem.Str.ofString "prices")]
abbrev s_events_price : Stmt := top 84
abbrev N_events_price : List Str := [(PySem.Str.ofString "board"), (PySem.Str.ofString "events"), (PySem.Str.ofString "prices"), (PySem.Str.ofString "event")]
abbrev s_card_costs : Stmt := top 85
abbrev N_card_costs : List Str := [(PySem.Str.ofString "board"), (PySem.Str.ofString "deck"), (PySem.Str.ofString "prices"), (PySem.Str.ofString "state"), (PySem.Str.ofString "found"), (PySem.Str.ofString "card"), (PySem.Str.ofString "events")]
abbrev s_costs_of : Stmt := top 86
abbrev N_costs_of : List Str := [(PySem.Str.ofString "board"), (PySem.Str.ofString "deck"), (PySem.Str.ofString "prices")]
abbrev s_cost_of : Stmt := top 87
abbrev N_cost_of : List Str := [(PySem.Str.ofString "board"), (PySem.Str.ofString "deck"), (PySem.Str.ofString "prices")]
abbrev s_all_events : Stmt := top 89
abbrev N_all_events : List Str := [(PySem.Str.ofString "board"), (PySem.Str.ofString "deck"), (PySem.Str.ofString "state"), (PySem.Str.ofString "found"), (PySem.Str.ofString "card"), (PySem.Str.ofString "events"), (PySem.Str.ofString "event")]
abbrev s_told_counts : Stmt := top 90
abbrev N_told_counts : List Str := [(PySem.Str.ofString "board"), (PySem.Str.ofString "deck"), (PySem.Str.ofString "word"), (PySem.Str.ofString "many"), (PySem.Str.ofString "told"), (PySem.Str.ofString "event"), (PySem.Str.ofString "card"), (PySem.Str.ofString "at")]
abbrev s_adds_done : Stmt := top 91
abbrev N_adds_done : List Str := [(PySem.Str.ofString "board"), (PySem.Str.ofString "deck")]
abbrev s_lists_done : Stmt := top 92
abbrev N_lists_done : List Str := [(PySem.Str.ofString "board"), (PySem.Str.ofString "deck")]
abbrev s_deeds_done : Stmt := top 93
abbrev N_deeds_done : List Str := [(PySem.Str.ofString "board"), (PySem.Str.ofString "deck"), (PySem.Str.ofString "told"), (PySem.Str.ofString "found"), (PySem.Str.ofString "level"), (PySem.Str.ofString "deeds"), (PySem.Str.ofString "event"), (PySem.Str.ofString "card"), (PySem.Str.ofString "at")]
abbrev s__law_hand : Stmt := top 95
abbrev N__law_hand : List Str := [(PySem.Str.ofString "script"), (PySem.Str.ofString "cells"), (PySem.Str.ofString "cell")]
abbrev s__law_draw : Stmt := top 96
abbrev N__law_draw : List Str := [(PySem.Str.ofString "hand"), (PySem.Str.ofString "many"), (PySem.Str.ofString "cell"), (PySem.Str.ofString "digit"), (PySem.Str.ofString "number")]
abbrev s__law_any : Stmt := top 97
abbrev N__law_any : List Str := [(PySem.Str.ofString "hand"), (PySem.Str.ofString "some")]
abbrev s__law_holds : Stmt := top 98
abbrev N__law_holds : List Str := [(PySem.Str.ofString "when"), (PySem.Str.ofString "card"), (PySem.Str.ofString "on"), (PySem.Str.ofString "test")]
abbrev s__law_when : Stmt := top 99
abbrev N__law_when : List Str := [(PySem.Str.ofString "hand"), (PySem.Str.ofString "width"), (PySem.Str.ofString "latches"), (PySem.Str.ofString "is_total")]
abbrev s__law_field : Stmt := top 100
abbrev N__law_field : List Str := [(PySem.Str.ofString "hand"), (PySem.Str.ofString "width"), (PySem.Str.ofString "first")]
abbrev s__law_sum : Stmt := top 101
abbrev N__law_sum : List Str := [(PySem.Str.ofString "hand"), (PySem.Str.ofString "many"), (PySem.Str.ofString "at"), (PySem.Str.ofString "pairs")]
abbrev s__law_add : Stmt := top 102
abbrev N__law_add : List Str := [(PySem.Str.ofString "hand"), (PySem.Str.ofString "width"), (PySem.Str.ofString "latches"), (PySem.Str.ofString "many"), (PySem.Str.ofString "factor")]
abbrev s__law_list : Stmt := top 103
abbrev N__law_list : List Str := [(PySem.Str.ofString "hand"), (PySem.Str.ofString "width"), (PySem.Str.ofString "levels"), (PySem.Str.ofString "latches"), (PySem.Str.ofString "many"), (PySem.Str.ofString "items")]
abbrev s__law_one_deed : Stmt := top 104
abbrev N__law_one_deed : List Str := [(PySem.Str.ofString "hand"), (PySem.Str.ofString "levels"), (PySem.Str.ofString "latches"), (PySem.Str.ofString "many"), (PySem.Str.ofString "word"), (PySem.Str.ofString "start"), (PySem.Str.ofString "items")]
abbrev s__law_board : Stmt := top 105
abbrev N__law_board : List Str := [(PySem.Str.ofString "hand"), (PySem.Str.ofString "most"), (PySem.Str.ofString "width"), (PySem.Str.ofString "many"), (PySem.Str.ofString "levels"), (PySem.Str.ofString "latches"), (PySem.Str.ofString "adds"), (PySem.Str.ofString "lists"), (PySem.Str.ofString "totals"), (PySem.Str.ofString "level"), (PySem.Str.ofString "step")]
abbrev s__law_deck : Stmt := top 106
abbrev N__law_deck : List Str := [(PySem.Str.ofString "hand"), (PySem.Str.ofString "width"), (PySem.Str.ofString "most"), (PySem.Str.ofString "signs"), (PySem.Str.ofString "found"), (PySem.Str.ofString "step"), (PySem.Str.ofString "card"), (PySem.Str.ofString "column")]
abbrev s__law_first : Stmt := top 107
abbrev N__law_first : List Str := [(PySem.Str.ofString "board")]
abbrev s__law_deeds_cost : Stmt := top 108
abbrev N__law_deeds_cost : List Str := [(PySem.Str.ofString "deeds"), (PySem.Str.ofString "on"), (PySem.Str.ofString "prices"), (PySem.Str.ofString "found"), (PySem.Str.ofString "deed")]
abbrev s__law_breaks : Stmt := top 109
abbrev N__law_breaks : List Str := [(PySem.Str.ofString "board"), (PySem.Str.ofString "state"), (PySem.Str.ofString "card"), (PySem.Str.ofString "prices"), (PySem.Str.ofString "last"), (PySem.Str.ofString "on"), (PySem.Str.ofString "levels"), (PySem.Str.ofString "latches"), (PySem.Str.ofString "totals"), (PySem.Str.ofString "found"), (PySem.Str.ofString "level"), (PySem.Str.ofString "at"), (PySem.Str.ofString "flag"), (PySem.Str.ofString "latch")]
abbrev s__law_card_cost : Stmt := top 110
abbrev N__law_card_cost : List Str := [(PySem.Str.ofString "board"), (PySem.Str.ofString "state"), (PySem.Str.ofString "card"), (PySem.Str.ofString "prices"), (PySem.Str.ofString "found"), (PySem.Str.ofString "on"), (PySem.Str.ofString "flag"), (PySem.Str.ofString "latch"), (PySem.Str.ofString "add"), (PySem.Str.ofString "when"), (PySem.Str.ofString "items")]
abbrev s__law_end_cost : Stmt := top 111
abbrev N__law_end_cost : List Str := [(PySem.Str.ofString "board"), (PySem.Str.ofString "state"), (PySem.Str.ofString "prices"), (PySem.Str.ofString "found"), (PySem.Str.ofString "on")]
abbrev s__law_costs : Stmt := top 112
abbrev N__law_costs : List Str := [(PySem.Str.ofString "board"), (PySem.Str.ofString "deck"), (PySem.Str.ofString "prices"), (PySem.Str.ofString "state"), (PySem.Str.ofString "found"), (PySem.Str.ofString "card"), (PySem.Str.ofString "cost")]
abbrev s__law_prices : Stmt := top 113
abbrev N__law_prices : List Str := [(PySem.Str.ofString "hand"), (PySem.Str.ofString "kind")]
abbrev s__law_by_counts : Stmt := top 115
abbrev N__law_by_counts : List Str := [(PySem.Str.ofString "board"), (PySem.Str.ofString "deck"), (PySem.Str.ofString "prices"), (PySem.Str.ofString "found"), (PySem.Str.ofString "deeds"), (PySem.Str.ofString "counts"), (PySem.Str.ofString "deed"), (PySem.Str.ofString "many")]
abbrev s__law_word : Stmt := top 114
abbrev N__law_word : List Str := [(PySem.Str.ofString "call"), (PySem.Str.ofString "word"), (PySem.Str.ofString "e"), (PySem.Str.ofString "flags")]
abbrev s_law : Stmt := top 116
abbrev N_law : List Str := [(PySem.Str.ofString "script"), (PySem.Str.ofString "hand"), (PySem.Str.ofString "turn"), (PySem.Str.ofString "board"), (PySem.Str.ofString "prices"), (PySem.Str.ofString "deck"), (PySem.Str.ofString "due"), (PySem.Str.ofString "some"), (PySem.Str.ofString "off"), (PySem.Str.ofString "more"), (PySem.Str.ofString "lost"), (PySem.Str.ofString "wrong"), (PySem.Str.ofString "words")]
def fn0 : List He.DefD := [⟨((PySem.Str.ofString "is_integer"), none), (PySem.Str.ofString "is_integer"), (PySem.Str.ofString "is_integer"), defArgs s_is_integer, defBody s_is_integer, defScope s_is_integer, [], []⟩,
  ⟨((PySem.Str.ofString "is_within"), none), (PySem.Str.ofString "is_within"), (PySem.Str.ofString "is_within"), defArgs s_is_within, defBody s_is_within, defScope s_is_within, [], []⟩,
  ⟨((PySem.Str.ofString "is_tuple_of"), none), (PySem.Str.ofString "is_tuple_of"), (PySem.Str.ofString "is_tuple_of"), defArgs s_is_tuple_of, defBody s_is_tuple_of, defScope s_is_tuple_of, [], []⟩,
  ⟨((PySem.Str.ofString "is_few"), none), (PySem.Str.ofString "is_few"), (PySem.Str.ofString "is_few"), defArgs s_is_few, defBody s_is_few, defScope s_is_few, [], []⟩,
  ⟨((PySem.Str.ofString "is_sign"), none), (PySem.Str.ofString "is_sign"), (PySem.Str.ofString "is_sign"), defArgs s_is_sign, defBody s_is_sign, defScope s_is_sign, [], []⟩,
  ⟨((PySem.Str.ofString "is_width"), none), (PySem.Str.ofString "is_width"), (PySem.Str.ofString "is_width"), defArgs s_is_width, defBody s_is_width, defScope s_is_width, [], []⟩,
  ⟨((PySem.Str.ofString "raw_is_card"), none), (PySem.Str.ofString "raw_is_card"), (PySem.Str.ofString "raw_is_card"), defArgs s_raw_is_card, defBody s_raw_is_card, defScope s_raw_is_card, [], []⟩,
  ⟨((PySem.Str.ofString "raw_is_deck"), none), (PySem.Str.ofString "raw_is_deck"), (PySem.Str.ofString "raw_is_deck"), defArgs s_raw_is_deck, defBody s_raw_is_deck, defScope s_raw_is_deck, [], []⟩,
  ⟨((PySem.Str.ofString "raw_is_field"), none), (PySem.Str.ofString "raw_is_field"), (PySem.Str.ofString "raw_is_field"), defArgs s_raw_is_field, defBody s_raw_is_field, defScope s_raw_is_field, [], []⟩,
  ⟨((PySem.Str.ofString "is_name"), none), (PySem.Str.ofString "is_name"), (PySem.Str.ofString "is_name"), defArgs s_is_name, defBody s_is_name, defScope s_is_name, [], []⟩,
  ⟨((PySem.Str.ofString "is_flag"), none), (PySem.Str.ofString "is_flag"), (PySem.Str.ofString "is_flag"), defArgs s_is_flag, defBody s_is_flag, defScope s_is_flag, [], []⟩,
  ⟨((PySem.Str.ofString "is_factor"), none), (PySem.Str.ofString "is_factor"), (PySem.Str.ofString "is_factor"), defArgs s_is_factor, defBody s_is_factor, defScope s_is_factor, [], []⟩,
  ⟨((PySem.Str.ofString "is_worded"), none), (PySem.Str.ofString "is_worded"), (PySem.Str.ofString "is_worded"), defArgs s_is_worded, defBody s_is_worded, defScope s_is_worded, [], []⟩,
  ⟨((PySem.Str.ofString "are_levels"), none), (PySem.Str.ofString "are_levels"), (PySem.Str.ofString "are_levels"), defArgs s_are_levels, defBody s_are_levels, defScope s_are_levels, [], []⟩,
  ⟨((PySem.Str.ofString "is_latch"), none), (PySem.Str.ofString "is_latch"), (PySem.Str.ofString "is_latch"), defArgs s_is_latch, defBody s_is_latch, defScope s_is_latch, [], []⟩,
  ⟨((PySem.Str.ofString "is_test"), none), (PySem.Str.ofString "is_test"), (PySem.Str.ofString "is_test"), defArgs s_is_test, defBody s_is_test, defScope s_is_test, [], []⟩,
  ⟨((PySem.Str.ofString "is_when"), none), (PySem.Str.ofString "is_when"), (PySem.Str.ofString "is_when"), defArgs s_is_when, defBody s_is_when, defScope s_is_when, [], []⟩,
  ⟨((PySem.Str.ofString "are_pairs"), none), (PySem.Str.ofString "are_pairs"), (PySem.Str.ofString "are_pairs"), defArgs s_are_pairs, defBody s_are_pairs, defScope s_are_pairs, [], []⟩,
  ⟨((PySem.Str.ofString "raw_keys"), none), (PySem.Str.ofString "raw_keys"), (PySem.Str.ofString "raw_keys"), defArgs s_raw_keys, defBody s_raw_keys, defScope s_raw_keys, [], []⟩,
  ⟨((PySem.Str.ofString "is_item"), none), (PySem.Str.ofString "is_item"), (PySem.Str.ofString "is_item"), defArgs s_is_item, defBody s_is_item, defScope s_is_item, [], []⟩,
  ⟨((PySem.Str.ofString "are_items"), none), (PySem.Str.ofString "are_items"), (PySem.Str.ofString "are_items"), defArgs s_are_items, defBody s_are_items, defScope s_are_items, [], []⟩,
  ⟨((PySem.Str.ofString "is_add"), none), (PySem.Str.ofString "is_add"), (PySem.Str.ofString "is_add"), defArgs s_is_add, defBody s_is_add, defScope s_is_add, [], []⟩,
  ⟨((PySem.Str.ofString "is_list"), none), (PySem.Str.ofString "is_list"), (PySem.Str.ofString "is_list"), defArgs s_is_list, defBody s_is_list, defScope s_is_list, [], []⟩,
  ⟨((PySem.Str.ofString "is_deed"), none), (PySem.Str.ofString "is_deed"), (PySem.Str.ofString "is_deed"), defArgs s_is_deed, defBody s_is_deed, defScope s_is_deed, [], []⟩,
  ⟨((PySem.Str.ofString "are_deeds"), none), (PySem.Str.ofString "are_deeds"), (PySem.Str.ofString "are_deeds"), defArgs s_are_deeds, defBody s_are_deeds, defScope s_are_deeds, [], []⟩,
  ⟨((PySem.Str.ofString "is_board"), none), (PySem.Str.ofString "is_board"), (PySem.Str.ofString "is_board"), defArgs s_is_board, defBody s_is_board, defScope s_is_board, [], []⟩,
  ⟨((PySem.Str.ofString "check_board"), none), (PySem.Str.ofString "check_board"), (PySem.Str.ofString "check_board"), defArgs s_check_board, defBody s_check_board, defScope s_check_board, [], []⟩,
  ⟨((PySem.Str.ofString "does_hold"), none), (PySem.Str.ofString "does_hold"), (PySem.Str.ofString "does_hold"), defArgs s_does_hold, defBody s_does_hold, defScope s_does_hold, [], []⟩,
  ⟨((PySem.Str.ofString "keys_on"), none), (PySem.Str.ofString "keys_on"), (PySem.Str.ofString "keys_on"), defArgs s_keys_on, defBody s_keys_on, defScope s_keys_on, [], []⟩,
  ⟨((PySem.Str.ofString "raw_broken"), none), (PySem.Str.ofString "raw_broken"), (PySem.Str.ofString "raw_broken"), defArgs s_raw_broken, defBody s_raw_broken, defScope s_raw_broken, [], []⟩]
def fn1 : List He.DefD := [⟨((PySem.Str.ofString "latches_off"), none), (PySem.Str.ofString "latches_off"), (PySem.Str.ofString "latches_off"), defArgs s_latches_off, defBody s_latches_off, defScope s_latches_off, [], []⟩,
  ⟨((PySem.Str.ofString "latches_on"), none), (PySem.Str.ofString "latches_on"), (PySem.Str.ofString "latches_on"), defArgs s_latches_on, defBody s_latches_on, defScope s_latches_on, [], []⟩,
  ⟨((PySem.Str.ofString "deed_events"), none), (PySem.Str.ofString "deed_events"), (PySem.Str.ofString "deed_events"), defArgs s_deed_events, defBody s_deed_events, defScope s_deed_events, [], []⟩,
  ⟨((PySem.Str.ofString "raw_events"), none), (PySem.Str.ofString "raw_events"), (PySem.Str.ofString "raw_events"), defArgs s_raw_events, defBody s_raw_events, defScope s_raw_events, [], []⟩,
  ⟨((PySem.Str.ofString "raw_end_events"), none), (PySem.Str.ofString "raw_end_events"), (PySem.Str.ofString "raw_end_events"), defArgs s_raw_end_events, defBody s_raw_end_events, defScope s_raw_end_events, [], []⟩,
  ⟨((PySem.Str.ofString "raw_first_state"), none), (PySem.Str.ofString "raw_first_state"), (PySem.Str.ofString "raw_first_state"), defArgs s_raw_first_state, defBody s_raw_first_state, defScope s_raw_first_state, [], []⟩,
  ⟨((PySem.Str.ofString "check_run"), none), (PySem.Str.ofString "check_run"), (PySem.Str.ofString "check_run"), defArgs s_check_run, defBody s_check_run, defScope s_check_run, [], []⟩,
  ⟨((PySem.Str.ofString "are_prices"), none), (PySem.Str.ofString "are_prices"), (PySem.Str.ofString "are_prices"), defArgs s_are_prices, defBody s_are_prices, defScope s_are_prices, [], []⟩,
  ⟨((PySem.Str.ofString "check_prices"), none), (PySem.Str.ofString "check_prices"), (PySem.Str.ofString "check_prices"), defArgs s_check_prices, defBody s_check_prices, defScope s_check_prices, [], []⟩,
  ⟨((PySem.Str.ofString "event_price"), none), (PySem.Str.ofString "event_price"), (PySem.Str.ofString "event_price"), defArgs s_event_price, defBody s_event_price, defScope s_event_price, [], []⟩,
  ⟨((PySem.Str.ofString "events_price"), none), (PySem.Str.ofString "events_price"), (PySem.Str.ofString "events_price"), defArgs s_events_price, defBody s_events_price, defScope s_events_price, [], []⟩,
  ⟨((PySem.Str.ofString "card_costs"), none), (PySem.Str.ofString "card_costs"), (PySem.Str.ofString "card_costs"), defArgs s_card_costs, defBody s_card_costs, defScope s_card_costs, [], []⟩,
  ⟨((PySem.Str.ofString "costs_of"), none), (PySem.Str.ofString "costs_of"), (PySem.Str.ofString "costs_of"), defArgs s_costs_of, defBody s_costs_of, defScope s_costs_of, [], []⟩,
  ⟨((PySem.Str.ofString "cost_of"), none), (PySem.Str.ofString "cost_of"), (PySem.Str.ofString "cost_of"), defArgs s_cost_of, defBody s_cost_of, defScope s_cost_of, [], []⟩,
  ⟨((PySem.Str.ofString "all_events"), none), (PySem.Str.ofString "all_events"), (PySem.Str.ofString "all_events"), defArgs s_all_events, defBody s_all_events, defScope s_all_events, [], []⟩,
  ⟨((PySem.Str.ofString "told_counts"), none), (PySem.Str.ofString "told_counts"), (PySem.Str.ofString "told_counts"), defArgs s_told_counts, defBody s_told_counts, defScope s_told_counts, [], []⟩,
  ⟨((PySem.Str.ofString "adds_done"), none), (PySem.Str.ofString "adds_done"), (PySem.Str.ofString "adds_done"), defArgs s_adds_done, defBody s_adds_done, defScope s_adds_done, [], []⟩,
  ⟨((PySem.Str.ofString "lists_done"), none), (PySem.Str.ofString "lists_done"), (PySem.Str.ofString "lists_done"), defArgs s_lists_done, defBody s_lists_done, defScope s_lists_done, [], []⟩,
  ⟨((PySem.Str.ofString "deeds_done"), none), (PySem.Str.ofString "deeds_done"), (PySem.Str.ofString "deeds_done"), defArgs s_deeds_done, defBody s_deeds_done, defScope s_deeds_done, [], []⟩,
  ⟨((PySem.Str.ofString "_law_hand"), none), (PySem.Str.ofString "_law_hand"), (PySem.Str.ofString "_law_hand"), defArgs s__law_hand, defBody s__law_hand, defScope s__law_hand, [], []⟩,
  ⟨((PySem.Str.ofString "_law_draw"), none), (PySem.Str.ofString "_law_draw"), (PySem.Str.ofString "_law_draw"), defArgs s__law_draw, defBody s__law_draw, defScope s__law_draw, [], []⟩,
  ⟨((PySem.Str.ofString "_law_any"), none), (PySem.Str.ofString "_law_any"), (PySem.Str.ofString "_law_any"), defArgs s__law_any, defBody s__law_any, defScope s__law_any, [], []⟩,
  ⟨((PySem.Str.ofString "_law_holds"), none), (PySem.Str.ofString "_law_holds"), (PySem.Str.ofString "_law_holds"), defArgs s__law_holds, defBody s__law_holds, defScope s__law_holds, [], []⟩,
  ⟨((PySem.Str.ofString "_law_when"), none), (PySem.Str.ofString "_law_when"), (PySem.Str.ofString "_law_when"), defArgs s__law_when, defBody s__law_when, defScope s__law_when, [], []⟩,
  ⟨((PySem.Str.ofString "_law_field"), none), (PySem.Str.ofString "_law_field"), (PySem.Str.ofString "_law_field"), defArgs s__law_field, defBody s__law_field, defScope s__law_field, [], []⟩,
  ⟨((PySem.Str.ofString "_law_sum"), none), (PySem.Str.ofString "_law_sum"), (PySem.Str.ofString "_law_sum"), defArgs s__law_sum, defBody s__law_sum, defScope s__law_sum, [], []⟩,
  ⟨((PySem.Str.ofString "_law_add"), none), (PySem.Str.ofString "_law_add"), (PySem.Str.ofString "_law_add"), defArgs s__law_add, defBody s__law_add, defScope s__law_add, [], []⟩,
  ⟨((PySem.Str.ofString "_law_list"), none), (PySem.Str.ofString "_law_list"), (PySem.Str.ofString "_law_list"), defArgs s__law_list, defBody s__law_list, defScope s__law_list, [], []⟩,
  ⟨((PySem.Str.ofString "_law_one_deed"), none), (PySem.Str.ofString "_law_one_deed"), (PySem.Str.ofString "_law_one_deed"), defArgs s__law_one_deed, defBody s__law_one_deed, defScope s__law_one_deed, [], []⟩,
  ⟨((PySem.Str.ofString "_law_board"), none), (PySem.Str.ofString "_law_board"), (PySem.Str.ofString "_law_board"), defArgs s__law_board, defBody s__law_board, defScope s__law_board, [], []⟩]
def fn2 : List He.DefD := [⟨((PySem.Str.ofString "_law_deck"), none), (PySem.Str.ofString "_law_deck"), (PySem.Str.ofString "_law_deck"), defArgs s__law_deck, defBody s__law_deck, defScope s__law_deck, [], []⟩,
  ⟨((PySem.Str.ofString "_law_first"), none), (PySem.Str.ofString "_law_first"), (PySem.Str.ofString "_law_first"), defArgs s__law_first, defBody s__law_first, defScope s__law_first, [], []⟩,
  ⟨((PySem.Str.ofString "_law_deeds_cost"), none), (PySem.Str.ofString "_law_deeds_cost"), (PySem.Str.ofString "_law_deeds_cost"), defArgs s__law_deeds_cost, defBody s__law_deeds_cost, defScope s__law_deeds_cost, [], []⟩,
  ⟨((PySem.Str.ofString "_law_breaks"), none), (PySem.Str.ofString "_law_breaks"), (PySem.Str.ofString "_law_breaks"), defArgs s__law_breaks, defBody s__law_breaks, defScope s__law_breaks, [], []⟩,
  ⟨((PySem.Str.ofString "_law_card_cost"), none), (PySem.Str.ofString "_law_card_cost"), (PySem.Str.ofString "_law_card_cost"), defArgs s__law_card_cost, defBody s__law_card_cost, defScope s__law_card_cost, [], []⟩,
  ⟨((PySem.Str.ofString "_law_end_cost"), none), (PySem.Str.ofString "_law_end_cost"), (PySem.Str.ofString "_law_end_cost"), defArgs s__law_end_cost, defBody s__law_end_cost, defScope s__law_end_cost, [], []⟩,
  ⟨((PySem.Str.ofString "_law_costs"), none), (PySem.Str.ofString "_law_costs"), (PySem.Str.ofString "_law_costs"), defArgs s__law_costs, defBody s__law_costs, defScope s__law_costs, [], []⟩,
  ⟨((PySem.Str.ofString "_law_prices"), none), (PySem.Str.ofString "_law_prices"), (PySem.Str.ofString "_law_prices"), defArgs s__law_prices, defBody s__law_prices, defScope s__law_prices, [], []⟩,
  ⟨((PySem.Str.ofString "_law_by_counts"), none), (PySem.Str.ofString "_law_by_counts"), (PySem.Str.ofString "_law_by_counts"), defArgs s__law_by_counts, defBody s__law_by_counts, defScope s__law_by_counts, [], []⟩,
  ⟨((PySem.Str.ofString "_law_word"), none), (PySem.Str.ofString "_law_word"), (PySem.Str.ofString "_law_word"), defArgs s__law_word, defBody s__law_word, defScope s__law_word, [], []⟩,
  ⟨((PySem.Str.ofString "law"), none), (PySem.Str.ofString "law"), (PySem.Str.ofString "law"), defArgs s_law, defBody s_law, defScope s_law, [], []⟩]
def fnG0 : List He.DefD := fn0 ++ fn1 ++ fn2
def fn : List He.DefD := fnG0
def fa0 : List He.Fa := [.glo (PySem.Str.ofString "NoBoard"),
  .glo (PySem.Str.ofString "NoDeck"),
  .glo (PySem.Str.ofString "NoPrices"),
  .free (PySem.Str.ofString "abs"),
  .free (PySem.Str.ofString "all"),
  .free (PySem.Str.ofString "any"),
  .free (PySem.Str.ofString "bool"),
  .free (PySem.Str.ofString "enumerate"),
  .free (PySem.Str.ofString "int"),
  .free (PySem.Str.ofString "isinstance"),
  .free (PySem.Str.ofString "len"),
  .free (PySem.Str.ofString "list"),
  .free (PySem.Str.ofString "min"),
  .free (PySem.Str.ofString "range"),
  .free (PySem.Str.ofString "set"),
  .free (PySem.Str.ofString "sorted"),
  .free (PySem.Str.ofString "str"),
  .free (PySem.Str.ofString "sum"),
  .free (PySem.Str.ofString "tuple"),
  .free (PySem.Str.ofString "zip"),
  .int (PySem.Str.ofString "KINDS") 4,
  .int (PySem.Str.ofString "MOST_ADDS") 12,
  .int (PySem.Str.ofString "MOST_CARDS") 400,
  .int (PySem.Str.ofString "MOST_COUNTERS") 6,
  .int (PySem.Str.ofString "MOST_DEEDS") 12,
  .int (PySem.Str.ofString "MOST_FACTOR") 99,
  .int (PySem.Str.ofString "MOST_FIELD") 6,
  .int (PySem.Str.ofString "MOST_ITEMS") 6,
  .int (PySem.Str.ofString "MOST_KEYS") 2,
  .int (PySem.Str.ofString "MOST_LATCHES") 3]
def fa1 : List He.Fa := [.int (PySem.Str.ofString "MOST_LEVELS") 2,
  .int (PySem.Str.ofString "MOST_LISTS") 4,
  .int (PySem.Str.ofString "MOST_NAME") 8,
  .int (PySem.Str.ofString "MOST_NUMBER") 1000000000,
  .int (PySem.Str.ofString "MOST_PAIRS") 4,
  .int (PySem.Str.ofString "MOST_PRICE") 1000000,
  .int (PySem.Str.ofString "MOST_TESTS") 3,
  .int (PySem.Str.ofString "MOST_WIDTH") 8,
  .glo (PySem.Str.ofString "CardError"),
  .str (PySem.Str.ofString "ADD") (PySem.Str.ofString "add"),
  .str (PySem.Str.ofString "CLEAR") (PySem.Str.ofString "clear"),
  .str (PySem.Str.ofString "DEED") (PySem.Str.ofString "deed"),
  .str (PySem.Str.ofString "FIELD") (PySem.Str.ofString "field"),
  .str (PySem.Str.ofString "KEY") (PySem.Str.ofString "key"),
  .str (PySem.Str.ofString "LATCH") (PySem.Str.ofString "latch"),
  .str (PySem.Str.ofString "LETTERS") (PySem.Str.ofString "abcdefghijklmnopqrstuvwxyz"),
  .str (PySem.Str.ofString "LIST") (PySem.Str.ofString "list"),
  .str (PySem.Str.ofString "NUMBER") (PySem.Str.ofString "number"),
  .str (PySem.Str.ofString "OFF") (PySem.Str.ofString "0"),
  .str (PySem.Str.ofString "ON") (PySem.Str.ofString "1"),
  .str (PySem.Str.ofString "PRINT") (PySem.Str.ofString "print"),
  .str (PySem.Str.ofString "ROLL") (PySem.Str.ofString "roll"),
  .str (PySem.Str.ofString "SIGN") (PySem.Str.ofString "sign"),
  .str (PySem.Str.ofString "SIGNS") (PySem.Str.ofString "0123456789x."),
  .str (PySem.Str.ofString "SUM") (PySem.Str.ofString "sum"),
  .str (PySem.Str.ofString "WORD") (PySem.Str.ofString "word"),
  .exc (PySem.Str.ofString "NoBoard"),
  .exc (PySem.Str.ofString "NoDeck"),
  .exc (PySem.Str.ofString "NoPrices"),
  .glo (PySem.Str.ofString "is_integer")]
def fa2 : List He.Fa := [.glo (PySem.Str.ofString "is_within"),
  .glo (PySem.Str.ofString "is_tuple_of"),
  .glo (PySem.Str.ofString "is_few"),
  .glo (PySem.Str.ofString "is_sign"),
  .glo (PySem.Str.ofString "is_width"),
  .glo (PySem.Str.ofString "raw_is_card"),
  .glo (PySem.Str.ofString "raw_is_deck"),
  .glo (PySem.Str.ofString "raw_is_field"),
  .glo (PySem.Str.ofString "is_name"),
  .glo (PySem.Str.ofString "is_flag"),
  .glo (PySem.Str.ofString "is_factor"),
  .glo (PySem.Str.ofString "is_worded"),
  .glo (PySem.Str.ofString "are_levels"),
  .glo (PySem.Str.ofString "is_latch"),
  .glo (PySem.Str.ofString "is_test"),
  .glo (PySem.Str.ofString "is_when"),
  .glo (PySem.Str.ofString "are_pairs"),
  .glo (PySem.Str.ofString "raw_keys"),
  .glo (PySem.Str.ofString "is_item"),
  .glo (PySem.Str.ofString "are_items"),
  .glo (PySem.Str.ofString "is_add"),
  .glo (PySem.Str.ofString "is_list"),
  .glo (PySem.Str.ofString "is_deed"),
  .glo (PySem.Str.ofString "are_deeds"),
  .glo (PySem.Str.ofString "is_board"),
  .glo (PySem.Str.ofString "check_board"),
  .glo (PySem.Str.ofString "does_hold"),
  .glo (PySem.Str.ofString "keys_on"),
  .glo (PySem.Str.ofString "raw_broken"),
  .glo (PySem.Str.ofString "latches_off")]
def fa3 : List He.Fa := [.glo (PySem.Str.ofString "latches_on"),
  .glo (PySem.Str.ofString "deed_events"),
  .glo (PySem.Str.ofString "raw_events"),
  .glo (PySem.Str.ofString "raw_end_events"),
  .glo (PySem.Str.ofString "raw_first_state"),
  .glo (PySem.Str.ofString "check_run"),
  .glo (PySem.Str.ofString "are_prices"),
  .glo (PySem.Str.ofString "check_prices"),
  .glo (PySem.Str.ofString "event_price"),
  .glo (PySem.Str.ofString "events_price"),
  .glo (PySem.Str.ofString "card_costs"),
  .glo (PySem.Str.ofString "costs_of"),
  .glo (PySem.Str.ofString "cost_of"),
  .glo (PySem.Str.ofString "all_events"),
  .glo (PySem.Str.ofString "told_counts"),
  .glo (PySem.Str.ofString "adds_done"),
  .glo (PySem.Str.ofString "lists_done"),
  .glo (PySem.Str.ofString "deeds_done"),
  .glo (PySem.Str.ofString "_law_hand"),
  .glo (PySem.Str.ofString "_law_draw"),
  .glo (PySem.Str.ofString "_law_any"),
  .glo (PySem.Str.ofString "_law_holds"),
  .glo (PySem.Str.ofString "_law_when"),
  .glo (PySem.Str.ofString "_law_field"),
  .glo (PySem.Str.ofString "_law_sum"),
  .glo (PySem.Str.ofString "_law_add"),
  .glo (PySem.Str.ofString "_law_list"),
  .glo (PySem.Str.ofString "_law_one_deed"),
  .glo (PySem.Str.ofString "_law_board"),
  .glo (PySem.Str.ofString "_law_deck")]
def fa4 : List He.Fa := [.glo (PySem.Str.ofString "_law_first"),
  .glo (PySem.Str.ofString "_law_deeds_cost"),
  .glo (PySem.Str.ofString "_law_breaks"),
  .glo (PySem.Str.ofString "_law_card_cost"),
  .glo (PySem.Str.ofString "_law_end_cost"),
  .glo (PySem.Str.ofString "_law_costs"),
  .glo (PySem.Str.ofString "_law_prices"),
  .glo (PySem.Str.ofString "_law_by_counts"),
  .glo (PySem.Str.ofString "_law_word"),
  .glo (PySem.Str.ofString "law")]
def faG0 : List He.Fa := fa0 ++ fa1 ++ fa2 ++ fa3 ++ fa4
def fa : List He.Fa := faG0
def ex (K : PySem.W.Frag) : Bool := isaB K known (PySem.Str.ofString "NoBoard") && (isaB K known (PySem.Str.ofString "NoDeck") && (isaB K known (PySem.Str.ofString "NoPrices") && (exmB K (PySem.Str.ofString "CardError") known (PySem.Str.ofString "CardError"))))
def loose0 : List Str := [(PySem.Str.ofString "CardError"),
  (PySem.Str.ofString "NoBoard"),
  (PySem.Str.ofString "NoDeck"),
  (PySem.Str.ofString "NoPrices"),
  (PySem.Str.ofString "SIGNS"),
  (PySem.Str.ofString "MOST_WIDTH"),
  (PySem.Str.ofString "MOST_CARDS"),
  (PySem.Str.ofString "MOST_FIELD"),
  (PySem.Str.ofString "is_integer"),
  (PySem.Str.ofString "is_within"),
  (PySem.Str.ofString "is_tuple_of"),
  (PySem.Str.ofString "is_few"),
  (PySem.Str.ofString "is_sign"),
  (PySem.Str.ofString "is_width"),
  (PySem.Str.ofString "raw_is_card"),
  (PySem.Str.ofString "raw_is_deck"),
  (PySem.Str.ofString "raw_is_field"),
  (PySem.Str.ofString "LETTERS"),
  (PySem.Str.ofString "SIGN"),
  (PySem.Str.ofString "LATCH"),
  (PySem.Str.ofString "WORD"),
  (PySem.Str.ofString "FIELD"),
  (PySem.Str.ofString "KEY"),
  (PySem.Str.ofString "SUM"),
  (PySem.Str.ofString "NUMBER"),
  (PySem.Str.ofString "PRINT"),
  (PySem.Str.ofString "ROLL"),
  (PySem.Str.ofString "CLEAR"),
  (PySem.Str.ofString "MOST_NAME"),
  (PySem.Str.ofString "MOST_LEVELS")]
def loose1 : List Str := [(PySem.Str.ofString "MOST_KEYS"),
  (PySem.Str.ofString "MOST_LATCHES"),
  (PySem.Str.ofString "MOST_COUNTERS"),
  (PySem.Str.ofString "MOST_ADDS"),
  (PySem.Str.ofString "MOST_LISTS"),
  (PySem.Str.ofString "MOST_DEEDS"),
  (PySem.Str.ofString "MOST_TESTS"),
  (PySem.Str.ofString "MOST_ITEMS"),
  (PySem.Str.ofString "MOST_PAIRS"),
  (PySem.Str.ofString "MOST_FACTOR"),
  (PySem.Str.ofString "MOST_NUMBER"),
  (PySem.Str.ofString "is_name"),
  (PySem.Str.ofString "is_flag"),
  (PySem.Str.ofString "is_factor"),
  (PySem.Str.ofString "is_worded"),
  (PySem.Str.ofString "are_levels"),
  (PySem.Str.ofString "is_latch"),
  (PySem.Str.ofString "is_test"),
  (PySem.Str.ofString "is_when"),
  (PySem.Str.ofString "are_pairs"),
  (PySem.Str.ofString "raw_keys"),
  (PySem.Str.ofString "is_item"),
  (PySem.Str.ofString "are_items"),
  (PySem.Str.ofString "is_add"),
  (PySem.Str.ofString "is_list"),
  (PySem.Str.ofString "is_deed"),
  (PySem.Str.ofString "are_deeds"),
  (PySem.Str.ofString "is_board"),
  (PySem.Str.ofString "check_board"),
  (PySem.Str.ofString "OFF")]
def loose2 : List Str := [(PySem.Str.ofString "ON"),
  (PySem.Str.ofString "ADD"),
  (PySem.Str.ofString "LIST"),
  (PySem.Str.ofString "DEED"),
  (PySem.Str.ofString "does_hold"),
  (PySem.Str.ofString "keys_on"),
  (PySem.Str.ofString "raw_broken"),
  (PySem.Str.ofString "latches_off"),
  (PySem.Str.ofString "latches_on"),
  (PySem.Str.ofString "deed_events"),
  (PySem.Str.ofString "raw_events"),
  (PySem.Str.ofString "raw_end_events"),
  (PySem.Str.ofString "raw_first_state"),
  (PySem.Str.ofString "check_run"),
  (PySem.Str.ofString "KINDS"),
  (PySem.Str.ofString "MOST_PRICE"),
  (PySem.Str.ofString "are_prices"),
  (PySem.Str.ofString "check_prices"),
  (PySem.Str.ofString "event_price"),
  (PySem.Str.ofString "events_price"),
  (PySem.Str.ofString "card_costs"),
  (PySem.Str.ofString "costs_of"),
  (PySem.Str.ofString "cost_of"),
  (PySem.Str.ofString "all_events"),
  (PySem.Str.ofString "told_counts"),
  (PySem.Str.ofString "adds_done"),
  (PySem.Str.ofString "lists_done"),
  (PySem.Str.ofString "deeds_done"),
  (PySem.Str.ofString "_law_hand"),
  (PySem.Str.ofString "_law_draw")]
def loose3 : List Str := [(PySem.Str.ofString "_law_any"),
  (PySem.Str.ofString "_law_holds"),
  (PySem.Str.ofString "_law_when"),
  (PySem.Str.ofString "_law_field"),
  (PySem.Str.ofString "_law_sum"),
  (PySem.Str.ofString "_law_add"),
  (PySem.Str.ofString "_law_list"),
  (PySem.Str.ofString "_law_one_deed"),
  (PySem.Str.ofString "_law_board"),
  (PySem.Str.ofString "_law_deck"),
  (PySem.Str.ofString "_law_first"),
  (PySem.Str.ofString "_law_deeds_cost"),
  (PySem.Str.ofString "_law_breaks"),
  (PySem.Str.ofString "_law_card_cost"),
  (PySem.Str.ofString "_law_end_cost"),
  (PySem.Str.ofString "_law_costs"),
  (PySem.Str.ofString "_law_prices"),
  (PySem.Str.ofString "_law_word"),
  (PySem.Str.ofString "_law_by_counts")]
def looseG0 : List Str := loose0 ++ loose1 ++ loose2 ++ loose3
def loose : List Str := looseG0
theorem rn_and {α β γ : Type} {o : Option α} {f : α → β} {g : α → γ} {b : β} {c : γ} (h1 : o.map f = some b) (h2 : o.map g = some c) : o.map (fun s => (f s, g s)) = some (b, c) := by
  cases o with
  | none => cases h1
  | some s => cases h1; cases h2; rfl
theorem rn_1 {α β γ : Type} {o : Option α} {f : α → β} {g : α → γ} {b : β} {c : γ} (h : o.map (fun s => (f s, g s)) = some (b, c)) : o.map f = some b := by
  cases o with
  | none => cases h
  | some s => exact congrArg some (congrArg Prod.fst (Option.some.inj h))
theorem rn_2 {α β γ : Type} {o : Option α} {f : α → β} {g : α → γ} {b : β} {c : γ} (h : o.map (fun s => (f s, g s)) = some (b, c)) : o.map g = some c := by
  cases o with
  | none => cases h
  | some s => exact congrArg some (congrArg Prod.snd (Option.some.inj h))
theorem rn_all {α β : Type} {o : Option α} {p : α → β → Bool} {l m : List β} (h1 : o.map (fun s => l.all (p s)) = some true) (h2 : o.map (fun s => m.all (p s)) = some true) : o.map (fun s => (l ++ m).all (p s)) = some true := by
  cases o with
  | none => cases h1
  | some s =>
    have e1 : l.all (p s) = true := Option.some.inj h1
    have e2 : m.all (p s) = true := Option.some.inj h2
    show some ((l ++ m).all (p s)) = some true
    rw [List.all_append, e1, e2]; rfl
theorem rn_fn {α β γ : Type} {o : Option α} {p : α → β → Bool} {f : α → β → γ} {v : β → γ} {l m : List β} (h1 : o.map (fun s => (l.all (p s), l.map (f s))) = some (true, l.map v)) (h2 : o.map (fun s => (m.all (p s), m.map (f s))) = some (true, m.map v)) : o.map (fun s => ((l ++ m).all (p s), (l ++ m).map (f s))) = some (true, (l ++ m).map v) := by
  cases o with
  | none => cases h1
  | some s =>
    have e1 : (l.all (p s), l.map (f s)) = (true, l.map v) := Option.some.inj h1
    have e2 : (m.all (p s), m.map (f s)) = (true, m.map v) := Option.some.inj h2
    have a1 := congrArg Prod.fst e1
    have a2 := congrArg Prod.snd e1
    have b1 := congrArg Prod.fst e2
    have b2 := congrArg Prod.snd e2
    simp only at a1 a2 b1 b2
    show some ((l ++ m).all (p s), (l ++ m).map (f s)) = some (true, (l ++ m).map v)
    rw [List.all_append, List.map_append, List.map_append, a1, a2, b1, b2]; rfl
abbrev rnK (s : PySem.W.SharedT) : PySem.W.Frag := He.frT (HandSHeadRun.getT s) (List.range s.n)
def rnObs (fa : List He.Fa) (fn : List He.DefD) (tf : List He.Defn) (ex : PySem.W.Frag → Bool) (n : Nat) (g : Addr → Option Obj) : He.AlX := (He.obsT fa fn [] (He.frT g (List.range n)), ex (He.frT g (List.range n)) && He.tabsB g tf (He.frT g (List.range n)))
theorem rn_tab {g : Addr → Option Obj} {tf : List He.Defn} {K : PySem.W.Frag} (h : He.tabsB g tf K = true) {p : He.Defn} (hp : p ∈ tf) : PySem.W.codeHdIn K (He.cT K p).1 (He.cT K p).2 = true ∧ ∃ o, g (He.cT K p).2 = some o ∧ He.emptyTab o = true := by
  have h1 := List.all_eq_true.mp h p hp
  obtain ⟨h2, h3⟩ := Bool.and_eq_true_iff.mp h1
  refine ⟨h2, ?_⟩
  cases q : g (He.cT K p).2 with
  | none => rw [q] at h3; cases h3
  | some o => rw [q] at h3; exact ⟨o, rfl, h3⟩
theorem rn_says {fa : List He.Fa} {fn : List He.DefD} {tf : List He.Defn} {ex : PySem.W.Frag → Bool} {n : Nat} {h : Heap} {w : World} (e : rnObs fa fn tf ex n h.get? = He.valX fn [] w) : He.SaysX fa fn [] tf ex w h (He.frT h.get? (List.range n)) := by
  have e1 := congrArg Prod.fst e
  have e2 := congrArg Prod.snd e
  obtain ⟨h1, h2⟩ := Bool.and_eq_true_iff.mp (show (ex (He.frT h.get? (List.range n)) && He.tabsB h.get? tf (He.frT h.get? (List.range n))) = true from e2)
  refine ⟨e1, h1, fun p hp => (rn_tab h2 hp).1, fun p hp => ?_, fun p hp => ?_⟩
  · obtain ⟨_, o, q, z⟩ := rn_tab h2 hp
    exact He.frT_none q z
  · obtain ⟨_, o, q, z⟩ := rn_tab h2 hp
    rw [q, He.emptyTab_eq z]
def rnHook (fa : List He.Fa) (fn : List He.DefD) (tf : List He.Defn) (ex : PySem.W.Frag → Bool) : PySem.W.Hook where
  α := He.AlX
  obs := fun s => rnObs fa fn tf ex s.heap.objs.size s.heap.get?
  val := fun w => He.valX fn [] w
  says := fun w h => ∃ K : PySem.W.Frag, K.In h ∧ He.SaysX fa fn [] tf ex w h K
  of := fun _ _ e => ⟨_, He.frT_in, rn_says e⟩
  keeps := fun _ _ _ ⟨K, hK, c⟩ k => ⟨K, PySem.W.Frag.In.keeps hK k, ⟨c.t, c.more, c.hd, c.out, fun p hp => k _ _ (c.empty p hp)⟩⟩
theorem rn_eq {fa : List He.Fa} {fn : List He.DefD} {tf : List He.Defn} {ex : PySem.W.Frag → Bool} (s : PySem.W.SharedT) : rnObs fa fn tf ex s.n (HandSHeadRun.getT s) = (rnHook fa fn tf ex).obs s.abs := by
  have e : HandSHeadRun.getT s = s.abs.heap.get? := funext (HandSHeadRun.getT_eq s)
  have e2 : s.abs.heap.objs.size = s.n := PySem.W.absHeap_size _ _ _
  show rnObs fa fn tf ex s.n (HandSHeadRun.getT s) = rnObs fa fn tf ex s.abs.heap.objs.size s.abs.heap.get?
  rw [e, e2]
theorem rn_ob {o : Option PySem.W.SharedT} {fa : List He.Fa} {fn : List He.DefD} {tf : List He.Defn} {ex : PySem.W.Frag → Bool} {w : World} (ha : o.map (fun s => fa.all fun f => f.ok (rnK s)) = some true)
    (hn : o.map (fun s => (fn.all fun d => d.ok (rnK s), fn.map fun d => He.fnW (rnK s) d.at_)) = some (true, fn.map He.DefD.val)) (hx : o.map (fun s => ex (rnK s) && He.tabsB (HandSHeadRun.getT s) tf (rnK s)) = some true) :
    o.map (fun s => rnObs fa fn tf ex s.n (HandSHeadRun.getT s)) = some (He.valX fn [] w) := by
  cases o with
  | none => cases ha
  | some s =>
    have e1 : (fa.all fun f => f.ok (rnK s)) = true := Option.some.inj ha
    have e2 : (fn.all fun d => d.ok (rnK s), fn.map fun d => He.fnW (rnK s) d.at_) = (true, fn.map He.DefD.val) := Option.some.inj hn
    have e3 : (ex (rnK s) && He.tabsB (HandSHeadRun.getT s) tf (rnK s)) = true := Option.some.inj hx
    have a1 := congrArg Prod.fst e2
    have a2 := congrArg Prod.snd e2
    simp only at a1 a2
    show some ((((fa.all fun f => f.ok (rnK s)) && fn.all fun d => d.ok (rnK s), fn.map fun d => He.fnW (rnK s) d.at_), []), (ex (rnK s) && He.tabsB (HandSHeadRun.getT s) tf (rnK s))) = some (((true, fn.map He.DefD.val), []), true)
    rw [e1, a1, a2, e3]; rfl

abbrev hk : PySem.W.Hook := rnHook fa fn [((PySem.Str.ofString "law"), none)] ex
def ob (s : PySem.W.SharedT) : He.AlX := rnObs fa fn [((PySem.Str.ofString "law"), none)] ex s.n (HandSHeadRun.getT s)
theorem ob_eq (s : PySem.W.SharedT) : ob s = hk.obs s.abs := rn_eq s
noncomputable abbrev rnE (w : World) (os : OsState) : Option PySem.W.SharedT := HandSHeadRun.endF (HandSHeadRun.stepQ (HandSHeadRun.denQ HandSHeadRun.tabQ) (PySem.W.OpenLaw.row PySem.Challenge.rw_cardroom_k86_whole_costs_of_runs).prog w) 6000 (PySem.W.OpenLaw.row PySem.Challenge.rw_cardroom_k86_whole_costs_of_runs).prog w os
open PySem.W PySem.Calls HandSHeadRun in
theorem rn_lx (w : World) (os : OsState) : (rnE w os).map (fun s => (looksF (PySem.W.OpenLaw.row PySem.Challenge.rw_cardroom_k86_whole_costs_of_runs).prog (boot_heap w.params) s.abs, ex (rnK s) && He.tabsB (HandSHeadRun.getT s) [((PySem.Str.ofString "law"), none)] (rnK s))) = some (true, true) := by kernel_rfl
open PySem.W PySem.Calls HandSHeadRun in
theorem rn_s (w : World) (os : OsState) : (rnE w os).map (fun s => seenQ (PySem.W.view (PySem.W.OpenLaw.row PySem.Challenge.rw_cardroom_k86_whole_costs_of_runs).prog [116]) loose (importedModules (PySem.W.OpenLaw.row PySem.Challenge.rw_cardroom_k86_whole_costs_of_runs).prog.main.body) (fun s => xlAt (PySem.W.view (PySem.W.OpenLaw.row PySem.Challenge.rw_cardroom_k86_whole_costs_of_runs).prog [116]) [] s && recOk (PySem.W.OpenLaw.row PySem.Challenge.rw_cardroom_k86_whole_costs_of_runs).toRowW.records s) s.abs) = some (openGood (PySem.W.view (PySem.W.OpenLaw.row PySem.Challenge.rw_cardroom_k86_whole_costs_of_runs).prog [116]) loose) := by kernel_rfl
theorem rn_fa0 (w : World) (os : OsState) : (rnE w os).map (fun s => faG0.all fun f => f.ok (rnK s)) = some true := by kernel_rfl
theorem rn_fn0 (w : World) (os : OsState) : (rnE w os).map (fun s => (fnG0.all fun d => d.ok (rnK s), fnG0.map fun d => He.fnW (rnK s) d.at_)) = some (true, fnG0.map He.DefD.val) := by kernel_rfl
theorem run (w : World) : HandSHeadRun.RunEq (PySem.W.OpenLaw.row PySem.Challenge.rw_cardroom_k86_whole_costs_of_runs) (PySem.W.view (PySem.W.OpenLaw.row PySem.Challenge.rw_cardroom_k86_whole_costs_of_runs).prog [116]) hk ob 6000 loose w := by
  intro os
  exact rn_and (rn_1 (rn_lx w os)) (rn_and (rn_s w os) (rn_ob (rn_fa0 w os) (rn_fn0 w os) (rn_2 (rn_lx w os))))
end Pf
/-! Pf1: data that values stand for, slots, the state's invariant. -/
namespace Pf
open PySem PySem.Spec PyProof.Rows L2

abbrev D := PyData

/-! ### values and data over a ghost heap G of what never changes again -/
mutual
inductive Rp (K : PySem.W.Frag) (G : Hp) : V → D → Prop
  | n : Rp K G V.non PyData.none
  | b (x : Bool) : Rp K G (V.bl x) (PyData.bool x)
  | i (x : Int) : Rp K G (V.int x) (PyData.int x)
  | s (x : Str) : Rp K G (V.str x) (PyData.str x)
  | l {a : Addr} {vs : List V} {ds : List D} : G a = some (HO.lst vs) → Rs K G vs ds → Rp K G (V.ref a) (PyData.list ds)
  | t {a : Addr} {vs : List V} {ds : List D} : SqT K G a vs → Rs K G vs ds → Rp K G (V.ref a) (PyData.tuple ds)
inductive Rs (K : PySem.W.Frag) (G : Hp) : List V → List D → Prop
  | nil : Rs K G [] []
  | cons {v : V} {vs : List V} {d : D} {ds : List D} : Rp K G v d → Rs K G vs ds → Rs K G (v :: vs) (d :: ds)
end

def Sub (G G' : Hp) : Prop := ∀ a o, G a = some o → G' a = some o
theorem Sub.rfl' (G : Hp) : Sub G G := fun _ _ h => h
theorem Sub.tr {G G1 G2 : Hp} (a : Sub G G1) (b : Sub G1 G2) : Sub G G2 := fun c o h => b c o (a c o h)
theorem Sub.new {G : Hp} {p : Addr} {o : HO} (h : G p = none) : Sub G (upd G p o) := fun a u e => by
  rw [upd_ne (ne_of_none e h)]; exact e
theorem Sub.seqT {K : PySem.W.Frag} {G G' : Hp} {a : Addr} {vs : List V} (h : Sub G G') (x : SqT K G a vs) : SqT K G' a vs := by
  rcases x with (x | ⟨o, x⟩) | x
  · exact .inl (.inl (h _ _ x))
  · exact .inl (.inr ⟨o, h _ _ x⟩)
  · exact .inr x

section
variable {K : PySem.W.Frag} {G G' : Hp}
mutual
theorem Rp.mono (h : Sub G G') : ∀ (d : D) (v : V), Rp K G v d → Rp K G' v d
  | .none, _, x => by cases x; exact .n
  | .bool _, _, x => by cases x; exact .b _
  | .int _, _, x => by cases x; exact .i _
  | .str _, _, x => by cases x; exact .s _
  | .list ds, _, x => by
    cases x with
    | l e r => exact .l (h _ _ e) (Rs.mono h ds _ r)
  | .tuple ds, _, x => by
    cases x with
    | t e r => exact .t (h.seqT e) (Rs.mono h ds _ r)
  | .dict _, _, x => by cases x
theorem Rs.mono (h : Sub G G') : ∀ (ds : List D) (vs : List V), Rs K G vs ds → Rs K G' vs ds
  | [], _, x => by cases x; exact .nil
  | d :: ds, _, x => by
    cases x with
    | cons e r => exact .cons (Rp.mono h d _ e) (Rs.mono h ds _ r)
end
mutual
theorem Rp.dp : ∀ (d : D) (v : V), Rp K G v d → Dp K G v d
  | .none, _, x => by cases x; exact .non
  | .bool _, _, x => by cases x; exact .bl _
  | .int _, _, x => by cases x; exact .int _
  | .str _, _, x => by cases x; exact .str _
  | .list ds, _, x => by
    cases x with
    | l e r => exact .lst (.inl (.inl e)) (Rs.dp ds _ r)
  | .tuple ds, _, x => by
    cases x with
    | t e r => exact .tup e (Rs.dp ds _ r)
  | .dict _, _, x => by cases x
theorem Rs.dp : ∀ (ds : List D) (vs : List V), Rs K G vs ds → DpAll K G vs ds
  | [], _, x => by cases x; exact .nil
  | d :: ds, _, x => by
    cases x with
    | cons e r => exact .cons (Rp.dp d _ e) (Rs.dp ds _ r)
end
theorem Rs.length : ∀ {vs : List V} {ds : List D}, Rs K G vs ds → vs.length = ds.length
  | _, _, .nil => rfl
  | _, _, .cons _ r => by simp [Rs.length r]
theorem Rs.get : ∀ {vs : List V} {ds : List D} {i : Nat} {d : D}, Rs K G vs ds → ds[i]? = some d → ∃ v, vs[i]? = some v ∧ Rp K G v d
  | _, _, _, _, .nil, e => by simp at e
  | _, _, 0, _, .cons h _, e => by simp at e; subst e; exact ⟨_, rfl, h⟩
  | _, _, i + 1, d, .cons _ r, e => by
    obtain ⟨v, h1, h2⟩ := Rs.get (i := i) (d := d) r (by simpa using e)
    exact ⟨v, by simpa using h1, h2⟩
theorem Rs.getV : ∀ {vs : List V} {ds : List D} {i : Nat} {v : V}, Rs K G vs ds → vs[i]? = some v → ∃ d, ds[i]? = some d ∧ Rp K G v d
  | _, _, _, _, .nil, e => by simp at e
  | _, _, 0, _, .cons h _, e => by simp at e; subst e; exact ⟨_, rfl, h⟩
  | _, _, i + 1, v, .cons _ r, e => by
    obtain ⟨d, h1, h2⟩ := Rs.getV (i := i) (v := v) r (by simpa using e)
    exact ⟨d, by simpa using h1, h2⟩
theorem Rs.app : ∀ {vs ws : List V} {ds es : List D}, Rs K G vs ds → Rs K G ws es → Rs K G (vs ++ ws) (ds ++ es)
  | _, _, _, _, .nil, s => s
  | _, _, _, _, .cons h r, s => .cons h (Rs.app r s)
theorem Rs.take : ∀ {vs : List V} {ds : List D} (n : Nat), Rs K G vs ds → Rs K G (vs.take n) (ds.take n)
  | _, _, 0, _ => .nil
  | _, _, _ + 1, .nil => .nil
  | _, _, n + 1, .cons h r => .cons h (Rs.take n r)
theorem Rs.drop : ∀ {vs : List V} {ds : List D} (n : Nat), Rs K G vs ds → Rs K G (vs.drop n) (ds.drop n)
  | _, _, 0, r => r
  | _, _, _ + 1, .nil => .nil
  | _, _, n + 1, .cons _ r => Rs.drop n r
theorem Rs.set {v : V} {d : D} (h : Rp K G v d) : ∀ {vs : List V} {ds : List D} (i : Nat), Rs K G vs ds → Rs K G (vs.set i v) (ds.set i d)
  | _, _, _, .nil => .nil
  | _, _, 0, .cons _ r => .cons h r
  | _, _, i + 1, .cons q r => .cons q (Rs.set h i r)
theorem Rs.rep {vs : List V} {ds : List D} (h : Rs K G vs ds) : ∀ n : Nat, Rs K G (List.replicate n vs).flatten (List.replicate n ds).flatten
  | 0 => .nil
  | n + 1 => by
    rw [List.replicate_succ, List.replicate_succ, List.flatten_cons, List.flatten_cons]
    exact h.app (Rs.rep h n)
theorem Rs.ints : ∀ {vs : List V} {ns : List Int}, Rs K G vs (ns.map PyData.int) → vs = ns.map V.int
  | _, [], h => by cases h; rfl
  | _, n :: ns, h => by
    cases h with
    | cons a r => cases a; rw [Rs.ints r]; rfl
theorem Rs.strs : ∀ {vs : List V} {ns : List Str}, Rs K G vs (ns.map PyData.str) → vs = ns.map V.str
  | _, [], h => by cases h; rfl
  | _, n :: ns, h => by
    cases h with
    | cons a r => cases a; rw [Rs.strs r]; rfl
theorem Rs.bools : ∀ {vs : List V} {ns : List Bool}, Rs K G vs (ns.map PyData.bool) → vs = ns.map V.bl
  | _, [], h => by cases h; rfl
  | _, n :: ns, h => by
    cases h with
    | cons a r => cases a; rw [Rs.bools r]; rfl
theorem Rs.ofInts : ∀ ns : List Int, Rs K G (ns.map V.int) (ns.map PyData.int)
  | [] => .nil
  | n :: ns => .cons (.i n) (Rs.ofInts ns)
theorem Rs.ofStrs : ∀ ns : List Str, Rs K G (ns.map V.str) (ns.map PyData.str)
  | [] => .nil
  | n :: ns => .cons (.s n) (Rs.ofStrs ns)
end

/-! ### data without lists -/
mutual
def noL : D → Bool
  | .list _ => false
  | .tuple ds => noLs ds
  | .dict _ => false
  | _ => true
def noLs : List D → Bool
  | [] => true
  | d :: ds => noL d && noLs ds
end
section
variable {K : PySem.W.Frag} {G G' : Hp}
mutual
theorem Rp.keep (h : ∀ a vs, SqT K G a vs → SqT K G' a vs) : ∀ (d : D) (v : V), noL d = true → Rp K G v d → Rp K G' v d
  | .none, _, _, x => by cases x; exact .n
  | .bool _, _, _, x => by cases x; exact .b _
  | .int _, _, _, x => by cases x; exact .i _
  | .str _, _, _, x => by cases x; exact .s _
  | .list ds, _, q, x => by simp [noL] at q
  | .tuple ds, _, q, x => by
    cases x with
    | t e r => exact .t (h _ _ e) (Rs.keep h ds _ (by simpa [noL] using q) r)
  | .dict _, _, _, x => by cases x
theorem Rs.keep (h : ∀ a vs, SqT K G a vs → SqT K G' a vs) : ∀ (ds : List D) (vs : List V), noLs ds = true → Rs K G vs ds → Rs K G' vs ds
  | [], _, _, x => by cases x; exact .nil
  | d :: ds, _, q, x => by
    cases x with
    | cons e r =>
      have q' : noL d = true ∧ noLs ds = true := by simpa [noLs] using q
      exact .cons (Rp.keep h d _ q'.1 e) (Rs.keep h ds _ q'.2 r)
end
end

/-! ### slots -/
inductive Slot where
  | undef
  | imm (d : D)
  | own (ds : List D)
  | io (ds : List D)
  | scr (ns : List Int) (T : List (Addr × Str))
  | exc (a : Addr) (d : Option Addr) (fs : List (Str × D))
abbrev Rho := List Slot

structure Fx where
  H0 : Hp
  G0 : Hp
  w : Nat → Option Addr
  T : List (Addr × Str)

def ScrOk (K : PySem.W.Frag) (H : Hp) (a : Addr) (ns : List Int) : Prop :=
  (∃ o, H a = some (HO.frz o (HO.lst (ns.map V.int)))) ∨
    ∃ (o : Obj) (its : Array Value) (n : Nat), K.lookup a = some o ∧ o.cls = Value.type "list" ∧ o.dict = none ∧ o.data = Data.seq its n ∧ its.size ≤ sizeLine ∧ Vals (ns.map V.int) its.toList
theorem ScrOk.sq {K : PySem.W.Frag} {H : Hp} {a : Addr} {ns : List Int} (h : ScrOk K H a ns) : SqL K H a (ns.map V.int) := by
  rcases h with ⟨o, h⟩ | h
  · exact .inl (.inr ⟨o, h⟩)
  · exact .inr h

def FsOk (K : PySem.W.Frag) (G : Hp) : List (Str × V) → List (Str × D) → Prop
  | [], [] => True
  | (f, v) :: r, (g, d) :: s => f = g ∧ Rp K G v d ∧ FsOk K G r s
  | _, _ => False
def XdOk (K : PySem.W.Frag) (G H : Hp) (d : Option Addr) (fs : List (Str × D)) : Prop := fs ≠ [] → ∃ (dd : Addr) (vs : List (Str × V)), d = some dd ∧ H dd = some (HO.xd vs) ∧ FsOk K G vs fs
theorem FsOk.mono {K : PySem.W.Frag} {G G' : Hp} (s : Sub G G') : ∀ {vs : List (Str × V)} {fs : List (Str × D)}, FsOk K G vs fs → FsOk K G' vs fs
  | [], [], _ => True.intro
  | _ :: _, _ :: _, h => ⟨h.1, h.2.1.mono s _ _, FsOk.mono s h.2.2⟩
theorem XdOk.keep {K : PySem.W.Frag} {G G' H H' : Hp} {d : Option Addr} {fs : List (Str × D)} (h : XdOk K G H d fs) (s : Sub G G') (k : ∀ b vs, H b = some (HO.xd vs) → H' b = some (HO.xd vs)) : XdOk K G' H' d fs := fun ne => by
  obtain ⟨dd, vs, h1, h2, h3⟩ := h ne
  exact ⟨dd, vs, h1, k _ _ h2, h3.mono s⟩

def SlOk (K : PySem.W.Frag) (F : Fx) (G H : Hp) (i : Nat) (v : Option (Option V)) : Slot → Prop
  | .undef => True
  | .imm d => ∃ x, v = some (some x) ∧ Rp K G x d
  | .own ds => ∃ a vs, v = some (some (V.ref a)) ∧ H a = some (HO.lst vs) ∧ G a = none ∧ Rs K G vs ds ∧ F.H0 a = none
  | .io ds => ∃ a vs, v = some (some (V.ref a)) ∧ H a = some (HO.lst vs) ∧ G a = none ∧ Rs K G vs ds ∧ F.w i = some a
  | .scr ns T => (∃ a, v = some (some (V.ref a)) ∧ (ScrOk K H a ns ∨ G a = some (HO.lst (ns.map V.int)))) ∧ (T ≠ [] → T = F.T)
  | .exc a d fs => v = some (some (V.ref a)) ∧ XdOk K G H d fs

/-- the heap without its tables -/
def untab (H : Hp) : Hp := fun a => match H a with
  | some (.tbl _) => none
  | o => o
structure SI (K : PySem.W.Frag) (F : Fx) (G H : Hp) (σ : L2.St) (ρ : Rho) : Prop where
  gH : Sub G H
  gt : ∀ a ps, G a ≠ some (HO.tbl ps)
  g0 : Sub F.G0 G
  gn : ∀ a o, G a = some o → F.G0 a = some o ∨ F.H0 a = none
  h0 : ∀ a o, F.H0 a = some o → (∀ i, F.w i ≠ some a) → H a = some o
  hn : ∀ a, H a = none → F.H0 a = none
  w1 : ∀ (i : Nat) (a : Addr), F.w i = some a → F.H0 a ≠ none
  w2 : ∀ (i : Nat) (a : Addr), F.w i = some a → F.G0 a = none
  w3 : ∀ (i j : Nat) (a : Addr), F.w i = some a → F.w j = some a → i = j
  tb : LamX.Tabs F.T H
  len : ρ.length = σ.length
  sl : ∀ (i : Nat) (s : Slot), ρ[i]? = some s → SlOk K F G H i (σ[i]?) s
  dj : ∀ (i j : Nat) (a : Addr) (ds es : List D), ρ[i]? = some (Slot.own ds) → ρ[j]? = some (Slot.own es) → σ[i]? = some (some (V.ref a)) → σ[j]? = some (some (V.ref a)) → i = j
  ht : ∀ a ps, F.H0 a ≠ some (HO.tbl ps)
  w4 : ∀ (i : Nat) (a : Addr), F.w i = some a → ∃ vs, H a = some (HO.lst vs)

/-- all but lists is kept -/
def Kp (H H' : Hp) : Prop := ∀ b o, H b = some o → (∀ vs, o ≠ HO.lst vs) → H' b = some o
theorem Kp.of {H H' : Hp} (h : Sub H H') : Kp H H' := fun b o e _ => h b o e
theorem codeO_lst {c : Addr} {q : Str} (vs : List V) : LamX.CodeO c q ≠ HO.lst vs := fun z => by
  unfold LamX.CodeO at z
  cases z
theorem tabs_kp {T : List (Addr × Str)} {H H' : Hp} (t : LamX.Tabs T H) (k : Kp H H') : LamX.Tabs T H' := fun p hp => by
  obtain ⟨ps, h1, h2, h3⟩ := t p hp
  refine ⟨ps, k _ _ h1 (fun _ z => by cases z), h2, fun pos cv hc => ?_⟩
  obtain ⟨c, e1, e2⟩ := h3 pos cv hc
  exact ⟨c, e1, k _ _ e2 codeO_lst⟩

def Rho.lst? (ρ : Rho) (i : Nat) : Option (List D) :=
  match ρ[i]? with
  | some (.own ds) => some ds
  | some (.io ds) => some ds
  | _ => none
def Rho.put (ρ : Rho) (i : Nat) (ds : List D) : Rho :=
  match ρ[i]? with
  | some (.own _) => ρ.set i (.own ds)
  | some (.io _) => ρ.set i (.io ds)
  | _ => ρ

section
variable {K : PySem.W.Frag} {F : Fx} {G H : Hp} {σ : L2.St} {ρ : Rho}

theorem SI.scr (I : SI K F G H σ ρ) {a : Addr} {ns : List Int} (h : ScrOk K H a ns ∨ G a = some (HO.lst (ns.map V.int))) : SqL K H a (ns.map V.int) := by
  rcases h with h | h
  · exact h.sq
  · exact .inl (.inl (I.gH a _ h))
/-- slot i holds a list that may change, at a -/
def MutAt (K : PySem.W.Frag) (F : Fx) (G H : Hp) (σ : L2.St) (ρ : Rho) (i : Nat) (a : Addr) (ds : List D) : Prop :=
  σ[i]? = some (some (V.ref a)) ∧ (∃ vs, H a = some (HO.lst vs) ∧ Rs K G vs ds) ∧ G a = none ∧
    ((ρ[i]? = some (.own ds) ∧ F.H0 a = none) ∨ (ρ[i]? = some (.io ds) ∧ F.w i = some a))
theorem SI.at_ (I : SI K F G H σ ρ) {i : Nat} {ds : List D} (h : ρ.lst? i = some ds) : ∃ a, MutAt K F G H σ ρ i a ds := by
  unfold Rho.lst? at h
  split at h
  · rename_i es e
    cases h
    obtain ⟨a, vs, h1, h2, h3, h4, h5⟩ := I.sl i _ e
    exact ⟨a, h1, ⟨vs, h2, h4⟩, h3, .inl ⟨e, h5⟩⟩
  · rename_i es e
    cases h
    obtain ⟨a, vs, h1, h2, h3, h4, h5⟩ := I.sl i _ e
    exact ⟨a, h1, ⟨vs, h2, h4⟩, h3, .inr ⟨e, h5⟩⟩
  · cases h
theorem SI.apart (I : SI K F G H σ ρ) {i j : Nat} {a : Addr} {ds es : List D} (h1 : MutAt K F G H σ ρ i a ds) (h2 : MutAt K F G H σ ρ j a es) : i = j := by
  obtain ⟨s1, _, _, c1⟩ := h1
  obtain ⟨s2, _, _, c2⟩ := h2
  rcases c1 with ⟨r1, z1⟩ | ⟨r1, z1⟩
  · rcases c2 with ⟨r2, z2⟩ | ⟨r2, z2⟩
    · exact I.dj i j a _ _ r1 r2 s1 s2
    · exact absurd z1 (I.w1 j a z2)
  · rcases c2 with ⟨r2, z2⟩ | ⟨r2, z2⟩
    · exact absurd z2 (I.w1 i a z1)
    · exact I.w3 i j a z1 z2
/-- a new object in the heap, known for good -/
theorem SI.alloc (I : SI K F G H σ ρ) {p : Addr} {o : HO} (hp : H p = none) (ho : ∀ ps, o ≠ HO.tbl ps) : SI K F (upd G p o) (upd H p o) σ ρ := by
  have gp : G p = none := by
    cases q : G p with
    | none => rfl
    | some u => rw [I.gH p u q] at hp; cases hp
  have sG : Sub G (upd G p o) := Sub.new gp
  have sH : Sub H (upd H p o) := Sub.new hp
  refine ⟨fun a u e => ?_, fun a ps e => ?_, I.g0.tr sG, fun a u e => ?_, fun a u e h1 => sH _ _ (I.h0 a u e h1), fun a e => ?_, I.w1, I.w2, I.w3, tabs_kp I.tb (Kp.of sH), I.len, fun i s e => ?_, I.dj, I.ht, fun i a e => let ⟨vs, h⟩ := I.w4 i a e; ⟨vs, sH _ _ h⟩⟩
  · by_cases h : a = p
    · subst h; rw [upd_same] at e ⊢; exact e
    · rw [upd_ne h] at e ⊢; exact I.gH a u e
  · by_cases h : a = p
    · subst h; rw [upd_same] at e; exact ho ps (Option.some.inj e)
    · rw [upd_ne h] at e; exact I.gt a ps e
  · by_cases h : a = p
    · subst h; exact .inr (I.hn _ hp)
    · rw [upd_ne h] at e; exact I.gn a u e
  · by_cases h : a = p
    · subst h; rw [upd_same] at e; cases e
    · rw [upd_ne h] at e; exact I.hn a e
  · have x := I.sl i s e
    cases s with
    | undef => trivial
    | imm d => obtain ⟨v, h1, h2⟩ := x; exact ⟨v, h1, h2.mono sG _ _⟩
    | own ds =>
      obtain ⟨a, vs, h1, h2, h3, h4, h5⟩ := x
      exact ⟨a, vs, h1, sH _ _ h2, by rw [upd_ne (ne_of_none h2 hp)]; exact h3, h4.mono sG _ _, h5⟩
    | io ds =>
      obtain ⟨a, vs, h1, h2, h3, h4, h5⟩ := x
      exact ⟨a, vs, h1, sH _ _ h2, by rw [upd_ne (ne_of_none h2 hp)]; exact h3, h4.mono sG _ _, h5⟩
    | scr ns T =>
      obtain ⟨⟨a, h1, h2⟩, hT⟩ := x
      refine ⟨⟨a, h1, ?_⟩, hT⟩
      rcases h2 with (⟨ob, h2⟩ | h2) | h2
      · exact .inl (.inl ⟨ob, sH _ _ h2⟩)
      · exact .inl (.inr h2)
      · exact .inr (sG _ _ h2)
    | exc a d fs => exact ⟨x.1, x.2.keep sG fun b vs e => sH _ _ e⟩
/-- a new object in the heap, of which nothing more is said -/
theorem SI.allocH (I : SI K F G H σ ρ) {p : Addr} {o : HO} (hp : H p = none) : SI K F G (upd H p o) σ ρ := by
  have sH : Sub H (upd H p o) := Sub.new hp
  refine ⟨I.gH.tr sH, I.gt, I.g0, I.gn, fun a u e h1 => sH _ _ (I.h0 a u e h1), fun a e => ?_, I.w1, I.w2, I.w3, tabs_kp I.tb (Kp.of sH), I.len, fun i s e => ?_, I.dj, I.ht, fun i a e => let ⟨vs, h⟩ := I.w4 i a e; ⟨vs, sH _ _ h⟩⟩
  · by_cases h : a = p
    · subst h; rw [upd_same] at e; cases e
    · rw [upd_ne h] at e; exact I.hn a e
  · have x := I.sl i s e
    cases s with
    | undef => trivial
    | imm d => exact x
    | own ds =>
      obtain ⟨a, vs, h1, h2, h3, h4, h5⟩ := x
      exact ⟨a, vs, h1, sH _ _ h2, h3, h4, h5⟩
    | io ds =>
      obtain ⟨a, vs, h1, h2, h3, h4, h5⟩ := x
      exact ⟨a, vs, h1, sH _ _ h2, h3, h4, h5⟩
    | scr ns T =>
      obtain ⟨⟨a, h1, h2⟩, hT⟩ := x
      refine ⟨⟨a, h1, ?_⟩, hT⟩
      rcases h2 with (⟨ob, h2⟩ | h2) | h2
      · exact .inl (.inl ⟨ob, sH _ _ h2⟩)
      · exact .inl (.inr h2)
      · exact .inr h2
    | exc a d fs => exact ⟨x.1, x.2.keep (Sub.rfl' _) fun b vs e => sH _ _ e⟩
/-- a list that stands by itself: not known for good, in no slot -/
structure NewL (K : PySem.W.Frag) (F : Fx) (G H : Hp) (σ : L2.St) (ρ : Rho) (a : Addr) (ds : List D) : Prop where
  h : ∃ vs, H a = some (HO.lst vs) ∧ Rs K G vs ds
  g : G a = none
  z : F.H0 a = none
  sl : ∀ (i : Nat) (es : List D), ρ[i]? = some (Slot.own es) → σ[i]? ≠ some (some (V.ref a))
/-- it is known for good from now on -/
theorem SI.freeze (I : SI K F G H σ ρ) {a : Addr} {ds : List D} (n : NewL K F G H σ ρ a ds) : ∃ G', SI K F G' H σ ρ ∧ Sub G G' ∧ Rp K G' (V.ref a) (PyData.list ds) := by
  obtain ⟨⟨vs, hv, rv⟩, hg, hz, hs⟩ := n
  have sG : Sub G (upd G a (.lst vs)) := Sub.new hg
  refine ⟨upd G a (.lst vs), ⟨fun b u e => ?_, fun b ps e => ?_, I.g0.tr sG, fun b u e => ?_, I.h0, I.hn, I.w1, I.w2, I.w3, I.tb, I.len, fun i s e => ?_, I.dj, I.ht, I.w4⟩, sG, .l upd_same (rv.mono sG _ _)⟩
  · by_cases h : b = a
    · subst h; rw [upd_same] at e; cases e; exact hv
    · rw [upd_ne h] at e; exact I.gH b u e
  · by_cases h : b = a
    · subst h; rw [upd_same] at e; cases e
    · rw [upd_ne h] at e; exact I.gt b ps e
  · by_cases h : b = a
    · subst h; exact .inr hz
    · rw [upd_ne h] at e; exact I.gn b u e
  · have x := I.sl i s e
    cases s with
    | undef => trivial
    | imm d => obtain ⟨v, h1, h2⟩ := x; exact ⟨v, h1, h2.mono sG _ _⟩
    | own es =>
      obtain ⟨b, ws, h1, h2, h3, h4, h5⟩ := x
      have nb : b ≠ a := fun z => hs i es e (by rw [h1, z])
      exact ⟨b, ws, h1, h2, by rw [upd_ne nb]; exact h3, h4.mono sG _ _, h5⟩
    | io es =>
      obtain ⟨b, ws, h1, h2, h3, h4, h5⟩ := x
      have nb : b ≠ a := fun z => by subst z; exact I.w1 i b h5 hz
      exact ⟨b, ws, h1, h2, by rw [upd_ne nb]; exact h3, h4.mono sG _ _, h5⟩
    | scr ns T =>
      obtain ⟨⟨b, h1, h2⟩, hT⟩ := x
      refine ⟨⟨b, h1, ?_⟩, hT⟩
      rcases h2 with h2 | h2
      · exact .inl h2
      · exact .inr (sG _ _ h2)
    | exc b d fs => exact ⟨x.1, x.2.keep sG fun _ _ e => e⟩
theorem lst?_put {i : Nat} {ds es : List D} (h : ρ.lst? i = some ds) : (ρ.put i es).lst? i = some es := by
  unfold Rho.lst? at h
  unfold Rho.put Rho.lst?
  split at h
  · rename_i e
    have hi : i < ρ.length := (List.getElem?_eq_some_iff.mp e).1
    simp [e, hi]
  · rename_i e
    have hi : i < ρ.length := (List.getElem?_eq_some_iff.mp e).1
    simp [e, hi]
  · cases h
theorem put_length (ρ : Rho) (i : Nat) (ds : List D) : (ρ.put i ds).length = ρ.length := by
  unfold Rho.put
  split <;> simp
/-- the list of a slot changes -/
theorem SI.mut_ (I : SI K F G H σ ρ) {i : Nat} {a : Addr} {ds es : List D} {ws : List V} (m : MutAt K F G H σ ρ i a ds) (r : Rs K G ws es) : SI K F G (upd H a (.lst ws)) σ (ρ.put i es) := by
  obtain ⟨m1, ⟨vs, m2, m3⟩, m4, m5⟩ := id m
  have kp : Kp H (upd H a (.lst ws)) := fun b o e n => by
    have nb : b ≠ a := fun z => by subst z; rw [m2] at e; cases e; exact n vs rfl
    rw [upd_ne nb]; exact e
  have other : ∀ j b es', MutAt K F G H σ ρ j b es' → j ≠ i → b ≠ a := fun j b es' h n z => by subst z; exact n (I.apart h m)
  have hi : i < ρ.length := by
    rcases m5 with ⟨e, _⟩ | ⟨e, _⟩ <;> exact (List.getElem?_eq_some_iff.mp e).1
  have at_i : ∀ s, (ρ.put i es)[i]? = some s → (s = .own es ∧ F.H0 a = none) ∨ (s = .io es ∧ F.w i = some a) := fun s h => by
    unfold Rho.put at h
    rcases m5 with ⟨e, z⟩ | ⟨e, z⟩
    · rw [e] at h
      simp only [List.getElem?_set_self hi] at h
      exact .inl ⟨(Option.some.inj h).symm, z⟩
    · rw [e] at h
      simp only [List.getElem?_set_self hi] at h
      exact .inr ⟨(Option.some.inj h).symm, z⟩
  have at_j : ∀ j, j ≠ i → (ρ.put i es)[j]? = ρ[j]? := fun j n => by
    unfold Rho.put
    split
    · rw [List.getElem?_set_ne (Ne.symm n)]
    · rw [List.getElem?_set_ne (Ne.symm n)]
    · rfl
  refine ⟨fun b u e => ?_, I.gt, I.g0, I.gn, fun b u e h1 => ?_, fun b e => ?_, I.w1, I.w2, I.w3, tabs_kp I.tb kp, by rw [put_length]; exact I.len, fun j s e => ?_, fun j k b ds1 ds2 e1 e2 s1 s2 => ?_, I.ht, fun i b e => ?_⟩
  · have nb : b ≠ a := fun z => by subst z; rw [m4] at e; cases e
    rw [upd_ne nb]; exact I.gH b u e
  · have nb : b ≠ a := fun z => by
      subst z
      rcases m5 with ⟨_, z⟩ | ⟨_, z⟩
      · rw [z] at e; cases e
      · exact h1 i z
    rw [upd_ne nb]; exact I.h0 b u e h1
  · by_cases h : b = a
    · subst h; rw [upd_same] at e; cases e
    · rw [upd_ne h] at e; exact I.hn b e
  · by_cases hj : j = i
    · subst hj
      rcases at_i s e with ⟨rfl, z⟩ | ⟨rfl, z⟩
      · exact ⟨a, ws, m1, upd_same, m4, r, z⟩
      · exact ⟨a, ws, m1, upd_same, m4, r, z⟩
    · rw [at_j j hj] at e
      have x := I.sl j s e
      cases s with
      | undef => trivial
      | imm d => exact x
      | own ds' =>
        obtain ⟨b, us, h1, h2, h3, h4, h5⟩ := x
        exact ⟨b, us, h1, by rw [upd_ne (other j b ds' ⟨h1, ⟨us, h2, h4⟩, h3, .inl ⟨e, h5⟩⟩ hj)]; exact h2, h3, h4, h5⟩
      | io ds' =>
        obtain ⟨b, us, h1, h2, h3, h4, h5⟩ := x
        exact ⟨b, us, h1, by rw [upd_ne (other j b ds' ⟨h1, ⟨us, h2, h4⟩, h3, .inr ⟨e, h5⟩⟩ hj)]; exact h2, h3, h4, h5⟩
      | scr ns T =>
        obtain ⟨⟨b, h1, h2⟩, hT⟩ := x
        refine ⟨⟨b, h1, ?_⟩, hT⟩
        rcases h2 with (⟨ob, h2⟩ | h2) | h2
        · exact .inl (.inl ⟨ob, kp _ _ h2 (fun _ z => by cases z)⟩)
        · exact .inl (.inr h2)
        · exact .inr h2
      | exc b d fs => exact ⟨x.1, x.2.keep (Sub.rfl' _) fun _ _ e => kp _ _ e (fun _ z => by cases z)⟩
  · have own_of : ∀ (k : Nat) (ds' : List D), (ρ.put i es)[k]? = some (Slot.own ds') → ∃ ds'' : List D, ρ[k]? = some (Slot.own ds'') := fun k ds' e => by
      by_cases hk : k = i
      · subst hk
        rcases m5 with ⟨e', z⟩ | ⟨e', z⟩
        · exact ⟨_, e'⟩
        · rcases at_i _ e with ⟨h, _⟩ | ⟨h, _⟩
          · unfold Rho.put at e
            rw [e'] at e
            simp only [List.getElem?_set_self hi] at e
            cases e
          · cases h
      · rw [at_j k hk] at e; exact ⟨_, e⟩
    obtain ⟨q1, r1⟩ := own_of j ds1 e1
    obtain ⟨q2, r2⟩ := own_of k ds2 e2
    exact I.dj j k b _ _ r1 r2 s1 s2
  · by_cases hb : b = a
    · subst hb; exact ⟨ws, upd_same⟩
    · obtain ⟨us, h⟩ := I.w4 i b e
      exact ⟨us, by rw [upd_ne hb]; exact h⟩
/-- a slot is stored to: a value known for good -/
theorem SI.setImm (I : SI K F G H σ ρ) {i : Nat} {v : V} {d : D} (r : Rp K G v d) : SI K F G H (σ.set i (some v)) (ρ.set i (.imm d)) := by
  refine ⟨I.gH, I.gt, I.g0, I.gn, I.h0, I.hn, I.w1, I.w2, I.w3, I.tb, by simp [I.len], fun j s e => ?_, fun j k b ds1 ds2 e1 e2 s1 s2 => ?_, I.ht, I.w4⟩
  · by_cases hj : j = i
    · subst hj
      have hl : j < ρ.length := by
        have := (List.getElem?_eq_some_iff.mp e).1
        simpa using this
      rw [List.getElem?_set_self hl] at e
      cases e
      exact ⟨v, by rw [List.getElem?_set_self (by rw [← I.len]; exact hl)], r⟩
    · rw [List.getElem?_set_ne (Ne.symm hj)] at e ⊢
      exact I.sl j s e
  · have nj : ∀ k ds', (ρ.set i (.imm d))[k]? = some (.own ds') → k ≠ i := fun k ds' e z => by
      subst z
      have hl : k < ρ.length := by
        have := (List.getElem?_eq_some_iff.mp e).1
        simpa using this
      rw [List.getElem?_set_self hl] at e
      cases e
    have n1 := nj j _ e1
    have n2 := nj k _ e2
    rw [List.getElem?_set_ne (Ne.symm n1)] at e1 s1
    rw [List.getElem?_set_ne (Ne.symm n2)] at e2 s2
    exact I.dj j k b _ _ e1 e2 s1 s2
/-- .. a list that stands by itself -/
theorem SI.setOwn (I : SI K F G H σ ρ) {i : Nat} {a : Addr} {ds : List D} (n : NewL K F G H σ ρ a ds) : SI K F G H (σ.set i (some (V.ref a))) (ρ.set i (.own ds)) := by
  obtain ⟨⟨vs, hv, rv⟩, hg, hz, hs⟩ := n
  have keyj : ∀ k es, k ≠ i → ρ[k]? = some (.own es) → σ[k]? ≠ some (some (V.ref a)) := fun k es _ e => hs k es e
  refine ⟨I.gH, I.gt, I.g0, I.gn, I.h0, I.hn, I.w1, I.w2, I.w3, I.tb, by simp [I.len], fun j s e => ?_, fun j k b ds1 ds2 e1 e2 s1 s2 => ?_, I.ht, I.w4⟩
  · by_cases hj : j = i
    · subst hj
      have hl : j < ρ.length := by
        have := (List.getElem?_eq_some_iff.mp e).1
        simpa using this
      rw [List.getElem?_set_self hl] at e
      cases e
      exact ⟨a, vs, by rw [List.getElem?_set_self (by rw [← I.len]; exact hl)], hv, hg, rv, hz⟩
    · rw [List.getElem?_set_ne (Ne.symm hj)] at e ⊢
      exact I.sl j s e
  · by_cases hj : j = i
    · by_cases hk : k = i
      · rw [hj, hk]
      · subst hj
        rw [List.getElem?_set_ne (Ne.symm hk)] at e2 s2
        have hl : j < σ.length := by
          have := (List.getElem?_eq_some_iff.mp s1).1
          simpa using this
        rw [List.getElem?_set_self hl] at s1
        cases s1
        exact absurd s2 (keyj k ds2 hk e2)
    · rw [List.getElem?_set_ne (Ne.symm hj)] at e1 s1
      by_cases hk : k = i
      · subst hk
        have hl : k < σ.length := by
          have := (List.getElem?_eq_some_iff.mp s2).1
          simpa using this
        rw [List.getElem?_set_self hl] at s2
        cases s2
        exact absurd s1 (keyj j ds1 hj e1)
      · rw [List.getElem?_set_ne (Ne.symm hk)] at e2 s2
        exact I.dj j k b _ _ e1 e2 s1 s2
end
end Pf

/-! Pf2: what a piece of code denotes over slots; the judgements; blocks. -/
namespace Pf
open PySem PySem.Spec PyProof.Rows L2

/-- an error: its class by name, its fields -/
structure Ex where
  cls : Str
  fs : List (Str × D)

inductive R (α : Type) where
  | ok (a : α) (ρ : Rho)
  | err (x : Ex) (ρ : Rho)
  | bad
def R.bind {α β : Type} (r : R α) (f : α → Rho → R β) : R β :=
  match r with
  | .ok a ρ => f a ρ
  | .err x ρ => .err x ρ
  | .bad => .bad
def lift {α : Type} (o : Option α) (ρ : Rho) : R α :=
  match o with
  | some a => .ok a ρ
  | none => .bad

def ExOk (K : PySem.W.Frag) (mg : Str → Option Value) (G H : Hp) (x : Ex) (cls : Value) (dd : Option Addr) : Prop :=
  mg x.cls = some cls ∧ XdOk K G H dd x.fs ∧ (x.fs = [] → dd = none)

/-- what is known of a result: how the value b tells the datum a -/
abbrev Rel (α β : Type) := Fx → L2.St → Hp → Hp → Rho → β → α → Prop
def Post {α β : Type} (K : PySem.W.Frag) (mg : Str → Option Value) (F : Fx) (G : Hp) (σ : L2.St) (W : WX) (rel : Rel α β) (Q : β → Hp → Prop) : R α → Prop
  | .ok a ρ => ∀ G' H' b, SI K F G' H' σ ρ → Sub G G' → rel F σ G' H' ρ b a → Q b H'
  | .err x ρ => ∀ G' H' cls dd, SI K F G' H' σ ρ → Sub G G' → ExOk K mg G' H' x cls dd → W cls dd σ H'
  | .bad => False
def ROK {α β : Type} (K : PySem.W.Frag) (mg : Str → Option Value) (F : Fx) (W : WX) (rel : Rel α β) (t : L2.St → Hp → (β → Hp → Prop) → Prop) (den : Rho → R α) : Prop :=
  ∀ G H σ ρ Q, SI K F G H σ ρ → Post K mg F G σ W rel Q (den ρ) → t σ H Q

/-- a value known for good; one that is so now (a slot's own list); a list that stands by itself -/
def Bw (K : PySem.W.Frag) (G H : Hp) (v : V) (d : D) : Prop :=
  Rp K G v d ∨ ∃ (a : Addr) (vs : List V) (ds : List D), v = V.ref a ∧ d = PyData.list ds ∧ H a = some (HO.lst vs) ∧ Rs K G vs ds
def relE (K : PySem.W.Frag) : Rel D V := fun _ _ G _ _ v d => Rp K G v d
def relB (K : PySem.W.Frag) : Rel D V := fun _ _ G H _ v d => Bw K G H v d
def relN (K : PySem.W.Frag) : Rel (List D) V := fun F σ G H ρ v ds => ∃ a, v = V.ref a ∧ NewL K F G H σ ρ a ds
def relT : Rel Bool Bool := fun _ _ _ _ _ b a => b = a

section
variable {K : PySem.W.Frag} {mg : Str → Option Value} {F : Fx} {G G' H : Hp} {σ : L2.St} {W : WX} {α β γ δ : Type} {rel : Rel α β} {rel2 : Rel γ δ} {ρ : Rho}
theorem Post.mono {Q : β → Hp → Prop} {r : R α} (s : Sub G G') (p : Post K mg F G σ W rel Q r) : Post K mg F G' σ W rel Q r := by
  cases r with
  | ok a ρ => exact fun G2 H2 b I s2 r2 => p G2 H2 b I (s.tr s2) r2
  | err x ρ => exact fun G2 H2 c d I s2 r2 => p G2 H2 c d I (s.tr s2) r2
  | bad => exact p
theorem Post.bind {Q : δ → Hp → Prop} {Q1 : β → Hp → Prop} {r : R α} {f : α → Rho → R γ} (p : Post K mg F G σ W rel2 Q (r.bind f))
    (k : ∀ a ρ1 G1 H1 b, SI K F G1 H1 σ ρ1 → Sub G G1 → rel F σ G1 H1 ρ1 b a → Post K mg F G1 σ W rel2 Q (f a ρ1) → Q1 b H1) : Post K mg F G σ W rel Q1 r := by
  cases r with
  | ok a ρ => exact fun G2 H2 b I s2 r2 => k a ρ G2 H2 b I s2 r2 (Post.mono s2 p)
  | err x ρ => exact p
  | bad => exact p
theorem Post.lift {Q : β → Hp → Prop} {o : Option α} (p : Post K mg F G σ W rel Q (lift o ρ)) : ∃ a, o = some a ∧ Post K mg F G σ W rel Q (.ok a ρ) := by
  cases o with
  | some a => exact ⟨a, rfl, p⟩
  | none => exact p.elim
theorem Rp.bw {v : V} {d : D} (h : Rp K G v d) : Bw K G H v d := .inl h
theorem Bw.lst {v : V} {ds : List D} (h : Bw K G H v (PyData.list ds)) (s : Sub G H) : ∃ a vs, v = V.ref a ∧ H a = some (HO.lst vs) ∧ Rs K G vs ds := by
  rcases h with h | ⟨a, vs, es, e1, e2, e3, e4⟩
  · cases h with
    | l e r => exact ⟨_, _, rfl, s _ _ e, r⟩
  · cases e2
    exact ⟨a, vs, e1, e3, e4⟩
theorem Bw.tup {v : V} {ds : List D} (h : Bw K G H v (PyData.tuple ds)) (s : Sub G H) : ∃ a vs, v = V.ref a ∧ SqT K H a vs ∧ Rs K G vs ds := by
  rcases h with h | ⟨a, vs, es, e1, e2, e3, e4⟩
  · cases h with
    | t e r => exact ⟨_, _, rfl, s.seqT e, r⟩
  · cases e2
theorem Bw.dp {v : V} {d : D} (h : Bw K G H v d) (s : Sub G H) : Dp K H v d := by
  rcases h with h | ⟨a, vs, es, e1, e2, e3, e4⟩
  · exact (h.mono s _ _).dp _ _
  · subst e1 e2
    exact .lst (.inl (.inl e3)) ((e4.mono s _ _).dp _ _)
theorem Bw.int {v : V} {i : Int} (h : Bw K G H v (PyData.int i)) : v = V.int i := by
  rcases h with h | ⟨a, vs, es, e1, e2, e3, e4⟩
  · cases h; rfl
  · cases e2
theorem Bw.str {v : V} {i : Str} (h : Bw K G H v (PyData.str i)) : v = V.str i := by
  rcases h with h | ⟨a, vs, es, e1, e2, e3, e4⟩
  · cases h; rfl
  · cases e2
theorem Bw.bool {v : V} {i : Bool} (h : Bw K G H v (PyData.bool i)) : v = V.bl i := by
  rcases h with h | ⟨a, vs, es, e1, e2, e3, e4⟩
  · cases h; rfl
  · cases e2
theorem Bw.none_ {v : V} (h : Bw K G H v PyData.none) : v = V.non := by
  rcases h with h | ⟨a, vs, es, e1, e2, e3, e4⟩
  · cases h; rfl
  · cases e2
theorem Bw.mono {v : V} {d : D} (h : Bw K G H v d) (s : Sub G G') (sh : ∀ a vs, H a = some (HO.lst vs) → H a = some (HO.lst vs)) : Bw K G' H v d := by
  rcases h with h | ⟨a, vs, es, e1, e2, e3, e4⟩
  · exact .inl (h.mono s _ _)
  · exact .inr ⟨a, vs, es, e1, e2, e3, e4.mono s _ _⟩
end

/-! ### the judgements -/
def JE (X : Cx) (W : WX) (e : Expr) (den : Rho → R D) : Prop := ∃ t, PE X e t ∧ ∀ F, ROK X.K X.mg F W (relE X.K) t den
def JB (X : Cx) (W : WX) (e : Expr) (den : Rho → R D) : Prop := ∃ t, PE X e t ∧ ∀ F, ROK X.K X.mg F W (relB X.K) t den
def JN (X : Cx) (W : WX) (e : Expr) (den : Rho → R (List D)) : Prop := ∃ t, PE X e t ∧ ∀ F, ROK X.K X.mg F W (relN X.K) t den
def JT (X : Cx) (W : WX) (e : Expr) (den : Rho → R Bool) : Prop := ∃ t, PT X e t ∧ ∀ F, ROK X.K X.mg F W relT t den
def JW (X : Cx) (W : WX) (e : Expr) (den : Rho → R Bool) : Prop := ∃ t, PW X e t ∧ ∀ F, ROK X.K X.mg F W relT t den

inductive Out where
  | next (ρ : Rho)
  | ret (d : D) (ρ : Rho)
  | retN (ds : List D) (ρ : Rho)
  | brk (ρ : Rho)
  | cont (ρ : Rho)
  | err (x : Ex) (ρ : Rho)
  | bad
def SPost (K : PySem.W.Frag) (mg : Str → Option Value) (F : Fx) (G : Hp) (W : WX) (D : Ends) : Out → Prop
  | .next ρ => ∀ G' H' σ', SI K F G' H' σ' ρ → Sub G G' → D.nx σ' H'
  | .ret d ρ => ∀ G' H' σ' v, SI K F G' H' σ' ρ → Sub G G' → Rp K G' v d → D.rt v H'
  | .retN ds ρ => ∀ G' H' σ' a vs, SI K F G' H' σ' ρ → Sub G G' → H' a = some (HO.lst vs) → G' a = none → F.H0 a = none → Rs K G' vs ds → D.rt (V.ref a) H'
  | .brk ρ => ∀ G' H' σ', SI K F G' H' σ' ρ → Sub G G' → D.bk σ' H'
  | .cont ρ => ∀ G' H' σ', SI K F G' H' σ' ρ → Sub G G' → D.ct σ' H'
  | .err x ρ => ∀ G' H' σ' cls dd, SI K F G' H' σ' ρ → Sub G G' → ExOk K mg G' H' x cls dd → W cls dd σ' H'
  | .bad => False
def SOK (K : PySem.W.Frag) (mg : Str → Option Value) (F : Fx) (W : WX) (t : TS) (den : Rho → Out) : Prop :=
  ∀ G H σ ρ D, SI K F G H σ ρ → SPost K mg F G W D (den ρ) → t D σ H
def JS (X : Cx) (W : WX) (st : Stmt) (den : Rho → Out) : Prop := ∃ t, PS X st t ∧ ∀ F, SOK X.K X.mg F W t den
def JSs (X : Cx) (W : WX) (st : List Stmt) (den : Rho → Out) : Prop := ∃ t, PSs X st t ∧ ∀ F, SOK X.K X.mg F W t den

/-- a result goes on as a statement's end -/
def R.out {α : Type} (r : R α) (f : α → Rho → Out) : Out :=
  match r with
  | .ok a ρ => f a ρ
  | .err x ρ => .err x ρ
  | .bad => .bad
section
variable {K : PySem.W.Frag} {mg : Str → Option Value} {F : Fx} {G G' H : Hp} {σ : L2.St} {W : WX} {α β : Type} {rel : Rel α β} {ρ : Rho} {D : Ends}
theorem SPost.mono {o : Out} (s : Sub G G') (p : SPost K mg F G W D o) : SPost K mg F G' W D o := by
  cases o with
  | next ρ => exact fun G2 H2 σ2 I s2 => p G2 H2 σ2 I (s.tr s2)
  | ret d ρ => exact fun G2 H2 σ2 v I s2 r => p G2 H2 σ2 v I (s.tr s2) r
  | retN ds ρ => exact fun G2 H2 σ2 a vs I s2 h1 h2 h3 h4 => p G2 H2 σ2 a vs I (s.tr s2) h1 h2 h3 h4
  | brk ρ => exact fun G2 H2 σ2 I s2 => p G2 H2 σ2 I (s.tr s2)
  | cont ρ => exact fun G2 H2 σ2 I s2 => p G2 H2 σ2 I (s.tr s2)
  | err x ρ => exact fun G2 H2 σ2 c d I s2 r => p G2 H2 σ2 c d I (s.tr s2) r
  | bad => exact p
theorem SPost.bind {r : R α} {f : α → Rho → Out} {Q1 : β → Hp → Prop} (p : SPost K mg F G W D (r.out f))
    (k : ∀ a ρ1 G1 H1 b, SI K F G1 H1 σ ρ1 → Sub G G1 → rel F σ G1 H1 ρ1 b a → SPost K mg F G1 W D (f a ρ1) → Q1 b H1) : Post K mg F G σ W rel Q1 r := by
  cases r with
  | ok a ρ => exact fun G2 H2 b I s2 r2 => k a ρ G2 H2 b I s2 r2 (SPost.mono s2 p)
  | err x ρ => exact fun G2 H2 c d I s2 r2 => p G2 H2 σ c d I s2 r2
  | bad => exact p
end

/-! ### names, constants -/
def dImm (i : Nat) (ρ : Rho) : R D :=
  match ρ[i]? with
  | some (.imm d) => .ok d ρ
  | _ => .bad
/-- a slot's own list as it stands -/
def dOwn (i : Nat) (ρ : Rho) : R D :=
  match ρ.lst? i with
  | some ds => .ok (.list ds) ρ
  | none => .bad
/-- .. from now on never changed -/
def dFrz (i : Nat) (ρ : Rho) : R D :=
  match ρ[i]? with
  | some (.own ds) => .ok (.list ds) (ρ.set i (.imm (.list ds)))
  | some (.imm d) => .ok d ρ
  | _ => .bad
def dC (d : D) (ρ : Rho) : R D := .ok d ρ

section
variable {X : Cx} {W : WX} {e : Expr} {den : Rho → R D} {pos : Pos}
theorem je_var (i : Nat) {x : Str} (hN : X.N[i]? = some x := by rfl) (hv : Vis X.env.scope x := by first | exact Or.inl rfl | exact Or.inr (Or.inl rfl) | exact Or.inr (Or.inr rfl)) (hd : (x == ("__debug__" : Str)) = false := by decide)
    (hcd : (x == ("__classdict__" : Str)) = false := by decide) : JE X W (.Name x pos) (dImm i) := by
  refine ⟨_, pe_var (i := i) hN hv hd hcd, fun F G H σ ρ Q I p => ?_⟩
  unfold dImm at p
  split at p
  · rename_i d e
    obtain ⟨v, h1, h2⟩ := I.sl i _ e
    exact ⟨v, h1, p G H v I (Sub.rfl' G) h2⟩
  · exact p.elim
theorem jb_own (i : Nat) {x : Str} (hN : X.N[i]? = some x := by rfl) (hv : Vis X.env.scope x := by first | exact Or.inl rfl | exact Or.inr (Or.inl rfl) | exact Or.inr (Or.inr rfl)) (hd : (x == ("__debug__" : Str)) = false := by decide)
    (hcd : (x == ("__classdict__" : Str)) = false := by decide) : JB X W (.Name x pos) (dOwn i) := by
  refine ⟨_, pe_var (i := i) hN hv hd hcd, fun F G H σ ρ Q I p => ?_⟩
  unfold dOwn at p
  split at p
  · rename_i ds e
    obtain ⟨a, h1, ⟨vs, h2, h3⟩, _⟩ := I.at_ e
    exact ⟨_, h1, p G H _ I (Sub.rfl' G) (.inr ⟨a, vs, ds, rfl, rfl, h2, h3⟩)⟩
  · exact p.elim
theorem je_frz (i : Nat) {x : Str} (hN : X.N[i]? = some x := by rfl) (hv : Vis X.env.scope x := by first | exact Or.inl rfl | exact Or.inr (Or.inl rfl) | exact Or.inr (Or.inr rfl)) (hd : (x == ("__debug__" : Str)) = false := by decide)
    (hcd : (x == ("__classdict__" : Str)) = false := by decide) : JE X W (.Name x pos) (dFrz i) := by
  refine ⟨_, pe_var (i := i) hN hv hd hcd, fun F G H σ ρ Q I p => ?_⟩
  unfold dFrz at p
  split at p
  · rename_i ds e
    obtain ⟨a, vs, h1, h2, h3, h4, h5⟩ := I.sl i _ e
    have n : NewL X.K F G H (σ.set i none) (ρ.set i .undef) a ds := ⟨⟨vs, h2, h4⟩, h3, h5, fun j es ej z => by
      by_cases hj : j = i
      · subst hj
        rw [List.getElem?_set_self (List.getElem?_eq_some_iff.mp e).1] at ej
        cases ej
      · rw [List.getElem?_set_ne (Ne.symm hj)] at ej z
        exact hj (I.dj j i a _ _ ej e z h1)⟩
    have I0 : SI X.K F G H (σ.set i none) (ρ.set i .undef) := by
      refine ⟨I.gH, I.gt, I.g0, I.gn, I.h0, I.hn, I.w1, I.w2, I.w3, I.tb, by simp [I.len], fun j s ej => ?_, fun j k b ds1 ds2 e1 e2 s1 s2 => ?_, I.ht, I.w4⟩
      · by_cases hj : j = i
        · subst hj
          rw [List.getElem?_set_self (List.getElem?_eq_some_iff.mp e).1] at ej
          cases ej
          trivial
        · rw [List.getElem?_set_ne (Ne.symm hj)] at ej ⊢
          exact I.sl j s ej
      · have nj : ∀ (k : Nat) (ds' : List D), (ρ.set i Slot.undef)[k]? = some (Slot.own ds') → k ≠ i := fun k ds' ek z => by
          subst z
          rw [List.getElem?_set_self (List.getElem?_eq_some_iff.mp e).1] at ek
          cases ek
        have n1 := nj j _ e1
        have n2 := nj k _ e2
        rw [List.getElem?_set_ne (Ne.symm n1)] at e1 s1
        rw [List.getElem?_set_ne (Ne.symm n2)] at e2 s2
        exact I.dj j k b _ _ e1 e2 s1 s2
    obtain ⟨G', I1, s1, r1⟩ := I0.freeze n
    have I2 := I1.setImm (i := i) r1
    have e2 : (σ.set i none).set i (some (V.ref a)) = σ := by
      rw [List.set_set]
      refine List.ext_getElem? fun j => ?_
      by_cases hj : i = j
      · subst hj
        have hl : i < σ.length := (List.getElem?_eq_some_iff.mp h1).1
        rw [List.getElem?_set_self hl, h1]
      · rw [List.getElem?_set_ne hj]
    rw [e2, List.set_set] at I2
    exact ⟨_, h1, p G' H _ I2 s1 r1⟩
  · rename_i d e
    obtain ⟨v, h1, h2⟩ := I.sl i _ e
    exact ⟨v, h1, p G H v I (Sub.rfl' G) h2⟩
  · exact p.elim
theorem je_c {v : V} {d : D} (h : PE X e (tC v)) (r : ∀ G, Rp X.K G v d) : JE X W e (dC d) := ⟨_, h, fun _ G H _ _ _ I p => p G H v I (Sub.rfl' G) (r G)⟩
theorem je_int {i : Int} {j : Nat} : JE X W (.Constant (.int i) j pos) (dC (.int i)) := je_c pe_int fun _ => .i i
theorem je_str {i : Str} {j : Nat} : JE X W (.Constant (.str i) j pos) (dC (.str i)) := je_c pe_str fun _ => .s i
theorem je_bl {i : Bool} {j : Nat} : JE X W (.Constant (.bool i) j pos) (dC (.bool i)) := je_c pe_bl fun _ => .b i
theorem je_non {j : Nat} : JE X W (.Constant .none j pos) (dC .none) := je_c pe_non fun _ => .n
/-- a constant of the module -/
theorem je_gint {x : Str} {i : Int} (hg : Gl X x) (h : ∃ t, X.mg x = some (.int i t)) (hd : (x == ("__debug__" : Str)) = false := by decide) : JE X W (.Name x pos) (dC (.int i)) :=
  let ⟨t, e⟩ := h
  je_c (pe_glob (v := .int i) hg e ⟨t, rfl⟩ hd) fun _ => .i i
theorem je_gstr {x : Str} {i : Str} (hg : Gl X x) (h : ∃ t, X.mg x = some (.str i t)) (hd : (x == ("__debug__" : Str)) = false := by decide) : JE X W (.Name x pos) (dC (.str i)) :=
  let ⟨t, e⟩ := h
  je_c (pe_glob (v := .str i) hg e ⟨t, rfl⟩ hd) fun _ => .s i
theorem je_gnon {x : Str} (hg : Gl X x) (h : X.mg x = some .none) (hd : (x == ("__debug__" : Str)) = false := by decide) : JE X W (.Name x pos) (dC .none) :=
  je_c (pe_glob (v := .non) hg h rfl hd) fun _ => .n
/-! ### from one judgement to another -/
theorem jb_je (h : JE X W e den) : JB X W e den :=
  let ⟨t, ht, k⟩ := h
  ⟨t, ht, fun F G H σ ρ Q I p => k F G H σ ρ Q I (by
    cases q : den ρ with
    | ok d ρ' => rw [q] at p; exact fun G' H' v I' s r => p G' H' v I' s (.inl r)
    | err x ρ' => rw [q] at p; exact p
    | bad => rw [q] at p; exact p)⟩
def dLst (den : Rho → R (List D)) (ρ : Rho) : R D := (den ρ).bind fun ds ρ' => .ok (.list ds) ρ'
theorem je_new {den : Rho → R (List D)} (h : JN X W e den) : JE X W e (dLst den) :=
  let ⟨t, ht, k⟩ := h
  ⟨t, ht, fun F G H σ ρ Q I p => k F G H σ ρ Q I (p.bind fun ds ρ1 G1 H1 v I1 s1 ⟨a, e, n⟩ p1 => by
    subst e
    obtain ⟨G2, I2, s2, r2⟩ := I1.freeze n
    exact p1 G2 H1 _ I2 s2 r2)⟩
theorem je_to {den' : Rho → R D} (h : JE X W e den) (q : den = den') : JE X W e den' := q ▸ h
end

/-! ### blocks -/
def dSeq (a b : Rho → Out) (ρ : Rho) : Out :=
  match a ρ with
  | .next ρ' => b ρ'
  | o => o
def dNext (ρ : Rho) : Out := .next ρ
def dIf (c : Rho → R Bool) (a b : Rho → Out) (ρ : Rho) : Out := (c ρ).out fun k ρ' => if k = true then a ρ' else b ρ'
def dSet (i : Nat) (e : Rho → R D) (ρ : Rho) : Out := (e ρ).out fun d ρ' =>
  match ρ'[i]? with
  | some (.io _) => .bad
  | _ => .next (ρ'.set i (.imm d))
def dSetN (i : Nat) (e : Rho → R (List D)) (ρ : Rho) : Out := (e ρ).out fun d ρ' =>
  match ρ'[i]? with
  | some (.io _) => .bad
  | _ => .next (ρ'.set i (.own d))
def dRet (e : Rho → R D) (ρ : Rho) : Out := (e ρ).out fun d ρ' => .ret d ρ'
def dRetN (e : Rho → R (List D)) (ρ : Rho) : Out := (e ρ).out fun d ρ' => .retN d ρ'
/-- return x, x a slot's own list -/
def dRetOwn (i : Nat) (ρ : Rho) : Out :=
  match ρ[i]? with
  | some (.own ds) => .retN ds ρ
  | _ => .bad
def dDrop (e : Rho → R D) (ρ : Rho) : Out := (e ρ).out fun _ ρ' => .next ρ'
def dNever (_ : Rho) : Out := .bad
def dBrk (ρ : Rho) : Out := .brk ρ
def dCont (ρ : Rho) : Out := .cont ρ
section
variable {X : Cx} {W : WX} {e c : Expr} {den : Rho → R D} {pos : Pos} {st : Stmt} {rest a b : List Stmt} {d1 d2 : Rho → Out} {dc : Rho → R Bool}
theorem jss_nil : JSs X W [] dNext := ⟨_, pss_nil, fun _ G H σ _ _ I p => p G H σ I (Sub.rfl' G)⟩
theorem jss_one (h : JS X W st d1) : JSs X W [st] d1 :=
  let ⟨t, ht, k⟩ := h
  ⟨t, pss_one ht, k⟩
theorem jss_cons (h : JS X W st d1) (h2 : JSs X W rest d2) : JSs X W (st :: rest) (dSeq d1 d2) := by
  obtain ⟨t, ht, k⟩ := h
  obtain ⟨u, hu, k2⟩ := h2
  refine ⟨_, pss_cons ht hu, fun F G H σ ρ D I p => k F G H σ ρ _ I ?_⟩
  unfold dSeq at p
  cases q : d1 ρ with
  | next ρ' => rw [q] at p; exact fun G' H' σ' I' s => k2 F G' H' σ' ρ' D I' (SPost.mono s p)
  | ret d ρ' => rw [q] at p; exact p
  | retN d ρ' => rw [q] at p; exact p
  | brk ρ' => rw [q] at p; exact p
  | cont ρ' => rw [q] at p; exact p
  | err x ρ' => rw [q] at p; exact p
  | bad => rw [q] at p; exact p
theorem js_if (hc : JT X W c dc) (ha : JSs X W a d1) (hb : JSs X W b d2) : JS X W (.If c a b pos) (dIf dc d1 d2) := by
  obtain ⟨tc, hc, kc⟩ := hc
  obtain ⟨ta, ha, ka⟩ := ha
  obtain ⟨tb, hb, kb⟩ := hb
  refine ⟨_, ps_if hc ha hb, fun F G H σ ρ D I p => kc F G H σ ρ _ I (SPost.bind (rel := relT) p fun k ρ1 G1 H1 k' I1 s1 r1 p1 => ?_)⟩
  have r1 : k' = k := r1
  subst r1
  cases k' with
  | true => rw [if_pos rfl] at p1 ⊢; exact ka F G1 H1 σ ρ1 D I1 p1
  | false => rw [if_neg Bool.false_ne_true] at p1 ⊢; exact kb F G1 H1 σ ρ1 D I1 p1
theorem js_set (i : Nat) {x : Str} {pos' : Pos} (hN : X.N.Nodup) (he : JE X W e den) (hi : X.N[i]? = some x := by rfl) (hx : Loc X.env.scope x := by first | exact Or.inl rfl | exact Or.inr rfl) (hs : swapsWith e (some (.Name x pos')) pos.line X.env = pure false := by rfl)
    (hf : X.fn x = true ∨ X.env.scope.names.lookup x = some .local := by first | exact .inl rfl | exact .inr rfl | assumption) : JS X W (.Assign [.Name x pos'] e pos) (dSet i den) := by
  obtain ⟨t, ht, k⟩ := he
  refine ⟨_, ps_set (i := i) hN hi hx ht hs hf, fun F G H σ ρ D I p => k F G H σ ρ _ I (SPost.bind (rel := relE X.K) p fun d ρ1 G1 H1 v I1 s1 r1 p1 => ?_)⟩
  split at p1
  · exact p1.elim
  · exact p1 G1 H1 _ (I1.setImm r1) (Sub.rfl' _)
theorem js_setN (i : Nat) {x : Str} {pos' : Pos} {den : Rho → R (List D)} (hN : X.N.Nodup) (he : JN X W e den) (hi : X.N[i]? = some x := by rfl) (hx : Loc X.env.scope x := by first | exact Or.inl rfl | exact Or.inr rfl) (hs : swapsWith e (some (.Name x pos')) pos.line X.env = pure false := by rfl)
    (hf : X.fn x = true ∨ X.env.scope.names.lookup x = some .local := by first | exact .inl rfl | exact .inr rfl | assumption) : JS X W (.Assign [.Name x pos'] e pos) (dSetN i den) := by
  obtain ⟨t, ht, k⟩ := he
  refine ⟨_, ps_set (i := i) hN hi hx ht hs hf, fun F G H σ ρ D I p => k F G H σ ρ _ I (SPost.bind (rel := relN X.K) p fun d ρ1 G1 H1 v I1 s1 r1 p1 => ?_)⟩
  obtain ⟨a, e, n⟩ := r1
  subst e
  split at p1
  · exact p1.elim
  · exact p1 G1 H1 _ (I1.setOwn n) (Sub.rfl' _)
theorem js_ret (he : JE X W e den) : JS X W (.Return (some e) pos) (dRet den) := by
  obtain ⟨t, ht, k⟩ := he
  exact ⟨_, ps_ret ht, fun F G H σ ρ D I p => k F G H σ ρ _ I (SPost.bind (rel := relE X.K) p fun d ρ1 G1 H1 v I1 s1 r1 p1 => p1 G1 H1 σ v I1 (Sub.rfl' _) r1)⟩
theorem js_retN {den : Rho → R (List D)} (he : JN X W e den) : JS X W (.Return (some e) pos) (dRetN den) := by
  obtain ⟨t, ht, k⟩ := he
  refine ⟨_, ps_ret ht, fun F G H σ ρ D I p => k F G H σ ρ _ I (SPost.bind (rel := relN X.K) p fun d ρ1 G1 H1 v I1 s1 r1 p1 => ?_)⟩
  obtain ⟨a, e, ⟨⟨vs, h1, h2⟩, h3, h4, _⟩⟩ := r1
  subst e
  exact p1 G1 H1 σ a vs I1 (Sub.rfl' _) h1 h3 h4 h2
theorem js_retOwn (i : Nat) {x : Str} {pos' : Pos} (hN : X.N[i]? = some x := by rfl) (hv : Vis X.env.scope x := by first | exact Or.inl rfl | exact Or.inr (Or.inl rfl) | exact Or.inr (Or.inr rfl)) (hd : (x == ("__debug__" : Str)) = false := by decide)
    (hcd : (x == ("__classdict__" : Str)) = false := by decide) : JS X W (.Return (some (.Name x pos')) pos) (dRetOwn i) := by
  refine ⟨_, ps_ret (pe_var (i := i) hN hv hd hcd), fun F G H σ ρ D I p => ?_⟩
  unfold dRetOwn at p
  split at p
  · rename_i ds e
    obtain ⟨a, vs, h1, h2, h3, h4, h5⟩ := I.sl i _ e
    exact ⟨_, h1, p G H σ a vs I (Sub.rfl' _) h2 h3 h5 h4⟩
  · exact p.elim
theorem js_retNone : JS X W (.Return none pos) (dRet (dC .none)) := ⟨_, ps_retN, fun F G H σ ρ D I p => p G H σ _ I (Sub.rfl' _) .n⟩
theorem js_expr (he : JE X W e den) (hs : swapsWith e none pos.line X.env = pure false := by rfl) : JS X W (.Expr e pos) (dDrop den) := by
  obtain ⟨t, ht, k⟩ := he
  exact ⟨_, ps_expr ht hs, fun F G H σ ρ D I p => k F G H σ ρ _ I (SPost.bind (rel := relE X.K) p fun d ρ1 G1 H1 v I1 s1 r1 p1 => p1 G1 H1 σ I1 (Sub.rfl' _))⟩
theorem js_doc {x : Str} {j : Nat} {pos' : Pos} : JS X W (.Expr (.Constant (.str x) j pos) pos') dNext := ⟨_, ps_doc, fun _ G H σ _ _ I p => p G H σ I (Sub.rfl' G)⟩
theorem js_pass : JS X W (.Pass pos) dNext := ⟨_, ps_pass, fun _ G H σ _ _ I p => p G H σ I (Sub.rfl' G)⟩
theorem js_brk : JS X W (.Break pos) dBrk := ⟨_, ps_break, fun _ G H σ _ _ I p => p G H σ I (Sub.rfl' G)⟩
theorem js_cont : JS X W (.Continue pos) dCont := ⟨_, ps_continue, fun _ G H σ _ _ I p => p G H σ I (Sub.rfl' G)⟩
theorem js_never : JS X W st dNever := ⟨_, ps_never, fun _ _ _ _ _ _ _ p => p.elim⟩
theorem jss_never : JSs X W rest dNever := ⟨_, pss_never, fun _ _ _ _ _ _ _ p => p.elim⟩
end
end Pf

/-! Pf3: operators, tests, displays, subscripts. -/
namespace Pf
open PySem PySem.Spec PyProof.Rows L2

/-! ### operators by data -/
/-- what a reading asks, where the result is a datum known for good -/
def Gives (K : PySem.W.Frag) (F : Fx) (G H : Hp) (σ : L2.St) (ρ : Rho) (o : Option D) (Q : VK) : Prop :=
  ∃ d, o = some d ∧ ∀ G' H' v, SI K F G' H' σ ρ → Sub G G' → Rp K G' v d → Q v H'
def OpOK (K : PySem.W.Frag) (r : R2) (f : D → D → Option D) : Prop :=
  ∀ F G H σ ρ x y d1 d2 (Q : VK), SI K F G H σ ρ → Bw K G H x d1 → Bw K G H y d2 → Gives K F G H σ ρ (f d1 d2) Q → r x y H Q
def JOp (X : Cx) (fn : Value → Value → Sem Value) (f : D → D → Option D) : Prop := ∃ r, OpR X fn r ∧ OpOK X.K r f

section
variable {K : PySem.W.Frag} {mg : Str → Option Value} {F : Fx} {G G' H : Hp} {σ : L2.St} {W : WX} {ρ : Rho}
theorem Gives.here {d : D} {v : V} {o : Option D} {Q : VK} (g : Gives K F G H σ ρ o Q) (I : SI K F G H σ ρ) (e : o = some d) (r : Rp K G v d) : Q v H := by
  obtain ⟨d', e', k⟩ := g
  rw [e] at e'
  cases e'
  exact k G H v I (Sub.rfl' G) r
theorem Gives.tup {ds : List D} {vs : List V} {o : Option D} {Q : VK} {p : Addr} (g : Gives K F G H σ ρ o Q) (I : SI K F G H σ ρ) (e : o = some (PyData.tuple ds)) (r : Rs K G vs ds) (hp : H p = none) : Q (V.ref p) (upd H p (HO.tup vs)) := by
  obtain ⟨d', e', k⟩ := g
  rw [e] at e'
  cases e'
  have gp : G p = none := by
    cases q : G p with
    | none => rfl
    | some u => rw [I.gH p u q] at hp; cases hp
  exact k _ _ _ (I.alloc hp fun _ z => by cases z) (Sub.new gp) (.t (.inl (.inl upd_same)) (r.mono (Sub.new gp) _ _))
theorem Gives.lst {ds : List D} {vs : List V} {o : Option D} {Q : VK} {p : Addr} (g : Gives K F G H σ ρ o Q) (I : SI K F G H σ ρ) (e : o = some (PyData.list ds)) (r : Rs K G vs ds) (hp : H p = none) : Q (V.ref p) (upd H p (HO.lst vs)) := by
  obtain ⟨d', e', k⟩ := g
  rw [e] at e'
  cases e'
  have gp : G p = none := by
    cases q : G p with
    | none => rfl
    | some u => rw [I.gH p u q] at hp; cases hp
  exact k _ _ _ (I.alloc hp fun _ z => by cases z) (Sub.new gp) (.l upd_same (r.mono (Sub.new gp) _ _))
theorem Post.gives {Q : VK} {o : Option D} (p : Post K mg F G σ W (relE K) Q (Pf.lift o ρ)) : Gives K F G H σ ρ o Q := by
  obtain ⟨d, e, k⟩ := p.lift
  exact ⟨d, e, k⟩
end

def dOp (f : D → D → Option D) (a b : Rho → R D) (ρ : Rho) : R D := (a ρ).bind fun x ρ1 => (b ρ1).bind fun y ρ2 => lift (f x y) ρ2
/-- the left side a slot's own list: read behind the right side -/
def dOpO (f : D → D → Option D) (i : Nat) (b : Rho → R D) (ρ : Rho) : R D :=
  match ρ.lst? i with
  | none => .bad
  | some _ => (b ρ).bind fun y ρ2 =>
    match ρ2.lst? i with
    | some ds => lift (f (.list ds) y) ρ2
    | none => .bad
def dBool (a : Rho → R D) (ρ : Rho) : R Bool := (a ρ).bind fun d ρ' =>
  match d with
  | .bool b => .ok b ρ'
  | _ => .bad
section
variable {X : Cx} {W : WX} {a b c e : Expr} {da db dc : Rho → R D} {pos p2 : Pos} {f f' : D → D → Option D}
theorem rok_op {r : R2} {ta tb : TE} (ho : OpOK X.K r f) (ka : ∀ F, ROK X.K X.mg F W (relE X.K) ta da) (kb : ∀ F, ROK X.K X.mg F W (relB X.K) tb db) (F : Fx) : ROK X.K X.mg F W (relE X.K) (tOp r ta tb) (dOp f da db) := by
  intro G H σ ρ Q I p
  refine ka F G H σ ρ _ I (p.bind fun x ρ1 G1 H1 v I1 s1 r1 p1 => ?_)
  refine kb F G1 H1 σ ρ1 _ I1 (p1.bind fun y ρ2 G2 H2 u I2 s2 r2 p2 => ?_)
  exact ho F G2 H2 σ ρ2 _ _ _ _ Q I2 (.inl (r1.mono s2 _ _)) r2 p2.gives
theorem rok_opO {r : R2} {tb : TE} {i : Nat} (ho : OpOK X.K r f) (kb : ∀ F, ROK X.K X.mg F W (relB X.K) tb db) (F : Fx) : ROK X.K X.mg F W (relE X.K) (tOp r (tVar i) tb) (dOpO f i db) := by
  intro G H σ ρ Q I p
  unfold dOpO at p
  split at p
  · exact p.elim
  · rename_i ds e
    obtain ⟨a, h1, _⟩ := I.at_ e
    refine ⟨V.ref a, h1, kb F G H σ ρ _ I (p.bind fun y ρ2 G2 H2 u I2 s2 r2 p2 => ?_)⟩
    split at p2
    · rename_i es e2
      obtain ⟨a2, h2, ⟨vs, h3, h4⟩, _⟩ := I2.at_ e2
      have ea : a2 = a := by rw [h1] at h2; cases h2; rfl
      subst ea
      exact ho F G2 H2 σ ρ2 _ _ _ _ Q I2 (.inr ⟨_, vs, es, rfl, rfl, h3, h4⟩) r2 p2.gives
    · exact p2.elim
theorem je_bin {op : Operator} (o : JOp X (binaryOp op) f) (ha : JE X W a da) (hb : JB X W b db) : JE X W (.BinOp a op b pos) (dOp f da db) := by
  obtain ⟨r, h1, h2⟩ := o
  obtain ⟨ta, ha, ka⟩ := ha
  obtain ⟨tb, hb, kb⟩ := hb
  exact ⟨_, pe_op h1 ha hb, rok_op h2 ka kb⟩
theorem je_binO (i : Nat) {x : Str} {op : Operator} (o : JOp X (binaryOp op) f) (hb : JB X W b db) (hN : X.N[i]? = some x := by rfl) (hv : Vis X.env.scope x := by first | exact Or.inl rfl | exact Or.inr (Or.inl rfl) | exact Or.inr (Or.inr rfl)) (hd : (x == ("__debug__" : Str)) = false := by decide)
    (hcd : (x == ("__classdict__" : Str)) = false := by decide) : JE X W (.BinOp (.Name x p2) op b pos) (dOpO f i db) := by
  obtain ⟨r, h1, h2⟩ := o
  obtain ⟨tb, hb, kb⟩ := hb
  exact ⟨_, pe_op h1 (pe_var (i := i) hN hv hd hcd) hb, rok_opO h2 kb⟩
theorem je_cmp {op : CmpOp} (o : JOp X (compareOp op) f) (ha : JE X W a da) (hb : JB X W b db) (hm : behindInMarks op b = false := by first | exact nobehind _ (by decide) (by decide) | rfl) : JE X W (.Compare a [op] [b] pos) (dOp f da db) := by
  obtain ⟨r, h1, h2⟩ := o
  obtain ⟨ta, ha, ka⟩ := ha
  obtain ⟨tb, hb, kb⟩ := hb
  exact ⟨_, pe_cmpR h1 ha hb hm, rok_op h2 ka kb⟩
theorem je_cmpO (i : Nat) {x : Str} {op : CmpOp} (o : JOp X (compareOp op) f) (hb : JB X W b db) (hm : behindInMarks op b = false := by first | exact nobehind _ (by decide) (by decide) | rfl) (hN : X.N[i]? = some x := by rfl) (hv : Vis X.env.scope x := by first | exact Or.inl rfl | exact Or.inr (Or.inl rfl) | exact Or.inr (Or.inr rfl))
    (hd : (x == ("__debug__" : Str)) = false := by decide) (hcd : (x == ("__classdict__" : Str)) = false := by decide) : JE X W (.Compare (.Name x p2) [op] [b] pos) (dOpO f i db) := by
  obtain ⟨r, h1, h2⟩ := o
  obtain ⟨tb, hb, kb⟩ := hb
  exact ⟨_, pe_cmpR h1 (pe_var (i := i) hN hv hd hcd) hb hm, rok_opO h2 kb⟩
theorem rok_B {t : TE} {F : Fx} (k : ROK X.K X.mg F W (relE X.K) t da) : ROK X.K X.mg F W relT (tB t) (dBool da) := by
  intro G H σ ρ Q I p
  refine k G H σ ρ _ I (p.bind fun d ρ1 G1 H1 v I1 s1 r1 p1 => ?_)
  have r1 : Rp X.K G1 v d := r1
  cases d with
  | bool b => cases r1; exact ⟨b, rfl, p1 G1 H1 b I1 (Sub.rfl' _) rfl⟩
  | _ => exact p1.elim
theorem jt_cmp {op : CmpOp} (o : JOp X (compareOp op) f) (ha : JE X W a da) (hb : JB X W b db) (hm : behindInMarks op b = false := by first | exact nobehind _ (by decide) (by decide) | rfl) : JT X W (.Compare a [op] [b] pos) (dBool (dOp f da db)) := by
  obtain ⟨r, h1, h2⟩ := o
  obtain ⟨ta, ha, ka⟩ := ha
  obtain ⟨tb, hb, kb⟩ := hb
  exact ⟨_, pt_cmpR h1 ha hb hm, fun F => rok_B (rok_op h2 ka kb F)⟩
theorem jt_cmpO (i : Nat) {x : Str} {op : CmpOp} (o : JOp X (compareOp op) f) (hb : JB X W b db) (hm : behindInMarks op b = false := by first | exact nobehind _ (by decide) (by decide) | rfl) (hN : X.N[i]? = some x := by rfl) (hv : Vis X.env.scope x := by first | exact Or.inl rfl | exact Or.inr (Or.inl rfl) | exact Or.inr (Or.inr rfl))
    (hd : (x == ("__debug__" : Str)) = false := by decide) (hcd : (x == ("__classdict__" : Str)) = false := by decide) : JT X W (.Compare (.Name x p2) [op] [b] pos) (dBool (dOpO f i db)) := by
  obtain ⟨r, h1, h2⟩ := o
  obtain ⟨tb, hb, kb⟩ := hb
  exact ⟨_, pt_cmpR h1 (pe_var (i := i) hN hv hd hcd) hb hm, fun F => rok_B (rok_opO h2 kb F)⟩
/-- an expression whose value is a bool, as a test -/
theorem jt_val (he : JE X W e da) (h : ∀ whole, isTrue e X.env whole = (do let v ← whole; standAt e.pos; holding [v] (truthy v)) := by intro _; rfl) : JT X W e (dBool da) := by
  obtain ⟨t, ht, k⟩ := he
  exact ⟨_, pt_val ht h, fun F => rok_B (k F)⟩
/-- a < b < c -/
def dChain (f f' : D → D → Option D) (a b c : Rho → R D) (ρ : Rho) : R D := (a ρ).bind fun x ρ1 => (b ρ1).bind fun y ρ2 =>
  match f x y with
  | some (.bool true) => (c ρ2).bind fun z ρ3 => lift (f' y z) ρ3
  | some (.bool false) => .ok (.bool false) ρ2
  | _ => .bad
theorem rok_chain {r r' : R2} {ta tb tc : TE} (h : OpOK X.K r f) (h' : OpOK X.K r' f') (ka : ∀ F, ROK X.K X.mg F W (relE X.K) ta da) (kb : ∀ F, ROK X.K X.mg F W (relE X.K) tb db) (kc : ∀ F, ROK X.K X.mg F W (relB X.K) tc dc) (F : Fx) :
    ROK X.K X.mg F W (relE X.K) (tChain r r' ta tb tc) (dChain f f' da db dc) := by
  intro G H σ ρ Q I p
  refine ka F G H σ ρ _ I (p.bind fun x ρ1 G1 H1 v I1 s1 r1 p1 => ?_)
  refine kb F G1 H1 σ ρ1 _ I1 (p1.bind fun y ρ2 G2 H2 u I2 s2 r2 p2 => ?_)
  split at p2
  · rename_i e
    refine h F G2 H2 σ ρ2 _ _ _ _ _ I2 (.inl (r1.mono s2 _ _)) (.inl r2) ⟨_, e, fun G3 H3 z I3 s3 r3 => ?_⟩
    cases r3
    refine ⟨true, rfl, ?_⟩
    rw [if_pos rfl]
    refine kc F G3 H3 σ ρ2 _ I3 ((p2.mono s3).bind fun w ρ3 G4 H4 q I4 s4 r4 p4 => ?_)
    exact h' F G4 H4 σ ρ3 _ _ _ _ Q I4 (.inl (r2.mono (s3.tr s4) _ _)) r4 p4.gives
  · rename_i e
    refine h F G2 H2 σ ρ2 _ _ _ _ _ I2 (.inl (r1.mono s2 _ _)) (.inl r2) ⟨_, e, fun G3 H3 z I3 s3 r3 => ?_⟩
    cases r3
    refine ⟨false, rfl, ?_⟩
    rw [if_neg Bool.false_ne_true]
    exact p2 G3 H3 _ I3 s3 (.b false)
  · exact p2.elim
theorem je_chain {op op' : CmpOp} (o : JOp X (compareOp op) f) (o' : JOp X (compareOp op') f') (ha : JE X W a da) (hb : JE X W b db) (hc : JB X W c dc) (hm : lastMarks [op, op'] [b, c] = false := by with_unfolding_all rfl) :
    JE X W (.Compare a [op, op'] [b, c] pos) (dChain f f' da db dc) := by
  obtain ⟨r, h1, h2⟩ := o
  obtain ⟨r', h1', h2'⟩ := o'
  obtain ⟨ta, ha, ka⟩ := ha
  obtain ⟨tb, hb, kb⟩ := hb
  obtain ⟨tc, hc, kc⟩ := hc
  exact ⟨_, pe_chain h1 h1' ha hb hc hm, rok_chain h2 h2' ka kb kc⟩
theorem jt_chain {op op' : CmpOp} (o : JOp X (compareOp op) f) (o' : JOp X (compareOp op') f') (ha : JE X W a da) (hb : JE X W b db) (hc : JB X W c dc) (hm : lastMarks [op, op'] [b, c] = false := by with_unfolding_all rfl) :
    JT X W (.Compare a [op, op'] [b, c] pos) (dBool (dChain f f' da db dc)) := by
  obtain ⟨r, h1, h2⟩ := o
  obtain ⟨r', h1', h2'⟩ := o'
  obtain ⟨ta, ha, ka⟩ := ha
  obtain ⟨tb, hb, kb⟩ := hb
  obtain ⟨tc, hc, kc⟩ := hc
  exact ⟨_, pt_chain h1 h1' ha hb hc hm, fun F => rok_B (rok_chain h2 h2' ka kb kc F)⟩
end

/-! ### and, or, not, if-else -/
def dAnd (a b : Rho → R Bool) (ρ : Rho) : R Bool := (a ρ).bind fun k ρ' => if k = true then b ρ' else .ok false ρ'
def dOr (a b : Rho → R Bool) (ρ : Rho) : R Bool := (a ρ).bind fun k ρ' => if k = true then .ok true ρ' else b ρ'
def dNot (a : Rho → R Bool) (ρ : Rho) : R Bool := (a ρ).bind fun k ρ' => .ok (!k) ρ'
def dAndV (a b : Rho → R D) (ρ : Rho) : R D := (dBool a ρ).bind fun k ρ' => if k = true then b ρ' else .ok (.bool false) ρ'
def dOrV (a b : Rho → R D) (ρ : Rho) : R D := (dBool a ρ).bind fun k ρ' => if k = true then .ok (.bool true) ρ' else b ρ'
def dNotV (a : Rho → R D) (ρ : Rho) : R D := (dBool a ρ).bind fun k ρ' => .ok (.bool (!k)) ρ'
def dIfE {α : Type} (c : Rho → R Bool) (a b : Rho → R α) (ρ : Rho) : R α := (c ρ).bind fun k ρ' => if k = true then a ρ' else b ρ'
section
variable {X : Cx} {W : WX} {a b c e : Expr} {rest : List Expr} {da db : Rho → R D} {ea eb ec : Rho → R Bool} {pos : Pos}
theorem jt_jw (h : JW X W e ea) : JT X W e ea := let ⟨t, ht, k⟩ := h; ⟨t, ht.pt, k⟩
theorem jw_and1 (h : JT X W a ea) : JW X W (.BoolOp .And [a] pos) ea := let ⟨t, ht, k⟩ := h; ⟨t, pw_and1 ht, k⟩
theorem jw_or1 (h : JT X W a ea) : JW X W (.BoolOp .Or [a] pos) ea := let ⟨t, ht, k⟩ := h; ⟨t, pw_or1 ht, k⟩
theorem jw_and (ha : JT X W a ea) (hb : JW X W (.BoolOp .And (b :: rest) pos) eb) : JW X W (.BoolOp .And (a :: b :: rest) pos) (dAnd ea eb) := by
  obtain ⟨ta, ha, ka⟩ := ha
  obtain ⟨tb, hb, kb⟩ := hb
  refine ⟨_, pw_and ha hb, fun F G H σ ρ Q I p => ka F G H σ ρ _ I (p.bind fun k ρ1 G1 H1 k' I1 s1 r1 p1 => ?_)⟩
  obtain rfl : k' = k := r1
  cases k' with
  | true => rw [if_pos rfl] at p1 ⊢; exact kb F G1 H1 σ ρ1 Q I1 p1
  | false => rw [if_neg Bool.false_ne_true] at p1 ⊢; exact p1 G1 H1 _ I1 (Sub.rfl' _) rfl
theorem jw_or (ha : JT X W a ea) (hb : JW X W (.BoolOp .Or (b :: rest) pos) eb) : JW X W (.BoolOp .Or (a :: b :: rest) pos) (dOr ea eb) := by
  obtain ⟨ta, ha, ka⟩ := ha
  obtain ⟨tb, hb, kb⟩ := hb
  refine ⟨_, pw_or ha hb, fun F G H σ ρ Q I p => ka F G H σ ρ _ I (p.bind fun k ρ1 G1 H1 k' I1 s1 r1 p1 => ?_)⟩
  obtain rfl : k' = k := r1
  cases k' with
  | false => rw [if_neg Bool.false_ne_true] at p1 ⊢; exact kb F G1 H1 σ ρ1 Q I1 p1
  | true => rw [if_pos rfl] at p1 ⊢; exact p1 G1 H1 _ I1 (Sub.rfl' _) rfl
theorem jt_not (ha : JT X W a ea) : JT X W (.UnaryOp .Not a pos) (dNot ea) := by
  obtain ⟨ta, ha, ka⟩ := ha
  refine ⟨_, pt_not ha, fun F G H σ ρ Q I p => ka F G H σ ρ _ I (p.bind fun k ρ1 G1 H1 k' I1 s1 r1 p1 => ?_)⟩
  obtain rfl : k' = k := r1
  exact p1 G1 H1 _ I1 (Sub.rfl' _) rfl
theorem je_one {op : BoolOp} (h : JE X W a da) : JE X W (.BoolOp op [a] pos) da := let ⟨t, ht, k⟩ := h; ⟨t, pe_one ht, k⟩
theorem je_and (ha : JE X W a da) (hb : JE X W (.BoolOp .And (b :: rest) pos) db) : JE X W (.BoolOp .And (a :: b :: rest) pos) (dAndV da db) := by
  obtain ⟨ta, ha, ka⟩ := ha
  obtain ⟨tb, hb, kb⟩ := hb
  refine ⟨_, pe_and ha hb, fun F G H σ ρ Q I p => rok_B (ka F) G H σ ρ (fun c H1 => if c = true then tb σ H1 Q else Q (.bl false) H1) I (p.bind fun k ρ1 G1 H1 k' I1 s1 r1 p1 => ?_)⟩
  obtain rfl : k' = k := r1
  cases k' with
  | true => rw [if_pos rfl] at p1 ⊢; exact kb F G1 H1 σ ρ1 Q I1 p1
  | false => rw [if_neg Bool.false_ne_true] at p1 ⊢; exact p1 G1 H1 _ I1 (Sub.rfl' _) (.b false)
theorem je_or (ha : JE X W a da) (hb : JE X W (.BoolOp .Or (b :: rest) pos) db) : JE X W (.BoolOp .Or (a :: b :: rest) pos) (dOrV da db) := by
  obtain ⟨ta, ha, ka⟩ := ha
  obtain ⟨tb, hb, kb⟩ := hb
  refine ⟨_, pe_or ha hb, fun F G H σ ρ Q I p => rok_B (ka F) G H σ ρ (fun c H1 => if c = true then Q (.bl true) H1 else tb σ H1 Q) I (p.bind fun k ρ1 G1 H1 k' I1 s1 r1 p1 => ?_)⟩
  obtain rfl : k' = k := r1
  cases k' with
  | false => rw [if_neg Bool.false_ne_true] at p1 ⊢; exact kb F G1 H1 σ ρ1 Q I1 p1
  | true => rw [if_pos rfl] at p1 ⊢; exact p1 G1 H1 _ I1 (Sub.rfl' _) (.b true)
theorem je_not (ha : JE X W a da) : JE X W (.UnaryOp .Not a pos) (dNotV da) := by
  obtain ⟨ta, ha, ka⟩ := ha
  refine ⟨_, pe_not ha, fun F G H σ ρ Q I p => rok_B (ka F) G H σ ρ (fun c H1 => Q (.bl (!c)) H1) I (p.bind fun k ρ1 G1 H1 k' I1 s1 r1 p1 => ?_)⟩
  obtain rfl : k' = k := r1
  exact p1 G1 H1 _ I1 (Sub.rfl' _) (.b _)
theorem je_ifE (hc : JT X W c ec) (ha : JE X W a da) (hb : JE X W b db) : JE X W (.IfExp c a b pos) (dIfE ec da db) := by
  obtain ⟨tc, hc, kc⟩ := hc
  obtain ⟨ta, ha, ka⟩ := ha
  obtain ⟨tb, hb, kb⟩ := hb
  refine ⟨_, pe_ifExp hc ha hb, fun F G H σ ρ Q I p => kc F G H σ ρ _ I (p.bind fun k ρ1 G1 H1 k' I1 s1 r1 p1 => ?_)⟩
  obtain rfl : k' = k := r1
  cases k' with
  | true => rw [if_pos rfl] at p1 ⊢; exact ka F G1 H1 σ ρ1 Q I1 p1
  | false => rw [if_neg Bool.false_ne_true] at p1 ⊢; exact kb F G1 H1 σ ρ1 Q I1 p1
theorem jn_ifE {da db : Rho → R (List D)} (hc : JT X W c ec) (ha : JN X W a da) (hb : JN X W b db) : JN X W (.IfExp c a b pos) (dIfE ec da db) := by
  obtain ⟨tc, hc, kc⟩ := hc
  obtain ⟨ta, ha, ka⟩ := ha
  obtain ⟨tb, hb, kb⟩ := hb
  refine ⟨_, pe_ifExp hc ha hb, fun F G H σ ρ Q I p => kc F G H σ ρ _ I (p.bind fun k ρ1 G1 H1 k' I1 s1 r1 p1 => ?_)⟩
  obtain rfl : k' = k := r1
  cases k' with
  | true => rw [if_pos rfl] at p1 ⊢; exact ka F G1 H1 σ ρ1 Q I1 p1
  | false => rw [if_neg Bool.false_ne_true] at p1 ⊢; exact kb F G1 H1 σ ρ1 Q I1 p1
end

/-! ### displays -/
def relL (K : PySem.W.Frag) (n : Nat) : Rel (List D) (List V) := fun _ _ G _ _ vs ds => Rs K G vs ds ∧ vs.length = n
def JL (X : Cx) (W : WX) (es : List Expr) (den : Rho → R (List D)) : Prop := ∃ t, PA X es t ∧ ∀ F, ROK X.K X.mg F W (relL X.K es.length) t den
def dNil (ρ : Rho) : R (List D) := .ok [] ρ
def dCons (a : Rho → R D) (b : Rho → R (List D)) (ρ : Rho) : R (List D) := (a ρ).bind fun x ρ1 => (b ρ1).bind fun xs ρ2 => .ok (x :: xs) ρ2
def dTup (a : Rho → R (List D)) (ρ : Rho) : R D := (a ρ).bind fun xs ρ' => .ok (.tuple xs) ρ'
section
variable {X : Cx} {W : WX} {e : Expr} {es : List Expr} {da : Rho → R D} {dl : Rho → R (List D)} {pos : Pos}
theorem jl_nil : JL X W [] dNil := ⟨_, pa_nil, fun F G H σ ρ Q I p => p G H [] I (Sub.rfl' _) ⟨.nil, rfl⟩⟩
theorem jl_cons (ha : JE X W e da) (hb : JL X W es dl) (hs : starEach (e :: es) X.env = (false, eval e X.env) :: starEach es X.env := by rfl) : JL X W (e :: es) (dCons da dl) := by
  obtain ⟨ta, ha, ka⟩ := ha
  obtain ⟨tb, hb, kb⟩ := hb
  refine ⟨_, pa_cons ha hb hs, fun F G H σ ρ Q I p => ka F G H σ ρ _ I (p.bind fun x ρ1 G1 H1 v I1 s1 r1 p1 => ?_)⟩
  refine kb F G1 H1 σ ρ1 _ I1 (p1.bind fun xs ρ2 G2 H2 vs I2 s2 r2 p2 => ?_)
  exact p2 G2 H2 _ I2 (Sub.rfl' _) ⟨.cons (r1.mono s2 _ _) r2.1, by simp [r2.2]⟩
theorem je_tup {k : Nat} (h : JL X W es dl) (hn : es.length ≤ 1000 := by decide) : JE X W (.Tuple es k pos) (dTup dl) := by
  obtain ⟨t, ht, kk⟩ := h
  refine ⟨_, pe_tup ht, fun F G H σ ρ Q I p => kk F G H σ ρ _ I (p.bind fun xs ρ1 G1 H1 vs I1 s1 r1 p1 => ?_)⟩
  refine ⟨by rw [r1.2]; exact Nat.le_of_lt (small1000 hn), fun q hq => ?_⟩
  exact Gives.tup (o := some (PyData.tuple xs)) ⟨_, rfl, fun G' H' v I' s' r' => p1 G' H' v I' s' r'⟩ I1 rfl r1.1 hq
theorem SI.newL {K : PySem.W.Frag} {F : Fx} {G H : Hp} {σ : L2.St} {ρ : Rho} (I : SI K F G H σ ρ) {p : Addr} {vs : List V} {ds : List D} (hp : H p = none) (r : Rs K G vs ds) : SI K F G (upd H p (.lst vs)) σ ρ ∧ NewL K F G (upd H p (.lst vs)) σ ρ p ds := by
  refine ⟨I.allocH hp, ⟨⟨vs, upd_same, r⟩, ?_, I.hn p hp, fun i es e z => ?_⟩⟩
  · cases q : G p with
    | none => rfl
    | some u => rw [I.gH p u q] at hp; cases hp
  · obtain ⟨a, ws, h1, h2, _⟩ := I.sl i _ e
    rw [h1] at z
    cases z
    rw [hp] at h2
    cases h2
theorem jn_lst (h : JL X W es dl) (hn : es.length ≤ 1000 := by decide) : JN X W (.List es pos) dl := by
  obtain ⟨t, ht, kk⟩ := h
  refine ⟨_, pe_lst ht, fun F G H σ ρ Q I p => kk F G H σ ρ _ I ?_⟩
  cases q : dl ρ with
  | ok xs ρ1 =>
    rw [q] at p
    intro G1 H1 vs I1 s1 r1
    refine ⟨by rw [r1.2]; exact Nat.le_of_lt (small1000 hn), fun a ha => ?_⟩
    obtain ⟨I2, n⟩ := I1.newL ha r1.1
    exact p G1 _ _ I2 s1 ⟨a, rfl, n⟩
  | err x ρ1 => rw [q] at p; exact p
  | bad => rw [q] at p; exact p
end
/-- [cells, 0, ..]: as jn_lst -/
def dI (n : Nat) : Option Nat := some n

/-! ### the operators -/
def dAdd : D → D → Option D
  | .int a, .int b => some (.int (a + b))
  | .str a, .str b => if a.length + b.length ≤ sizeLine then some (.str (a ++ b)) else none
  | .list a, .list b => if a.length + b.length ≤ sizeLine then some (.list (a ++ b)) else none
  | .tuple a, .tuple b => if a.length + b.length ≤ sizeLine then some (.tuple (a ++ b)) else none
  | _, _ => none
def dSub : D → D → Option D
  | .int a, .int b => some (.int (a - b))
  | _, _ => none
instance (i j : Int) : Decidable (CMul i j) := decidable_of_iff (i.natAbs < 2 ^ 64 ∨ j.natAbs < 2 ^ 64) (by unfold CMul; omega)
instance (i j : Int) : Decidable (CDiv i j) := decidable_of_iff (0 < j ∧ j.natAbs < 2 ^ 30) (by unfold CDiv; omega)
instance (i j : Int) : Decidable (CPow i j) := decidable_of_iff (0 ≤ j ∧ j.natAbs ≤ 1000000 ∧ i.natAbs < 2 ^ 64) (by unfold CPow; omega)
def RepS (b : Int) (n : Nat) : Prop := b ≤ 1000000 ∧ -1000000 ≤ b ∧ n ≤ 10
instance (b : Int) (n : Nat) : Decidable (RepS b n) := decidable_of_iff (b.natAbs ≤ 1000000 ∧ n ≤ 10) (by unfold RepS; omega)
def RepL (b : Int) (n : Nat) : Prop := -1000 ≤ b ∧ b ≤ 1000 ∧ n ≤ 1000
instance (b : Int) (n : Nat) : Decidable (RepL b n) := decidable_of_iff (b.natAbs ≤ 1000 ∧ n ≤ 1000) (by unfold RepL; omega)
def RepT (b : Int) (n : Nat) : Prop := 0 ≤ b ∧ b ≤ 1000 ∧ n ≤ 1000
instance (b : Int) (n : Nat) : Decidable (RepT b n) := decidable_of_iff (0 ≤ b ∧ b.natAbs ≤ 1000 ∧ n ≤ 1000) (by unfold RepT; omega)
def Rg1 (j : Int) : Prop := -(2 ^ 62) ≤ j ∧ j < 2 ^ 62
instance (j : Int) : Decidable (Rg1 j) := decidable_of_iff (j.natAbs < 2 ^ 62 ∨ j = -(2 ^ 62)) (by unfold Rg1; omega)
def Rg2 (i j : Int) : Prop := -(2 ^ 62) ≤ i ∧ i < 2 ^ 62 ∧ -(2 ^ 62) ≤ j ∧ j < 2 ^ 62
instance (i j : Int) : Decidable (Rg2 i j) := decidable_of_iff (Rg1 i ∧ Rg1 j) (by unfold Rg2 Rg1; omega)
def Mil (j : Int) : Prop := -1000000 ≤ j ∧ j ≤ 1000000
instance (j : Int) : Decidable (Mil j) := decidable_of_iff (j.natAbs ≤ 1000000) (by unfold Mil; omega)
/-- a text some times over -/
def repS (x : Str) (n : Int) : Str := if n < 1 then Str.empty else ⟨(List.replicate n.toNat x.cps.toList).flatten.toArray⟩
def dMul : D → D → Option D
  | .int a, .int b => if CMul a b then some (.int (a * b)) else none
  | .str a, .int b => if RepS b a.length then some (.str (repS a b)) else none
  | .list a, .int b => if RepL b a.length then some (.list (List.replicate b.toNat a).flatten) else none
  | .tuple a, .int b => if RepT b a.length ∧ a ≠ [] then some (.tuple (List.replicate b.toNat a).flatten) else none
  | _, _ => none
def dFdiv : D → D → Option D
  | .int a, .int b => if CDiv a b then some (.int (a / b)) else none
  | _, _ => none
def dMod : D → D → Option D
  | .int a, .int b => if 0 < b then some (.int (a % b)) else none
  | _, _ => none
def dPow : D → D → Option D
  | .int a, .int b => if CPow a b then some (.int (a ^ b.toNat)) else none
  | _, _ => none
def scalD : D → Bool
  | .none | .bool _ | .int _ | .str _ => true
  | _ => false
def dEq (a b : D) : Option D := if (SeqAt.shaped a && SeqAt.shaped b) = true then some (.bool (PyData.eqv a b)) else
  match a, b with
  | .str x, .str y => some (.bool (decide (x = y)))
  | _, _ => none
def dNe (a b : D) : Option D := if (SeqAt.shaped a && SeqAt.shaped b) = true then some (.bool (!PyData.eqv a b)) else
  match a, b with
  | .str x, .str y => some (.bool (!decide (x = y)))
  | _, _ => none
def dCmp (p : Int → Int → Bool) : D → D → Option D
  | .int a, .int b => some (.bool (p a b))
  | _, _ => none
def flatD : D → Bool
  | .none | .bool _ | .int _ | .str _ => true
  | _ => false
def dIn : D → D → Option D
  | .str x, .str z => if x.length = 1 then some (.bool (decide (x.cps.getD 0 0 ∈ z.cps.toList))) else none
  | x, .list ds => if (SeqAt.shaped x && SeqAt.shaped (.list ds)) = true then some (.bool (ds.any fun y => PyData.eqv y x)) else none
  | x, .tuple ds => if (flatD x && ds.all flatD) = true then some (.bool (ds.any fun y => PyData.eqv y x)) else none
  | _, _ => none
def dNotIn (a b : D) : Option D := (dIn a b).map fun d => match d with
  | .bool k => .bool (!k)
  | d => d
def dIs : D → D → Option D
  | .bool a, .bool b => some (.bool (decide (a = b)))
  | .none, .none => some (.bool true)
  | _, .none => some (.bool false)
  | _, _ => none
def dIsNot (a b : D) : Option D := (dIs a b).map fun d => match d with
  | .bool k => .bool (!k)
  | d => d
section
variable {X : Cx} {W : WX}
theorem OpOK.or {K : PySem.W.Frag} {r r' : R2} {f f' g : D → D → Option D} (h : OpOK K r f) (h' : OpOK K r' f') (e : ∀ a b, g a b = f a b ∨ g a b = f' a b ∨ g a b = none) : OpOK K (fun x y H Q => r x y H Q ∨ r' x y H Q) g := by
  intro F G H σ ρ x y d1 d2 Q I h1 h2 g'
  rcases e d1 d2 with q | q | q
  · rw [q] at g'; exact .inl (h F G H σ ρ x y d1 d2 Q I h1 h2 g')
  · rw [q] at g'; exact .inr (h' F G H σ ρ x y d1 d2 Q I h1 h2 g')
  · rw [q] at g'; obtain ⟨d, z, _⟩ := g'; cases z
theorem ok_int {K : PySem.W.Frag} {C : Int → Int → Prop} [∀ i j, Decidable (C i j)] {g : Int → Int → Int} : OpOK K (rI C fun i j => .int (g i j)) (fun a b => match a, b with | .int a, .int b => if C a b then some (.int (g a b)) else none | _, _ => none) := by
  intro F G H σ ρ x y d1 d2 Q I h1 h2 g'
  dsimp only at g'
  split at g'
  · rename_i a b
    obtain rfl := h1.int
    obtain rfl := h2.int
    split at g'
    · rename_i c
      exact ⟨_, _, rfl, rfl, c, g'.here I rfl (.i _)⟩
    · obtain ⟨d, z, _⟩ := g'; cases z
  · obtain ⟨d, z, _⟩ := g'; cases z
theorem ok_cmp {K : PySem.W.Frag} {p : Int → Int → Bool} : OpOK K (rI0 fun i j => .bl (p i j)) (dCmp p) := by
  intro F G H σ ρ x y d1 d2 Q I h1 h2 g'
  unfold dCmp at g'
  split at g'
  · obtain rfl := h1.int
    obtain rfl := h2.int
    exact ⟨_, _, rfl, rfl, g'.here I rfl (.b _)⟩
  · obtain ⟨d, z, _⟩ := g'; cases z
theorem o_sub : JOp X (binaryOp .Sub) dSub := ⟨_, op_sub, fun F G H σ ρ x y d1 d2 Q I h1 h2 g' => by
  unfold dSub at g'
  split at g'
  · obtain rfl := h1.int
    obtain rfl := h2.int
    exact ⟨_, _, rfl, rfl, g'.here I rfl (.i _)⟩
  · obtain ⟨d, z, _⟩ := g'; cases z⟩
theorem o_fdiv : JOp X (binaryOp .FloorDiv) dFdiv := ⟨_, op_fdiv, ok_int⟩
theorem o_mod : JOp X (binaryOp .Mod) dMod := ⟨_, op_mod, ok_int (C := fun _ j => 0 < j)⟩
theorem o_pow : JOp X (binaryOp .Pow) dPow := ⟨_, op_pow, ok_int⟩
theorem o_lt : JOp X (compareOp .Lt) (dCmp fun i j => decide (i < j)) := ⟨_, op_lt, ok_cmp⟩
theorem o_le : JOp X (compareOp .LtE) (dCmp fun i j => decide (i ≤ j)) := ⟨_, op_le, ok_cmp⟩
theorem o_gt : JOp X (compareOp .Gt) (dCmp fun i j => decide (j < i)) := ⟨_, op_gt, ok_cmp⟩
theorem o_ge : JOp X (compareOp .GtE) (dCmp fun i j => decide (j ≤ i)) := ⟨_, op_ge, ok_cmp⟩
theorem o_add : JOp X (binaryOp .Add) dAdd := by
  refine ⟨_, OpR.or op_add (OpR.or op_add_str (OpR.or op_cat op_catA)), fun F G H σ ρ x y d1 d2 Q I h1 h2 g' => ?_⟩
  have sH := I.gH
  unfold dAdd at g'
  split at g'
  · obtain rfl := h1.int
    obtain rfl := h2.int
    exact .inl ⟨_, _, rfl, rfl, g'.here I rfl (.i _)⟩
  · rename_i a b
    obtain rfl := h1.str
    obtain rfl := h2.str
    split at g'
    · rename_i c
      exact .inr (.inl ⟨_, _, rfl, rfl, c, g'.here I rfl (.s _)⟩)
    · obtain ⟨d, z, _⟩ := g'; cases z
  · rename_i a b
    obtain ⟨p, vs, rfl, e1, r1⟩ := h1.lst sH
    obtain ⟨q, ws, rfl, e2, r2⟩ := h2.lst sH
    split at g'
    · rename_i c
      exact .inr (.inr (.inl ⟨p, q, vs, ws, rfl, rfl, e1, e2, by rw [r1.length, r2.length]; exact c, fun u hu => g'.lst I rfl (r1.app r2) hu⟩))
    · obtain ⟨d, z, _⟩ := g'; cases z
  · rename_i a b
    obtain ⟨p, vs, rfl, e1, r1⟩ := h1.tup sH
    obtain ⟨q, ws, rfl, e2, r2⟩ := h2.tup sH
    split at g'
    · rename_i c
      refine .inr (.inr (.inr ⟨p, q, vs, ws, rfl, rfl, e1, e2, by rw [r1.length, r2.length]; exact c, fun z => ?_, fun _ z => ?_, fun _ _ u hu => g'.tup I rfl (r1.app r2) hu⟩))
      · subst z
        cases r1
        rcases h2 with h2 | ⟨_, _, _, _, z, _⟩
        · exact g'.here I rfl h2
        · cases z
      · subst z
        cases r2
        rw [List.append_nil] at g'
        rcases h1 with h1 | ⟨_, _, _, _, z, _⟩
        · exact g'.here I rfl h1
        · cases z
    · obtain ⟨d, z, _⟩ := g'; cases z
  · obtain ⟨d, z, _⟩ := g'; cases z
theorem o_eq (hu : X.A.units + 64 < cLine) : JOp X (compareOp .Eq) dEq := by
  refine ⟨_, OpR.or (op_eqD hu) op_eq, fun F G H σ ρ x y d1 d2 Q I h1 h2 g' => ?_⟩
  unfold dEq at g'
  split at g'
  · rename_i c
    obtain ⟨c1, c2⟩ := Bool.and_eq_true_iff.mp c
    exact .inl ⟨d1, d2, h1.dp I.gH, h2.dp I.gH, c1, c2, g'.here I rfl (.b _)⟩
  · split at g'
    · obtain rfl := h1.str
      obtain rfl := h2.str
      exact .inr ⟨rfl, by
        have q := g'.here I rfl (.b _)
        rename_i x y _
        have e : decide (V.str x = V.str y) = decide (x = y) := by
          by_cases z : x = y
          · subst z; simp
          · rw [decide_eq_false z, decide_eq_false fun w => z (by cases w; rfl)]
        rw [e]; exact q⟩
    · obtain ⟨d, z, _⟩ := g'; cases z
theorem o_ne (hu : X.A.units + 64 < cLine) : JOp X (compareOp .NotEq) dNe := by
  refine ⟨_, OpR.or (op_neD hu) op_ne, fun F G H σ ρ x y d1 d2 Q I h1 h2 g' => ?_⟩
  unfold dNe at g'
  split at g'
  · rename_i c
    obtain ⟨c1, c2⟩ := Bool.and_eq_true_iff.mp c
    exact .inl ⟨d1, d2, h1.dp I.gH, h2.dp I.gH, c1, c2, g'.here I rfl (.b _)⟩
  · split at g'
    · obtain rfl := h1.str
      obtain rfl := h2.str
      exact .inr ⟨rfl, by
        have q := g'.here I rfl (.b _)
        rename_i x y _
        have e : decide (V.str x = V.str y) = decide (x = y) := by
          by_cases z : x = y
          · subst z; simp
          · rw [decide_eq_false z, decide_eq_false fun w => z (by cases w; rfl)]
        rw [e]; exact q⟩
    · obtain ⟨d, z, _⟩ := g'; cases z
end
end Pf

namespace Pf
open PySem PySem.Spec PyProof.Rows L2
theorem tuple_mulOne (l : Addr) (items : Array Value) (n : Nat) (dd : Option Addr) (sl : Array (Option Value)) (u : Tok) :
    Meets (Builtin.«tuple.__mul__» ⟨[.ref l, .int 1 u], []⟩) (fun _ R s => s.heap.get? l = some { cls := .type "tuple", dict := dd, data := .seq items n, slots := sl } ∧
      R (.ok (.ret (Value.ref l))) s) :=
  .of_wp fun prog w A R s h => by
    obtain ⟨hp, g, d, tk, os⟩ := s
    obtain ⟨hl, h⟩ := h
    have f1 := AutoSeq1.idx_int
    have c1 : (items.isEmpty || (1 : Int) == 1) = true := by simp
    wp_walk using wpAny_loadPart' hl
    repeat (first
      | (refine wpAny_ite_false (decide_eq_false (by decide)) ?_; wp_walk using wpAny_loadPart' hl)
      | (refine wpAny_ite_true (decide_eq_true (by rw [c1])) ?_; wp_walk using wpAny_loadPart' hl))
    exact ⟨_, rfl, h⟩
theorem tuple_mulZero (l : Addr) (items : Array Value) (n : Nat) (dd : Option Addr) (sl : Array (Option Value)) (u : Tok) (c1 : (items.isEmpty || (0 : Int) == 1) = false) :
    Meets (Builtin.«tuple.__mul__» ⟨[.ref l, .int 0 u], []⟩) (fun _ R s => s.heap.get? l = some { cls := .type "tuple", dict := dd, data := .seq items n, slots := sl } ∧
      R (.ok (.ret (Value.ref s.heap.objs.size))) { s with heap := s.heap.push { cls := Value.type "tuple", data := Data.seq #[] }, toks := s.toks }) :=
  .of_wp fun prog w A R s h => by
    obtain ⟨hp, g, d, tk, os⟩ := s
    obtain ⟨hl, h⟩ := h
    have f1 := AutoSeq1.idx_int
    wp_walk using wpAny_loadPart' hl
    repeat (first
      | (refine wpAny_ite_false (decide_eq_false (by rw [c1]; exact Bool.false_ne_true)) ?_; wp_walk using wpAny_loadPart' hl)
      | (refine wpAny_ite_true (decide_eq_true (by simp)) ?_; wp_walk using wpAny_loadPart' hl)
      | (refine wpAny_ite_false (decide_eq_false (by decide)) ?_; wp_walk using wpAny_loadPart' hl))
    exact ⟨_, rfl, h⟩
def rRep01 (K : PySem.W.Frag) : R2 := fun x y H Q => ∃ l k xs, x = .ref l ∧ y = .int k ∧ SqT K H l xs ∧ xs ≠ [] ∧ ((k = 1 ∧ Q (.ref l) H) ∨ (k = 0 ∧ ∀ p, H p = none → Q (.ref p) (upd H p (.tup []))))
theorem op_rep01 {X : Cx} : OpR X (binaryOp .Mult) (rRep01 X.K) := by
  intro pins s σ H x y v u Q I rx ry h
  obtain ⟨l, k, xs, rfl, rfl, hT, hne, q⟩ := h
  cases rx
  obtain ⟨t, rfl⟩ := ry
  obtain ⟨its, r, ⟨⟨cls, dd, data, sl⟩, ho, hc, n, hd⟩, hs⟩ := I.tuple hT
  simp only at hc hd
  subst hc hd
  have hle : its.length = xs.length := r.length.symm
  have hi : its.toArray.isEmpty = false := by
    cases its with
    | nil => exact absurd (List.eq_nil_of_length_eq_zero hle.symm) hne
    | cons a b => rfl
  rcases q with ⟨rfl, q⟩ | ⟨rfl, q⟩
  · exact wpAny_binaryOp_repeat_ref (T := "tuple") (U := "int") (by decide) ⟨_, ho, rfl⟩ (fun s' => typeIs_int s' 1 t) noFill_tuple_mul F.fills_int_mul F.slot_int_rmul repeat_tuple F.slot_int_index.lookup
      (call_meets F.slot_int_rmul (typeIs_int s 1 t) F.entry_int_rmul (F.args_int_rmul_2 _ _) (int_rmul_tuple 1 t l its.toArray n dd sl)
        ⟨ho, rfl, ⟨_, ho, rfl⟩, call_meets F.slot_tuple_mul ⟨_, ho, rfl⟩ F.entry_tuple_mul (F.args_tuple_mul_2 _ _) (tuple_mulOne l its.toArray n dd sl t) ⟨ho, ⟨.ref l, H, I, rfl, q⟩⟩⟩)
  · refine wpAny_binaryOp_repeat_ref (T := "tuple") (U := "int") (by decide) ⟨_, ho, rfl⟩ (fun s' => typeIs_int s' 0 t) noFill_tuple_mul F.fills_int_mul F.slot_int_rmul repeat_tuple F.slot_int_index.lookup
      (call_meets F.slot_int_rmul (typeIs_int s 0 t) F.entry_int_rmul (F.args_int_rmul_2 _ _) (int_rmul_tuple 0 t l its.toArray n dd sl)
        ⟨ho, rfl, ⟨_, ho, rfl⟩, call_meets F.slot_tuple_mul ⟨_, ho, rfl⟩ F.entry_tuple_mul (F.args_tuple_mul_2 _ _) (tuple_mulZero l its.toArray n dd sl t (by rw [hi]; rfl)) ⟨ho, ?_⟩⟩)
    refine ⟨.ref s.heap.objs.size, _, I.laid (t' := s.toks) (o := .tup []) (fun b ob q => Heap.get?_push_of_some _ q) (Nat.le_refl _) ?_, rfl, q _ (I.hok.fresh (Nat.le_refl _))⟩
    exact ⟨by rw [sizeLine_eq]; decide, [], .nil, IsTup.new _ _⟩
end Pf

/-! Pf4: subscripts, slices, built-in calls, methods, stores. -/
namespace Pf
open PySem PySem.Spec PyProof.Rows L2

/-! ### a text some times over -/
def rMulS : R2 := fun x y H Q => ∃ (a : Str) (k : Int), x = .str a ∧ y = .int k ∧ (-1000000 ≤ k ∧ k ≤ 1000000 ∧ a.length ≤ 10) ∧ Q (.str (repS a k)) H
theorem repS_one (a : Str) : repS a 1 = a := by
  unfold repS
  rw [if_neg (by decide)]
  show (⟨(List.replicate 1 a.cps.toList).flatten.toArray⟩ : Str) = a
  simp
theorem repS_empty (a : Str) (k : Int) (h : a.length = 0) : repS a k = a := by
  have e : a.cps.toList = [] := by
    have : a.cps.size = 0 := h
    simpa using this
  have e2 : a = Str.empty := by
    cases a with
    | mk c =>
      have : c = #[] := Array.toList_eq_nil_iff.mp e
      subst this; rfl
  unfold repS
  split
  · exact e2.symm
  · rw [e, e2]
    have z : ∀ m : Nat, (List.replicate m ([] : List Nat)).flatten = [] := fun m => by simp
    rw [z]
    rfl
theorem foldl_reps (a : Array Nat) : ∀ (m : Nat) (b : Array Nat), List.foldl (fun x1 x2 => x1 ++ x2) b (List.replicate m a) = b ++ (List.replicate m a.toList).flatten.toArray
  | 0, b => by simp
  | m + 1, b => by
    rw [List.replicate_succ, List.foldl_cons, foldl_reps a m, List.replicate_succ, List.flatten_cons, Array.append_assoc]
    exact congrArg (b ++ ·) (Array.toList_inj.mp (by rw [Array.toList_append]))
theorem op_mulS {X : Cx} : OpR X (binaryOp .Mult) rMulS := by
  intro pins s σ H x y v u Q I rx ry h
  obtain ⟨a, k, rfl, rfl, ⟨h1, h2, h3⟩, q⟩ := h
  obtain ⟨t, rfl⟩ := rx
  obtain ⟨t', rfl⟩ := ry
  have c0 : (decide (k < -(2 ^ 63 : Int)) || decide (k ≥ 2 ^ 63)) = false := by
    rw [decide_eq_false (by omega), decide_eq_false (by omega)]; rfl
  refine PySem.P.mul_str c0 (fun hk _ => ?_) (fun hk _ => ?_) ?_
  · have hk' : 1 ≤ k := by omega
    have : (10 : Int) ≤ (2 ^ 63 - 1) / k := by
      rw [Int.le_ediv_iff_mul_le (by omega)]
      omega
    have : (a.length : Int) ≤ 10 := by omega
    omega
  · have hk' : 1 ≤ k := by omega
    have : a.length * k.toNat ≤ 10 * 1000000 := Nat.mul_le_mul h3 (by omega)
    unfold Builtin.Str.tooLong
    rw [sizeLine_eq]
    exact decide_eq_false (by omega)
  · by_cases hk : k < 1
    · rw [if_pos hk]
      have e : repS a k = Str.empty := by unfold repS; rw [if_pos hk]
      rw [e] at q
      exact ⟨by decide, .str Str.empty, H, I.tok _, ⟨_, rfl⟩, q⟩
    · rw [if_neg hk]
      by_cases hz : (k == 1 || a.length == 0) = true
      · rw [if_pos hz]
        have e : repS a k = a := by
          rcases Bool.or_eq_true_iff.mp hz with z | z
          · rw [eq_of_beq z]; exact repS_one a
          · exact repS_empty a k (eq_of_beq z)
        rw [e] at q
        exact ⟨.str a, H, I, ⟨_, rfl⟩, q⟩
      · rw [if_neg hz]
        have e : repS a k = ⟨(List.replicate k.toNat a.cps).foldl (· ++ ·) #[]⟩ := by
          unfold repS
          rw [if_neg hk, foldl_reps, Array.empty_append]
        rw [e] at q
        refine ⟨?_, .str _, H, I.tok _, ⟨_, rfl⟩, q⟩
        show _ ≤ _
        have l0 : ∀ m : Nat, ((List.replicate m a.cps.toList).flatten).length = m * a.length := fun m => by
          induction m with
          | zero => simp
          | succ m ih => rw [List.replicate_succ, List.flatten_cons, List.length_append, ih, Nat.succ_mul, Nat.add_comm]; rfl
        have : a.length * k.toNat ≤ 10 * 1000000 := Nat.mul_le_mul h3 (by omega)
        rw [foldl_reps, Array.empty_append]
        show ((List.replicate k.toNat a.cps.toList).flatten.toArray).size ≤ sizeLine
        rw [List.size_toArray, l0, sizeLine_eq, Nat.mul_comm]
        omega
/-! ### a tuple taken once -/
section
variable {X : Cx} {W : WX} {a b c e : Expr} {da db dc : Rho → R D} {pos p1 p2 p3 : Pos}
/-! ### the rest of the operators -/
theorem o_mul : JOp X (binaryOp .Mult) dMul := by
  refine ⟨_, OpR.or op_mul (OpR.or op_mulS (OpR.or op_rep (OpR.or op_repT op_rep01))), fun F G H σ ρ x y d1 d2 Q I h1 h2 g' => ?_⟩
  have sH := I.gH
  unfold dMul at g'
  split at g'
  · obtain rfl := h1.int
    obtain rfl := h2.int
    split at g'
    · rename_i c
      exact .inl ⟨_, _, rfl, rfl, c, g'.here I rfl (.i _)⟩
    · obtain ⟨d, z, _⟩ := g'; cases z
  · obtain rfl := h1.str
    obtain rfl := h2.int
    split at g'
    · rename_i c
      unfold RepS at c
      exact .inr (.inl ⟨_, _, rfl, rfl, ⟨c.2.1, c.1, c.2.2⟩, g'.here I rfl (.s _)⟩)
    · obtain ⟨d, z, _⟩ := g'; cases z
  · obtain ⟨p, vs, rfl, e1, r1⟩ := h1.lst sH
    obtain rfl := h2.int
    split at g'
    · rename_i c
      unfold RepL at c
      refine .inr (.inr (.inl ⟨p, _, vs, rfl, rfl, e1, by omega, by omega, ?_, fun u hu => g'.lst I rfl (r1.rep _) hu⟩))
      rw [r1.length, sizeLine_eq]
      exact Nat.le_trans (Nat.mul_le_mul c.2.2 (show _ ≤ 1000 by omega)) (by decide)
    · obtain ⟨d, z, _⟩ := g'; cases z
  · obtain ⟨p, vs, rfl, e1, r1⟩ := h1.tup sH
    obtain rfl := h2.int
    split at g'
    · rename_i c
      have ne : vs ≠ [] := fun z => by
        subst z
        cases r1
        exact c.2 rfl
      rename_i ds k
      have c : 0 ≤ k ∧ k ≤ 1000 ∧ ds.length ≤ 1000 := c.1
      by_cases c2 : 2 ≤ k
      · exact .inr (.inr (.inr (.inl ⟨p, _, vs, rfl, rfl, e1, ne, c2, c.2.1, by rw [r1.length]; exact c.2.2, fun u hu => g'.tup I rfl (r1.rep _) hu⟩)))
      · refine .inr (.inr (.inr (.inr ⟨p, _, vs, rfl, rfl, e1, ne, ?_⟩)))
        have : k = 0 ∨ k = 1 := by omega
        rcases this with rfl | rfl
        · exact .inr ⟨rfl, fun u hu => g'.tup I rfl .nil hu⟩
        · refine .inl ⟨rfl, ?_⟩
          have e : (List.replicate (1 : Int).toNat ds).flatten = ds := by
            show (List.replicate 1 ds).flatten = ds
            simp
          rw [e] at g'
          rcases h1 with h1 | ⟨_, _, _, _, z, _⟩
          · exact g'.here I rfl h1
          · cases z
    · obtain ⟨d, z, _⟩ := g'; cases z
  · obtain ⟨d, z, _⟩ := g'; cases z
def dNeg : D → Option D
  | .int a => some (.int (-a))
  | _ => none
def d1 (f : D → Option D) (a : Rho → R D) (ρ : Rho) : R D := (a ρ).bind fun x ρ1 => lift (f x) ρ1
theorem je_neg (ha : JE X W a da) : JE X W (.UnaryOp .USub a pos) (d1 dNeg da) := by
  obtain ⟨ta, ha, ka⟩ := ha
  refine ⟨_, pe_un un_neg ha, fun F G H σ ρ Q I p => ka F G H σ ρ _ I (p.bind fun d ρ1 G1 H1 v I1 s1 r1 p1 => ?_)⟩
  obtain ⟨d', e, p1⟩ := p1.lift
  unfold dNeg at e
  split at e
  · cases e
    cases r1
    exact ⟨_, rfl, p1 G1 H1 _ I1 (Sub.rfl' _) (.i _)⟩
  · cases e

/-! ### x[i] -/
def dIx : D → D → Option D
  | .list ds, .int i => atI ds i
  | .tuple ds, .int i => atI ds i
  | .str z, .int i => if z.length ≤ sizeLine then (atI z.cps.toList i).map fun c => .str ⟨#[c]⟩ else none
  | _, _ => none
theorem atI_rs {K : PySem.W.Frag} {G : Hp} {vs : List V} {ds : List D} {i : Int} {d : D} (r : Rs K G vs ds) (h : atI ds i = some d) : ∃ v, atI vs i = some v ∧ Rp K G v d := by
  unfold atI at h ⊢
  rw [r.length]
  cases q : ixN ds.length i with
  | none => rw [q] at h; cases h
  | some j =>
    rw [q] at h
    exact r.get (show ds[j]? = some d from h)
theorem ok_ix {K : PySem.W.Frag} : OpOK K (rIx K) dIx := fun F G H σ ρ x y d1 d2 Q I h1 h2 g' => by
  have sH := I.gH
  obtain ⟨d, e, k⟩ := g'
  unfold dIx at e
  split at e
  · obtain ⟨p, vs, rfl, e1, r1⟩ := h1.lst sH
    obtain rfl := h2.int
    obtain ⟨v, q1, q2⟩ := atI_rs r1 e
    exact .inl ⟨p, vs, _, v, rfl, rfl, .inl (.inl e1), q1, k G H v I (Sub.rfl' _) q2⟩
  · obtain ⟨p, vs, rfl, e1, r1⟩ := h1.tup sH
    obtain rfl := h2.int
    obtain ⟨v, q1, q2⟩ := atI_rs r1 e
    exact .inr (.inl ⟨p, vs, _, v, rfl, rfl, e1, q1, k G H v I (Sub.rfl' _) q2⟩)
  · obtain rfl := h1.str
    obtain rfl := h2.int
    split at e
    · rename_i z i c
      cases q : atI z.cps.toList i with
      | none => rw [q] at e; cases e
      | some u =>
        rw [q] at e
        cases e
        exact .inr (.inr ⟨z, i, u, rfl, rfl, c, q, k G H _ I (Sub.rfl' _) (.s _)⟩)
    · cases e
  · cases e
theorem je_ix (ha : JE X W a da) (hb : JB X W b db) (hs : PlainIx b := by exact fun _ _ => rfl) : JE X W (.Subscript a b pos) (dOp dIx da db) := by
  obtain ⟨ta, ha, ka⟩ := ha
  obtain ⟨tb, hb, kb⟩ := hb
  exact ⟨_, pe_ix ix_seq ha hb hs, rok_op ok_ix ka kb⟩
theorem je_ixO (i : Nat) {x : Str} (hb : JB X W b db) (hs : PlainIx b := by exact fun _ _ => rfl) (hN : X.N[i]? = some x := by rfl) (hv : Vis X.env.scope x := by first | exact Or.inl rfl | exact Or.inr (Or.inl rfl) | exact Or.inr (Or.inr rfl))
    (hd : (x == ("__debug__" : Str)) = false := by decide) (hcd : (x == ("__classdict__" : Str)) = false := by decide) : JE X W (.Subscript (.Name x p2) b pos) (dOpO dIx i db) := by
  obtain ⟨tb, hb, kb⟩ := hb
  exact ⟨_, pe_ix ix_seq (pe_var (i := i) hN hv hd hcd) hb hs, rok_opO ok_ix kb⟩

/-! ### x[lo:hi] -/
def JP (X : Cx) (W : WX) (o : Option Expr) (den : Rho → R (Option Int)) : Prop := ∃ t, PO X o t ∧ ∀ F, ROK X.K X.mg F W (fun _ _ _ _ _ b a => b = a) t den
def dNo (ρ : Rho) : R (Option Int) := .ok none ρ
def asInt : D → Option (Option Int)
  | .int i => some (some i)
  | _ => none
def dSm (e : Rho → R D) (ρ : Rho) : R (Option Int) := (e ρ).bind fun d ρ1 => lift (asInt d) ρ1
theorem jp_none : JP X W none dNo := ⟨_, po_none, fun F G H σ ρ Q I p => p G H _ I (Sub.rfl' G) rfl⟩
theorem jp_some (h : JE X W e da) : JP X W (some e) (dSm da) := by
  obtain ⟨t, ht, k⟩ := h
  refine ⟨_, po_some ht, fun F G H σ ρ Q I p => k F G H σ ρ _ I (p.bind fun d ρ1 G1 H1 v I1 s1 r1 p1 => ?_)⟩
  obtain ⟨d', e, p1⟩ := p1.lift
  unfold asInt at e
  split at e
  · cases e
    cases r1
    exact ⟨_, rfl, p1 G1 H1 _ I1 (Sub.rfl' _) rfl⟩
  · cases e
def cutD {α : Type} (xs : List α) (lo hi : Option Int) : List α := (xs.drop (HT.sIx xs.length 0 lo)).take (HT.sIx xs.length xs.length hi - HT.sIx xs.length 0 lo)
def dCut : D → Option Int → Option Int → Option D
  | .list ds, lo, hi => some (.list (cutD ds lo hi))
  | .tuple ds, lo, hi => some (.tuple (cutD ds lo hi))
  | .str z, lo, hi => if z.length ≤ sizeLine then some (.str (cutS z lo hi)) else none
  | _, _, _ => none
def dSl (a : Rho → R D) (lo hi : Rho → R (Option Int)) (ρ : Rho) : R D := (a ρ).bind fun x ρ1 => (lo ρ1).bind fun l ρ2 => (hi ρ2).bind fun h ρ3 => lift (dCut x l h) ρ3
/-- the value a slot's own list -/
def dSlO (i : Nat) (lo hi : Rho → R (Option Int)) (ρ : Rho) : R D :=
  match ρ.lst? i with
  | none => .bad
  | some _ => (lo ρ).bind fun l ρ2 => (hi ρ2).bind fun h ρ3 =>
    match ρ3.lst? i with
    | some ds => lift (dCut (.list ds) l h) ρ3
    | none => .bad
def rSl3 (K : PySem.W.Frag) : V → Option Int → Option Int → Hp → VK → Prop := fun x lo hi H Q => rSlL K x lo hi H Q ∨ rSlA K x lo hi H Q ∨ rSlS x lo hi H Q
theorem cut_rs {K : PySem.W.Frag} {G : Hp} {vs : List V} {ds : List D} {lo hi : Option Int} (r : Rs K G vs ds) : Rs K G (cutV vs lo hi) (cutD ds lo hi) := by
  unfold cutV cutD
  rw [r.length]
  exact (r.drop _).take _
theorem ok_cut {K : PySem.W.Frag} {F : Fx} {G H : Hp} {σ : L2.St} {ρ : Rho} {x : V} {d : D} {lo hi : Option Int} {Q : VK} (I : SI K F G H σ ρ) (h : Bw K G H x d) (g : Gives K F G H σ ρ (dCut d lo hi) Q) : rSl3 K x lo hi H Q := by
  have sH := I.gH
  unfold dCut at g
  split at g
  · obtain ⟨p, vs, rfl, e1, r1⟩ := h.lst sH
    exact .inl ⟨p, vs, rfl, .inl (.inl e1), fun q hq => g.lst I rfl (cut_rs r1) hq⟩
  · obtain ⟨p, vs, rfl, e1, r1⟩ := h.tup sH
    refine .inr (.inl ⟨p, vs, rfl, e1, fun z => ?_, fun _ q hq => g.tup I rfl (cut_rs r1) hq⟩)
    rename_i ds
    have e : cutD ds lo hi = ds := by
      unfold cutD
      rw [r1.length] at z
      rw [z.1, z.2]
      simp
    rw [e] at g
    rcases h with h | ⟨_, _, _, _, z, _⟩
    · exact g.here I rfl h
    · cases z
  · obtain rfl := h.str
    split at g
    · rename_i c
      exact .inr (.inr ⟨_, rfl, c, g.here I rfl (.s _)⟩)
    · obtain ⟨d, z, _⟩ := g; cases z
  · obtain ⟨d, z, _⟩ := g; cases z
theorem je_sl {lo hi : Option Expr} {dl dh : Rho → R (Option Int)} (ha : JE X W a da) (hl : JP X W lo dl) (hh : JP X W hi dh) : JE X W (.Subscript a (.Slice lo hi none p2) pos) (dSl da dl dh) := by
  obtain ⟨ta, ha, ka⟩ := ha
  obtain ⟨tl, hl, kl⟩ := hl
  obtain ⟨th, hh, kh⟩ := hh
  refine ⟨_, pe_slice (SlR.or sl_list (SlR.or sl_tupA sl_str)) ha hl hh, fun F G H σ ρ Q I p => ?_⟩
  refine ka F G H σ ρ _ I (p.bind fun x ρ1 G1 H1 v I1 s1 r1 p1 => ?_)
  refine kl F G1 H1 σ ρ1 _ I1 (p1.bind fun l ρ2 G2 H2 l' I2 s2 r2 p2 => ?_)
  obtain rfl : l' = l := r2
  refine kh F G2 H2 σ ρ2 _ I2 (p2.bind fun h ρ3 G3 H3 h' I3 s3 r3 p3 => ?_)
  obtain rfl : h' = h := r3
  exact ok_cut I3 (.inl (Rp.mono (s2.tr s3) _ _ r1)) p3.gives
theorem je_slO (i : Nat) {x : Str} {lo hi : Option Expr} {dl dh : Rho → R (Option Int)} (hl : JP X W lo dl) (hh : JP X W hi dh) (hN : X.N[i]? = some x := by rfl) (hv : Vis X.env.scope x := by first | exact Or.inl rfl | exact Or.inr (Or.inl rfl) | exact Or.inr (Or.inr rfl))
    (hd : (x == ("__debug__" : Str)) = false := by decide) (hcd : (x == ("__classdict__" : Str)) = false := by decide) : JE X W (.Subscript (.Name x p3) (.Slice lo hi none p2) pos) (dSlO i dl dh) := by
  obtain ⟨tl, hl, kl⟩ := hl
  obtain ⟨th, hh, kh⟩ := hh
  refine ⟨_, pe_slice (SlR.or sl_list (SlR.or sl_tupA sl_str)) (pe_var (i := i) hN hv hd hcd) hl hh, fun F G H σ ρ Q I p => ?_⟩
  unfold dSlO at p
  split at p
  · exact p.elim
  rename_i ds0 e0
  obtain ⟨a0, m1, _⟩ := I.at_ e0
  refine ⟨_, m1, kl F G H σ ρ _ I (p.bind fun l ρ2 G2 H2 l' I2 s2 r2 p2 => ?_)⟩
  obtain rfl : l' = l := r2
  refine kh F G2 H2 σ ρ2 _ I2 (p2.bind fun h ρ3 G3 H3 h' I3 s3 r3 p3 => ?_)
  obtain rfl : h' = h := r3
  split at p3
  · rename_i ds e3
    obtain ⟨a3, n1, ⟨vs, n2, n3⟩, _⟩ := I3.at_ e3
    obtain rfl : a3 = a0 := by rw [m1] at n1; cases n1; rfl
    exact ok_cut I3 (.inr ⟨_, vs, ds, rfl, rfl, n2, n3⟩) p3.gives
  · exact p3.elim
/-- script[:k], of the law's own ints -/
def dScr (i : Nat) (k : Int) (ρ : Rho) : R D :=
  match ρ[i]? with
  | some (.scr ns _) => .ok (.list ((cutD ns none (some k)).map .int)) ρ
  | _ => .bad
theorem cutV_map (ns : List Int) (lo hi : Option Int) : cutV (ns.map V.int) lo hi = (cutD ns lo hi).map V.int := by
  unfold cutV cutD
  simp [List.map_drop, List.map_take]
theorem je_scr (i : Nat) {x : Str} {k : Int} {j : Nat} (hN : X.N[i]? = some x := by rfl) (hv : Vis X.env.scope x := by first | exact Or.inl rfl | exact Or.inr (Or.inl rfl) | exact Or.inr (Or.inr rfl))
    (hd : (x == ("__debug__" : Str)) = false := by decide) (hcd : (x == ("__classdict__" : Str)) = false := by decide) : JE X W (.Subscript (.Name x p3) (.Slice none (some (.Constant (.int k) j p1)) none p2) pos) (dScr i k) := by
  refine ⟨_, pe_slice sl_list (pe_var (i := i) hN hv hd hcd) po_none (po_some pe_int), fun F G H σ ρ Q I p => ?_⟩
  unfold dScr at p
  split at p
  · rename_i ns T e
    obtain ⟨⟨a0, h1, h2⟩, _⟩ := I.sl i _ e
    refine ⟨_, h1, k, rfl, a0, _, rfl, I.scr h2, fun q hq => ?_⟩
    rw [cutV_map]
    exact Gives.lst (o := some (PyData.list ((cutD ns none (some k)).map .int))) ⟨_, rfl, fun G' H' v I' s' r' => p G' H' v I' s' r'⟩ I rfl (Rs.ofInts _) hq
  · exact p.elim
end

/-! ### built-in functions and types of one argument -/
abbrev CRt := List V → Hp → VK → Prop
def B1 (K : PySem.W.Frag) (r : CRt) (f : D → Option D) : Prop := ∀ F G H σ ρ x d (Q : VK), SI K F G H σ ρ → Bw K G H x d → Gives K F G H σ ρ (f d) Q → r [x] H Q
def B2 (K : PySem.W.Frag) (r : CRt) (f : D → D → Option D) : Prop := ∀ F G H σ ρ x y d d' (Q : VK), SI K F G H σ ρ → Rp K G x d → Rp K G y d' → Gives K F G H σ ρ (f d d') Q → r [x, y] H Q
section
variable {X : Cx} {W : WX} {a b c e : Expr} {da db dc : Rho → R D} {pos p1 p2 p3 : Pos} {x : Str}
theorem je_cb1 {r : CRt} {f : D → Option D} {id : String} (hc : CallR X (.builtin id) r) (ok : B1 X.K r f) (hg : Gl X x) (hm : X.mg x = none) (hb : JB X W b db) (hv : bootBuiltins x = some (.builtin id)) (hn : x ≠ "__name__" := by decide) (hdb : (x == ("__debug__" : Str)) = false := by decide)
    (hs : starEach [b] X.env = [(false, eval b X.env)] := by rfl) : JE X W (.Call (.Name x p1) [b] [] pos) (d1 f db) := by
  obtain ⟨tb, hb, kb⟩ := hb
  refine ⟨_, pe_callB hc hg hm hv (pa_cons hb pa_nil hs) hn hdb hs rfl, fun F G H σ ρ Q I p => kb F G H σ ρ _ I (p.bind fun d ρ1 G1 H1 v I1 s1 r1 p1 => ?_)⟩
  exact ok F G1 H1 σ ρ1 v d Q I1 r1 p1.gives
end
end Pf

/-! Pf5: built-in calls, methods, stores. -/
namespace Pf
open PySem PySem.Spec PyProof.Rows L2

/-! ### lists of one kind -/
def intsOf : List D → Option (List Int)
  | [] => some []
  | .int i :: r => (intsOf r).map (i :: ·)
  | _ :: _ => none
def strsOf : List D → Option (List Str)
  | [] => some []
  | .str i :: r => (strsOf r).map (i :: ·)
  | _ :: _ => none
def boolsOf : List D → Option (List Bool)
  | [] => some []
  | .bool i :: r => (boolsOf r).map (i :: ·)
  | _ :: _ => none
theorem intsOf_eq : ∀ {ds : List D} {ns : List Int}, intsOf ds = some ns → ds = ns.map .int
  | [], _, h => by cases h; rfl
  | .int i :: r, _, h => by
    unfold intsOf at h
    cases q : intsOf r with
    | none => rw [q] at h; cases h
    | some m => rw [q] at h; cases h; rw [intsOf_eq q]; rfl
  | .none :: _, _, h => by cases h
  | .bool _ :: _, _, h => by cases h
  | .str _ :: _, _, h => by cases h
  | .list _ :: _, _, h => by cases h
  | .tuple _ :: _, _, h => by cases h
  | .dict _ :: _, _, h => by cases h
theorem strsOf_eq : ∀ {ds : List D} {ns : List Str}, strsOf ds = some ns → ds = ns.map .str
  | [], _, h => by cases h; rfl
  | .str i :: r, _, h => by
    unfold strsOf at h
    cases q : strsOf r with
    | none => rw [q] at h; cases h
    | some m => rw [q] at h; cases h; rw [strsOf_eq q]; rfl
  | .none :: _, _, h => by cases h
  | .bool _ :: _, _, h => by cases h
  | .int _ :: _, _, h => by cases h
  | .list _ :: _, _, h => by cases h
  | .tuple _ :: _, _, h => by cases h
  | .dict _ :: _, _, h => by cases h
theorem boolsOf_eq : ∀ {ds : List D} {ns : List Bool}, boolsOf ds = some ns → ds = ns.map .bool
  | [], _, h => by cases h; rfl
  | .bool i :: r, _, h => by
    unfold boolsOf at h
    cases q : boolsOf r with
    | none => rw [q] at h; cases h
    | some m => rw [q] at h; cases h; rw [boolsOf_eq q]; rfl
  | .none :: _, _, h => by cases h
  | .str _ :: _, _, h => by cases h
  | .int _ :: _, _, h => by cases h
  | .list _ :: _, _, h => by cases h
  | .tuple _ :: _, _, h => by cases h
  | .dict _ :: _, _, h => by cases h
theorem intsOf_map : ∀ ns : List Int, intsOf (ns.map .int) = some ns
  | [] => rfl
  | n :: r => by rw [List.map_cons]; unfold intsOf; rw [intsOf_map r]; rfl
theorem strsOf_map : ∀ ns : List Str, strsOf (ns.map .str) = some ns
  | [] => rfl
  | n :: r => by rw [List.map_cons]; unfold strsOf; rw [strsOf_map r]; rfl
theorem boolsOf_map : ∀ ns : List Bool, boolsOf (ns.map .bool) = some ns
  | [] => rfl
  | n :: r => by rw [List.map_cons]; unfold boolsOf; rw [boolsOf_map r]; rfl

/-! ### what the built-ins answer -/
def dLen : D → Option D
  | .str z => if z.length ≤ sizeLine then some (.int z.length) else none
  | .list ds => some (.int ds.length)
  | .tuple ds => some (.int ds.length)
  | _ => none
def dAbs : D → Option D
  | .int i => some (.int (if i < 0 then -i else i))
  | _ => none
def dOrd : D → Option D
  | .str x => if x.length = 1 then some (.int (x.cps.getD 0 0 : Nat)) else none
  | _ => none
def dInt : D → Option D
  | .int i => some (.int i)
  | .bool k => some (.int (if k then 1 else 0))
  | .str a => if a.length ≤ 640 then (PySem.intText? a).map .int else none
  | _ => none
def dStr : D → Option D
  | .int i => if i.natAbs.log2 < 1920 then some (.str (toString i)) else none
  | _ => none
def dSum : D → Option D
  | .list ds => (intsOf ds).map fun ns => .int ns.sum
  | .tuple ds => (intsOf ds).map fun ns => .int ns.sum
  | _ => none
def dAll : D → Option D
  | .list ds => (boolsOf ds).map fun ns => .bool (ns.all id)
  | _ => none
def dAny : D → Option D
  | .list ds => (boolsOf ds).map fun ns => .bool (ns.any id)
  | _ => none
def maxI : List Int → Int
  | [] => 0
  | [n] => n
  | n :: m :: r => max n (maxI (m :: r))
def minI : List Int → Int
  | [] => 0
  | [n] => n
  | n :: m :: r => min n (minI (m :: r))
def dMax1 : D → Option D
  | .list ds => (intsOf ds).bind fun ns => if ns = [] then none else some (.int (maxI ns))
  | _ => none
def dMin1 : D → Option D
  | .list ds => (intsOf ds).bind fun ns => if ns = [] then none else some (.int (minI ns))
  | _ => none
def dMax2 : D → D → Option D
  | .int i, .int j => some (.int (if j > i then j else i))
  | _, _ => none
def dMin2 : D → D → Option D
  | .int i, .int j => some (.int (if j < i then j else i))
  | _, _ => none
def dTuple : D → Option D
  | .list ds => some (.tuple ds)
  | .tuple ds => some (.tuple ds)
  | _ => none
theorem maxI_mem : ∀ ns : List Int, ns ≠ [] → maxI ns ∈ ns
  | [], h => absurd rfl h
  | [n], _ => by simp [maxI]
  | n :: m :: r, _ => by
    have := maxI_mem (m :: r) (by simp)
    unfold maxI
    rcases Int.le_total (maxI (m :: r)) n with h | h
    · rw [Int.max_eq_left h]; exact List.mem_cons_self
    · rw [Int.max_eq_right h]; exact List.mem_cons_of_mem _ this
theorem maxI_ge : ∀ (ns : List Int) (y : Int), y ∈ ns → y ≤ maxI ns
  | [], _, h => by cases h
  | [n], y, h => by cases h with
    | head => exact Int.le_refl _
    | tail _ h => cases h
  | n :: m :: r, y, h => by
    unfold maxI
    cases h with
    | head => exact Int.le_max_left _ _
    | tail _ h => exact Int.le_trans (maxI_ge (m :: r) y h) (Int.le_max_right _ _)
theorem minI_mem : ∀ ns : List Int, ns ≠ [] → minI ns ∈ ns
  | [], h => absurd rfl h
  | [n], _ => by simp [minI]
  | n :: m :: r, _ => by
    have := minI_mem (m :: r) (by simp)
    unfold minI
    rcases Int.le_total n (minI (m :: r)) with h | h
    · rw [Int.min_eq_left h]; exact List.mem_cons_self
    · rw [Int.min_eq_right h]; exact List.mem_cons_of_mem _ this
theorem minI_le : ∀ (ns : List Int) (y : Int), y ∈ ns → minI ns ≤ y
  | [], _, h => by cases h
  | [n], y, h => by cases h with
    | head => exact Int.le_refl _
    | tail _ h => cases h
  | n :: m :: r, y, h => by
    unfold minI
    cases h with
    | head => exact Int.min_le_left _ _
    | tail _ h => exact Int.le_trans (Int.min_le_right _ _) (minI_le (m :: r) y h)
section
variable {K : PySem.W.Frag}
theorem Gives.no {F : Fx} {G H : Hp} {σ : L2.St} {ρ : Rho} {Q : VK} {P : Prop} (g : Gives K F G H σ ρ none Q) : P := by obtain ⟨d, z, _⟩ := g; cases z
theorem Gives.map {α : Type} {F : Fx} {G H : Hp} {σ : L2.St} {ρ : Rho} {Q : VK} {o : Option α} {f : α → D} (g : Gives K F G H σ ρ (o.map f) Q) : ∃ a, o = some a ∧ Gives K F G H σ ρ (some (f a)) Q := by
  cases o with
  | none => exact g.no
  | some a => exact ⟨a, rfl, g⟩
theorem b1_len : B1 K (fun xs H Q => ∃ x n, xs = [x] ∧ LenV K x H n ∧ Q (.int n) H) dLen := fun F G H σ ρ x d Q I h g => by
  have sH := I.gH
  unfold dLen at g
  split at g
  · obtain rfl := h.str
    split at g
    · rename_i c
      exact ⟨_, _, rfl, ⟨c, rfl⟩, g.here I rfl (.i _)⟩
    · exact g.no
  · obtain ⟨p, vs, rfl, e1, r1⟩ := h.lst sH
    exact ⟨_, _, rfl, .inl ⟨vs, .inl (.inl e1), r1.length.symm⟩, g.here I rfl (.i _)⟩
  · obtain ⟨p, vs, rfl, e1, r1⟩ := h.tup sH
    exact ⟨_, _, rfl, .inr ⟨vs, e1, r1.length.symm⟩, g.here I rfl (.i _)⟩
  · exact g.no
theorem b1_abs : B1 K (fun xs H Q => ∃ i, xs = [.int i] ∧ Q (.int (if i < 0 then -i else i)) H) dAbs := fun F G H σ ρ x d Q I h g => by
  unfold dAbs at g
  split at g
  · obtain rfl := h.int
    exact ⟨_, rfl, g.here I rfl (.i _)⟩
  · exact g.no
theorem b1_ord : B1 K (fun xs H Q => ∃ x, xs = [.str x] ∧ x.length = 1 ∧ Q (.int (x.cps.getD 0 0 : Nat)) H) dOrd := fun F G H σ ρ x d Q I h g => by
  unfold dOrd at g
  split at g
  · obtain rfl := h.str
    split at g
    · rename_i c
      exact ⟨_, rfl, c, g.here I rfl (.i _)⟩
    · exact g.no
  · exact g.no
def rInt : CRt := fun xs H Q => ((∃ i, xs = [.int i] ∧ Q (.int i) H) ∨ ∃ k, xs = [.bl k] ∧ Q (.int (if k then 1 else 0)) H) ∨ (∃ a n, xs = [.str a] ∧ PySem.intText? a = some n ∧ a.length ≤ 640 ∧ Q (.int n) H)
theorem b1_int : B1 K rInt dInt := fun F G H σ ρ x d Q I h g => by
  unfold dInt at g
  split at g
  · obtain rfl := h.int
    exact .inl (.inl ⟨_, rfl, g.here I rfl (.i _)⟩)
  · obtain rfl := h.bool
    exact .inl (.inr ⟨_, rfl, g.here I rfl (.i _)⟩)
  · obtain rfl := h.str
    split at g
    · rename_i c
      obtain ⟨n, e, g⟩ := g.map
      exact .inr ⟨_, _, rfl, e, c, g.here I rfl (.i _)⟩
    · exact g.no
  · exact g.no
theorem b1_str : B1 K (fun xs H Q => ∃ i, xs = [.int i] ∧ i.natAbs.log2 < 1920 ∧ Q (.str (toString i)) H) dStr := fun F G H σ ρ x d Q I h g => by
  unfold dStr at g
  split at g
  · obtain rfl := h.int
    split at g
    · rename_i c
      exact ⟨_, rfl, c, g.here I rfl (.s _)⟩
    · exact g.no
  · exact g.no
def rSumA (K : PySem.W.Frag) : List V → Hp → VK → Prop := fun vs H Q => ∃ (a : Addr) (ns : List Int), vs = [V.ref a] ∧ SqT K H a (ns.map V.int) ∧ Q (.int ns.sum) H
def rSumB (K : PySem.W.Frag) : List V → Hp → VK → Prop := fun vs H Q => rSum K vs H Q ∨ rSumA K vs H Q
theorem sumA_raw {X : Cx} {s : Shared} {a : Addr} {us : List Value} {ns : List Int} {Q : Value → Shared → Prop} {E : Value → Shared → Prop} (hh : X.A.handled = none) (ht : s.heap.IsTuple a us.toArray) (hi : IntsAre us ns)
    (h : ∀ h' tk t', (∀ b o, s.heap.get? b = some o → h'.get? b = some o) → Q (.int ns.sum t') { s with heap := h', toks := tk }) :
    wpAny (model X.prog X.w) X.A (call (.builtin "sum") [.ref a]) Q E s := by
  obtain ⟨xs, hx⟩ := hi.allInts.items
  have hn : numsOf us.toArray.toList = ns := by rw [show us.toArray.toList = us from rfl, hi.numsOf]
  rw [hx] at ht hn
  rw [nums_intItems] at hn
  refine PySem.W.ktm_sumG hh ht fun h' tk t' hk => ?_
  have := h h' tk t' hk
  rw [preSum_eq, List.take_of_length_le (by simp), hn]
  exact this
theorem cr_sumB {X : Cx} (hc : X.calm = true) : CallR X (.builtin "sum") (rSumB X.K) :=
  CallR.or (cr_sum hc) (by
    intro pins s σ H vs us Q I r h
    obtain ⟨a, ns, rfl, hs, q⟩ := h
    obtain ⟨its, rv, hl, _⟩ := I.tuple hs
    rw [Vals.ref1 r]
    exact sumA_raw (I.ok.hd hc) hl rv.ints fun h' tk t' hk => ⟨.int _, H, I.kept hk, ⟨_, rfl⟩, q⟩)
theorem b1_sum : B1 K (rSumB K) dSum := fun F G H σ ρ x d Q I h g => by
  unfold dSum at g
  split at g
  · obtain ⟨p, vs, rfl, e1, r1⟩ := h.lst I.gH
    obtain ⟨ns, e, g⟩ := g.map
    rw [intsOf_eq e] at r1
    exact .inl ⟨p, ns, rfl, by rw [← r1.ints]; exact .inl (.inl e1), g.here I rfl (.i _)⟩
  · obtain ⟨p, vs, rfl, e1, r1⟩ := h.tup I.gH
    obtain ⟨ns, e, g⟩ := g.map
    rw [intsOf_eq e] at r1
    exact .inr ⟨p, ns, rfl, by rw [← r1.ints]; exact e1, g.here I rfl (.i _)⟩
  · exact g.no
theorem b1_all : B1 K (rAll K) dAll := fun F G H σ ρ x d Q I h g => by
  unfold dAll at g
  split at g
  · obtain ⟨p, vs, rfl, e1, r1⟩ := h.lst I.gH
    obtain ⟨ns, e, g⟩ := g.map
    rw [boolsOf_eq e] at r1
    exact ⟨p, ns, rfl, by rw [← r1.bools]; exact .inl (.inl e1), g.here I rfl (.b _)⟩
  · exact g.no
theorem b1_any : B1 K (rAny K) dAny := fun F G H σ ρ x d Q I h g => by
  unfold dAny at g
  split at g
  · obtain ⟨p, vs, rfl, e1, r1⟩ := h.lst I.gH
    obtain ⟨ns, e, g⟩ := g.map
    rw [boolsOf_eq e] at r1
    exact ⟨p, ns, rfl, by rw [← r1.bools]; exact .inl (.inl e1), g.here I rfl (.b _)⟩
  · exact g.no
theorem b1_max : B1 K (rMax K) dMax1 := fun F G H σ ρ x d Q I h g => by
  unfold dMax1 at g
  split at g
  · obtain ⟨p, vs, rfl, e1, r1⟩ := h.lst I.gH
    rename_i ds
    cases e : intsOf ds with
    | none => rw [e] at g; exact g.no
    | some ns =>
      rw [e] at g
      have g : Gives K F G H σ ρ (if ns = [] then none else some (.int (maxI ns))) Q := g
      split at g
      · exact g.no
      rename_i ne
      rw [intsOf_eq e] at r1
      refine ⟨p, ns, rfl, by rw [← r1.ints]; exact .inl (.inl e1), List.length_pos_iff.mpr ne, fun m hm hy => ?_⟩
      obtain rfl : m = maxI ns := Int.le_antisymm (maxI_ge ns m hm) (hy _ (maxI_mem ns ne))
      exact g.here I rfl (.i _)
  · exact g.no
theorem b1_min : B1 K (rMin K) dMin1 := fun F G H σ ρ x d Q I h g => by
  unfold dMin1 at g
  split at g
  · obtain ⟨p, vs, rfl, e1, r1⟩ := h.lst I.gH
    rename_i ds
    cases e : intsOf ds with
    | none => rw [e] at g; exact g.no
    | some ns =>
      rw [e] at g
      have g : Gives K F G H σ ρ (if ns = [] then none else some (.int (minI ns))) Q := g
      split at g
      · exact g.no
      rename_i ne
      rw [intsOf_eq e] at r1
      refine ⟨p, ns, rfl, by rw [← r1.ints]; exact .inl (.inl e1), List.length_pos_iff.mpr ne, fun m hm hy => ?_⟩
      obtain rfl : m = minI ns := Int.le_antisymm (hy _ (minI_mem ns ne)) (minI_le ns m hm)
      exact g.here I rfl (.i _)
  · exact g.no
theorem b1_tuple : B1 K (fun xs H Q => ∃ p ys, xs = [.ref p] ∧ ((SqL K H p ys ∧ ∀ l, H l = none → Q (.ref l) (upd H l (.tup ys))) ∨ (SqT K H p ys ∧ Q (.ref p) H))) dTuple := fun F G H σ ρ x d Q I h g => by
  unfold dTuple at g
  split at g
  · obtain ⟨p, vs, rfl, e1, r1⟩ := h.lst I.gH
    exact ⟨p, vs, rfl, .inl ⟨.inl (.inl e1), fun l hl => g.tup I rfl r1 hl⟩⟩
  · obtain ⟨p, vs, rfl, e1, r1⟩ := id (h.tup I.gH)
    refine ⟨p, vs, rfl, .inr ⟨e1, ?_⟩⟩
    rcases h with h | ⟨_, _, _, _, z, _⟩
    · exact g.here I rfl h
    · cases z
  · exact g.no
theorem b2_max : B2 K (fun xs H Q => ∃ i j, xs = [.int i, .int j] ∧ Q (.int (if j > i then j else i)) H) dMax2 := fun F G H σ ρ x y d d' Q I h h' g => by
  unfold dMax2 at g
  split at g
  · cases h; cases h'
    exact ⟨_, _, rfl, g.here I rfl (.i _)⟩
  · exact g.no
theorem b2_min : B2 K (fun xs H Q => ∃ i j, xs = [.int i, .int j] ∧ Q (.int (if j < i then j else i)) H) dMin2 := fun F G H σ ρ x y d d' Q I h h' g => by
  unfold dMin2 at g
  split at g
  · cases h; cases h'
    exact ⟨_, _, rfl, g.here I rfl (.i _)⟩
  · exact g.no
end
/-! ### isinstance -/
def tyD : D → String
  | .none => "NoneType"
  | .bool _ => "bool"
  | .int _ => "int"
  | .str _ => "str"
  | .list _ => "list"
  | .tuple _ => "tuple"
  | .dict _ => "dict"
def isInt : D → Bool
  | .int _ | .bool _ => true
  | _ => false
def isBool : D → Bool
  | .bool _ => true
  | _ => false
def isStr : D → Bool
  | .str _ => true
  | _ => false
def isTup : D → Bool
  | .tuple _ => true
  | _ => false
def isLst : D → Bool
  | .list _ => true
  | _ => false
theorem tyx_of {K : PySem.W.Frag} {G H : Hp} {x : V} {d : D} (s : Sub G H) (h : Bw K G H x d) : TyX K H x (.type (tyD d)) := by
  cases d with
  | none => obtain rfl := h.none_; exact .base .non
  | bool b => obtain rfl := h.bool; exact .base (.bl _)
  | int b => obtain rfl := h.int; exact .base (.int _)
  | str b => obtain rfl := h.str; exact .base (.str _)
  | list ds => obtain ⟨p, vs, rfl, e1, r1⟩ := h.lst s; exact .base (.lst e1)
  | tuple ds =>
    obtain ⟨p, vs, rfl, e1, r1⟩ := h.tup s
    rcases e1 with (e1 | ⟨o, e1⟩) | ⟨o, its, n, e1, e2, _⟩
    · exact .base (.tup e1)
    · exact .fTuple e1
    · exact .kTuple e1 e2
  | dict ds =>
    rcases h with h | ⟨_, _, _, _, z, _⟩
    · cases h
    · cases z
def KitT (T : String) (f : D → Bool) : Prop := ∀ d, tyD d ≠ "dict" → kitB (tyD d) T = some (f d)
theorem kit_int : KitT "int" isInt := fun d h => by
  cases d with
  | none  => exact (by decide +kernel : kitB "NoneType" "int" = some false)
  | bool _ => exact (by decide +kernel : kitB "bool" "int" = some true)
  | int _ => exact (by decide +kernel : kitB "int" "int" = some true)
  | str _ => exact (by decide +kernel : kitB "str" "int" = some false)
  | list _ => exact (by decide +kernel : kitB "list" "int" = some false)
  | tuple _ => exact (by decide +kernel : kitB "tuple" "int" = some false)
  | dict _ => exact absurd rfl h
theorem kit_bool : KitT "bool" isBool := fun d h => by
  cases d with
  | none  => exact (by decide +kernel : kitB "NoneType" "bool" = some false)
  | bool _ => exact (by decide +kernel : kitB "bool" "bool" = some true)
  | int _ => exact (by decide +kernel : kitB "int" "bool" = some false)
  | str _ => exact (by decide +kernel : kitB "str" "bool" = some false)
  | list _ => exact (by decide +kernel : kitB "list" "bool" = some false)
  | tuple _ => exact (by decide +kernel : kitB "tuple" "bool" = some false)
  | dict _ => exact absurd rfl h
theorem kit_str : KitT "str" isStr := fun d h => by
  cases d with
  | none  => exact (by decide +kernel : kitB "NoneType" "str" = some false)
  | bool _ => exact (by decide +kernel : kitB "bool" "str" = some false)
  | int _ => exact (by decide +kernel : kitB "int" "str" = some false)
  | str _ => exact (by decide +kernel : kitB "str" "str" = some true)
  | list _ => exact (by decide +kernel : kitB "list" "str" = some false)
  | tuple _ => exact (by decide +kernel : kitB "tuple" "str" = some false)
  | dict _ => exact absurd rfl h
theorem kit_tup : KitT "tuple" isTup := fun d h => by
  cases d with
  | none  => exact (by decide +kernel : kitB "NoneType" "tuple" = some false)
  | bool _ => exact (by decide +kernel : kitB "bool" "tuple" = some false)
  | int _ => exact (by decide +kernel : kitB "int" "tuple" = some false)
  | str _ => exact (by decide +kernel : kitB "str" "tuple" = some false)
  | list _ => exact (by decide +kernel : kitB "list" "tuple" = some false)
  | tuple _ => exact (by decide +kernel : kitB "tuple" "tuple" = some true)
  | dict _ => exact absurd rfl h
theorem kit_lst : KitT "list" isLst := fun d h => by
  cases d with
  | none  => exact (by decide +kernel : kitB "NoneType" "list" = some false)
  | bool _ => exact (by decide +kernel : kitB "bool" "list" = some false)
  | int _ => exact (by decide +kernel : kitB "int" "list" = some false)
  | str _ => exact (by decide +kernel : kitB "str" "list" = some false)
  | list _ => exact (by decide +kernel : kitB "list" "list" = some true)
  | tuple _ => exact (by decide +kernel : kitB "tuple" "list" = some false)
  | dict _ => exact absurd rfl h
def dIsi (f : D → Bool) (a : Rho → R D) (ρ : Rho) : R D := (a ρ).bind fun x ρ1 => .ok (.bool (f x)) ρ1
section
variable {X : Cx} {W : WX} {a b c e : Expr} {da db dc : Rho → R D} {pos p1 p2 p3 : Pos} {x : Str}
theorem je_ct1 {r : CRt} {f : D → Option D} {T : String} (hc : CallR X (.type T) r) (ok : B1 X.K r f) (hg : Gl X x) (hm : X.mg x = none) (hb : JB X W b db) (hv : bootBuiltins x = some (.type T)) (hn : x ≠ "__name__" := by decide) (hdb : (x == ("__debug__" : Str)) = false := by decide)
    (hs : starEach [b] X.env = [(false, eval b X.env)] := by rfl) : JE X W (.Call (.Name x p1) [b] [] pos) (d1 f db) := by
  obtain ⟨tb, hb, kb⟩ := hb
  refine ⟨_, pe_callTy hc hg hm hv (pa_cons hb pa_nil hs) hn hdb hs rfl, fun F G H σ ρ Q I p => kb F G H σ ρ _ I (p.bind fun d ρ1 G1 H1 v I1 s1 r1 p1 => ?_)⟩
  exact ok F G1 H1 σ ρ1 v d Q I1 r1 p1.gives
def d2 (f : D → D → Option D) (a b : Rho → R D) (ρ : Rho) : R D := (a ρ).bind fun x ρ1 => (b ρ1).bind fun y ρ2 => lift (f x y) ρ2
theorem je_cb2 {r : CRt} {f : D → D → Option D} {id : String} (hc : CallR X (.builtin id) r) (ok : B2 X.K r f) (hg : Gl X x) (hm : X.mg x = none) (ha : JE X W a da) (hb : JE X W b db) (hv : bootBuiltins x = some (.builtin id)) (hn : x ≠ "__name__" := by decide) (hdb : (x == ("__debug__" : Str)) = false := by decide)
    (hs : starEach [a, b] X.env = (false, eval a X.env) :: starEach [b] X.env := by rfl) (hs2 : starEach [b] X.env = [(false, eval b X.env)] := by rfl) : JE X W (.Call (.Name x p1) [a, b] [] pos) (d2 f da db) := by
  obtain ⟨ta, ha, ka⟩ := ha
  obtain ⟨tb, hb, kb⟩ := hb
  refine ⟨_, pe_callB hc hg hm hv (pa_cons ha (pa_cons hb pa_nil hs2) hs) hn hdb hs (by rw [hs2]; rfl), fun F G H σ ρ Q I p => ka F G H σ ρ _ I (p.bind fun d ρ1 G1 H1 v I1 s1 r1 p1 => ?_)⟩
  refine kb F G1 H1 σ ρ1 _ I1 (p1.bind fun d' ρ2 G2 H2 u I2 s2 r2 p2 => ?_)
  exact ok F G2 H2 σ ρ2 v u d d' Q I2 (r1.mono s2 _ _) r2 p2.gives
theorem je_len (hg : Gl X "len") (hm : X.mg "len" = none) (hb : JB X W b db) (hs : starEach [b] X.env = [(false, eval b X.env)] := by rfl) : JE X W (.Call (.Name "len" p1) [b] [] pos) (d1 dLen db) := je_cb1 call_len b1_len hg hm hb (by rfl) (hs := hs)
theorem je_abs (hg : Gl X "abs") (hm : X.mg "abs" = none) (hb : JB X W b db) (hs : starEach [b] X.env = [(false, eval b X.env)] := by rfl) : JE X W (.Call (.Name "abs" p1) [b] [] pos) (d1 dAbs db) := je_cb1 call_abs b1_abs hg hm hb (by rfl) (hs := hs)
theorem je_ord (hg : Gl X "ord") (hm : X.mg "ord" = none) (hb : JB X W b db) (hs : starEach [b] X.env = [(false, eval b X.env)] := by rfl) : JE X W (.Call (.Name "ord" p1) [b] [] pos) (d1 dOrd db) := je_cb1 call_ord b1_ord hg hm hb (by rfl) (hs := hs)
theorem je_sum (hc : X.calm = true) (hg : Gl X "sum") (hm : X.mg "sum" = none) (hb : JB X W b db) (hs : starEach [b] X.env = [(false, eval b X.env)] := by rfl) : JE X W (.Call (.Name "sum" p1) [b] [] pos) (d1 dSum db) := je_cb1 (cr_sumB hc) b1_sum hg hm hb (by rfl) (hs := hs)
theorem je_all (hc : X.calm = true) (hg : Gl X "all") (hm : X.mg "all" = none) (hb : JB X W b db) (hs : starEach [b] X.env = [(false, eval b X.env)] := by rfl) : JE X W (.Call (.Name "all" p1) [b] [] pos) (d1 dAll db) := je_cb1 (cr_all hc) b1_all hg hm hb (by rfl) (hs := hs)
theorem je_any (hc : X.calm = true) (hg : Gl X "any") (hm : X.mg "any" = none) (hb : JB X W b db) (hs : starEach [b] X.env = [(false, eval b X.env)] := by rfl) : JE X W (.Call (.Name "any" p1) [b] [] pos) (d1 dAny db) := je_cb1 (cr_any hc) b1_any hg hm hb (by rfl) (hs := hs)
theorem je_max1 (hc : X.calm = true) (hg : Gl X "max") (hm : X.mg "max" = none) (hb : JB X W b db) (hs : starEach [b] X.env = [(false, eval b X.env)] := by rfl) : JE X W (.Call (.Name "max" p1) [b] [] pos) (d1 dMax1 db) := je_cb1 (cr_max hc) b1_max hg hm hb (by rfl) (hs := hs)
theorem je_min1 (hc : X.calm = true) (hg : Gl X "min") (hm : X.mg "min" = none) (hb : JB X W b db) (hs : starEach [b] X.env = [(false, eval b X.env)] := by rfl) : JE X W (.Call (.Name "min" p1) [b] [] pos) (d1 dMin1 db) := je_cb1 (cr_min hc) b1_min hg hm hb (by rfl) (hs := hs)
theorem je_max2 (hc : X.calm = true) (hg : Gl X "max") (hm : X.mg "max" = none) (ha : JE X W a da) (hb : JE X W b db) (hs : starEach [a, b] X.env = (false, eval a X.env) :: starEach [b] X.env := by rfl) (hs2 : starEach [b] X.env = [(false, eval b X.env)] := by rfl) : JE X W (.Call (.Name "max" p1) [a, b] [] pos) (d2 dMax2 da db) := je_cb2 (call_max2 hc) b2_max hg hm ha hb (by rfl) (hs := hs) (hs2 := hs2)
theorem je_min2 (hc : X.calm = true) (hg : Gl X "min") (hm : X.mg "min" = none) (ha : JE X W a da) (hb : JE X W b db) (hs : starEach [a, b] X.env = (false, eval a X.env) :: starEach [b] X.env := by rfl) (hs2 : starEach [b] X.env = [(false, eval b X.env)] := by rfl) : JE X W (.Call (.Name "min" p1) [a, b] [] pos) (d2 dMin2 da db) := je_cb2 (call_min2 hc) b2_min hg hm ha hb (by rfl) (hs := hs) (hs2 := hs2)
theorem je_int1 (hg : Gl X "int") (hm : X.mg "int" = none) (hb : JB X W b db) (hs : starEach [b] X.env = [(false, eval b X.env)] := by rfl) : JE X W (.Call (.Name "int" p1) [b] [] pos) (d1 dInt db) := je_ct1 (CallR.or call_int1 call_int_str) b1_int hg hm hb (by rfl) (hs := hs)
theorem je_str1 (hg : Gl X "str") (hm : X.mg "str" = none) (hb : JB X W b db) (hs : starEach [b] X.env = [(false, eval b X.env)] := by rfl) : JE X W (.Call (.Name "str" p1) [b] [] pos) (d1 dStr db) := je_ct1 call_str_int b1_str hg hm hb (by rfl) (hs := hs)
theorem je_tuple (hg : Gl X "tuple") (hm : X.mg "tuple" = none) (hb : JB X W b db) (hs : starEach [b] X.env = [(false, eval b X.env)] := by rfl) : JE X W (.Call (.Name "tuple" p1) [b] [] pos) (d1 dTuple db) := je_ct1 call_tuple_of b1_tuple hg hm hb (by rfl) (hs := hs)
theorem je_isi {T : String} {f : D → Bool} {y : Str} (k : KitT T f) (hg : Gl X "isinstance") (hm : X.mg "isinstance" = none) (hgy : Gl X y) (hmy : X.mg y = none) (ha : JB X W a da) (hvy : bootBuiltins y = some (.type T)) (hny : y ≠ "__name__" := by decide) (hdy : (y == ("__debug__" : Str)) = false := by decide)
    (hs : starEach [a, .Name y p2] X.env = (false, eval a X.env) :: starEach [.Name y p2] X.env := by rfl) (hs2 : starEach [.Name y p2] X.env = [(false, eval (.Name y p2) X.env)] := by rfl) : JE X W (.Call (.Name "isinstance" p1) [a, .Name y p2] [] pos) (dIsi f da) := by
  obtain ⟨ta, ha, ka⟩ := ha
  refine ⟨_, pe_callB call_isi hg hm (by rfl) (pa_cons ha (pa_cons (pe_bltn (v := .ty T) hgy hmy hvy rfl hny hdy) pa_nil hs2) hs) (by decide) (by decide) hs (by rw [hs2]; rfl), fun F G H σ ρ Q I p => ka F G H σ ρ _ I (p.bind fun d ρ1 G1 H1 v I1 s1 r1 p1 => ?_)⟩
  have t := tyx_of I1.gH r1
  have nd : tyD d ≠ "dict" := fun z => by
    cases d with
    | dict ds =>
      rcases r1 with h | ⟨_, _, _, _, z, _⟩
      · cases h
      · cases z
    | none => exact absurd z (by decide : ("NoneType" : String) ≠ "dict")
    | bool _ => exact absurd z (by decide : ("bool" : String) ≠ "dict")
    | int _ => exact absurd z (by decide : ("int" : String) ≠ "dict")
    | str _ => exact absurd z (by decide : ("str" : String) ≠ "dict")
    | list _ => exact absurd z (by decide : ("list" : String) ≠ "dict")
    | tuple _ => exact absurd z (by decide : ("tuple" : String) ≠ "dict")
  exact ⟨v, .ty T, _, _, f d, rfl, .ty T, t, kit_ty (k d nd), p1 G1 H1 _ I1 (Sub.rfl' _) (.b _)⟩
end
end Pf

/-! Pf6: methods, stores, new lists. -/
namespace Pf
open PySem PySem.Spec PyProof.Rows L2

/-! ### ''.join(xs) -/
def dJoin : D → D → Option D
  | .str a, .list ds => (strsOf ds).bind fun ys => if (ys.map (·.length)).sum + ys.length * a.length ≤ 16777216 then some (.str (Txt.join a ys)) else none
  | .str a, .tuple ds => (strsOf ds).bind fun ys => if (ys.map (·.length)).sum + ys.length * a.length ≤ 16777216 then some (.str (Txt.join a ys)) else none
  | _, _ => none
def dJn (a b : Rho → R D) (ρ : Rho) : R D := (a ρ).bind fun x ρ1 =>
  match x with
  | .str z => (b ρ1).bind fun y ρ2 => lift (dJoin (.str z) y) ρ2
  | _ => .bad
/-! ### stores -/
def dApp (i : Nat) (e : Rho → R D) (ρ : Rho) : Out :=
  match ρ.lst? i with
  | none => .bad
  | some _ => (e ρ).out fun d ρ1 =>
    match ρ1.lst? i with
    | some ds => if ds.length < sizeLine then .next (ρ1.put i (ds ++ [d])) else .bad
    | none => .bad
def dExt (i : Nat) (e : Rho → R D) (ρ : Rho) : Out :=
  match ρ.lst? i with
  | none => .bad
  | some _ => (e ρ).out fun d ρ1 =>
    match ρ1.lst? i, d with
    | some ds, .list es => if ds.length + es.length ≤ sizeLine then .next (ρ1.put i (ds ++ es)) else .bad
    | _, _ => .bad
def dPop (i : Nat) (ρ : Rho) : R D :=
  match ρ.lst? i with
  | some ds => match ds[ds.length - 1]? with
    | some d => .ok d (ρ.put i ds.dropLast)
    | none => .bad
  | none => .bad
def dPut (i : Nat) (k e : Rho → R D) (ρ : Rho) : Out := (e ρ).out fun d ρ1 =>
  match ρ1.lst? i with
  | none => .bad
  | some _ => (k ρ1).out fun j ρ2 =>
    match ρ2.lst? i, j with
    | some ds, .int j => match ixN ds.length j with
      | some n => .next (ρ2.put i (ds.set n d))
      | none => .bad
    | _, _ => .bad
def dAug (f : D → D → Option D) (i : Nat) (e : Rho → R D) (ρ : Rho) : Out :=
  match ρ[i]? with
  | some (.imm x) => (e ρ).out fun y ρ1 =>
    match f x y with
    | some d => match ρ1[i]? with
      | some (.io _) => .bad
      | _ => .next (ρ1.set i (.imm d))
    | none => .bad
  | _ => .bad
theorem SPost.bindR {α β : Type} {K : PySem.W.Frag} {mg : Str → Option Value} {F : Fx} {G : Hp} {σ : L2.St} {W : WX} {rel : Rel α β} {D : Ends} {r : R α} {f : α → Rho → Out} {Q1 : β → Hp → Prop} (p : SPost K mg F G W D (r.out f))
    (k : ∀ a ρ1 G1 H1 b, SI K F G1 H1 σ ρ1 → Sub G G1 → rel F σ G1 H1 ρ1 b a → SPost K mg F G1 W D (f a ρ1) → Q1 b H1) : Post K mg F G σ W rel Q1 r := SPost.bind p k
theorem rs_last {K : PySem.W.Frag} {G : Hp} : ∀ {vs : List V} {ds : List D}, Rs K G vs ds → Rs K G vs.dropLast ds.dropLast
  | _, _, .nil => .nil
  | [_], [_], .cons _ .nil => .nil
  | _ :: _ :: _, _ :: _ :: _, .cons h (.cons h2 r) => .cons h (rs_last (.cons h2 r))
section
variable {X : Cx} {W : WX} {a b c e : Expr} {da db dc : Rho → R D} {pos p1 p2 p3 p4 p5 : Pos} {x : Str}
theorem je_join (ha : JE X W a da) (hb : JB X W b db) (hs : starEach [b] X.env = [(false, eval b X.env)] := by rfl) (hbase : attributeBase a "join" X.env (eval a X.env) = eval a X.env := by rfl) (hline : (p1.endLine == pos.line) = true := by rfl) :
    JE X W (.Call (.Attribute a "join" p1) [b] [] pos) (dJn da db) := by
  obtain ⟨ta, ha, ka⟩ := ha
  obtain ⟨tb, hb, kb⟩ := hb
  refine ⟨_, pe_join ha hb hs hbase hline, fun F G H σ ρ Q I p => ka F G H σ ρ _ I (p.bind fun d ρ1 G1 H1 v I1 s1 r1 p1 => ?_)⟩
  cases d with
  | str z =>
    cases r1
    refine ⟨⟨z, rfl⟩, kb F G1 H1 σ ρ1 _ I1 (p1.bind fun d' ρ2 G2 H2 u I2 s2 r2 p2 => ?_)⟩
    obtain ⟨w, ew, p2⟩ := p2.lift
    unfold dJoin at ew
    split at ew
    · rename_i a' ds e1
      cases e1
      cases q : strsOf ds with
      | none => rw [q] at ew; cases ew
      | some ys =>
        rw [q] at ew
        have ew : (if (ys.map (·.length)).sum + ys.length * z.length ≤ 16777216 then some (PyData.str (Txt.join z ys)) else none) = some w := ew
        split at ew
        · rename_i c
          cases ew
          rw [strsOf_eq q] at r2
          obtain ⟨pp, vs, rfl, e1, r3⟩ := r2.lst I2.gH
          exact ⟨z, pp, ys, rfl, rfl, .inl (by rw [← r3.strs]; exact .inl (.inl e1)), c, p2 G2 H2 _ I2 (Sub.rfl' _) (.s _)⟩
        · cases ew
    · rename_i a' ds e1
      cases e1
      cases q : strsOf ds with
      | none => rw [q] at ew; cases ew
      | some ys =>
        rw [q] at ew
        have ew : (if (ys.map (·.length)).sum + ys.length * z.length ≤ 16777216 then some (PyData.str (Txt.join z ys)) else none) = some w := ew
        split at ew
        · rename_i c
          cases ew
          rw [strsOf_eq q] at r2
          obtain ⟨pp, vs, rfl, e1, r3⟩ := r2.tup I2.gH
          exact ⟨z, pp, ys, rfl, rfl, .inr (by rw [← r3.strs]; exact e1), c, p2 G2 H2 _ I2 (Sub.rfl' _) (.s _)⟩
        · cases ew
    · cases ew
  | _ => exact p1.elim
theorem ty_lst {K : PySem.W.Frag} {H : Hp} {a : Addr} {vs : List V} (h : H a = some (.lst vs)) : tyV K "list" (V.ref a) H := .inl ⟨rfl, vs, .inl (.inl h)⟩
theorem js_app (i : Nat) (he : JE X W e da) (hN : X.N[i]? = some x := by rfl) (hv : Vis X.env.scope x := by first | exact Or.inl rfl | exact Or.inr (Or.inl rfl) | exact Or.inr (Or.inr rfl)) (hd : (x == ("__debug__" : Str)) = false := by decide)
    (hcd : (x == ("__classdict__" : Str)) = false := by decide)
    (hbase : attributeBase (.Name x p1) "append" X.env (eval (.Name x p1) X.env) = eval (.Name x p1) X.env := by rfl)
    (hfew : ((backTo p3 (starEach [e] X.env)).all (fun x => !x.1) && (backToKw p3 (keywordEach [] X.env)).all (fun x => x.1.isSome)
      && decide ([e].length + ([] : List Keyword).length + (if ([] : List Keyword).isEmpty then 0 else 1) < 30)) = true := by rfl)
    (hline : (p2.endLine == p3.line) = true := by rfl) (hs : starEach [e] X.env = (false, eval e X.env) :: starEach [] X.env := by rfl)
    (hsw : swapsWith (.Call (.Attribute (.Name x p1) "append" p2) [e] [] p3) none p4.line X.env = pure false := by rfl) : JS X W (.Expr (.Call (.Attribute (.Name x p1) "append" p2) [e] [] p3) p4) (dApp i da) := by
  obtain ⟨t, ht, k⟩ := he
  refine ⟨_, ps_expr (pe_bm PySem.F.plainAttrs_list PySem.F.slot_list_append PySem.F.type_list_append mt_append (pe_var (i := i) hN hv hd hcd) (pa_cons ht pa_nil hs) hbase hfew hline hs rfl) hsw, fun F G H σ ρ D I p => ?_⟩
  unfold dApp at p
  split at p
  · exact p.elim
  rename_i ds0 e0
  obtain ⟨a0, m1, ⟨vs0, m2, _⟩, _⟩ := I.at_ e0
  refine ⟨_, m1, ty_lst m2, k F G H σ ρ _ I (SPost.bind (rel := relE X.K) p fun d ρ1 G1 H1 v I1 s1 r1 p1 => ?_)⟩
  split at p1
  · rename_i ds e1
    obtain ⟨a1, m⟩ := I1.at_ e1
    obtain ⟨n1, ⟨vs, n2, n3⟩, _⟩ := id m
    obtain rfl : a1 = a0 := by rw [m1] at n1; cases n1; rfl
    split at p1
    · rename_i c
      exact ⟨a1, vs, v, rfl, rfl, n2, by rw [n3.length]; exact c, p1 G1 _ _ (I1.mut_ m (n3.app (.cons r1 .nil))) (Sub.rfl' _)⟩
    · exact p1.elim
  · exact p1.elim
theorem js_ext (i : Nat) (he : JB X W e da) (hN : X.N[i]? = some x := by rfl) (hv : Vis X.env.scope x := by first | exact Or.inl rfl | exact Or.inr (Or.inl rfl) | exact Or.inr (Or.inr rfl)) (hd : (x == ("__debug__" : Str)) = false := by decide)
    (hcd : (x == ("__classdict__" : Str)) = false := by decide)
    (hbase : attributeBase (.Name x p1) "extend" X.env (eval (.Name x p1) X.env) = eval (.Name x p1) X.env := by rfl)
    (hfew : ((backTo p3 (starEach [e] X.env)).all (fun x => !x.1) && (backToKw p3 (keywordEach [] X.env)).all (fun x => x.1.isSome)
      && decide ([e].length + ([] : List Keyword).length + (if ([] : List Keyword).isEmpty then 0 else 1) < 30)) = true := by rfl)
    (hline : (p2.endLine == p3.line) = true := by rfl) (hs : starEach [e] X.env = (false, eval e X.env) :: starEach [] X.env := by rfl)
    (hsw : swapsWith (.Call (.Attribute (.Name x p1) "extend" p2) [e] [] p3) none p4.line X.env = pure false := by rfl) : JS X W (.Expr (.Call (.Attribute (.Name x p1) "extend" p2) [e] [] p3) p4) (dExt i da) := by
  obtain ⟨t, ht, k⟩ := he
  refine ⟨_, ps_expr (pe_bm PySem.F.plainAttrs_list PySem.F.slot_list_extend PySem.F.type_list_extend mt_extend (pe_var (i := i) hN hv hd hcd) (pa_cons ht pa_nil hs) hbase hfew hline hs rfl) hsw, fun F G H σ ρ D I p => ?_⟩
  unfold dExt at p
  split at p
  · exact p.elim
  rename_i ds0 e0
  obtain ⟨a0, m1, ⟨vs0, m2, _⟩, _⟩ := I.at_ e0
  refine ⟨_, m1, ty_lst m2, k F G H σ ρ _ I (SPost.bind (rel := relB X.K) p fun d ρ1 G1 H1 v I1 s1 r1 p1 => ?_)⟩
  split at p1
  · rename_i ds es e1
    obtain ⟨a1, m⟩ := I1.at_ e1
    obtain ⟨n1, ⟨vs, n2, n3⟩, _⟩ := id m
    obtain rfl : a1 = a0 := by rw [m1] at n1; cases n1; rfl
    obtain ⟨b, zs, rfl, z2, z3⟩ := Bw.lst r1 I1.gH
    split at p1
    · rename_i c
      exact ⟨a1, b, vs, zs, rfl, rfl, n2, z2, by rw [n3.length, z3.length]; exact c, p1 G1 _ _ (I1.mut_ m (n3.app z3)) (Sub.rfl' _)⟩
    · exact p1.elim
  · exact p1.elim
theorem je_pop (i : Nat) (hN : X.N[i]? = some x := by rfl) (hv : Vis X.env.scope x := by first | exact Or.inl rfl | exact Or.inr (Or.inl rfl) | exact Or.inr (Or.inr rfl)) (hd : (x == ("__debug__" : Str)) = false := by decide)
    (hcd : (x == ("__classdict__" : Str)) = false := by decide)
    (hbase : attributeBase (.Name x p1) "pop" X.env (eval (.Name x p1) X.env) = eval (.Name x p1) X.env := by rfl) (hline : (p2.endLine == p3.line) = true := by rfl) : JE X W (.Call (.Attribute (.Name x p1) "pop" p2) [] [] p3) (dPop i) := by
  refine ⟨_, pe_bm0 PySem.F.plainAttrs_list PySem.F.slot_list_pop PySem.F.type_list_pop mt_pop (pe_var (i := i) hN hv hd hcd) hbase hline, fun F G H σ ρ Q I p => ?_⟩
  unfold dPop at p
  split at p
  · rename_i ds e0
    obtain ⟨a0, m⟩ := I.at_ e0
    obtain ⟨m1, ⟨vs, m2, m3⟩, _⟩ := id m
    split at p
    · rename_i d e1
      obtain ⟨v, q1, q2⟩ := m3.get e1
      exact ⟨_, m1, ty_lst m2, a0, vs, v, rfl, rfl, m2, by rw [m3.length]; exact q1, p G _ _ (I.mut_ m (rs_last m3)) (Sub.rfl' _) q2⟩
    · exact p.elim
  · exact p.elim
theorem js_put (i : Nat) {k : Expr} {dk : Rho → R D} (he : JE X W e da) (hk : JE X W k dk) (hN : X.N[i]? = some x := by rfl) (hv : Vis X.env.scope x := by first | exact Or.inl rfl | exact Or.inr (Or.inl rfl) | exact Or.inr (Or.inr rfl)) (hd : (x == ("__debug__" : Str)) = false := by decide)
    (hcd : (x == ("__classdict__" : Str)) = false := by decide)
    (has : ∀ v, assign (.Subscript (.Name x p1) k p2) X.env v = (do
      let ov ← holding [v] (eval (.Name x p1) X.env)
      let iv ← holding [v, ov] (eval k X.env)
      standAt p2
      holding [v, ov, iv] (setItem ov iv v)
      release [v, ov, iv] []) := by intro _; rfl)
    (hs : swapsWithSole [.Subscript (.Name x p1) k p2] e p3.line X.env = pure false := by rfl) (hw : swappedStores [.Subscript (.Name x p1) k p2] e X.env = pure none := by rfl)
    (h1 : (assignEach [.Subscript (.Name x p1) k p2] X.env).map (·.2) = [assign (.Subscript (.Name x p1) k p2) X.env] := by rfl) : JS X W (.Assign [.Subscript (.Name x p1) k p2] e p3) (dPut i dk da) := by
  obtain ⟨t, ht, kt⟩ := he
  obtain ⟨u, hu, ku⟩ := hk
  refine ⟨_, ps_asg ht (pg_sub (pe_var (i := i) hN hv hd hcd) hu set_list has) hs hw h1, fun F G H σ ρ D I p => kt F G H σ ρ _ I (SPost.bind (rel := relE X.K) p fun d ρ1 G1 H1 v I1 s1 r1 p1 => ?_)⟩
  split at p1
  · exact p1.elim
  rename_i ds0 e0
  obtain ⟨a0, m1, _⟩ := I1.at_ e0
  refine ⟨_, m1, ku F G1 H1 σ ρ1 _ I1 (SPost.bind (rel := relE X.K) p1 fun j ρ2 G2 H2 w I2 s2 r2 p2 => ?_)⟩
  split at p2
  · rename_i ds jj e1
    obtain ⟨a1, m⟩ := I2.at_ e1
    obtain ⟨n1, ⟨vs, n2, n3⟩, _⟩ := id m
    obtain rfl : a1 = a0 := by rw [m1] at n1; cases n1; rfl
    cases r2
    split at p2
    · rename_i n e2
      exact ⟨a1, vs, jj, n, rfl, rfl, n2, by rw [n3.length]; exact e2, p2 G2 _ _ (I2.mut_ m (n3.set (Rp.mono s2 _ _ r1) n)) (Sub.rfl' _)⟩
    · exact p2.elim
  · exact p2.elim
theorem js_aug {op : Operator} {r : R2} {f : D → D → Option D} (i : Nat) (hN : X.N.Nodup) (ho : OpR X (inplaceOp op) r) (ok : OpOK X.K r f) (he : JB X W e da) (hi : X.N[i]? = some x := by rfl) (hx : Loc X.env.scope x := by first | exact Or.inl rfl | exact Or.inr rfl)
    (hf : X.fn x = true ∨ X.env.scope.names.lookup x = some .local := by first | exact .inl rfl | exact .inr rfl | assumption) : JS X W (.AugAssign (.Name x p1) op e pos) (dAug f i da) := by
  obtain ⟨t, ht, k⟩ := he
  refine ⟨_, ps_aug (i := i) (ti := r) hN hi hx ht (fun pins s σ H x y v u Q I rx ry h => ho pins s σ H x y v u Q I rx ry h) hf, fun F G H σ ρ D I p => ?_⟩
  unfold dAug at p
  split at p
  · rename_i xd e0
    obtain ⟨v, m1, m2⟩ := I.sl i _ e0
    refine ⟨v, m1, k F G H σ ρ _ I (SPost.bind (rel := relB X.K) p fun y ρ1 G1 H1 u I1 s1 r1 p1 => ?_)⟩
    split at p1
    · rename_i d e1
      refine ok F G1 H1 σ ρ1 v u xd y _ I1 (.inl (m2.mono s1 _ _)) r1 ⟨d, e1, fun G2 H2 z I2 s2 r2 => ?_⟩
      split at p1
      · exact p1.elim
      · exact p1 G2 H2 _ (I2.setImm r2) s2
    · exact p1.elim
  · exact p.elim
end
end Pf

/-! Pf7: in, is, count, index, new lists. -/
namespace Pf
open PySem PySem.Spec PyProof.Rows L2

theorem eqV_eqv {K : PySem.W.Frag} {G : Hp} {v w : V} {d d' : D} (h : Rp K G v d) (h' : Rp K G w d') (f : flatD d = true) (f' : flatD d' = true) : eqV v w = PyData.eqv d d' := by
  cases d <;> first | cases f | skip
  all_goals cases d' <;> first | cases f' | skip
  all_goals (cases h; cases h'; simp [eqV, PyData.eqv])
theorem flat_v {K : PySem.W.Frag} {G : Hp} {v : V} {d : D} (h : Rp K G v d) (f : flatD d = true) : flatV v = true := by
  cases d <;> first | (cases h; rfl) | cases f
theorem flat_vs {K : PySem.W.Frag} {G : Hp} : ∀ {vs : List V} {ds : List D}, Rs K G vs ds → ds.all flatD = true → vs.all flatV = true
  | _, _, .nil, _ => rfl
  | _, _, .cons h r, f => by
    have f' : (flatD _ && List.all _ flatD) = true := f
    obtain ⟨f1, f2⟩ := Bool.and_eq_true_iff.mp f'
    show (flatV _ && List.all _ flatV) = true
    rw [flat_v h f1, flat_vs r f2]; rfl
theorem inV_any {K : PySem.W.Frag} {G : Hp} {x : V} {d : D} (h : Rp K G x d) (f : flatD d = true) : ∀ {vs : List V} {ds : List D}, Rs K G vs ds → ds.all flatD = true → inV x vs = ds.any fun y => PyData.eqv y d
  | _, _, .nil, _ => rfl
  | _, _, .cons q r, g => by
    have f' : (flatD _ && List.all _ flatD) = true := g
    obtain ⟨f1, f2⟩ := Bool.and_eq_true_iff.mp f'
    show (eqV _ x || inV x _) = (PyData.eqv _ d || List.any _ _)
    rw [eqV_eqv q h f1 f, inV_any h f r f2]
theorem one_cp {x : Str} (h : x.length = 1) : x = ⟨#[x.cps.getD 0 0]⟩ := by
  obtain ⟨c⟩ := x
  have h : c.size = 1 := h
  obtain ⟨l⟩ := c
  match l, h with
  | [y], _ => rfl
section
variable {X : Cx} {W : WX} {a b c e : Expr} {da db dc : Rho → R D} {pos p1 p2 p3 p4 p5 : Pos} {x : Str}
theorem o_in (hu : X.A.units + 65 < cLine) : JOp X (compareOp .In) dIn := by
  refine ⟨_, OpR.or op_in_sign (OpR.or (op_inD hu) op_in_seq), fun F G H σ ρ x y d1 d2 Q I h1 h2 g => ?_⟩
  unfold dIn at g
  split at g
  · obtain rfl := h1.str
    obtain rfl := h2.str
    split at g
    · rename_i c
      exact .inl ⟨_, _, congrArg V.str (one_cp c), rfl, g.here I rfl (.b _)⟩
    · exact g.no
  · split at g
    · rename_i c
      obtain ⟨c1, c2⟩ := Bool.and_eq_true_iff.mp c
      exact .inr (.inl ⟨d1, _, h1.dp I.gH, h2.dp I.gH, c1, c2, g.here I rfl (.b _)⟩)
    · exact g.no
  · split at g
    · rename_i c
      obtain ⟨c1, c2⟩ := Bool.and_eq_true_iff.mp c
      obtain ⟨p, vs, rfl, e1, r1⟩ := h2.tup I.gH
      rcases h1 with h1 | ⟨_, _, _, _, z, _⟩
      · refine .inr (.inr ⟨p, vs, rfl, .inr e1, flat_v h1 c1, flat_vs r1 c2, ?_⟩)
        have := g.here I rfl (.b _)
        rw [← inV_any h1 c1 r1 c2] at this
        exact this
      · subst z; cases c1
    · exact g.no
  · exact g.no
theorem o_notIn (hu : X.A.units + 65 < cLine) : JOp X (compareOp .NotIn) dNotIn := by
  refine ⟨_, OpR.or op_notIn_sign (OpR.or (op_notInD hu) op_notIn_seq), fun F G H σ ρ x y d1 d2 Q I h1 h2 g => ?_⟩
  unfold dNotIn at g
  obtain ⟨d, e, g⟩ := g.map
  unfold dIn at e
  split at e
  · obtain rfl := h1.str
    obtain rfl := h2.str
    split at e
    · rename_i c
      cases e
      exact .inl ⟨_, _, congrArg V.str (one_cp c), rfl, g.here I rfl (.b _)⟩
    · cases e
  · split at e
    · rename_i c
      cases e
      obtain ⟨c1, c2⟩ := Bool.and_eq_true_iff.mp c
      exact .inr (.inl ⟨d1, _, h1.dp I.gH, h2.dp I.gH, c1, c2, g.here I rfl (.b _)⟩)
    · cases e
  · split at e
    · rename_i c
      cases e
      obtain ⟨c1, c2⟩ := Bool.and_eq_true_iff.mp c
      obtain ⟨p, vs, rfl, e1, r1⟩ := h2.tup I.gH
      rcases h1 with h1 | ⟨_, _, _, _, z, _⟩
      · refine .inr (.inr ⟨p, vs, rfl, .inr e1, flat_v h1 c1, flat_vs r1 c2, ?_⟩)
        have := g.here I rfl (.b _)
        rw [← inV_any h1 c1 r1 c2] at this
        exact this
      · subst z; cases c1
    · cases e
  · cases e
def dIsB : D → D → Option D
  | .bool a, .bool b => some (.bool (decide (a = b)))
  | _, _ => none
def dIsNotB : D → D → Option D
  | .bool a, .bool b => some (.bool (!decide (a = b)))
  | _, _ => none
theorem o_is : JOp X (compareOp .Is) dIsB := ⟨_, op_isBl, fun F G H σ ρ x y d1 d2 Q I h1 h2 g => by
  unfold dIsB at g
  split at g
  · obtain rfl := h1.bool
    obtain rfl := h2.bool
    exact ⟨_, _, rfl, rfl, g.here I rfl (.b _)⟩
  · exact g.no⟩
theorem o_isNot : JOp X (compareOp .IsNot) dIsNotB := ⟨_, op_notBl, fun F G H σ ρ x y d1 d2 Q I h1 h2 g => by
  unfold dIsNotB at g
  split at g
  · obtain rfl := h1.bool
    obtain rfl := h2.bool
    exact ⟨_, _, rfl, rfl, g.here I rfl (.b _)⟩
  · exact g.no⟩
def isNon : D → Bool
  | .none => true
  | _ => false
theorem isNon_v {K : PySem.W.Frag} {G H : Hp} {v : V} {d : D} (h : Bw K G H v d) : decide (v = .non) = isNon d := by
  rcases h with h | ⟨a, vs, ds, rfl, rfl, _⟩
  · cases h <;> simp [isNon]
  · simp [isNon]
def dF (f : D → Bool) (a : Rho → R D) (ρ : Rho) : R D := (a ρ).bind fun d ρ1 => .ok (.bool (f d)) ρ1
theorem je_isN {j : Nat} (ha : JB X W a da) (hm : behindInMarks .Is (.Constant .none j p2) = false := by first | exact nobehind _ (by decide) (by decide) | rfl) : JE X W (.Compare a [.Is] [.Constant .none j p2] pos) (dF isNon da) := by
  obtain ⟨ta, ha, ka⟩ := ha
  refine ⟨_, pe_cmp (pc_isN ha) hm, fun F G H σ ρ Q I p => ka F G H σ ρ _ I (p.bind fun d ρ1 G1 H1 v I1 s1 r1 p1 => ?_)⟩
  have e := isNon_v r1
  show Q (.bl (decide (v = .non))) H1
  rw [e]
  exact p1 G1 H1 _ I1 (Sub.rfl' _) (.b _)
theorem je_notN {j : Nat} (ha : JB X W a da) (hm : behindInMarks .IsNot (.Constant .none j p2) = false := by first | exact nobehind _ (by decide) (by decide) | rfl) : JE X W (.Compare a [.IsNot] [.Constant .none j p2] pos) (dF (fun d => !isNon d) da) := by
  obtain ⟨ta, ha, ka⟩ := ha
  refine ⟨_, pe_cmp (pc_notN ha) hm, fun F G H σ ρ Q I p => ka F G H σ ρ _ I (p.bind fun d ρ1 G1 H1 v I1 s1 r1 p1 => ?_)⟩
  have e := isNon_v r1
  show Q (.bl (!decide (v = .non))) H1
  rw [e]
  exact p1 G1 H1 _ I1 (Sub.rfl' _) (.b _)
theorem jt_isN {j : Nat} (ha : JB X W a da) (hm : behindInMarks .Is (.Constant .none j p2) = false := by first | exact nobehind _ (by decide) (by decide) | rfl) : JT X W (.Compare a [.Is] [.Constant .none j p2] pos) (dBool (dF isNon da)) := by
  obtain ⟨ta, ha, ka⟩ := ha
  refine ⟨_, pt_cmp (pc_isN ha) hm, fun F => rok_B (fun G H σ ρ Q I p => ka F G H σ ρ _ I (p.bind fun d ρ1 G1 H1 v I1 s1 r1 p1 => ?_))⟩
  have e := isNon_v r1
  show Q (.bl (decide (v = .non))) H1
  rw [e]
  exact p1 G1 H1 _ I1 (Sub.rfl' _) (.b _)
theorem jt_notN {j : Nat} (ha : JB X W a da) (hm : behindInMarks .IsNot (.Constant .none j p2) = false := by first | exact nobehind _ (by decide) (by decide) | rfl) : JT X W (.Compare a [.IsNot] [.Constant .none j p2] pos) (dBool (dF (fun d => !isNon d) da)) := by
  obtain ⟨ta, ha, ka⟩ := ha
  refine ⟨_, pt_cmp (pc_notN ha) hm, fun F => rok_B (fun G H σ ρ Q I p => ka F G H σ ρ _ I (p.bind fun d ρ1 G1 H1 v I1 s1 r1 p1 => ?_))⟩
  have e := isNon_v r1
  show Q (.bl (!decide (v = .non))) H1
  rw [e]
  exact p1 G1 H1 _ I1 (Sub.rfl' _) (.b _)

/-! ### x.count(y), x.index(y) -/
def rCntD (K : PySem.W.Frag) : V → List V → Hp → VK → Prop := fun x xs H Q => ∃ (a : Addr) (y : V) (d : PyData) (ds : List PyData), x = V.ref a ∧ xs = [y] ∧ Dp K H (V.ref a) (.list ds) ∧ Dp K H y d ∧
  SeqAt.shaped (.list ds) = true ∧ SeqAt.shaped d = true ∧ Q (.int (ds.countP (fun z => PyData.eqv z d) : Nat)) H
theorem countP_read {f : Value → D} {p : D → Bool} : ∀ (its : List Value), its.countP (fun u => p (f u)) = (its.map f).countP p
  | [] => rfl
  | u :: r => by rw [List.map_cons, List.countP_cons, List.countP_cons, countP_read r]
theorem mt_countD (hu : X.A.units + 65 < cLine) : MtR X "list.count" (rCntD X.K) := by
  intro pins s σ H x xs v us Q I rx rxs h
  obtain ⟨a, y, d, ds, rfl, rfl, hl, hy, sl, sd, q⟩ := h
  cases rx
  obtain ⟨uy, rfl, ry⟩ := rxs.one
  obtain ⟨bs, r1⟩ := Dp.reads I d y uy hy ry
  have hxs : PyData.canLayAll0 ds = true := SeqAt.canLay_of_shaped sl
  have hroom : X.A.units + 1 + min (PyData.depthAll ds) d.depth < cLine := room_in_shaped sd hu
  cases hl with
  | lst hs ha =>
    obtain ⟨its, rv, ⟨⟨cls, dd, data, sls⟩, n, ho, hc, hdn, hdt⟩, hlen⟩ := I.list hs
    simp only at hc hdt
    subst hc hdt
    obtain ⟨as, h4⟩ := Dp.readsAll I ds _ its ha rv
    have hmap : its.map (SeqAt.readOf s.heap) = ds := SeqAt.readsAll_map ds its as hxs h4
    refine call_meets PySem.F.slot_list_count ⟨_, ho, rfl⟩ PySem.F.entry_list_count (PySem.F.args_list_count_2 _ _)
      (SeqAt.list_countAt a its.toArray n dd sls uy (fun u => PyData.eqv (SeqAt.readOf s.heap u) d)) ⟨ho, SeqAt.items_eqAt (vs := its.toArray) (show ReadsAll s.heap its.toArray.toList ds as from h4) r1 hxs (SeqAt.canLay_of_shaped sd) hroom, ?_⟩
    refine ⟨.int (ds.countP (fun z => PyData.eqv z d) : Nat), H, I.tok _, ⟨s.toks, ?_⟩, q⟩
    have e : its.toArray.toList.countP (fun u => PyData.eqv (SeqAt.readOf s.heap u) d) = ds.countP (fun z => PyData.eqv z d) := by
      rw [countP_read (p := fun z => PyData.eqv z d), ← hmap]
    show Value.int ((its.toArray.toList.countP (fun u => PyData.eqv (SeqAt.readOf s.heap u) d) : Nat) : Int) s.toks = _
    rw [e]
def dCount : D → D → Option D
  | .list ds, y => if (SeqAt.shaped (.list ds) && SeqAt.shaped y) = true then some (.int (ds.countP fun z => PyData.eqv z y)) else none
  | _, _ => none
def dIdx : D → D → Option D
  | .list ds, y => if (SeqAt.shaped (.list ds) && SeqAt.shaped y) = true then
      (if ds.findIdx (fun z => PyData.eqv z y) < ds.length then some (.int (ds.findIdx fun z => PyData.eqv z y)) else none) else none
  | _, _ => none
/-- the value is a list, else bad -/
def dOpL (f : D → D → Option D) (a b : Rho → R D) (ρ : Rho) : R D := (a ρ).bind fun x ρ1 =>
  match x with
  | .list ds => (b ρ1).bind fun y ρ2 => lift (f (.list ds) y) ρ2
  | _ => .bad
def MtOK (K : PySem.W.Frag) (r : V → List V → Hp → VK → Prop) (f : D → D → Option D) : Prop :=
  ∀ F G H σ ρ x y ds d (Q : VK), SI K F G H σ ρ → Bw K G H x (.list ds) → Rp K G y d → Gives K F G H σ ρ (f (.list ds) d) Q → r x [y] H Q
theorem mk_count {K : PySem.W.Frag} : MtOK K (rCntD K) dCount := fun F G H σ ρ x y ds d Q I h1 h2 g => by
  obtain ⟨p, vs, rfl, e1, r1⟩ := id (h1.lst I.gH)
  have g : Gives K F G H σ ρ (if (SeqAt.shaped (.list ds) && SeqAt.shaped d) = true then some (.int (ds.countP fun z => PyData.eqv z d)) else none) Q := g
  split at g
  · rename_i c
    obtain ⟨c1, c2⟩ := Bool.and_eq_true_iff.mp c
    exact ⟨p, y, d, ds, rfl, rfl, h1.dp I.gH, (h2.mono I.gH _ _).dp _ _, c1, c2, g.here I rfl (.i _)⟩
  · exact g.no
theorem mk_index {K : PySem.W.Frag} : MtOK K (rIndexD K) dIdx := fun F G H σ ρ x y ds d Q I h1 h2 g => by
  obtain ⟨p, vs, rfl, e1, r1⟩ := id (h1.lst I.gH)
  have g : Gives K F G H σ ρ (if (SeqAt.shaped (.list ds) && SeqAt.shaped d) = true then
      (if ds.findIdx (fun z => PyData.eqv z d) < ds.length then some (.int (ds.findIdx fun z => PyData.eqv z d)) else none) else none) Q := g
  split at g
  · rename_i c
    obtain ⟨c1, c2⟩ := Bool.and_eq_true_iff.mp c
    split at g
    · rename_i c3
      refine ⟨p, y, d, ds, _, _, rfl, rfl, h1.dp I.gH, (h2.mono I.gH _ _).dp _ _, c1, c2, List.getElem?_eq_getElem c3, List.findIdx_getElem (w := c3), fun m z hm hz => ?_, g.here I rfl (.i _)⟩
      have hml : m < ds.length := by omega
      rw [List.getElem?_eq_getElem hml] at hz
      cases hz
      have := List.not_of_lt_findIdx hm
      simpa using this
    · exact g.no
  · exact g.no
/-- as dOpL, the list a slot's own -/
def dOpLO (f : D → D → Option D) (i : Nat) (b : Rho → R D) (ρ : Rho) : R D :=
  match ρ.lst? i with
  | none => .bad
  | some _ => (b ρ).bind fun y ρ2 =>
    match ρ2.lst? i with
    | some ds => lift (f (.list ds) y) ρ2
    | none => .bad
theorem je_mt {r : V → List V → Hp → VK → Prop} {f : D → D → Option D} {name : Str} {id : String} (hm : MtR X id r) (ok : MtOK X.K r f) (slot : PySem.Slot "list" name id) (hty : typeOf (.builtin id) = pure (.type "method_descriptor")) (ha : JE X W a da) (hb : JE X W b db)
    (hbase : attributeBase a name X.env (eval a X.env) = eval a X.env := by rfl)
    (hfew : ((backTo p3 (starEach [b] X.env)).all (fun x => !x.1) && (backToKw p3 (keywordEach [] X.env)).all (fun x => x.1.isSome)
      && decide ([b].length + ([] : List Keyword).length + (if ([] : List Keyword).isEmpty then 0 else 1) < 30)) = true := by rfl)
    (hline : (p2.endLine == p3.line) = true := by rfl) (hs : starEach [b] X.env = (false, eval b X.env) :: starEach [] X.env := by rfl) : JE X W (.Call (.Attribute a name p2) [b] [] p3) (dOpL f da db) := by
  obtain ⟨ta, ha, ka⟩ := ha
  obtain ⟨tb, hb, kb⟩ := hb
  refine ⟨_, pe_bm PySem.F.plainAttrs_list slot hty hm ha (pa_cons hb pa_nil hs) hbase hfew hline hs rfl, fun F G H σ ρ Q I p => ka F G H σ ρ _ I (p.bind fun d ρ1 G1 H1 v I1 s1 r1 p1 => ?_)⟩
  cases d with
  | list ds =>
    have b1 : Bw X.K G1 H1 v (.list ds) := .inl r1
    obtain ⟨pa, vs, rfl, e1, q1⟩ := b1.lst I1.gH
    refine ⟨ty_lst e1, kb F G1 H1 σ ρ1 _ I1 (p1.bind fun y ρ2 G2 H2 w I2 s2 r2 p2 => ?_)⟩
    exact ok F G2 H2 σ ρ2 _ w ds y Q I2 (.inl (Rp.mono s2 _ _ r1)) r2 p2.gives
  | _ => exact p1.elim
theorem je_mtO {r : V → List V → Hp → VK → Prop} {f : D → D → Option D} {name : Str} {id : String} (i : Nat) (hm : MtR X id r) (ok : MtOK X.K r f) (slot : PySem.Slot "list" name id) (hty : typeOf (.builtin id) = pure (.type "method_descriptor")) (hb : JE X W b db)
    (hN : X.N[i]? = some x := by rfl) (hv : Vis X.env.scope x := by first | exact Or.inl rfl | exact Or.inr (Or.inl rfl) | exact Or.inr (Or.inr rfl)) (hd : (x == ("__debug__" : Str)) = false := by decide) (hcd : (x == ("__classdict__" : Str)) = false := by decide)
    (hbase : attributeBase (.Name x p1) name X.env (eval (.Name x p1) X.env) = eval (.Name x p1) X.env := by rfl)
    (hfew : ((backTo p3 (starEach [b] X.env)).all (fun x => !x.1) && (backToKw p3 (keywordEach [] X.env)).all (fun x => x.1.isSome)
      && decide ([b].length + ([] : List Keyword).length + (if ([] : List Keyword).isEmpty then 0 else 1) < 30)) = true := by rfl)
    (hline : (p2.endLine == p3.line) = true := by rfl) (hs : starEach [b] X.env = (false, eval b X.env) :: starEach [] X.env := by rfl) : JE X W (.Call (.Attribute (.Name x p1) name p2) [b] [] p3) (dOpLO f i db) := by
  obtain ⟨tb, hb, kb⟩ := hb
  refine ⟨_, pe_bm PySem.F.plainAttrs_list slot hty hm (pe_var (i := i) hN hv hd hcd) (pa_cons hb pa_nil hs) hbase hfew hline hs rfl, fun F G H σ ρ Q I p => ?_⟩
  unfold dOpLO at p
  split at p
  · exact p.elim
  rename_i ds0 e0
  obtain ⟨a0, m1, ⟨vs0, m2, _⟩, _⟩ := I.at_ e0
  refine ⟨_, m1, ty_lst m2, kb F G H σ ρ _ I (p.bind fun y ρ2 G2 H2 w I2 s2 r2 p2 => ?_)⟩
  split at p2
  · rename_i ds e3
    obtain ⟨a3, n1, ⟨vs, n2, n3⟩, _⟩ := I2.at_ e3
    obtain rfl : a3 = a0 := by rw [m1] at n1; cases n1; rfl
    exact ok F G2 H2 σ ρ2 _ w ds y Q I2 (.inr ⟨_, vs, ds, rfl, rfl, n2, n3⟩) r2 p2.gives
  · exact p2.elim
/-! ### text.index(sign) -/
def dSIdx : D → D → Option D
  | .str a, .str b => (Builtin.Str.occurrences a b 0 a.length 1).head?.map fun i => .int (i : Nat)
  | _, _ => none
def dOpS (f : D → D → Option D) (a b : Rho → R D) (ρ : Rho) : R D := (a ρ).bind fun x ρ1 =>
  match x with
  | .str z => (b ρ1).bind fun y ρ2 => lift (f (.str z) y) ρ2
  | _ => .bad
theorem je_sidx (ha : JE X W a da) (hb : JE X W b db) (hs : starEach [b] X.env = [(false, eval b X.env)] := by rfl) (hbase : attributeBase a "index" X.env (eval a X.env) = eval a X.env := by rfl) (hline : (p1.endLine == pos.line) = true := by rfl) :
    JE X W (.Call (.Attribute a "index" p1) [b] [] pos) (dOpS dSIdx da db) := by
  obtain ⟨ta, ha, ka⟩ := ha
  obtain ⟨tb, hb, kb⟩ := hb
  refine ⟨_, pe_m1 F.slot_str_index F.type_str_index mt_sindex ha hb hs hbase hline, fun F G H σ ρ Q I p => ka F G H σ ρ _ I (p.bind fun d ρ1 G1 H1 v I1 s1 r1 p1 => ?_)⟩
  cases d with
  | str z =>
    cases r1
    refine ⟨⟨z, rfl⟩, kb F G1 H1 σ ρ1 _ I1 (p1.bind fun d' ρ2 G2 H2 u I2 s2 r2 p2 => ?_)⟩
    obtain ⟨w, ew, p2⟩ := p2.lift
    unfold dSIdx at ew
    split at ew
    · rename_i a' b' e1
      cases e1
      cases r2
      cases q : Builtin.Str.occurrences z b' 0 z.length 1 with
      | nil => rw [q] at ew; cases ew
      | cons i rest =>
        rw [q] at ew
        cases ew
        exact ⟨z, b', i, rest, rfl, rfl, q, p2 G2 H2 _ I2 (Sub.rfl' _) (.i _)⟩
    · cases ew
  | _ => exact p1.elim
end
end Pf

/-! Pf8: enumerate over a list, a tuple, a text. -/
namespace Pf
open PySem PySem.Spec PyProof.Rows L2
/-- what a loop runs over -/
inductive Src where
  | l (a : Addr)
  | t (a : Addr)
  | s (x : Str)
def chrs (x : Str) : List V := x.cps.toList.map fun c => V.str ⟨#[c]⟩
def SqS (K : PySem.W.Frag) (H : Hp) : Src → List V → Prop
  | .l a, xs => SqL K H a xs
  | .t a, xs => SqT K H a xs
  | .s x, xs => xs = chrs x
def ItAt (h : Heap) (it : Addr) (i : Nat) : Src → Prop
  | .l a => h.IsListIter it a i
  | .t a => h.IsTupleIter it a i
  | .s x => ∃ t, h.IsStrIter it (strIterType x) x t i
theorem draws_mono {prog : Program} {w : World} {A : Around} {it : Addr} {fp : List Addr} {n : Nat} {P P' : Nat → Value → Prop} {St : Nat → Heap → Prop} (D : Draws prog w A it fp n P St) (k : ∀ i v, P i v → P' i v) : Draws prog w A it fp n P' St :=
  ⟨D.live, D.frame, fun i s Q E hi st hQ => D.item i s Q E hi st fun x h' tk p => hQ x h' tk (k _ _ p), D.done⟩
theorem draws_tuple {prog : Program} {w : World} {A : Around} (hh : A.handled = none) (it l : Addr) (hne : l ≠ it) (items : Array Value) :
    Draws prog w A it [it, l] items.size (fun i v => items[i]? = some v) (fun i h => h.IsTupleIter it l i ∧ h.IsTuple l items) where
  live := fun _ _ st => let ⟨o, ho, _⟩ := st.1; ⟨o, ho⟩
  frame := fun _ _ _ st hk => ⟨st.1.at fun o e => hk it (by simp) o e, let ⟨o, ho, r⟩ := st.2; ⟨o, hk l (by simp) o ho, r⟩⟩
  item := fun i s Q E hi st hQ => by
    refine RZ.nextOf_tuple_item st.1 st.2 (x := items[i]) (by simp [hi]) fun h' hit' hs' => ?_
    exact hQ _ h' s.toks (by simp [hi]) ⟨hit', let ⟨o, ho, r⟩ := st.2; ⟨o, hs'.extBut l o hne ho, r⟩⟩ hs'
  done := fun s Q E st hE => RZ.nextOf_tuple_end hh st.1 st.2 (by simp) hE
theorem draws_str {prog : Program} {w : World} {A : Around} (hh : A.handled = none) (it : Addr) (x : Str) (t : Tok) :
    Draws prog w A it [it] x.cps.size (fun i v => ∃ c u, x.cps[i]? = some c ∧ v = .str ⟨#[c]⟩ u) (fun i h => h.IsStrIter it (strIterType x) x t i) := by
  unfold strIterType
  split
  · exact Draws.strAscii hh it x t
  · exact Draws.strWide hh it x t
theorem vals_back {xs : List V} {us : List Value} {i : Nat} {u : Value} (r : Vals xs us) (h : us[i]? = some u) : ∃ x, xs[i]? = some x ∧ RelV x u := by
  have hi : i < xs.length := by rw [r.length]; exact (List.getElem?_eq_some_iff.mp h).1
  obtain ⟨u', h1, h2⟩ := r.get (List.getElem?_eq_getElem hi)
  rw [h] at h1
  cases h1
  exact ⟨_, List.getElem?_eq_getElem hi, h2⟩
theorem draws_src {X : Cx} {pins : List (Addr × Obj)} {σ : L2.St} {H : Hp} {s : Shared} {A : Around} (I : Inv X pins σ H s) (hh : A.handled = none) {src : Src} {xs : List V} (hq : SqS X.K H src xs) {it : Addr} {i : Nat} (hi : ItAt s.heap it i src) :
    ∃ (fp : List Addr) (St : Nat → Heap → Prop), Draws X.prog X.w A it fp xs.length (fun i v => ∃ x, xs[i]? = some x ∧ RelV x v) St ∧ (∀ j h, St j h → ItAt h it j src) ∧ St i s.heap ∧ it ∈ fp ∧
      (∀ b ∈ fp, b = it ∨ ∃ o, s.heap.get? b = some o ∧ (o.cls = .type "list" ∨ o.cls = .type "tuple")) := by
  cases src with
  | l a =>
    obtain ⟨its, rv, p, hz⟩ := I.list hq
    have hi : s.heap.IsListIter it a i := hi
    obtain ⟨o, ho, hc, hd⟩ := id hi
    obtain ⟨oa, na, ha, hca, _⟩ := id p
    have hne : a ≠ it := fun z => by
      subst z
      rw [ho] at ha
      cases ha
      rw [hc] at hca
      exact absurd hca (by decide)
    refine ⟨[it, a], fun i h => h.IsListIter it a i ∧ h.IsList a its.toArray, draws_mono (by have := Draws.list (prog := X.prog) (w := X.w) hh it a hne its.toArray; rw [show its.toArray.size = xs.length by rw [List.size_toArray, rv.length]] at this; exact this) fun j v e => ?_, fun j h st => st.1, ⟨hi, p.isList⟩, by simp, fun b hb => ?_⟩
    · have e : its[j]? = some v := by simpa using e
      obtain ⟨x, h1, h2⟩ := vals_back rv e
      exact ⟨x, h1, h2⟩
    · have : b = it ∨ b = a := by simpa using hb
      rcases this with z | z
      · exact .inl z
      · exact .inr ⟨oa, by rw [z]; exact ha, .inl hca⟩
  | t a =>
    obtain ⟨its, rv, p, hz⟩ := I.tuple hq
    have hi : s.heap.IsTupleIter it a i := hi
    obtain ⟨o, ho, hc, hd⟩ := id hi
    obtain ⟨oa, ha, hca, na, hda⟩ := id p
    have hne : a ≠ it := fun z => by
      subst z
      rw [ho] at ha
      cases ha
      rw [hc] at hca
      exact absurd hca (by decide)
    refine ⟨[it, a], fun i h => h.IsTupleIter it a i ∧ h.IsTuple a its.toArray, draws_mono (by have := draws_tuple (prog := X.prog) (w := X.w) hh it a hne its.toArray; rw [show its.toArray.size = xs.length by rw [List.size_toArray, rv.length]] at this; exact this) fun j v e => ?_, fun j h st => st.1, ⟨hi, p⟩, by simp, fun b hb => ?_⟩
    · have e : its[j]? = some v := by simpa using e
      obtain ⟨x, h1, h2⟩ := vals_back rv e
      exact ⟨x, h1, h2⟩
    · have : b = it ∨ b = a := by simpa using hb
      rcases this with z | z
      · exact .inl z
      · exact .inr ⟨oa, by rw [z]; exact ha, .inr hca⟩
  | s x =>
    obtain ⟨t, hi⟩ := hi
    have hq : xs = chrs x := hq
    subst hq
    refine ⟨[it], fun i h => h.IsStrIter it (strIterType x) x t i, draws_mono (by have := draws_str (prog := X.prog) (w := X.w) hh it x t; rw [show x.cps.size = (chrs x).length by simp [chrs]] at this; exact this) fun j v e => ?_, fun j h st => ⟨t, st⟩, hi, by simp, fun b hb => .inl (by simpa using hb)⟩
    obtain ⟨c, u, e1, e2⟩ := e
    exact ⟨V.str ⟨#[c]⟩, by simp [chrs, e1], by rw [e2]; exact ⟨u, rfl⟩⟩
/-- what it runs over as it stands at each turn, each item in a new pair -/
def Ites (K : PySem.W.Frag) (src : Src) : It :=
  ⟨fun i H => ∃ (xs : List V) (x : V), SqS K H src xs ∧ xs[i]? = some x, fun i H v H' => ∃ T x, v = .ref T ∧ H T = none ∧ H' = upd H T (.tup [.int (i : Nat), x]) ∧ ∀ xs, SqS K H src xs → xs[i]? = some x, fun i H => ∃ xs : List V, SqS K H src xs ∧ xs.length = i⟩
theorem sqs_inj {X : Cx} {pins : List (Addr × Obj)} {σ : L2.St} {H : Hp} {s : Shared} (I : Inv X pins σ H s) {src : Src} {xs ys : List V} (h1 : SqS X.K H src xs) (h2 : SqS X.K H src ys) : xs = ys := by
  cases src with
  | l a => exact I.list_inj h1 h2
  | t a => exact I.tuple_inj h1 h2
  | s x => exact (show xs = chrs x from h1).trans (show ys = chrs x from h2).symm
theorem ItAt.keep {h h' : Heap} {it : Addr} {i : Nat} {src : Src} (x : ItAt h it i src) (k : ∀ o, h.get? it = some o → h'.get? it = some o) : ItAt h' it i src := by
  cases src with
  | l a => exact (show h.IsListIter it a i from x).at k
  | t a => exact (show h.IsTupleIter it a i from x).at k
  | s z => obtain ⟨t, o, ho, r⟩ := x; exact ⟨t, o, k o ho, r⟩
theorem ItAt.obj {h : Heap} {it : Addr} {i : Nat} {src : Src} (x : ItAt h it i src) : ∃ o, h.get? it = some o ∧ (∀ v, o.data ≠ .cell v) ∧ o.cls ≠ .type "enumerate" ∧ o.cls ≠ .type "zip" := by
  cases src with
  | l a =>
    obtain ⟨o, ho, hc, hd⟩ := x
    refine ⟨o, ho, ?_, by rw [hc]; decide, by rw [hc]; decide⟩
    intro v q
    rw [hd] at q; cases q
  | t a =>
    obtain ⟨o, ho, hc, hd⟩ := x
    refine ⟨o, ho, ?_, by rw [hc]; decide, by rw [hc]; decide⟩
    intro v q
    rw [hd] at q; cases q
  | s z =>
    obtain ⟨t, o, ho, hc, hd⟩ := x
    refine ⟨o, ho, ?_, ?_, ?_⟩
    · intro v q
      rw [hd] at q; cases q
    · rw [hc]; unfold strIterType; split <;> decide
    · rw [hc]; unfold strIterType; split <;> decide
theorem turn_enumS {P : Program} {w : World} {K : PySem.W.Frag} {elts : List Expr} {kk : Nat} {tpos : Pos} (src : Src) (e it : Addr) :
    Turn P w K (.Tuple elts kk tpos) (Ites K src) [e, it] e (fun i h => (∃ old, IsEnum h e it ((i : Nat) : Int) old) ∧ ItAt h it i src ∧ e ≠ it) where
  mem := by simp
  obj := fun i h st b hb => by
    obtain ⟨⟨old, he⟩, hi, _⟩ := st
    obtain ⟨o, ho, hd, _⟩ := hi.obj
    have e' : b = e ∨ b = it := by simpa using hb
    rcases e' with z | z
    · rw [z]; exact ⟨_, he, fun v q => nomatch q⟩
    · rw [z]; exact ⟨o, ho, hd⟩
  keep := fun i h h' st k => let ⟨⟨old, he⟩, hi, hne⟩ := st; ⟨⟨old, k e (by simp) _ he⟩, hi.keep fun o q => k it (by simp) o q, hne⟩
  item := by
    intro X hP hw hK hc i pins s σ H E I hf st hg
    subst hP hw hK
    obtain ⟨⟨old, he⟩, hit, hne⟩ := st
    obtain ⟨xs, x, hq, hx⟩ := hg
    have hlt : i < xs.length := (List.getElem?_eq_some_iff.mp hx).1
    obtain ⟨fp, St, D, dI, st, hif, hfp⟩ := draws_src (A := X.A.in1) I (show X.A.in1.handled = none from I.ok.hd hc) hq hit
    have hef : e ∉ fp := fun z => by
      rcases hfp e z with z | ⟨o, ho, z⟩
      · exact hne z
      · rw [he] at ho
        cases ho
        rcases z with z | z
        · exact absurd (show Value.type "enumerate" = Value.type "list" from z) (by decide)
        · exact absurd (show Value.type "enumerate" = Value.type "tuple" from z) (by decide)
    have hel : e < s.heap.objs.size := Heap.lt_size he
    have hil : it < s.heap.objs.size := by obtain ⟨o, q, _⟩ := hit.obj; exact Heap.lt_size q
    refine wpAny_pyNext_enum_itemD D he st hlt hne hef fun u h' tk hu ho hst' hT hsz hk => ?_
    obtain ⟨x', hx', ru⟩ := hu
    rw [hx] at hx'
    cases hx'
    refine ⟨_, rfl, wpAny_letOwnedTupleGo_enum (s := { s with heap := h', toks := tk + 1 }) ho fun h'' he' sb => ?_⟩
    have hT2 : h''.get? s.heap.objs.size = some { cls := .type "tuple", data := .seq #[.int i tk, u] } := (sb.2 _ (Nat.ne_of_gt hel)).trans hT
    have new : ObjOk X.prog X.w (upd H s.heap.objs.size (.tup [.int (i : Nat), x])) h'' s.heap.objs.size (.tup [.int (i : Nat), x]) :=
      ⟨by show 2 ≤ sizeLine; decide, [.int i tk, u], .cons ⟨_, rfl⟩ (.cons ru .nil), ⟨_, hT2, rfl, _, rfl⟩⟩
    have I1 : Inv X pins σ (upd H s.heap.objs.size (.tup [.int (i : Nat), x])) { s with heap := h'', toks := tk + 1 } :=
      I.turnedNew (ch := [e, it]) (fun b ob hb q => (sb.2 b (fun z => hb (by simp [z]))).trans (hk b ob (fun z => hb (by simp [z])) (fun z => hb (by simp [z])) q)) hf (Nat.le_refl _) new
    refine ⟨.ref s.heap.objs.size, _, I1, rfl, ⟨_, x, rfl, I.hok.fresh (Nat.le_refl _), rfl, fun ys hy => by rw [sqs_inj I hy hq]; exact hx⟩, ⟨⟨u, ?_⟩, (dI _ _ hst').keep fun o q => (sb.2 it (Ne.symm hne)).trans q, hne⟩, fun b hb => ?_⟩
    · have e1 : ((i + 1 : Nat) : Int) = (i : Int) + 1 := by omega
      rw [e1]; exact he'
    · have hb' : b < s.heap.objs.size := by
        have e' : b = e ∨ b = it := by simpa using hb
        rcases e' with z | z
        · rw [z]; exact hel
        · rw [z]; exact hil
      rw [upd_ne (Nat.ne_of_lt hb')]
      exact (hf b hb).1
  done := by
    intro X hP hw hK hc i pins s σ H E I hf st hg
    subst hP hw hK
    obtain ⟨⟨old, he⟩, hit, hne⟩ := st
    obtain ⟨xs, hq, hx⟩ := hg
    subst hx
    obtain ⟨f0, f1, f2, f3, f4, f5⟩ := hf it (by simp)
    obtain ⟨fp, St, D, dI, st, hif, hfp⟩ := draws_src (A := X.A.in1) I (show X.A.in1.handled = none from I.ok.hd hc) hq hit
    exact wpAny_pyNext_enum_endD D he st fun h' eb => ⟨rfl, I.turned (t' := s.toks) (fun b o hb q => eb b o hb q) f0 f1 f3 f4 f5⟩
  self := fun A i s Q E st h => let ⟨⟨_, he⟩, _⟩ := st; wpAny_pyIter_enum he h

theorem meets_enumerate_newT (l : Addr) (items : Array Value) (n : Nat) (dct : Option Addr) (sl : Array (Option Value)) :
    Meets (Builtin.«enumerate.__new__» ⟨[.type "enumerate", .ref l], []⟩) (fun _ R s => s.heap.get? l = some { cls := .type "tuple", dict := dct, data := .seq items n, slots := sl } ∧
      R (.ok (.ret (.ref (s.heap.push { cls := .type "tuple_iterator", data := .fields #[.ref l, .int 0 0] }).objs.size)))
        { s with heap := (s.heap.push { cls := .type "tuple_iterator", data := .fields #[.ref l, .int 0 0] }).push { cls := .type "enumerate", data := .fields #[.none, .bool false, .ref s.heap.objs.size, rawInt 0, .none, .none] } }) :=
  .of_wp fun prog w A R s h => by
    obtain ⟨hp, g, d, tk, os⟩ := s; obtain ⟨hl, h⟩ := h
    have hsub := sub_enumerate
    have hL : Heap.IsTuple (Shared.heap ⟨hp, g, d, tk, os⟩) l items := ⟨_, hl, rfl, n, rfl⟩
    wp_walk using AutoSeq1.wpAny_loadPart' hl
    refine wpAny_stack_any fun st => wpAny_pure ?_
    split
    · rename_i c _ _ _ _ _
      cases (c == Value.type "enumerate")
      · wp_walk using AutoSeq1.wpAny_loadPart' hl, wpAny_pyIter_tuple hL
        exact ⟨_, rfl, h⟩
      · wp_walk using AutoSeq1.wpAny_loadPart' hl, wpAny_pyIter_tuple hL
        exact ⟨_, rfl, h⟩
    · wp_walk using AutoSeq1.wpAny_loadPart' hl, wpAny_pyIter_tuple hL
      exact ⟨_, rfl, h⟩
theorem call_enumerate_tuple {prog : Program} {w : World} {A : Around} {E : Value → Shared → Prop} {s : Shared} {l : Addr} {items : Array Value} {Q : Value → Shared → Prop} (hL : s.heap.IsTuple l items)
    (h : ∀ h', IsEnum h' (s.heap.objs.size + 1) s.heap.objs.size 0 .none → h'.IsTupleIter s.heap.objs.size l 0 → h'.objs.size = s.heap.objs.size + 2 →
      (∀ b o, s.heap.get? b = some o → h'.get? b = some o) → Q (.ref (s.heap.objs.size + 1)) { s with heap := h' }) :
    wpAny (model prog w) A (call (.type "enumerate") [.ref l]) Q E s := by
  obtain ⟨⟨c, dct, dt, sl⟩, hl, hc, n, hd⟩ := hL
  replace hc : c = .type "tuple" := hc
  replace hd : dt = .seq items n := hd
  subst hc hd
  refine callType_new F.called_enumerate (by decide) (F.typeCall_enumerate_1 _) (F.newCall_enumerate_1 _) (fun obj => F.args_object_init_2 obj _) F.entry_enumerate_new
    (meets_enumerate_newT l items n dct sl) ⟨hl, ?_⟩
  have hz : (s.heap.push { cls := .type "tuple_iterator", data := .fields #[.ref l, .int 0 0] }).objs.size = s.heap.objs.size + 1 := Heap.size_push ..
  show _ ∧ _
  rw [hz]
  have he : IsEnum ((s.heap.push { cls := .type "tuple_iterator", data := .fields #[.ref l, .int 0 0] }).push
      { cls := .type "enumerate", data := .fields #[.none, .bool false, .ref s.heap.objs.size, rawInt 0, .none, .none] }) (s.heap.objs.size + 1) s.heap.objs.size 0 .none := by
    have := Heap.get?_push_size (s.heap.push { cls := .type "tuple_iterator", data := .fields #[.ref l, .int 0 0] })
      (o := { cls := .type "enumerate", data := .fields #[.none, .bool false, .ref s.heap.objs.size, rawInt 0, .none, .none] }) rfl
    rw [hz] at this; exact this
  refine ⟨⟨_, he, rfl⟩, h _ he ⟨_, Heap.get?_push_of_some _ (Heap.get?_push_size _ rfl), rfl, rfl⟩ (by rw [Heap.size_push, hz]) fun b o x => Heap.get?_push_of_some _ (Heap.get?_push_of_some _ x)⟩
/-- the source a value is -/
def SrcV : V → Src → Prop
  | .str x, .s y => x = y
  | .ref a, .l b => a = b
  | .ref a, .t b => a = b
  | _, _ => False
theorem SrcV.l {v : V} {a : Addr} (h : SrcV v (.l a)) : v = .ref a := by
  cases v <;> first | exact h.elim | exact congrArg V.ref h
theorem SrcV.t {v : V} {a : Addr} (h : SrcV v (.t a)) : v = .ref a := by
  cases v <;> first | exact h.elim | exact congrArg V.ref h
theorem SrcV.s {v : V} {a : Str} (h : SrcV v (.s a)) : v = .str a := by
  cases v <;> first | exact h.elim | exact congrArg V.str h
def iEnumS (K : PySem.W.Frag) (ta : TA) : TI := fun σ H R => ta σ H fun vs H1 => ∃ v src xs, vs = [v] ∧ SrcV v src ∧ SqS K H1 src xs ∧ R (Ites K src) H1
theorem pi_enumS {X : Cx} {e : Expr} {ta : TA} {p pos tpos : Pos} {elts : List Expr} {kk : Nat} (hg : Gl X "enumerate") (hm : X.mg "enumerate" = none) (ha : PA X [e] ta) (hs : starEach [e] X.env = [(false, eval e X.env)] := by rfl) :
    PI X (.Tuple elts kk tpos) (.Call (.Name "enumerate" p) [e] [] pos) (iEnumS X.K ta) := by
  refine ⟨fun pins s σ H R I h => ?_⟩
  refine Call_ (ld_blt I hg hm boot_enumerate (PyProof.Rows.callWith_type1 (thn (ha.run pos pins s σ H _ I h) fun us s1 ⟨vs, H1, I1, r1, q1⟩ => ?_) hs rfl))
  obtain ⟨v, src, xs, ex, hv, hq, q⟩ := q1
  subst ex
  obtain ⟨u, rfl, r⟩ := r1.one
  have fin : ∀ h', IsEnum h' (s1.heap.objs.size + 1) s1.heap.objs.size 0 .none → ItAt h' s1.heap.objs.size 0 src → (∀ b o, s1.heap.get? b = some o → h'.get? b = some o) →
      wpAny (model X.prog X.w) X.A (pyIter (.ref (s1.heap.objs.size + 1))) (PIE X pins σ (.Tuple elts kk tpos) R) X.xe { s1 with heap := h' } := fun h' he hit hk => by
    have I2 : Inv X pins σ H1 { s1 with heap := h' } := I1.kept (t' := s1.toks) hk
    refine wpAny_pyIter_enum he ⟨s1.heap.objs.size + 1, [s1.heap.objs.size + 1, s1.heap.objs.size], _, _, H1, rfl, I2, turn_enumS src (s1.heap.objs.size + 1) s1.heap.objs.size, ⟨⟨.none, he⟩, hit, Nat.succ_ne_self _⟩, fun b hb => ?_, q⟩
    have e' : b = s1.heap.objs.size + 1 ∨ b = s1.heap.objs.size := by simpa using hb
    have hle : s1.heap.objs.size ≤ b := by
      rcases e' with z | z
      · rw [z]; exact Nat.le_add_right _ _
      · rw [z]; exact Nat.le_refl _
    exact I1.fpOk hle (I1.hok.fresh hle)
  cases src with
  | l a =>
    obtain rfl := hv.l
    cases r
    obtain ⟨its, rv, p', hz⟩ := I1.list hq
    exact call_enumerate_list p'.isList fun h' he hit hsz hk => fin h' he hit hk
  | t a =>
    obtain rfl := hv.t
    cases r
    obtain ⟨its, rv, p', hz⟩ := I1.tuple hq
    exact call_enumerate_tuple (show s1.heap.IsTuple a its.toArray from p') fun h' he hit hsz hk => fin h' he hit hk
  | s x =>
    obtain rfl := hv.s
    obtain ⟨t, rfl⟩ := r
    exact call_enumerate_str fun h' he hit hsz hk => fin h' he ⟨t, hit⟩ hk
theorem walk_enumS {K : PySem.W.Frag} {src : Src} {xs : List V} : Walk (Ites K src) xs.length (fun H => SqS K H src xs) (YPair (fun i => some (.int (i : Nat))) (fun i => xs[i]?)) := by
  refine ⟨fun i _ hi q => ⟨xs, xs[i], q, by simp [hi]⟩, fun _ q => ⟨xs, q, rfl⟩, fun i H v H' _ q y => ?_⟩
  obtain ⟨T, x, h1, h2, h3, h4⟩ := y
  exact ⟨T, .int (i : Nat), x, h1, h2, h3, rfl, h4 xs q⟩
end Pf

/-! Pf9: targets, sources, for. -/
namespace Pf
open PySem PySem.Spec PyProof.Rows L2

/-! ### targets -/
def OutOf (ixs : List Nat) (σ σ' : L2.St) : Prop := σ'.length = σ.length ∧ ∀ j, j ∉ ixs → σ'[j]? = σ[j]?
abbrev Bd := D → Rho → Option Rho
def JG (X : Cx) (tg : Expr) (ixs : List Nat) (b : Bd) : Prop := ∃ g, PG X tg g ∧ ∀ F G H σ ρ v d ρ' (Q : L2.St → Hp → Prop), SI X.K F G H σ ρ → Rp X.K G v d → b d ρ = some ρ' →
  (∀ σ', SI X.K F G H σ' ρ' → OutOf ixs σ σ' → Q σ' H) → g v σ H Q
def JGs (X : Cx) (tgs : List Expr) (ixs : List Nat) (b : List D → Rho → Option Rho) : Prop := ∃ g, PGs X tgs g ∧ ∀ F G H σ ρ vs ds ρ' (Q : L2.St → Hp → Prop), SI X.K F G H σ ρ → Rs X.K G vs ds → b ds ρ = some ρ' →
  (∀ σ', SI X.K F G H σ' ρ' → OutOf ixs σ σ' → Q σ' H) → g vs σ H Q
def bName (i : Nat) : Bd := fun d ρ =>
  match ρ[i]? with
  | some (.io _) => none
  | _ => some (ρ.set i (.imm d))
def bNil : List D → Rho → Option Rho
  | [], ρ => some ρ
  | _ :: _, _ => none
def bCons (a : Bd) (b : List D → Rho → Option Rho) : List D → Rho → Option Rho
  | [], _ => none
  | d :: ds, ρ => (a d ρ).bind fun ρ1 => b ds ρ1
def bTup (b : List D → Rho → Option Rho) : Bd := fun d ρ =>
  match d with
  | .tuple ds => b ds ρ
  | _ => none
section
variable {X : Cx} {W : WX} {pos : Pos} {x : Str}
theorem OutOf.rfl' (ixs : List Nat) (σ : L2.St) : OutOf ixs σ σ := ⟨rfl, fun _ _ => rfl⟩
theorem OutOf.tr {a b : List Nat} {σ σ1 σ2 : L2.St} (h : OutOf a σ σ1) (k : OutOf b σ1 σ2) : OutOf (a ++ b) σ σ2 :=
  ⟨k.1.trans h.1, fun j hj => (k.2 j fun z => hj (List.mem_append_right _ z)).trans (h.2 j fun z => hj (List.mem_append_left _ z))⟩
theorem jg_name (i : Nat) (hN : X.N.Nodup) (hi : X.N[i]? = some x := by rfl) (hx : Loc X.env.scope x := by first | exact Or.inl rfl | exact Or.inr rfl) (hf : X.fn x = true ∨ X.env.scope.names.lookup x = some .local := by first | exact .inl rfl | exact .inr rfl | assumption) :
    JG X (.Name x pos) [i] (bName i) := by
  refine ⟨_, pg_name (i := i) hN hi hx hf, fun F G H σ ρ v d ρ' Q I r e k => ?_⟩
  unfold bName at e
  split at e
  · cases e
  · rename_i hne
    cases e
    refine k _ (I.setImm r) ⟨by simp, fun j hj => ?_⟩
    have : j ≠ i := by simpa using hj
    rw [List.getElem?_set_ne (Ne.symm this)]
theorem jgs_nil : JGs X [] [] bNil := ⟨_, pgs_nil, fun F G H σ ρ vs ds ρ' Q I r e k => by
  cases r with
  | nil => cases e; exact ⟨rfl, k σ I (OutOf.rfl' _ _)⟩
  | cons _ _ => cases e⟩
theorem jgs_cons {e : Expr} {es : List Expr} {ia ib : List Nat} {a : Bd} {b : List D → Rho → Option Rho} (h : JG X e ia a) (h2 : JGs X es ib b)
    (hs : (assignEach (e :: es) X.env).map (·.2) = assign e X.env :: (assignEach es X.env).map (·.2) := by rfl) : JGs X (e :: es) (ia ++ ib) (bCons a b) := by
  obtain ⟨g, hg, kg⟩ := h
  obtain ⟨u, hu, ku⟩ := h2
  refine ⟨_, pgs_cons hg hu hs, fun F G H σ ρ vs ds ρ' Q I r e k => ?_⟩
  cases r with
  | nil => cases e
  | cons r rr =>
    rename_i v vs d ds
    have e : (a d ρ).bind (fun ρ1 => b ds ρ1) = some ρ' := e
    cases q : a d ρ with
    | none => rw [q] at e; cases e
    | some ρ1 =>
      rw [q] at e
      exact ⟨v, vs, rfl, kg F G H σ ρ v d ρ1 _ I r q fun σ1 I1 o1 => ku F G H σ1 ρ1 vs ds ρ' Q I1 rr e fun σ2 I2 o2 => k σ2 I2 (o1.tr o2)⟩
theorem jg_tup {es : List Expr} {ixs : List Nat} {b : List D → Rho → Option Rho} {k : Nat} (hc : X.calm = true) (h : JGs X es ixs b) (hb : ∀ ds ρ ρ', b ds ρ = some ρ' → ds.length = es.length)
    (hn : (assignEach es X.env).length = es.length := by rfl) (hst : (assignEach es X.env).findIdx? (·.1) = none := by rfl) : JG X (.Tuple es k pos) ixs (bTup b) := by
  obtain ⟨g, hg, kg⟩ := h
  refine ⟨_, pg_tup (n := es.length) hc hg hn hst, fun F G H σ ρ v d ρ' Q I r e kk => ?_⟩
  cases d with
  | tuple ds =>
    cases r with
    | t e1 r1 =>
      exact ⟨_, _, rfl, I.gH.seqT e1, by rw [r1.length]; exact hb ds ρ ρ' e, kg F G H σ ρ _ ds ρ' Q I r1 e kk⟩
  | _ => cases e
theorem bCons_len {a : Bd} {b : List D → Rho → Option Rho} {n : Nat} (h : ∀ ds ρ ρ', b ds ρ = some ρ' → ds.length = n) : ∀ ds ρ ρ', bCons a b ds ρ = some ρ' → ds.length = n + 1
  | [], _, _, e => by cases e
  | d :: ds, ρ, ρ', e => by
    have e : (a d ρ).bind (fun ρ1 => b ds ρ1) = some ρ' := e
    cases q : a d ρ with
    | none => rw [q] at e; cases e
    | some ρ1 => rw [q] at e; simp [h ds ρ1 ρ' e]
theorem bNil_len : ∀ ds ρ ρ', bNil ds ρ = some ρ' → ds.length = 0
  | [], _, _, _ => rfl
  | _ :: _, _, _, e => by cases e
end

/-! ### sources -/
/-- the iterator J gives the data ds -/
def IterG (K : PySem.W.Frag) (G : Hp) (J : It) (ds : List D) : Prop := ∃ (Gd : Hp → Prop) (Y : Nat → Hp → V → Hp → Prop), Walk J ds.length Gd Y ∧ (∀ G' H', Sub G G' → Sub G' H' → Gd H') ∧
  ∀ i H x H' d, ds[i]? = some d → Y i H x H' → (H' = H ∧ Rp K G x d) ∨ ∃ T v w d1 d2, x = V.ref T ∧ H T = none ∧ H' = upd H T (.tup [v, w]) ∧ d = .tuple [d1, d2] ∧ Rp K G v d1 ∧ Rp K G w d2
def JI (X : Cx) (W : WX) (tg iter : Expr) (den : Rho → R (List D)) : Prop := ∃ wi, PI X tg iter wi ∧ ∀ F G H σ ρ (Q : It → Hp → Prop), SI X.K F G H σ ρ →
  Post X.K X.mg F G σ W (fun F σ G H ρ J ds => IterG X.K G J ds) Q (den ρ) → wi σ H Q
theorem IterG.step {K : PySem.W.Frag} {F : Fx} {G G1 H H' : Hp} {σ : L2.St} {ρ : Rho} {x : V} {d : D} (I : SI K F G1 H σ ρ) (s : Sub G G1)
    (h : (H' = H ∧ Rp K G x d) ∨ ∃ T v w d1 d2, x = V.ref T ∧ H T = none ∧ H' = upd H T (.tup [v, w]) ∧ d = .tuple [d1, d2] ∧ Rp K G v d1 ∧ Rp K G w d2) :
    ∃ G2, SI K F G2 H' σ ρ ∧ Sub G1 G2 ∧ Rp K G2 x d := by
  rcases h with ⟨rfl, r⟩ | ⟨T, v, w, d1, d2, rfl, hT, rfl, rfl, r1, r2⟩
  · exact ⟨G1, I, Sub.rfl' _, r.mono s _ _⟩
  · have gp : G1 T = none := by
      cases q : G1 T with
      | none => rfl
      | some u => rw [I.gH T u q] at hT; cases hT
    have sn : Sub G1 (upd G1 T (.tup [v, w])) := Sub.new gp
    exact ⟨_, I.alloc hT (fun _ z => by cases z), sn, .t (.inl (.inl upd_same)) (.cons ((r1.mono s _ _).mono sn _ _) (.cons ((r2.mono s _ _).mono sn _ _) .nil))⟩
def seqD : D → Option (List D)
  | .list ds => some ds
  | .tuple ds => some ds
  | .str x => some (x.cps.toList.map fun c => .str ⟨#[c]⟩)
  | _ => none
def dSrcL (a : Rho → R D) (ρ : Rho) : R (List D) := (a ρ).bind fun d ρ1 =>
  match d with
  | .list ds => .ok ds ρ1
  | _ => .bad
def dSrcT (a : Rho → R D) (ρ : Rho) : R (List D) := (a ρ).bind fun d ρ1 =>
  match d with
  | .tuple ds => .ok ds ρ1
  | _ => .bad
def dSrcS (a : Rho → R D) (ρ : Rho) : R (List D) := (a ρ).bind fun d ρ1 =>
  match d with
  | .str x => .ok (x.cps.toList.map fun c => .str ⟨#[c]⟩) ρ1
  | _ => .bad
def numD (i : Nat) : List D → List D
  | [] => []
  | d :: ds => .tuple [.int i, d] :: numD (i + 1) ds
def dSrcE (a : Rho → R D) (ρ : Rho) : R (List D) := (a ρ).bind fun d ρ1 =>
  match seqD d with
  | some ds => .ok (numD 0 ds) ρ1
  | none => .bad
def rgD (lo c : Int) (n : Nat) : List D := (List.range n).map fun i : Nat => .int (lo + (i : Nat) * c)
def dRng1 (a : Rho → R D) (ρ : Rho) : R (List D) := (a ρ).bind fun d ρ1 =>
  match d with
  | .int j => if Rg1 j then .ok (rgD 0 1 j.toNat) ρ1 else .bad
  | _ => .bad
def dRng2 (a b : Rho → R D) (ρ : Rho) : R (List D) := (a ρ).bind fun d ρ1 => (b ρ1).bind fun e ρ2 =>
  match d, e with
  | .int i, .int j => if Rg2 i j then .ok (rgD i 1 (j - i).toNat) ρ2 else .bad
  | _, _ => .bad
/-- range(lo, hi, c) -/
def dRng3 (a b c : Rho → R D) (ρ : Rho) : R (List D) := (a ρ).bind fun d ρ1 => (b ρ1).bind fun e ρ2 => (c ρ2).bind fun f ρ3 =>
  match d, e, f with
  | .int i, .int j, .int k => if k ≠ 0 ∧ k.natAbs < 1073741824 ∧ Builtin.Range.small i j k = true then .ok (rgD i k (Builtin.Range.rangeSize i j k).toNat) ρ3 else .bad
  | _, _, _ => .bad
theorem numD_at : ∀ (ds : List D) (k i : Nat), (numD k ds)[i]? = ds[i]?.map fun d => .tuple [.int ((k + i : Nat) : Int), d]
  | [], _, i => by simp [numD]
  | d :: ds, k, 0 => by simp [numD]
  | d :: ds, k, i + 1 => by
    have := numD_at ds (k + 1) i
    have e : k + 1 + i = k + (i + 1) := by omega
    simp [numD, this, e]
theorem numD_len : ∀ (ds : List D) (k : Nat), (numD k ds).length = ds.length
  | [], _ => rfl
  | _ :: ds, k => by simp [numD, numD_len ds (k + 1)]
section
variable {X : Cx} {W : WX} {pos p1 : Pos} {x : Str} {a b c tg : Expr} {da db dc : Rho → R D}
theorem ji_list (ha : JE X W a da) : JI X W tg a (dSrcL da) := by
  obtain ⟨t, ht, k⟩ := ha
  refine ⟨_, pi_list ht, fun F G H σ ρ Q I p => k F G H σ ρ _ I (p.bind fun d ρ1 G1 H1 v I1 s1 r1 p1 => ?_)⟩
  cases d with
  | list ds =>
    cases r1 with
    | l e r =>
      rename_i ad vs
      refine ⟨ad, rfl, ⟨vs, .inl (.inl (I1.gH _ _ e))⟩, p1 G1 H1 _ I1 (Sub.rfl' _) ⟨fun H => SqL X.K H ad vs, YAt vs, ?_, ?_, ?_⟩⟩
      · rw [← r.length]; exact walk_list
      · exact fun G' H' s s' => .inl (.inl (s' _ _ (s _ _ e)))
      · intro i H x H' d hd y
        obtain ⟨v, h1, h2⟩ := r.get hd
        refine .inl ⟨y.1, ?_⟩
        have := y.2
        rw [h1] at this
        cases this
        exact h2
  | _ => exact p1.elim
theorem ji_tup (ha : JE X W a da) : JI X W tg a (dSrcT da) := by
  obtain ⟨t, ht, k⟩ := ha
  refine ⟨_, pi_tup ht, fun F G H σ ρ Q I p => k F G H σ ρ _ I (p.bind fun d ρ1 G1 H1 v I1 s1 r1 p1 => ?_)⟩
  cases d with
  | tuple ds =>
    cases r1 with
    | t e r =>
      rename_i ad vs
      refine ⟨ad, rfl, ⟨vs, I1.gH.seqT e⟩, p1 G1 H1 _ I1 (Sub.rfl' _) ⟨fun H => SqT X.K H ad vs, YAt vs, ?_, ?_, ?_⟩⟩
      · rw [← r.length]; exact walk_tup
      · exact fun G' H' s s' => s'.seqT (s.seqT e)
      · intro i H x H' d hd y
        obtain ⟨v, h1, h2⟩ := r.get hd
        refine .inl ⟨y.1, ?_⟩
        have := y.2
        rw [h1] at this
        cases this
        exact h2
  | _ => exact p1.elim
theorem ji_str (ha : JE X W a da) : JI X W tg a (dSrcS da) := by
  obtain ⟨t, ht, k⟩ := ha
  refine ⟨_, pi_str ht, fun F G H σ ρ Q I p => k F G H σ ρ _ I (p.bind fun d ρ1 G1 H1 v I1 s1 r1 p1 => ?_)⟩
  cases d with
  | str z =>
    cases r1
    refine ⟨z, rfl, p1 G1 H1 _ I1 (Sub.rfl' _) ⟨fun _ => True, fun i H v H' => H' = H ∧ ∃ c, z.cps[i]? = some c ∧ v = .str ⟨#[c]⟩, ?_, ?_, ?_⟩⟩
    · rw [show (z.cps.toList.map fun c => PyData.str ⟨#[c]⟩).length = z.cps.size by simp]; exact walk_str
    · exact fun G' H' s s' => True.intro
    · intro i H x H' d hd y
      obtain ⟨e, c, h1, h2⟩ := y
      have : d = .str ⟨#[c]⟩ := by
        simp [h1] at hd
        exact hd.symm
      subst this
      exact .inl ⟨e, by rw [h2]; exact .s _⟩
  | _ => exact p1.elim
theorem rgD_walk {K : PySem.W.Frag} {G : Hp} {lo c : Int} {n : Nat} {J : It} (w : Walk J n (fun _ => True) (YFn fun i => .int (lo + (i : Nat) * c))) : IterG K G J (rgD lo c n) := by
  refine ⟨fun _ => True, YFn fun i => .int (lo + (i : Nat) * c), ?_, fun _ _ _ _ => True.intro, fun i H x H' d hd y => ?_⟩
  · rw [show (rgD lo c n).length = n by simp [rgD]]; exact w
  · obtain ⟨e1, e2⟩ := y
    have hi : i < n := by
      have := (List.getElem?_eq_some_iff.mp hd).1
      simpa [rgD] using this
    have : d = .int (lo + (i : Nat) * c) := by
      simp [rgD, hi] at hd
      exact hd.symm
    subst this
    exact .inl ⟨e1, by rw [e2]; exact .i _⟩
theorem ji_rng1 (hg : Gl X "range") (hm : X.mg "range" = none) (ha : JE X W a da) (hs : starEach [a] X.env = [(false, eval a X.env)] := by rfl) : JI X W tg (.Call (.Name "range" p1) [a] [] pos) (dRng1 da) := by
  obtain ⟨t, ht, k⟩ := ha
  refine ⟨_, pi_range1 hg hm (pa_cons ht pa_nil hs) hs, fun F G H σ ρ Q I p => k F G H σ ρ _ I (p.bind fun d ρ1 G1 H1 v I1 s1 r1 p1 => ?_)⟩
  cases d with
  | int j =>
    cases r1
    have p1 : Post X.K X.mg F G1 σ W (fun F σ G H ρ J ds => IterG X.K G J ds) Q (if Rg1 j then .ok (rgD 0 1 j.toNat) ρ1 else .bad) := p1
    split at p1
    · rename_i c
      refine ⟨j, rfl, c.1, c.2, p1 G1 H1 _ I1 (Sub.rfl' _) (rgD_walk ?_)⟩
      have w := walk_range (lo := 0) (n := j.toNat)
      exact w.mono (fun _ h => h) fun i H x H' _ _ y => ⟨y.1, by rw [y.2]; simp⟩
    · exact p1.elim
  | _ => exact p1.elim
theorem ji_rng2 (hg : Gl X "range") (hm : X.mg "range" = none) (ha : JE X W a da) (hb : JE X W b db) (hs : starEach [a, b] X.env = [(false, eval a X.env), (false, eval b X.env)] := by rfl) (hs2 : starEach [b] X.env = [(false, eval b X.env)] := by rfl) :
    JI X W tg (.Call (.Name "range" p1) [a, b] [] pos) (dRng2 da db) := by
  obtain ⟨t, ht, k⟩ := ha
  obtain ⟨u, hu, k2⟩ := hb
  refine ⟨_, pi_range2 hg hm (pa_cons ht (pa_cons hu pa_nil hs2) (by rw [hs, hs2])) hs hs2, fun F G H σ ρ Q I p => k F G H σ ρ _ I (p.bind fun d ρ1 G1 H1 v I1 s1 r1 p1 => k2 F G1 H1 σ ρ1 _ I1 (p1.bind fun e ρ2 G2 H2 w I2 s2 r2 p2 => ?_))⟩
  cases d with
  | int i =>
    cases e with
    | int j =>
      cases r1
      cases r2
      have p2 : Post X.K X.mg F G2 σ W (fun F σ G H ρ J ds => IterG X.K G J ds) Q (if Rg2 i j then .ok (rgD i 1 (j - i).toNat) ρ2 else .bad) := p2
      split at p2
      · rename_i c
        refine ⟨i, j, rfl, c, p2 G2 H2 _ I2 (Sub.rfl' _) (rgD_walk ?_)⟩
        have w := walk_range (lo := i) (n := (j - i).toNat)
        exact w.mono (fun _ h => h) fun i H x H' _ _ y => ⟨y.1, by rw [y.2]; simp⟩
      · exact p2.elim
    | _ => exact p2.elim
  | _ => exact p2.elim
theorem ji_rng3 (hg : Gl X "range") (hm : X.mg "range" = none) (ha : JE X W a da) (hb : JE X W b db) (hc : JE X W c dc) (hs : starEach [a, b, c] X.env = (false, eval a X.env) :: starEach [b, c] X.env := by rfl) (hs2 : starEach [b, c] X.env = (false, eval b X.env) :: starEach [c] X.env := by rfl) (hs3 : starEach [c] X.env = [(false, eval c X.env)] := by rfl) :
    JI X W tg (.Call (.Name "range" p1) [a, b, c] [] pos) (dRng3 da db dc) := by
  obtain ⟨t, ht, k⟩ := ha
  obtain ⟨u, hu, k2⟩ := hb
  obtain ⟨w, hw, k3⟩ := hc
  refine ⟨_, pi_range3 hg hm (pa_cons ht (pa_cons hu (pa_cons hw pa_nil hs3) hs2) hs) hs (by rw [hs2, hs3]; rfl), fun F G H σ ρ Q I p => k F G H σ ρ _ I (p.bind fun d ρ1 G1 H1 v I1 s1 r1 p1 => k2 F G1 H1 σ ρ1 _ I1 (p1.bind fun e ρ2 G2 H2 w I2 s2 r2 p2 => k3 F G2 H2 σ ρ2 _ I2 (p2.bind fun f ρ3 G3 H3 z I3 s3 r3 p3 => ?_)))⟩
  cases d with
  | int i =>
    cases e with
    | int j =>
      cases f with
      | int k =>
        cases r1
        cases r2
        cases r3
        have p3 : Post X.K X.mg F G3 σ W (fun F σ G H ρ J ds => IterG X.K G J ds) Q (if k ≠ 0 ∧ k.natAbs < 1073741824 ∧ Builtin.Range.small i j k = true then .ok (rgD i k (Builtin.Range.rangeSize i j k).toNat) ρ3 else .bad) := p3
        split at p3
        · rename_i c
          exact ⟨i, j, k, _, rfl, ⟨c.1, c.2.1, c.2.2, rangeSize_toNat i j k⟩, p3 G3 H3 _ I3 (Sub.rfl' _) (rgD_walk walk_rangeC)⟩
        · exact p3.elim
      | _ => exact p3.elim
    | _ => exact p3.elim
  | _ => exact p3.elim
theorem ji_enum {elts : List Expr} {kk : Nat} {tpos : Pos} (hg : Gl X "enumerate") (hm : X.mg "enumerate" = none) (ha : JE X W a da) (hs : starEach [a] X.env = [(false, eval a X.env)] := by rfl) :
    JI X W (.Tuple elts kk tpos) (.Call (.Name "enumerate" p1) [a] [] pos) (dSrcE da) := by
  obtain ⟨t, ht, k⟩ := ha
  refine ⟨_, pi_enumS hg hm (pa_cons ht pa_nil hs) hs, fun F G H σ ρ Q I p => k F G H σ ρ _ I (p.bind fun d ρ1 G1 H1 v I1 s1 r1 p1 => ?_)⟩
  have fin : ∀ (src : Src) (xs : List V) (ds : List D), seqD d = some ds → SrcV v src → SqS X.K H1 src xs → Rs X.K G1 xs ds → (∀ G' H', Sub G1 G' → Sub G' H' → SqS X.K H' src xs) → iEnumS X.K (tCons (fun σ H Q => Q v H) tNil) σ H1 Q := fun src xs ds hd hv hq r st => by
    rw [hd] at p1
    refine ⟨v, src, xs, rfl, hv, hq, p1 G1 H1 _ I1 (Sub.rfl' _) ⟨fun H => SqS X.K H src xs, YPair (fun i => some (.int (i : Nat))) (fun i => xs[i]?), ?_, st, fun i H x H' d hd y => ?_⟩⟩
    · rw [numD_len, ← r.length]; exact walk_enumS
    · obtain ⟨T, v1, w1, h1, h2, h3, h4, h5⟩ := y
      rw [numD_at, Nat.zero_add] at hd
      obtain ⟨d', q1, q2⟩ := r.getV h5
      rw [q1] at hd
      cases h4
      cases hd
      exact .inr ⟨T, _, w1, _, d', h1, h2, h3, rfl, .i _, q2⟩
  cases d with
  | list ds =>
    cases r1 with
    | l e r =>
      rename_i ad vs
      exact fin (.l ad) vs ds rfl rfl (.inl (.inl (I1.gH _ _ e))) r fun G' H' s s' => .inl (.inl (s' _ _ (s _ _ e)))
  | tuple ds =>
    cases r1 with
    | t e r =>
      rename_i ad vs
      exact fin (.t ad) vs ds rfl rfl (I1.gH.seqT e) r fun G' H' s s' => s'.seqT (s.seqT e)
  | str z =>
    cases r1
    have cr : ∀ l : List Nat, Rs X.K G1 (l.map fun c => V.str ⟨#[c]⟩) (l.map fun c => .str ⟨#[c]⟩) := fun l => by
      induction l with
      | nil => exact .nil
      | cons c l ih => exact .cons (.s _) ih
    exact fin (.s z) (chrs z) _ rfl rfl rfl (cr _) fun G' H' s s' => rfl
  | _ => exact p1.elim
end

/-! ### for -/
def dLoop (bind : Bd) (body : Rho → Out) : List D → Rho → Out
  | [], ρ => .next ρ
  | d :: ds, ρ =>
    match bind d ρ with
    | none => .bad
    | some ρ1 =>
      match body ρ1 with
      | .next ρ2 => dLoop bind body ds ρ2
      | .cont ρ2 => dLoop bind body ds ρ2
      | .brk ρ2 => .next ρ2
      | o => o
def dFor (it : Rho → R (List D)) (bind : Bd) (body : Rho → Out) (ρ : Rho) : Out := (it ρ).out fun ds ρ1 => dLoop bind body ds ρ1
theorem js_for {X : Cx} {W : WX} {tg iter : Expr} {bodyS : List Stmt} {pos : Pos} {it : Rho → R (List D)} {ixs : List Nat} {bind : Bd} {body : Rho → Out} (hp : PassesOwn (model X.prog X.w) X.A X.env X.xe) (hc : X.calm = true)
    (hi : JI X W tg iter it) (hg : JG X tg ixs bind) (hb : JSs X W bodyS body) (hs : ∀ x, foldedSetIterable iter X.env x = pure x := by intro _; rfl) : JS X W (.For tg iter bodyS [] pos) (dFor it bind body) := by
  obtain ⟨wi, hi, ki⟩ := hi
  obtain ⟨g, hg, kg⟩ := hg
  obtain ⟨tb, hb, kb⟩ := hb
  refine ⟨_, ps_for hp hc hi hg hb hs, fun F G H σ ρ D I p => ki F G H σ ρ _ I (SPost.bind (rel := fun F σ G H ρ J ds => IterG X.K G J ds) p fun ds ρ1 G1 H1 J I1 s1 r1 p1 => ?_)⟩
  obtain ⟨Gd, Y, w, hGd, hY⟩ := r1
  refine for_it w (fun i σ' H' => ∃ G' ρ', SI X.K F G' H' σ' ρ' ∧ Sub G1 G' ∧ SPost X.K X.mg F G' W D (dLoop bind body (ds.drop i) ρ')) ⟨G1, ρ1, I1, Sub.rfl' _, p1⟩ (fun i σ' H' _ ⟨G', ρ', I', s', _⟩ => hGd G' H' s' I'.gH) ?_ ?_
  · intro i x σ' H' H2 hi ⟨G', ρ', I', s', p'⟩ y
    obtain ⟨d, hd⟩ : ∃ d, ds[i]? = some d := ⟨ds[i], List.getElem?_eq_getElem hi⟩
    have ed : ds.drop i = d :: ds.drop (i + 1) := by
      rw [List.drop_eq_getElem_cons hi]
      rw [List.getElem?_eq_getElem hi] at hd
      cases hd
      rfl
    rw [ed] at p'
    obtain ⟨G2, I2, s2, r2⟩ := IterG.step I' s' (hY i H' x H2 d hd y)
    unfold dLoop at p'
    split at p'
    · exact p'.elim
    · rename_i ρ2 hb2
      refine kg F G2 H2 σ' ρ' x d ρ2 _ I2 r2 hb2 fun σ2 I3 _ => ?_
      refine kb F G2 H2 σ2 ρ2 _ I3 ?_
      have p' := SPost.mono s2 p'
      cases q : body ρ2 with
      | next ρ3 => rw [q] at p'; exact fun G3 H3 σ3 I3 s3 => ⟨G3, ρ3, I3, (s'.tr s2).tr s3, SPost.mono s3 p'⟩
      | cont ρ3 => rw [q] at p'; exact fun G3 H3 σ3 I3 s3 => ⟨G3, ρ3, I3, (s'.tr s2).tr s3, SPost.mono s3 p'⟩
      | brk ρ3 => rw [q] at p'; exact p'
      | ret d ρ3 => rw [q] at p'; exact p'
      | retN d ρ3 => rw [q] at p'; exact p'
      | err d ρ3 => rw [q] at p'; exact p'
      | bad => rw [q] at p'; exact p'
  · intro σ' H' ⟨G', ρ', I', s', p'⟩
    rw [List.drop_length] at p'
    exact p' G' H' σ' I' (Sub.rfl' _)
end Pf

/-! Pf10: comprehensions. -/
namespace Pf
open PySem PySem.Spec PyProof.Rows L2

/-! ### slots forgotten and brought back -/
def wipeR (ρ : Rho) : List Nat → Rho
  | [] => ρ
  | v :: vs => (wipeR ρ vs).set v .undef
def backR (ρ ρ' : Rho) : List Nat → Rho
  | [] => ρ'
  | v :: vs => match ρ[v]? with
    | some s => (backR ρ ρ' vs).set v s
    | none => backR ρ ρ' vs
def calmS (ρ : Rho) (vs : List Nat) : Bool := vs.all fun v => match ρ[v]? with
  | some .undef => true
  | some (.imm _) => true
  | none => true
  | _ => false
theorem wipeR_len (ρ : Rho) : ∀ vs, (wipeR ρ vs).length = ρ.length
  | [] => rfl
  | v :: vs => by unfold wipeR; rw [List.length_set, wipeR_len ρ vs]
theorem backR_len (ρ ρ' : Rho) : ∀ vs, (backR ρ ρ' vs).length = ρ'.length
  | [] => rfl
  | v :: vs => by
    unfold backR
    split
    · rw [List.length_set, backR_len ρ ρ' vs]
    · exact backR_len ρ ρ' vs
theorem backR_in {ρ ρ' : Rho} {i : Nat} (hl : ρ.length = ρ'.length) : ∀ {vs : List Nat}, i ∈ vs → (backR ρ ρ' vs)[i]? = ρ[i]?
  | [], h => by cases h
  | v :: vs, h => by
    unfold backR
    by_cases e : v = i
    · subst e
      cases q : ρ[v]? with
      | some s =>
        have hv : v < (backR ρ ρ' vs).length := by rw [backR_len, ← hl]; exact (List.getElem?_eq_some_iff.mp q).1
        rw [List.getElem?_set_self hv]
      | none =>
        have hv : (backR ρ ρ' vs).length ≤ v := by rw [backR_len, ← hl]; exact List.getElem?_eq_none_iff.mp q
        exact List.getElem?_eq_none hv
    · have h' : i ∈ vs := by
        cases h with
        | head => exact absurd rfl e
        | tail _ h => exact h
      cases q : ρ[v]? with
      | some s =>
        show ((backR ρ ρ' vs).set v s)[i]? = ρ[i]?
        rw [List.getElem?_set_ne e]; exact backR_in hl h'
      | none => exact backR_in hl h'
theorem backR_out {ρ ρ' : Rho} {i : Nat} : ∀ {vs : List Nat}, i ∉ vs → (backR ρ ρ' vs)[i]? = ρ'[i]?
  | [], _ => rfl
  | v :: vs, h => by
    unfold backR
    have e : v ≠ i := fun e => h (by rw [e]; exact List.mem_cons_self)
    have h' : i ∉ vs := fun z => h (List.mem_cons_of_mem _ z)
    cases q : ρ[v]? with
    | some s =>
      show ((backR ρ ρ' vs).set v s)[i]? = ρ'[i]?
      rw [List.getElem?_set_ne e]; exact backR_out h'
    | none => exact backR_out h'
theorem wipe_in {σ : L2.St} {i : Nat} : ∀ {vs : List Nat}, i ∈ vs → i < σ.length → (wipe σ vs)[i]? = some none
  | [], h, _ => by cases h
  | v :: vs, h, hl => by
    unfold wipe
    by_cases e : v = i
    · subst e
      rw [List.getElem?_set_self (by rw [wipe_length]; exact hl)]
    · rw [List.getElem?_set_ne e]
      cases h with
      | head => exact absurd rfl e
      | tail _ h => exact wipe_in h hl
theorem wipe_eq {σ σ2 : L2.St} {ixs vs : List Nat} (h : OutOf ixs (wipe σ vs) σ2) (hs : ∀ i ∈ ixs, i ∈ vs) : wipe σ2 vs = wipe σ vs := by
  have hl : σ2.length = σ.length := h.1.trans (wipe_length σ vs)
  refine List.ext_getElem? fun i => ?_
  by_cases hi : i ∈ vs
  · by_cases hlt : i < σ.length
    · rw [wipe_in hi hlt, wipe_in hi (by rw [hl]; exact hlt)]
    · rw [List.getElem?_eq_none (by rw [wipe_length]; omega), List.getElem?_eq_none (by rw [wipe_length]; omega)]
  · rw [wipe_out hi, h.2 i fun z => hi (hs i z)]
section
variable {K : PySem.W.Frag} {F : Fx} {G G1 H H1 : Hp} {σ σ2 : L2.St} {ρ ρ2 : Rho}
theorem SI.undefV (I : SI K F G H σ ρ) (i : Nat) (v : Option V) : SI K F G H (σ.set i v) (ρ.set i .undef) := by
  refine ⟨I.gH, I.gt, I.g0, I.gn, I.h0, I.hn, I.w1, I.w2, I.w3, I.tb, by simp [I.len], fun j s ej => ?_, fun j k b ds1 ds2 e1 e2 s1 s2 => ?_, I.ht, I.w4⟩
  · by_cases hj : j = i
    · subst hj
      have hl : j < ρ.length := by
        have := (List.getElem?_eq_some_iff.mp ej).1
        simpa using this
      rw [List.getElem?_set_self hl] at ej
      cases ej
      trivial
    · rw [List.getElem?_set_ne (Ne.symm hj)] at ej ⊢
      exact I.sl j s ej
  · have nj : ∀ (k : Nat) (ds' : List D), (ρ.set i Slot.undef)[k]? = some (Slot.own ds') → k ≠ i := fun k ds' ek z => by
      subst z
      have hl : k < ρ.length := by
        have := (List.getElem?_eq_some_iff.mp ek).1
        simpa using this
      rw [List.getElem?_set_self hl] at ek
      cases ek
    have n1 := nj j _ e1
    have n2 := nj k _ e2
    rw [List.getElem?_set_ne (Ne.symm n1)] at e1 s1
    rw [List.getElem?_set_ne (Ne.symm n2)] at e2 s2
    exact I.dj j k b _ _ e1 e2 s1 s2
theorem SI.undef (I : SI K F G H σ ρ) (i : Nat) : SI K F G H (σ.set i none) (ρ.set i .undef) := I.undefV i none
theorem SI.wiped (I : SI K F G H σ ρ) : ∀ vs, SI K F G H (wipe σ vs) (wipeR ρ vs)
  | [] => I
  | v :: vs => (SI.wiped I vs).undef v
/-- back in the frame around a comprehension -/
theorem SI.back {vs : List Nat} {F1 : Fx} (I : SI K F1 G H σ ρ) (I2 : SI K F G1 H1 σ2 ρ2) (s : Sub G G1) (hc : calmS ρ vs = true) (hl : σ2.length = σ.length) (ho : ∀ j, j ∉ vs → σ2[j]? = σ[j]?) : SI K F G1 H1 σ (backR ρ ρ2 vs) := by
  have hlen : ρ.length = ρ2.length := by rw [I.len, I2.len, hl]
  have own_out : ∀ i (ds : List D), (backR ρ ρ2 vs)[i]? = some (.own ds) → i ∉ vs := fun i ds e z => by
    rw [backR_in hlen z] at e
    have := List.all_eq_true.mp hc i z
    rw [e] at this
    cases this
  refine ⟨I2.gH, I2.gt, I2.g0, I2.gn, I2.h0, I2.hn, I2.w1, I2.w2, I2.w3, I2.tb, by rw [backR_len, I2.len, hl], fun i t e => ?_, fun i j a ds es e1 e2 s1 s2 => ?_, I2.ht, I2.w4⟩
  · by_cases hi : i ∈ vs
    · rw [backR_in hlen hi] at e
      have c := List.all_eq_true.mp hc i hi
      rw [e] at c
      have x := I.sl i t e
      cases t with
      | undef => trivial
      | imm d => obtain ⟨v, h1, h2⟩ := x; exact ⟨v, h1, h2.mono s _ _⟩
      | own _ => cases c
      | io _ => cases c
      | scr _ _ => cases c
      | exc _ _ _ => cases c
    · rw [backR_out hi] at e
      rw [← ho i hi]
      exact I2.sl i t e
  · have h1 := own_out i _ e1
    have h2 := own_out j _ e2
    rw [backR_out h1] at e1
    rw [backR_out h2] at e2
    rw [← ho i h1] at s1
    rw [← ho j h2] at s2
    exact I2.dj i j a ds es e1 e2 s1 s2
/-! ### a list lent to the frame -/
def Fx.plus (F : Fx) (a : Addr) (vs : List V) : Fx := { F with H0 := upd F.H0 a (HO.lst vs) }
theorem SI.lend (I : SI K F G H σ ρ) {a : Addr} {vs : List V} (ha : H a = some (HO.lst vs)) (hg : G a = none) (hz : F.H0 a = none) (hs : ∀ (i : Nat) (es : List D), ρ[i]? = some (Slot.own es) → σ[i]? ≠ some (some (V.ref a))) : SI K (F.plus a vs) G H σ ρ := by
  refine ⟨I.gH, I.gt, I.g0, fun b o e => ?_, fun b o e h1 => ?_, fun b e => ?_, fun i b e => ?_, I.w2, I.w3, I.tb, I.len, fun i s e => ?_, I.dj, fun b ps e => ?_, I.w4⟩
  · have nb : b ≠ a := fun z => by subst z; rw [hg] at e; cases e
    rcases I.gn b o e with h | h
    · exact .inl h
    · exact .inr (by show upd F.H0 a _ b = none; rw [upd_ne nb]; exact h)
  · have e : upd F.H0 a (HO.lst vs) b = some o := e
    by_cases hb : b = a
    · subst hb; rw [upd_same] at e; cases e; exact ha
    · rw [upd_ne hb] at e; exact I.h0 b o e h1
  · have nb : b ≠ a := fun z => by subst z; rw [ha] at e; cases e
    show upd F.H0 a _ b = none
    rw [upd_ne nb]; exact I.hn b e
  · show upd F.H0 a _ b ≠ none
    by_cases hb : b = a
    · subst hb; rw [upd_same]; intro z; cases z
    · rw [upd_ne hb]; exact I.w1 i b e
  · have x := I.sl i s e
    cases s with
    | own ds =>
      obtain ⟨b, ws, h1, h2, h3, h4, h5⟩ := x
      have nb : b ≠ a := fun z => hs i ds e (by rw [h1, z])
      exact ⟨b, ws, h1, h2, h3, h4, by show upd F.H0 a _ b = none; rw [upd_ne nb]; exact h5⟩
    | _ => exact x
  · have e : upd F.H0 a (HO.lst vs) b = some (HO.tbl ps) := e
    by_cases hb : b = a
    · subst hb; rw [upd_same] at e; cases e
    · rw [upd_ne hb] at e; exact I.ht b ps e
theorem SI.unlend {a : Addr} {vs : List V} (I : SI K (F.plus a vs) G H σ ρ) (hz : F.H0 a = none) (hg : F.G0 a = none) (hw : ∀ i, F.w i ≠ some a) (hT : ∀ p ∈ F.T, p.1 ≠ a) : SI K F G H σ ρ ∧ H a = some (HO.lst vs) ∧ G a = none ∧ ∀ (i : Nat) (es : List D), ρ[i]? = some (Slot.own es) → σ[i]? ≠ some (some (V.ref a)) := by
  have ha : H a = some (HO.lst vs) := I.h0 a _ upd_same hw
  have pa : ∀ b, (F.plus a vs).H0 b = none → F.H0 b = none := fun b e => by
    by_cases hb : b = a
    · subst hb; exact hz
    · have e : upd F.H0 a (HO.lst vs) b = none := e
      rw [upd_ne hb] at e; exact e
  have ga : G a = none := by
    cases q : G a with
    | none => rfl
    | some o =>
      rcases I.gn a o q with h | h
      · have h : F.G0 a = some o := h
        rw [hg] at h; cases h
      · have h : upd F.H0 a (HO.lst vs) a = none := h
        rw [upd_same] at h; cases h
  refine ⟨⟨I.gH, I.gt, I.g0, fun b o e => ?_, fun b o e h1 => ?_, fun b e => pa b (I.hn b e), fun i b e => ?_, I.w2, I.w3, I.tb, I.len, fun i s e => ?_, I.dj, fun b ps e => ?_, I.w4⟩, ha, ga, fun i es e z => ?_⟩
  · rcases I.gn b o e with h | h
    · exact .inl h
    · exact .inr (pa b h)
  · refine I.h0 b o ?_ h1
    have nb : b ≠ a := fun z => by subst z; rw [hz] at e; cases e
    show upd F.H0 a _ b = some o
    rw [upd_ne nb]; exact e
  · intro z
    have h := I.w1 i b e
    have h : upd F.H0 a (HO.lst vs) b ≠ none := h
    have nb : b ≠ a := fun z => by subst z; exact hw i e
    rw [upd_ne nb] at h
    exact h z
  · have x := I.sl i s e
    cases s with
    | own ds =>
      obtain ⟨b, ws, h1, h2, h3, h4, h5⟩ := x
      exact ⟨b, ws, h1, h2, h3, h4, pa b h5⟩
    | _ => exact x
  · have nb : b ≠ a := fun z => by subst z; rw [hz] at e; cases e
    exact I.ht b ps (by show upd F.H0 a _ b = _; rw [upd_ne nb]; exact e)
  · obtain ⟨b, ws, h1, h2, h3, h4, h5⟩ := I.sl i _ e
    rw [z] at h1
    cases h1
    have h5 : upd F.H0 a (HO.lst vs) a = none := h5
    rw [upd_same] at h5
    cases h5
theorem SI.noTab (I : SI K F G H σ ρ) {a : Addr} {vs : List V} (ha : H a = some (HO.lst vs)) : ∀ p ∈ F.T, p.1 ≠ a := fun p hp z => by
  obtain ⟨ps, h1, _⟩ := I.tb p hp
  rw [z, ha] at h1
  cases h1
theorem SI.noW (I : SI K F G H σ ρ) {a : Addr} (hz : F.H0 a = none) : ∀ i, F.w i ≠ some a := fun i e => I.w1 i a e hz
theorem SI.updNew (I : SI K F G H σ ρ) {a : Addr} {ds es : List D} {ws : List V} (n : NewL K F G H σ ρ a ds) (r : Rs K G ws es) : SI K F G (upd H a (.lst ws)) σ ρ ∧ NewL K F G (upd H a (.lst ws)) σ ρ a es := by
  obtain ⟨⟨vs, hv, rv⟩, hg, hz, hs⟩ := n
  have kp : Kp H (upd H a (.lst ws)) := fun b o e n => by
    have nb : b ≠ a := fun z => by subst z; rw [hv] at e; cases e; exact n vs rfl
    rw [upd_ne nb]; exact e
  have nG : ∀ b o, G b = some o → b ≠ a := fun b o e z => by subst z; rw [hg] at e; cases e
  refine ⟨⟨fun b o e => by rw [upd_ne (nG b o e)]; exact I.gH b o e, I.gt, I.g0, I.gn, fun b o e h1 => ?_, fun b e => ?_, I.w1, I.w2, I.w3, tabs_kp I.tb kp, I.len, fun i s e => ?_, I.dj, I.ht, fun i b e => ?_⟩, ⟨⟨ws, upd_same, r⟩, hg, hz, hs⟩⟩
  · have nb : b ≠ a := fun z => by subst z; rw [hz] at e; cases e
    rw [upd_ne nb]; exact I.h0 b o e h1
  · by_cases hb : b = a
    · subst hb; exact hz
    · rw [upd_ne hb] at e; exact I.hn b e
  · have x := I.sl i s e
    cases s with
    | undef => trivial
    | imm d => exact x
    | own ds =>
      obtain ⟨b, us, h1, h2, h3, h4, h5⟩ := x
      have nb : b ≠ a := fun z => hs i ds e (by rw [h1, z])
      exact ⟨b, us, h1, by rw [upd_ne nb]; exact h2, h3, h4, h5⟩
    | io ds =>
      obtain ⟨b, us, h1, h2, h3, h4, h5⟩ := x
      have nb : b ≠ a := fun z => by subst z; exact I.w1 i b h5 hz
      exact ⟨b, us, h1, by rw [upd_ne nb]; exact h2, h3, h4, h5⟩
    | scr ns T =>
      obtain ⟨⟨b, h1, h2⟩, hT⟩ := x
      refine ⟨⟨b, h1, ?_⟩, hT⟩
      rcases h2 with (⟨o, h2⟩ | h2) | h2
      · have nb : b ≠ a := fun z => by subst z; rw [hv] at h2; cases h2
        exact .inl (.inl ⟨o, by rw [upd_ne nb]; exact h2⟩)
      · exact .inl (.inr h2)
      · exact .inr h2
    | exc b d fs =>
      refine ⟨x.1, x.2.keep (Sub.rfl' _) fun c us e => ?_⟩
      have nb : c ≠ a := fun z => by subst z; rw [hv] at e; cases e
      rw [upd_ne nb]; exact e
  · obtain ⟨us, h⟩ := I.w4 i b e
    have nb : b ≠ a := fun z => by subst z; exact I.w1 i b e hz
    exact ⟨us, by rw [upd_ne nb]; exact h⟩
end

/-! ### comprehensions -/
abbrev W0 : WX := fun _ _ _ _ => False
def JTs (X : Cx) (ifs : List Expr) (den : Rho → R Bool) : Prop := ∃ t, PTs X ifs t ∧ ∀ F, ROK X.K X.mg F W0 relT t den
def dYes (ρ : Rho) : R Bool := .ok true ρ
theorem jts_nil {X : Cx} : JTs X [] dYes := ⟨_, pts_nil, fun F G H σ ρ Q I p => p G H true I (Sub.rfl' G) rfl⟩
theorem jts_one {X : Cx} {c : Expr} {dc : Rho → R Bool} (h : JT X W0 c dc) : JTs X [c] dc := let ⟨t, ht, k⟩ := h; ⟨t, pts_one ht, k⟩
def dLcGo (vs : List Nat) (bind : Bd) (cond : Rho → R Bool) (elt : Rho → R D) : List D → Rho → List D → R (List D)
  | [], ρ, acc => .ok acc ρ
  | d :: ds, ρ, acc =>
    match bind d (wipeR ρ vs) with
    | none => .bad
    | some ρ1 =>
      match cond ρ1 with
      | .ok true ρ2 =>
        match elt ρ2 with
        | .ok y ρ3 => if acc.length < sizeLine then dLcGo vs bind cond elt ds (backR ρ ρ3 vs) (acc ++ [y]) else .bad
        | _ => .bad
      | .ok false ρ2 => dLcGo vs bind cond elt ds (backR ρ ρ2 vs) acc
      | _ => .bad
def dLc (vs : List Nat) (it : Rho → R (List D)) (bind : Bd) (cond : Rho → R Bool) (elt : Rho → R D) (ρ : Rho) : R (List D) := (it ρ).bind fun ds ρ1 => if calmS ρ1 vs = true then dLcGo vs bind cond elt ds ρ1 [] else .bad
theorem calmS_back {ρ ρ' : Rho} {vs : List Nat} (hl : ρ.length = ρ'.length) (h : calmS ρ vs = true) : calmS (backR ρ ρ' vs) vs = true := by
  refine List.all_eq_true.mpr fun i hi => ?_
  have := List.all_eq_true.mp h i hi
  rw [backR_in hl hi]
  exact this
section
variable {X : Cx} {W : WX} {elt tg iter : Expr} {ifs : List Expr} {scope : Scope} {own : List (Str × Nat)} {pos : Pos} {it : Rho → R (List D)} {ixs : List Nat} {bind : Bd} {cond : Rho → R Bool} {de : Rho → R D}
theorem lc_run {wi : TI} {g : TG} {tt : TT} {te : TE} {vs : List Nat}
    (ki : ∀ F G H σ ρ (Q : It → Hp → Prop), SI X.K F G H σ ρ → Post X.K X.mg F G σ W (fun F σ G H ρ J ds => IterG X.K G J ds) Q (it ρ) → wi σ H Q)
    (kg : ∀ F G H σ ρ v d ρ' (Q : L2.St → Hp → Prop), SI X.K F G H σ ρ → Rp X.K G v d → bind d ρ = some ρ' → (∀ σ', SI X.K F G H σ' ρ' → OutOf ixs σ σ' → Q σ' H) → g v σ H Q)
    (kt : ∀ F, ROK X.K X.mg F W0 relT tt cond) (ke : ∀ F, ROK X.K X.mg F W0 (relE X.K) te de) (hix : ∀ i ∈ ixs, i ∈ vs) (F : Fx) :
    ROK X.K X.mg F W (relN X.K) (tLc wi g tt te vs) (dLc vs it bind cond de) := by
  intro G H σ ρ Q I p
  refine ki F G H σ ρ _ I (p.bind fun ds ρ1 G1 H1 J I1 s1 r1 p1 => ?_)
  have p1 : Post X.K X.mg F G1 σ W (relN X.K) Q (if calmS ρ1 vs = true then dLcGo vs bind cond de ds ρ1 [] else .bad) := p1
  split at p1
  case isFalse => exact p1.elim
  rename_i hcalm
  intro A hA
  obtain ⟨Gd, Y, w, hGd, hY⟩ := r1
  obtain ⟨I2, n2⟩ := I1.newL hA (.nil : Rs X.K G1 [] [])
  refine lc_it w (fun i H' => ∃ G' ρ' acc, SI X.K F G' H' σ ρ' ∧ Sub G1 G' ∧ NewL X.K F G' H' σ ρ' A acc ∧ calmS ρ' vs = true ∧ Post X.K X.mg F G' σ W (relN X.K) Q (dLcGo vs bind cond de (ds.drop i) ρ' acc)) ⟨G1, ρ1, [], I2, Sub.rfl' _, n2, hcalm, p1⟩ (fun i H' _ ⟨G', ρ', _, I', s', _⟩ => hGd G' H' s' I'.gH) ?_ ?_
  · intro i x H' H2 hi ⟨G', ρ', acc, I', s', n', hc', p'⟩ y
    obtain ⟨d, hd⟩ : ∃ d, ds[i]? = some d := ⟨ds[i], List.getElem?_eq_getElem hi⟩
    have ed : ds.drop i = d :: ds.drop (i + 1) := by
      rw [List.drop_eq_getElem_cons hi]
      rw [List.getElem?_eq_getElem hi] at hd
      cases hd
      rfl
    rw [ed] at p'
    obtain ⟨⟨av, hv, rv⟩, hg, hz, hs⟩ := n'
    have I3 := I'.lend hv hg hz hs
    have hg0 : F.G0 A = none := by
      cases q : F.G0 A with
      | none => rfl
      | some o => rw [I'.g0 A o q] at hg; cases hg
    have hT := I'.noTab hv
    have hW := I'.noW hz
    obtain ⟨G2, I4, s4, r4⟩ := IterG.step I3 s' (hY i H' x H2 d hd y)
    have I5 := I4.wiped vs
    unfold dLcGo at p'
    split at p'
    · exact p'.elim
    rename_i ρ2 hb
    refine kg _ G2 H2 _ _ x d ρ2 _ I5 r4 hb fun σ2 I6 o6 => ⟨wipe_eq o6 hix, ?_⟩
    have hl2 : σ2.length = σ.length := o6.1.trans (wipe_length σ vs)
    have ho2 : ∀ j, j ∉ vs → σ2[j]? = σ[j]? := fun j hj => (o6.2 j fun z => hj (hix j z)).trans (wipe_out hj)
    have hlen : ∀ {G H ρ3}, SI X.K (F.plus A av) G H σ2 ρ3 → ρ'.length = ρ3.length := fun I => by rw [I'.len, I.len, hl2]
    have p' := Post.mono s4 p'
    refine kt _ G2 H2 σ2 ρ2 _ I6 ?_
    cases qc : cond ρ2 with
    | err _ _ => rw [qc] at p'; exact p'.elim
    | bad => rw [qc] at p'; exact p'.elim
    | ok b ρ3 =>
      intro G3 H3 b' I7 s7 eb
      obtain rfl : b' = b := eb
      cases b' with
      | false =>
        rw [qc] at p'
        rw [if_neg Bool.false_ne_true]
        have I8 := SI.back I' I7 (s4.tr s7) hc' hl2 ho2
        obtain ⟨I9, h9, g9, d9⟩ := I8.unlend hz hg0 hW hT
        exact ⟨G3, _, acc, I9, (s'.tr s4).tr s7, ⟨⟨av, h9, rv.mono (s4.tr s7) _ _⟩, g9, hz, d9⟩, calmS_back (hlen I7) hc', Post.mono s7 p'⟩
      | true =>
        rw [qc] at p'
        rw [if_pos rfl]
        refine ke _ G3 H3 σ2 ρ3 _ I7 ?_
        have p' := Post.mono s7 p'
        dsimp only at p'
        cases qe : de ρ3 with
        | err _ _ => rw [qe] at p'; exact p'.elim
        | bad => rw [qe] at p'; exact p'.elim
        | ok y ρ4 =>
          rw [qe] at p'
          intro G4 H4 v I8 s8 r8
          have I9 := SI.back I' I8 ((s4.tr s7).tr s8) hc' hl2 ho2
          obtain ⟨I10, h10, g10, d10⟩ := I9.unlend hz hg0 hW hT
          have rv' := rv.mono ((s4.tr s7).tr s8) _ _
          have p' : Post X.K X.mg F G3 σ W (relN X.K) Q (if acc.length < sizeLine then dLcGo vs bind cond de (ds.drop (i + 1)) (backR ρ' ρ4 vs) (acc ++ [y]) else .bad) := p'
          split at p'
          case isFalse => exact p'.elim
          rename_i hlt
          obtain ⟨I11, n11⟩ := I10.updNew ⟨⟨av, h10, rv'⟩, g10, hz, d10⟩ (rv'.app (.cons r8 .nil))
          exact ⟨av, h10, by rw [rv.length]; exact hlt, G4, _, _, I11, ((s'.tr s4).tr s7).tr s8, n11, calmS_back (hlen I8) hc', Post.mono s8 p'⟩
  · intro H' ⟨G', ρ', acc, I', s', n', hc', p'⟩
    rw [List.drop_length] at p'
    exact p' G' H' _ I' (Sub.rfl' _) ⟨A, rfl, n'⟩
/-- the contexts of a comprehension's own frame -/
structure Blk where
  s : Shared
  H : Hp
  C : Addr
  cl : List (Str × Addr)
  fp : List Addr
abbrev Blk.cx (X : Cx) (scope : Scope) (b : Blk) : Cx := X.blk b.s b.H scope (compEnvC scope b.cl b.C X.env) b.fp
/-- one g for all the contexts -/
theorem blk_jg (h : ∀ y : Blk, JG (y.cx X scope) tg ixs bind) : ∃ g, (∀ y : Blk, PG (y.cx X scope) tg g) ∧
    ∀ F G H σ ρ v d ρ' (Q : L2.St → Hp → Prop), SI X.K F G H σ ρ → Rp X.K G v d → bind d ρ = some ρ' → (∀ σ', SI X.K F G H σ' ρ' → OutOf ixs σ σ' → Q σ' H) → g v σ H Q := by
  refine ⟨fun v σ H Q => ∀ y : Blk, Classical.choose (h y) v σ H Q, fun y => ⟨fun pins s σ H v u Q I r hh => (Classical.choose_spec (h y)).1.run pins s σ H v u Q I r (hh y)⟩, fun F G H σ ρ v d ρ' Q I r eb k y => ?_⟩
  exact (Classical.choose_spec (h y)).2 F G H σ ρ v d ρ' Q I r eb k
theorem blk_je {e : Expr} {d : Rho → R D} (h : ∀ y : Blk, JE (y.cx X scope) W0 e d) : ∃ t, (∀ y : Blk, PE (y.cx X scope) e t) ∧ ∀ F, ROK X.K X.mg F W0 (relE X.K) t d := by
  refine ⟨fun σ H Q => ∀ y : Blk, Classical.choose (h y) σ H Q, fun y => ⟨fun pins s σ H Q I hh => (Classical.choose_spec (h y)).1.run pins s σ H Q I (hh y)⟩, fun F G H σ ρ Q I p y => ?_⟩
  exact (Classical.choose_spec (h y)).2 F G H σ ρ Q I p
theorem blk_jts {d : Rho → R Bool} (h : ∀ y : Blk, JTs (y.cx X scope) ifs d) : ∃ t, (∀ y : Blk, PTs (y.cx X scope) ifs t) ∧ ∀ F, ROK X.K X.mg F W0 relT t d := by
  refine ⟨fun σ H Q => ∀ y : Blk, Classical.choose (h y) σ H Q, fun y => ⟨fun pins s σ H Q I hh => (Classical.choose_spec (h y)).1.run pins s σ H Q I (hh y)⟩, fun F G H σ ρ Q I p y => ?_⟩
  exact (Classical.choose_spec (h y)).2 F G H σ ρ Q I p
theorem lc_parts (hg : ∀ b : Blk, JG (b.cx X scope) tg ixs bind) (ht : ∀ b : Blk, JTs (b.cx X scope) ifs cond) (he : ∀ b : Blk, JE (b.cx X scope) W0 elt de) :
    ∃ g tt te, (∀ b : Blk, PG (b.cx X scope) tg g) ∧ (∀ b : Blk, PTs (b.cx X scope) ifs tt) ∧ (∀ b : Blk, PE (b.cx X scope) elt te) ∧
      (∀ F G H σ ρ v d ρ' (Q : L2.St → Hp → Prop), SI X.K F G H σ ρ → Rp X.K G v d → bind d ρ = some ρ' → (∀ σ', SI X.K F G H σ' ρ' → OutOf ixs σ σ' → Q σ' H) → g v σ H Q) ∧
      (∀ F, ROK X.K X.mg F W0 relT tt cond) ∧ ∀ F, ROK X.K X.mg F W0 (relE X.K) te de := by
  obtain ⟨g, g1, g2⟩ := blk_jg hg
  obtain ⟨t, t1, t2⟩ := blk_jts ht
  obtain ⟨e, e1, e2⟩ := blk_je he
  exact ⟨g, t, e, g1, t1, e1, g2, t2, e2⟩
theorem jn_lc (hc : X.calm = true) (hN : X.N.Nodup) (hi : JI X W tg iter it) (ok : BlkOk X.N X.env.scope scope own) (hg : ∀ b : Blk, JG (b.cx X scope) tg ixs bind) (ht : ∀ b : Blk, JTs (b.cx X scope) ifs cond) (he : ∀ b : Blk, JE (b.cx X scope) W0 elt de)
    (hix : ∀ i ∈ ixs, i ∈ own.map (·.2) := by decide) (hs : ∀ x, foldedSetIterable iter X.env x = pure x := by intro _; rfl) : JN X W (.ListComp elt [⟨tg, iter, ifs, 0⟩] scope pos) (dLc (own.map (·.2)) it bind cond de) := by
  obtain ⟨wi, hi, ki⟩ := hi
  obtain ⟨g, tt, te, g1, t1, e1, g2, t2, e2⟩ := lc_parts hg ht he
  exact ⟨_, pe_lc hc hN hi ok (fun s H C cl fp => g1 ⟨s, H, C, cl, fp⟩) (fun s H C cl fp => t1 ⟨s, H, C, cl, fp⟩) (fun s H C cl fp => e1 ⟨s, H, C, cl, fp⟩) hs, lc_run ki g2 t2 e2 hix⟩
end
end Pf

/-! Pf11: defs and calls. -/
namespace Pf
open PySem PySem.Spec PyProof.Rows L2

inductive Res where
  | v (d : D)
  | n (ds : List D)
def relR (K : PySem.W.Frag) : Rel Res V := fun F σ G H ρ v r =>
  match r with
  | .v d => Rp K G v d
  | .n ds => ∃ a, v = V.ref a ∧ NewL K F G H σ ρ a ds

/-- what a def that denotes body promises -/
def spF (K : PySem.W.Frag) (mg : Str → Option Value) (n np : Nat) (body : Rho → Out) : Sp := fun vs H Q E =>
  ∃ (G : Hp) (w : Nat → Option Addr) (T : List (Addr × Str)) (ρ : Rho), vs.length = np ∧ SI K ⟨untab H, G, w, T⟩ G H (vs.map some ++ List.replicate (n - vs.length) none) ρ ∧
    SPost K mg ⟨untab H, G, w, T⟩ G (fun cls d _ H' => E cls d H') { nx := fun _ H' => Q .non H', rt := Q } (body ρ)
structure FnK (P : Program) (w : World) (K : PySem.W.Frag) (mg : Str → Option Value) (base : Heap) (x : Str) (k n np : Nat) (body : Rho → Out) : Prop where
  ex : ∃ (f : Addr) (fd : FuncData) (ps : List Str), FnOk P w K mg base (L2.CX P w) k f fd ps (spF K mg n np body) ∧ mg x = some (.ref f) ∧ PySem.W.keepIn K (.ref f) = true ∧ Binds K fd ps []
theorem fnF {P : Program} {w : World} {K : PySem.W.Frag} {mg : Str → Option Value} {base : Heap} {x qual : Str} {st : Stmt} {f : Addr} {fd : FuncData} {N ps : List Str} {k n np : Nat} {body : Rho → Out} (F : Fun K x qual st f fd) (S : FnScope N ps (defScope st)) (hn : N.length = n) (hp : ps.length = np)
    (hbody : ∀ (cdv : Value) (A : Around) (outer : List Env) (s : Shared) (H : Hp) (E : XK), Room k (A.deeper (envOfC qual (defScope st) s.heap.objs.size f cdv)) →
      JSs (cxOf (L2.CX P w) P w K mg base N qual (defScope st) f cdv A outer s H E) (fun cls d _ H' => E cls d H') (defBody st) body) : FnOk P w K mg base (L2.CX P w) (k + 1) f fd ps (spF K mg n np body) := by
  refine F.okX S (fun vs H Q E h => ?_) fun cdv A outer s H vs Q E hr h => ?_
  · obtain ⟨G, w', T, ρ, h1, _⟩ := h
    rw [h1, hp]
  · obtain ⟨G, w', T, ρ, h1, I, p⟩ := h
    obtain ⟨t, ht, kt⟩ := hbody cdv A outer s H E hr
    refine ⟨t, ht, kt ⟨untab H, G, w', T⟩ G H _ ρ _ ?_ p⟩
    unfold L2.start
    rw [hn]
    exact I

/-! ### the callee's slots at its entry -/
def AllSl (K : PySem.W.Frag) (F : Fx) (G H : Hp) : Nat → List Slot → List (Option V) → Prop
  | _, [], [] => True
  | k, s :: r, v :: q => SlOk K F G H k (some v) s ∧ AllSl K F G H (k + 1) r q
  | _, _, _ => False
theorem AllSl.get {K : PySem.W.Frag} {F : Fx} {G H : Hp} : ∀ {k : Nat} {r : List Slot} {q : List (Option V)}, AllSl K F G H k r q → ∀ (i : Nat) (s : Slot), r[i]? = some s → SlOk K F G H (k + i) (q[i]?) s
  | _, [], [], _, i, s, e => by simp at e
  | k, s0 :: r, v :: q, h, 0, s, e => by simp at e; subst e; exact h.1
  | k, s0 :: r, v :: q, h, i + 1, s, e => by
    have := AllSl.get h.2 i s (by simpa using e)
    have e2 : k + 1 + i = k + (i + 1) := by omega
    rw [e2] at this
    simpa using this
theorem AllSl.len {K : PySem.W.Frag} {F : Fx} {G H : Hp} : ∀ {k : Nat} {r : List Slot} {q : List (Option V)}, AllSl K F G H k r q → r.length = q.length
  | _, [], [], _ => rfl
  | _, _ :: _, _ :: _, h => by simp [AllSl.len h.2]
theorem AllSl.app {K : PySem.W.Frag} {F : Fx} {G H : Hp} : ∀ {k : Nat} {r r2 : List Slot} {q q2 : List (Option V)}, AllSl K F G H k r q → AllSl K F G H (k + r.length) r2 q2 → AllSl K F G H k (r ++ r2) (q ++ q2)
  | _, [], _, [], _, _, h2 => h2
  | k, s :: r, r2, v :: q, q2, h, h2 => ⟨h.1, AllSl.app h.2 (by
      have e2 : k + (s :: r).length = k + 1 + r.length := by simp; omega
      rw [e2] at h2
      exact h2)⟩
theorem AllSl.imms {K : PySem.W.Frag} {F : Fx} {G H : Hp} : ∀ {k : Nat} {vs : List V} {ds : List D}, Rs K G vs ds → AllSl K F G H k (ds.map .imm) (vs.map some)
  | _, _, _, .nil => True.intro
  | _, _, _, .cons r rr => ⟨⟨_, rfl, r⟩, AllSl.imms rr⟩
theorem AllSl.und {K : PySem.W.Frag} {F : Fx} {G H : Hp} : ∀ {k : Nat} (m : Nat), AllSl K F G H k (List.replicate m .undef) (List.replicate m none)
  | _, 0 => True.intro
  | _, m + 1 => ⟨True.intro, AllSl.und m⟩

/-! ### a call, by slots -/
/-- a parameter that the callee may change: none, or the list of the caller's slot i -/
def headS : Option Nat → Rho → Option (List Slot)
  | none, _ => some []
  | some i, ρ => (ρ.lst? i).map fun ds => [.io ds]
def backH : Option Nat → Rho → Rho → Option Rho
  | none, _, ρ => some ρ
  | some i, ρ', ρ => match List.head? ρ' with
    | some (Slot.io ds) => some (ρ.put i ds)
    | _ => none
def endsC (hd : Option Nat) (ρ : Rho) : Out → R Res
  | .next ρ' => match backH hd ρ' ρ with
    | some ρ2 => .ok (.v .none) ρ2
    | none => .bad
  | .ret d ρ' => match backH hd ρ' ρ with
    | some ρ2 => .ok (.v d) ρ2
    | none => .bad
  | .retN ds ρ' => match backH hd ρ' ρ with
    | some ρ2 => .ok (.n ds) ρ2
    | none => .bad
  | .err x ρ' => match backH hd ρ' ρ with
    | some ρ2 => .err x ρ2
    | none => .bad
  | _ => .bad
def callD (n : Nat) (body : Rho → Out) (hd : Option Nat) (ds : List D) (ρ : Rho) : R Res :=
  match headS hd ρ with
  | none => .bad
  | some hs => endsC hd ρ (body (hs ++ ds.map .imm ++ List.replicate (n - (hs.length + ds.length)) .undef))
section
variable {K : PySem.W.Frag} {mg : Str → Option Value} {F : Fx} {G H : Hp} {σ : L2.St} {ρ : Rho} {W : WX}
theorem untab_at {a : Addr} {o : HO} (h : H a = some o) (n : ∀ ps, o ≠ HO.tbl ps) : untab H a = some o := by
  unfold untab
  rw [h]
  cases o <;> first | rfl | exact absurd rfl (n _)
theorem at_untab {a : Addr} {o : HO} (h : untab H a = some o) : H a = some o ∧ ∀ ps, o ≠ HO.tbl ps := by
  unfold untab at h
  cases q : H a with
  | none => rw [q] at h; cases h
  | some u =>
    rw [q] at h
    cases u <;> first | (cases h; exact ⟨rfl, fun _ z => by cases z⟩) | cases h
theorem untab_none {a : Addr} (h : H a = none) : untab H a = none := by
  unfold untab
  rw [h]
theorem SI.un0 (I : SI K F G H σ ρ) {a : Addr} (h : untab H a = none) : F.H0 a = none := by
  cases q : F.H0 a with
  | none => rfl
  | some o =>
    have nt : ∀ ps, o ≠ HO.tbl ps := fun ps z => I.ht a ps (by rw [q, z])
    by_cases hw : ∃ i, F.w i = some a
    · obtain ⟨i, hw⟩ := hw
      obtain ⟨vs, e⟩ := I.w4 i a hw
      rw [untab_at e (fun _ z => by cases z)] at h; cases h
    · rw [untab_at (I.h0 a o q (fun i z => hw ⟨i, z⟩)) nt] at h; cases h
/-- the state behind a call -/
theorem SI.after (I : SI K F G H σ ρ) {hd : Option Nat} {a0 : Addr} {ds0 : List D} (hm : ∀ i, hd = some i → MutAt K F G H σ ρ i a0 ds0) {w : Nat → Option Addr} (hw : ∀ k a, w k = some a → hd ≠ none ∧ k = 0 ∧ a = a0)
    {G' H' : Hp} {σ' : L2.St} {ρ' ρ2 : Rho} (I' : SI K ⟨untab H, G, w, F.T⟩ G' H' σ' ρ') (hb : backH hd ρ' ρ = some ρ2) : SI K F G' H' σ ρ2 := by
  have nw : ∀ b, (∀ i, hd = some i → b ≠ a0) → ∀ k, w k ≠ some b := fun b h k e => by
    obtain ⟨h1, _, h3⟩ := hw k b e
    cases q : hd with
    | none => exact h1 q
    | some i => exact h i q h3
  have stay : ∀ b o, H b = some o → (∀ i, hd = some i → b ≠ a0) → (∀ ps, o ≠ HO.tbl ps) → H' b = some o := fun b o e h hT => I'.h0 b o (untab_at e hT) (nw b h)
  have lstT : ∀ (b : Addr) vs, H b = some (HO.lst vs) → ∀ ps, HO.lst vs ≠ HO.tbl ps := fun b vs e ps z => by cases z
  have gnone : ∀ b, G b = none → (∃ vs, H b = some (HO.lst vs)) → G' b = none := fun b e h => by
    cases q : G' b with
    | none => rfl
    | some o =>
      rcases I'.gn b o q with z | z
      · have z : G b = some o := z
        rw [e] at z; cases z
      · obtain ⟨vs, h⟩ := h
        have z : untab H b = none := z
        rw [untab_at h (fun _ z => by cases z)] at z; cases z
  have base : ∀ {ρ3 : Rho}, ρ3.length = ρ.length → (∀ (i : Nat) (s : Slot), ρ3[i]? = some s → SlOk K F G' H' i (σ[i]?) s) → (∀ (i : Nat) (ds : List D), ρ3[i]? = some (Slot.own ds) → ∃ es, ρ[i]? = some (Slot.own es)) → (∀ i, hd = some i → ∃ vs, H' a0 = some (HO.lst vs)) → SI K F G' H' σ ρ3 := fun {ρ3} hl hs ho hlst => by
    refine ⟨I'.gH, I'.gt, I.g0.tr I'.g0, fun b o e => ?_, fun b o e h1 => ?_, fun b e => I.un0 (I'.hn b e), I.w1, I.w2, I.w3, I'.tb, hl.trans I.len, hs, fun i j b ds es e1 e2 s1 s2 => ?_, I.ht, fun i b e => ?_⟩
    · rcases I'.gn b o e with z | z
      · exact I.gn b o z
      · exact .inr (I.un0 z)
    · refine stay b o (I.h0 b o e h1) (fun i q z => ?_) (fun ps z => I.ht b ps (by rw [e, z]))
      obtain ⟨m1, _, _, m4⟩ := hm i q
      rcases m4 with ⟨_, m5⟩ | ⟨_, m5⟩
      · rw [z, m5] at e; cases e
      · exact h1 i (by rw [z]; exact m5)
    · obtain ⟨_, f1⟩ := ho i ds e1
      obtain ⟨_, f2⟩ := ho j es e2
      exact I.dj i j b _ _ f1 f2 s1 s2
    · obtain ⟨vs, h⟩ := I.w4 i b e
      by_cases hb : ∃ i, hd = some i ∧ b = a0
      · obtain ⟨i', h1, h2⟩ := hb
        rw [h2]; exact hlst i' h1
      · exact ⟨vs, stay b _ h (fun i' q z => hb ⟨i', q, z⟩) (lstT b vs h)⟩
  have other : ∀ (j : Nat) (s : Slot), ρ[j]? = some s → (∀ i, hd = some i → j ≠ i) → SlOk K F G' H' j (σ[j]?) s := fun j s e hj => by
    have x := I.sl j s e
    cases s with
    | undef => trivial
    | imm d => obtain ⟨v, h1, h2⟩ := x; exact ⟨v, h1, h2.mono I'.g0 _ _⟩
    | own ds =>
      obtain ⟨a, vs, h1, h2, h3, h4, h5⟩ := x
      have na : ∀ i, hd = some i → a ≠ a0 := fun i q z => by
        subst z
        exact hj i q (I.apart (⟨h1, ⟨vs, h2, h4⟩, h3, .inl ⟨e, h5⟩⟩ : MutAt K F G H σ ρ j a ds) (hm i q))
      exact ⟨a, vs, h1, stay a _ h2 na (lstT a vs h2), gnone a h3 ⟨vs, h2⟩, h4.mono I'.g0 _ _, h5⟩
    | io ds =>
      obtain ⟨a, vs, h1, h2, h3, h4, h5⟩ := x
      have na : ∀ i, hd = some i → a ≠ a0 := fun i q z => by
        subst z
        exact hj i q (I.apart (⟨h1, ⟨vs, h2, h4⟩, h3, .inr ⟨e, h5⟩⟩ : MutAt K F G H σ ρ j a ds) (hm i q))
      exact ⟨a, vs, h1, stay a _ h2 na (lstT a vs h2), gnone a h3 ⟨vs, h2⟩, h4.mono I'.g0 _ _, h5⟩
    | scr ns T =>
      obtain ⟨⟨a, h1, h2⟩, hT⟩ := x
      refine ⟨⟨a, h1, ?_⟩, hT⟩
      rcases h2 with (⟨o, h2⟩ | h2) | h2
      · refine .inl (.inl ⟨o, stay a _ h2 (fun i q z => ?_) fun ps z => (by cases z)⟩)
        obtain ⟨_, ⟨vs, m2, _⟩, _⟩ := hm i q
        rw [z, m2] at h2; cases h2
      · exact .inl (.inr h2)
      · exact .inr (I'.g0 _ _ h2)
    | exc b d fs =>
      refine ⟨x.1, x.2.keep I'.g0 fun c us h2 => ?_⟩
      refine stay c _ h2 (fun i q z => ?_) fun ps z => (by cases z)
      obtain ⟨_, ⟨vs, m2, _⟩, _⟩ := hm i q
      rw [z, m2] at h2; cases h2
  cases q : hd with
  | none =>
    rw [q] at hb
    cases hb
    exact base rfl (fun j s e => other j s e fun i z => by rw [q] at z; cases z) (fun i ds e => ⟨ds, e⟩) (fun i z => by rw [q] at z; cases z)
  | some i =>
    rw [q] at hb
    unfold backH at hb
    dsimp only at hb
    split at hb
    · rename_i ds e0
      rw [List.head?_eq_getElem?] at e0
      cases hb
      obtain ⟨m1, m2, m3, m4⟩ := hm i q
      obtain ⟨a', vs, h1, h2, h3, h4, h5⟩ := I'.sl 0 _ e0
      obtain ⟨_, _, rfl⟩ := hw 0 a' h5
      have hi : i < ρ.length := by
        rcases m4 with ⟨e, _⟩ | ⟨e, _⟩ <;> exact (List.getElem?_eq_some_iff.mp e).1
      refine base (put_length _ _ _) (fun j s e => ?_) (fun j es e => ?_) (fun _ _ => ⟨vs, h2⟩)
      · by_cases hj : j = i
        · subst hj
          unfold Rho.put at e
          rcases m4 with ⟨m5, m6⟩ | ⟨m5, m6⟩
          · rw [m5] at e
            dsimp only at e
            rw [List.getElem?_set_self hi] at e
            cases e
            exact ⟨a', vs, m1, h2, h3, h4, m6⟩
          · rw [m5] at e
            dsimp only at e
            rw [List.getElem?_set_self hi] at e
            cases e
            exact ⟨a', vs, m1, h2, h3, h4, m6⟩
        · have e' : ρ[j]? = some s := by
            unfold Rho.put at e
            split at e
            · rw [List.getElem?_set_ne (Ne.symm hj)] at e; exact e
            · rw [List.getElem?_set_ne (Ne.symm hj)] at e; exact e
            · exact e
          exact other j s e' fun i' z => by rw [q] at z; cases z; exact hj
      · by_cases hj : j = i
        · subst hj
          rcases m4 with ⟨m5, m6⟩ | ⟨m5, m6⟩
          · exact ⟨_, m5⟩
          · unfold Rho.put at e
            rw [m5] at e
            dsimp only at e
            rw [List.getElem?_set_self hi] at e
            cases e
        · unfold Rho.put at e
          split at e
          · rw [List.getElem?_set_ne (Ne.symm hj)] at e; exact ⟨_, e⟩
          · rw [List.getElem?_set_ne (Ne.symm hj)] at e; exact ⟨_, e⟩
          · exact ⟨_, e⟩
    · cases hb
/-- the callee's promise from the caller's wish -/
theorem call_spec (I : SI K F G H σ ρ) {n np : Nat} {body : Rho → Out} {hd : Option Nat} {hv ws : List V} {ds : List D} {Q : VK} (hh : (hd = none ∧ hv = []) ∨ ∃ i v0, hd = some i ∧ hv = [v0] ∧ σ[i]? = some (some v0)) (r : Rs K G ws ds) (hl : hv.length + ws.length = np)
    (hn : np ≤ n) (p : Post K mg F G σ W (relR K) Q (callD n body hd ds ρ)) : spF K mg n np body (hv ++ ws) H Q (WE W σ) := by
  unfold callD at p
  split at p
  · exact p.elim
  rename_i hs ehs
  -- the head's address and list
  obtain ⟨a0, ds0, w, hm, hw, hhead⟩ : ∃ (a0 : Addr) (ds0 : List D) (w : Nat → Option Addr), (∀ i, hd = some i → MutAt K F G H σ ρ i a0 ds0) ∧ (∀ k a, w k = some a → hd ≠ none ∧ k = 0 ∧ a = a0) ∧
      AllSl K ⟨untab H, G, w, F.T⟩ G H 0 hs (hv.map some) := by
    rcases hh with ⟨e1, e2⟩ | ⟨i, v0, e1, e2, e3⟩
    · subst e1 e2
      cases ehs
      exact ⟨0, [], fun _ => none, fun i z => (by cases z), fun k a z => (by cases z), True.intro⟩
    · subst e1 e2
      unfold headS at ehs
      dsimp only at ehs
      cases q : ρ.lst? i with
      | none => rw [q] at ehs; cases ehs
      | some ds0 =>
        rw [q] at ehs
        cases ehs
        obtain ⟨a0, m⟩ := I.at_ q
        obtain ⟨m1, ⟨vs, m2, m3⟩, m4, _⟩ := id m
        rw [e3] at m1
        cases m1
        refine ⟨a0, ds0, fun k => if k = 0 then some a0 else none, fun i' z => (by cases z; exact m), fun k a z => ?_, ⟨⟨a0, vs, rfl, m2, m4, m3, rfl⟩, True.intro⟩⟩
        have z : (if k = 0 then some a0 else none) = some a := z
        split at z
        · rename_i hk; cases z; exact ⟨fun z => (by cases z), hk, rfl⟩
        · cases z
  have hhl : hs.length = hv.length := by have := hhead.len; simpa using this
  have hall : AllSl K ⟨untab H, G, w, F.T⟩ G H 0 (hs ++ ds.map .imm ++ List.replicate (n - (hs.length + ds.length)) .undef) ((hv ++ ws).map some ++ List.replicate (n - (hv ++ ws).length) none) := by
    rw [List.map_append]
    have e : n - (hs.length + ds.length) = n - (hv ++ ws).length := by rw [List.length_append, hhl, r.length]
    rw [e]
    exact (hhead.app (AllSl.imms r)).app (AllSl.und _)
  have I0 : SI K ⟨untab H, G, w, F.T⟩ G H ((hv ++ ws).map some ++ List.replicate (n - (hv ++ ws).length) none) (hs ++ ds.map .imm ++ List.replicate (n - (hs.length + ds.length)) .undef) := by
    refine ⟨I.gH, I.gt, Sub.rfl' _, fun a o e => .inl e, fun a o e _ => (at_untab e).1, fun a e => untab_none e, fun k a e => ?_, fun k a e => ?_, fun k l a e1 e2 => ?_, I.tb, hall.len, fun i s e => by have := hall.get i s e; rw [Nat.zero_add] at this; exact this, fun i j a d1 d2 e1 e2 s1 s2 => ?_, fun a ps e => (at_untab e).2 ps rfl, fun k a e => ?_⟩
    · obtain ⟨h1, _, h3⟩ := hw k a e
      cases q : hd with
      | none => exact absurd q h1
      | some i =>
        obtain ⟨_, ⟨vs, m2, _⟩, _⟩ := hm i q
        show untab H a ≠ none
        rw [h3, untab_at m2 (fun _ z => by cases z)]; intro z; cases z
    · obtain ⟨h1, _, h3⟩ := hw k a e
      cases q : hd with
      | none => exact absurd q h1
      | some i =>
        obtain ⟨_, _, m3, _⟩ := hm i q
        show G a = none
        rw [h3]; exact m3
    · exact (hw k a e1).2.1.trans (hw l a e2).2.1.symm
    · exfalso
      have x := hall.get i _ e1
      obtain ⟨b, vs, x1, x2, x3, x4, x5⟩ := x
      have x5 : untab H b = none := x5
      rw [untab_at x2 (fun _ z => by cases z)] at x5; cases x5
    · obtain ⟨h1, _, h3⟩ := hw k a e
      cases q : hd with
      | none => exact absurd q h1
      | some i =>
        obtain ⟨_, ⟨vs, m2, _⟩, _⟩ := hm i q
        exact ⟨vs, by rw [h3]; exact m2⟩
  refine ⟨G, w, F.T, _, by rw [List.length_append]; exact hl, I0, ?_⟩
  cases qo : body (hs ++ ds.map .imm ++ List.replicate (n - (hs.length + ds.length)) .undef) with
  | next ρ' =>
    rw [qo] at p
    unfold endsC at p
    dsimp only at p
    split at p
    · rename_i ρ2 hb
      intro G' H' σ' I' s'
      exact p G' H' _ (I.after hm hw I' hb) s' .n
    · exact p.elim
  | ret d ρ' =>
    rw [qo] at p
    unfold endsC at p
    dsimp only at p
    split at p
    · rename_i ρ2 hb
      intro G' H' σ' v I' s' r'
      exact p G' H' _ (I.after hm hw I' hb) s' r'
    · exact p.elim
  | retN d ρ' =>
    rw [qo] at p
    unfold endsC at p
    dsimp only at p
    split at p
    · rename_i ρ2 hb
      intro G' H' σ' a vs I' s' h1 h2 h3 h4
      have I2 := I.after hm hw I' hb
      have h3 : untab H a = none := h3
      refine p G' H' _ I2 s' ⟨a, rfl, ⟨vs, h1, h4⟩, h2, I.un0 h3, fun i es e z => ?_⟩
      obtain ⟨b, us, k1, k2, k3, k4, k5⟩ := I2.sl i _ e
      rw [z] at k1
      cases k1
      -- an own slot's list lay in the heap ahead of the call
      have : ∃ es', ρ[i]? = some (.own es') := by
        cases q : hd with
        | none => rw [q] at hb; cases hb; exact ⟨es, e⟩
        | some j =>
          rw [q] at hb
          unfold backH at hb
          dsimp only at hb
          split at hb
          · cases hb
            unfold Rho.put at e
            split at e
            · rename_i es' e'
              by_cases hj : j = i
              · subst hj; exact ⟨_, e'⟩
              · rw [List.getElem?_set_ne hj] at e; exact ⟨_, e⟩
            · rename_i es' e'
              by_cases hj : j = i
              · subst hj
                rw [List.getElem?_set_self (List.getElem?_eq_some_iff.mp e').1] at e
                cases e
              · rw [List.getElem?_set_ne hj] at e; exact ⟨_, e⟩
            · exact ⟨_, e⟩
          · cases hb
      obtain ⟨es', e'⟩ := this
      obtain ⟨b', us', l1, l2, _⟩ := I.sl i _ e'
      rw [z] at l1
      cases l1
      rw [untab_at l2 (fun _ z => by cases z)] at h3
      cases h3
    · exact p.elim
  | err x ρ' =>
    rw [qo] at p
    unfold endsC at p
    dsimp only at p
    split at p
    · rename_i ρ2 hb
      intro G' H' σ' cls dd I' s' ex
      exact p G' H' cls dd (I.after hm hw I' hb) s' ex
    · exact p.elim
  | brk ρ' => rw [qo] at p; exact p.elim
  | cont ρ' => rw [qo] at p; exact p.elim
  | bad => rw [qo] at p; exact p.elim
end
end Pf

/-! Pf12: calls as expressions. -/
namespace Pf
open PySem PySem.Spec PyProof.Rows L2

def JR (X : Cx) (W : WX) (e : Expr) (den : Rho → R Res) : Prop := ∃ t, PE X e t ∧ ∀ F, ROK X.K X.mg F W (relR X.K) t den
def dVal (r : Rho → R Res) (ρ : Rho) : R D := (r ρ).bind fun x ρ1 =>
  match x with
  | .v d => .ok d ρ1
  | .n ds => .ok (.list ds) ρ1
def dNew (r : Rho → R Res) (ρ : Rho) : R (List D) := (r ρ).bind fun x ρ1 =>
  match x with
  | .v _ => .bad
  | .n ds => .ok ds ρ1
def dCallV (n : Nat) (body : Rho → Out) (dl : Rho → R (List D)) (ρ : Rho) : R Res := (dl ρ).bind fun ds ρ1 => callD n body none ds ρ1
def dCallH (n : Nat) (body : Rho → Out) (i : Nat) (dl : Rho → R (List D)) (ρ : Rho) : R Res :=
  match ρ.lst? i with
  | none => .bad
  | some _ => (dl ρ).bind fun ds ρ1 => callD n body (some i) ds ρ1
def dCall0 (n : Nat) (body : Rho → Out) (ρ : Rho) : R Res := callD n body none [] ρ
def dCallS (n : Nat) (body : Rho → Out) (i : Nat) (ρ : Rho) : R Res :=
  match ρ[i]? with
  | some (.scr ns _) => endsC none ρ (body (.scr ns [] :: List.replicate (n - 1) .undef))
  | _ => .bad
section
variable {X : Cx} {W : WX} {e : Expr} {es : List Expr} {den : Rho → R Res} {dl : Rho → R (List D)} {pos p1 p2 : Pos} {x y : Str} {k n np : Nat} {body : Rho → Out}
theorem je_res (h : JR X W e den) : JE X W e (dVal den) := by
  obtain ⟨t, ht, kt⟩ := h
  refine ⟨t, ht, fun F G H σ ρ Q I p => kt F G H σ ρ Q I (p.bind fun r ρ1 G1 H1 v I1 s1 r1 p1 => ?_)⟩
  cases r with
  | v d => exact p1 G1 H1 v I1 (Sub.rfl' _) r1
  | n ds =>
    obtain ⟨a, rfl, nl⟩ := r1
    obtain ⟨G2, I2, s2, r2⟩ := I1.freeze nl
    exact p1 G2 H1 _ I2 s2 r2
theorem jn_res (h : JR X W e den) : JN X W e (dNew den) := by
  obtain ⟨t, ht, kt⟩ := h
  refine ⟨t, ht, fun F G H σ ρ Q I p => kt F G H σ ρ Q I (p.bind fun r ρ1 G1 H1 v I1 s1 r1 p1 => ?_)⟩
  cases r with
  | v d => exact p1.elim
  | n ds => exact p1 G1 H1 v I1 (Sub.rfl' _) r1
theorem jr_call (hF : FnK X.prog X.w X.K X.mg X.base x k n np body) (hr : Room k X.A) (hg : Gl X x) (tk : Takes X W) (ha : JL X W (e :: es) dl) (hl : (e :: es).length = np := by rfl) (hn : np ≤ n := by decide)
    (hdb : (x == ("__debug__" : Str)) = false := by decide) (he : starEach (e :: es) X.env = (false, eval e X.env) :: starEach es X.env := by rfl) (hpl : (backTo pos (starEach es X.env)).any (·.1) = false := by rfl) : JR X W (.Call (.Name x p1) (e :: es) [] pos) (dCallV n body dl) := by
  obtain ⟨f, fd, ps, F, hm, hk, hb⟩ := hF.ex
  obtain ⟨t, ht, kt⟩ := ha
  refine ⟨_, pe_callS F hr hg hm hk hb (passAt tk) ht hdb he hpl, fun Fx G H σ ρ Q I p => kt Fx G H σ ρ _ I (p.bind fun ds ρ1 G1 H1 vs I1 s1 r1 p1 => ?_)⟩
  exact call_spec I1 (hv := []) (hd := none) (.inl ⟨rfl, rfl⟩) r1.1 (by rw [List.length_nil, Nat.zero_add, r1.2]; exact hl) hn p1
theorem jr_callH (i : Nat) (hF : FnK X.prog X.w X.K X.mg X.base x k n np body) (hr : Room k X.A) (hg : Gl X x) (tk : Takes X W) (ha : JL X W es dl) (hl : es.length + 1 = np := by rfl) (hn : np ≤ n := by decide) (hN : X.N[i]? = some y := by rfl)
    (hv : Vis X.env.scope y := by first | exact Or.inl rfl | exact Or.inr (Or.inl rfl) | exact Or.inr (Or.inr rfl)) (hd : (y == ("__debug__" : Str)) = false := by decide) (hcd : (y == ("__classdict__" : Str)) = false := by decide)
    (hdb : (x == ("__debug__" : Str)) = false := by decide) (he : starEach (.Name y p2 :: es) X.env = (false, eval (.Name y p2) X.env) :: starEach es X.env := by rfl) (hpl : (backTo pos (starEach es X.env)).any (·.1) = false := by rfl) :
    JR X W (.Call (.Name x p1) (.Name y p2 :: es) [] pos) (dCallH n body i dl) := by
  obtain ⟨f, fd, ps, F, hm, hk, hb⟩ := hF.ex
  obtain ⟨t, ht, kt⟩ := ha
  refine ⟨_, pe_callS F hr hg hm hk hb (passAt tk) (pa_cons (pe_var (i := i) hN hv hd hcd) ht he) hdb he hpl, fun Fx G H σ ρ Q I p => ?_⟩
  unfold dCallH at p
  split at p
  · exact p.elim
  rename_i ds0 e0
  obtain ⟨a0, m1, _⟩ := I.at_ e0
  refine ⟨_, m1, kt Fx G H σ ρ _ I (p.bind fun ds ρ1 G1 H1 vs I1 s1 r1 p1 => ?_)⟩
  exact call_spec I1 (hv := [V.ref a0]) (hd := some i) (.inr ⟨i, _, rfl, rfl, m1⟩) r1.1 (by rw [r1.2]; show 1 + es.length = np; omega) hn p1
theorem pe_callS0 {f : Addr} {fd : FuncData} {ps : List Str} {sp : Sp} {CX : CXT} {E : L2.St → XK} (F : FnOk X.prog X.w X.K X.mg X.base CX k f fd ps sp) (hr : Room k X.A) (hg : Gl X x) (hm : X.mg x = some (.ref f)) (hk : PySem.W.keepIn X.K (.ref f) = true) (hb : Binds X.K fd ps []) (hx : ∀ σ, PassesAt CX X σ (E σ))
    (hdb : (x == ("__debug__" : Str)) = false := by decide) : PE X (.Call (.Name x p1) [] [] pos) (tCallS sp E tNil) := by
  refine ⟨fun pins s σ H Q I h => ?_⟩
  refine wpAny_Call_Name_kw (ld_glob I hg hm ?_ hdb)
  exact PySem.W.callWith_K0 I.kIn hk (run_fnS (us := []) F hr hb (hx σ) I .nil h)
theorem jr_call0 (hF : FnK X.prog X.w X.K X.mg X.base x k n 0 body) (hr : Room k X.A) (hg : Gl X x) (tk : Takes X W) (hdb : (x == ("__debug__" : Str)) = false := by decide) : JR X W (.Call (.Name x p1) [] [] pos) (dCall0 n body) := by
  obtain ⟨f, fd, ps, F, hm, hk, hb⟩ := hF.ex
  refine ⟨_, pe_callS0 F hr hg hm hk hb (passAt tk) hdb, fun Fx G H σ ρ Q I p => ?_⟩
  exact call_spec I (hv := []) (ws := []) (hd := none) (.inl ⟨rfl, rfl⟩) .nil rfl (Nat.zero_le _) p
theorem jr_callScr (i : Nat) (hF : FnK X.prog X.w X.K X.mg X.base x k n 1 body) (hr : Room k X.A) (hg : Gl X x) (tk : Takes X W) (hn : 1 ≤ n := by decide) (hN : X.N[i]? = some y := by rfl)
    (hv : Vis X.env.scope y := by first | exact Or.inl rfl | exact Or.inr (Or.inl rfl) | exact Or.inr (Or.inr rfl)) (hd : (y == ("__debug__" : Str)) = false := by decide) (hcd : (y == ("__classdict__" : Str)) = false := by decide)
    (hdb : (x == ("__debug__" : Str)) = false := by decide) (he : starEach [.Name y p2] X.env = (false, eval (.Name y p2) X.env) :: starEach [] X.env := by rfl) (hpl : (backTo pos (starEach [] X.env)).any (·.1) = false := by rfl) :
    JR X W (.Call (.Name x p1) [.Name y p2] [] pos) (dCallS n body i) := by
  obtain ⟨f, fd, ps, F, hm, hk, hb⟩ := hF.ex
  refine ⟨_, pe_callS F hr hg hm hk hb (passAt tk) (pa_cons (pe_var (i := i) hN hv hd hcd) pa_nil he) hdb he hpl, fun Fx G H σ ρ Q I p => ?_⟩
  unfold dCallS at p
  split at p
  case h_2 => exact p.elim
  rename_i ns T e0
  obtain ⟨⟨a0, h1, h2⟩, _⟩ := I.sl i _ e0
  refine ⟨_, h1, ?_⟩
  have hall : AllSl X.K ⟨untab H, G, fun _ => none, Fx.T⟩ G H 0 (.scr ns [] :: List.replicate (n - 1) .undef) ([V.ref a0].map some ++ List.replicate (n - 1) none) := ⟨⟨⟨a0, rfl, h2⟩, fun z => absurd rfl z⟩, AllSl.und _⟩
  have I0 : SI X.K ⟨untab H, G, fun _ => none, Fx.T⟩ G H ([V.ref a0].map some ++ List.replicate (n - 1) none) (.scr ns [] :: List.replicate (n - 1) .undef) := by
    refine ⟨I.gH, I.gt, Sub.rfl' _, fun a o e => .inl e, fun a o e _ => (at_untab e).1, fun a e => untab_none e, fun k a e => (by cases e), fun k a e => (by cases e), fun k l a e1 e2 => (by cases e1), I.tb, hall.len, fun i s e => by have := hall.get i s e; rw [Nat.zero_add] at this; exact this, fun i j a d1 d2 e1 e2 s1 s2 => ?_, fun a ps e => (at_untab e).2 ps rfl, fun k a e => (by cases e)⟩
    exfalso
    obtain ⟨b, vs, x1, x2, x3, x4, x5⟩ := hall.get i _ e1
    have x5 : untab H b = none := x5
    rw [untab_at x2 (fun _ z => by cases z)] at x5; cases x5
  refine ⟨G, fun _ => none, Fx.T, _, rfl, I0, ?_⟩
  have aft : ∀ {G' H' : Hp} {σ' : L2.St} {ρ' : Rho}, SI X.K ⟨untab H, G, fun _ => none, Fx.T⟩ G' H' σ' ρ' → SI X.K Fx G' H' σ ρ := fun I' => I.after (hd := none) (a0 := 0) (ds0 := []) (fun i z => (by cases z)) (fun k a z => (by cases z)) I' rfl
  cases qo : body (.scr ns [] :: List.replicate (n - 1) .undef) with
  | next ρ' => rw [qo] at p; exact fun G' H' σ' I' s' => p G' H' _ (aft I') s' .n
  | ret d ρ' => rw [qo] at p; exact fun G' H' σ' v I' s' r' => p G' H' _ (aft I') s' r'
  | retN d ρ' =>
    rw [qo] at p
    intro G' H' σ' a vs I' s' k1 k2 k3 k4
    have k3 : untab H a = none := k3
    refine p G' H' _ (aft I') s' ⟨a, rfl, ⟨vs, k1, k4⟩, k2, I.un0 k3, fun j es ej z => ?_⟩
    obtain ⟨b', us', l1, l2, _⟩ := I.sl j _ ej
    rw [z] at l1
    cases l1
    rw [untab_at l2 (fun _ z => by cases z)] at k3
    cases k3
  | err x ρ' => rw [qo] at p; exact fun G' H' σ' cls dd I' s' ex => p G' H' cls dd (aft I') s' ex
  | brk ρ' => rw [qo] at p; exact p.elim
  | cont ρ' => rw [qo] at p; exact p.elim
  | bad => rw [qo] at p; exact p.elim
end
end Pf

/-! Pf13: try with several clauses, each with a name or without. -/
namespace Pf
open PySem PySem.Spec PyProof.Rows L2

abbrev SuT := Addr → Value → Option Addr → TS
/-- a clause: its class, the slot of its name, the suite -/
structure Cl where
  c : Value
  i : Option Nat
  ts : SuT
def offN (i : Option Nat) (σ : L2.St) : L2.St := match i with
  | none => σ
  | some i => σ.set i none
def onN (i : Option Nat) (a : Addr) (σ : L2.St) : L2.St := match i with
  | none => σ
  | some i => σ.set i (some (.ref a))
def offD (i : Option Nat) (D : Ends) : Ends := { nx := fun σ H => D.nx (offN i σ) H, rt := D.rt, bk := fun σ H => D.bk (offN i σ) H, ct := fun σ H => D.ct (offN i σ) H }
def wMulti (K : PySem.W.Frag) (Wout : WX) (D : Ends) : List Cl → WX
  | [] => Wout
  | k :: r => fun cls d σ H => ∃ b, PySem.W.exmOne K cls k.c = some b ∧ (b = true → ∀ a, H a = none → k.ts a cls d (offD k.i D) (onN k.i a σ) H) ∧ (b = false → wMulti K Wout D r cls d σ H)
/-- the clause's name is no name at all or a local of the slot -/
def NmOk (X : Cx) (n : Option Str) (i : Option Nat) : Prop := match n, i with
  | none, none => True
  | some n, some i => X.N[i]? = some n ∧ X.env.kindOf n = some .local
  | _, _ => False
inductive HdsM (X : Cx) : List ExceptHandler → List Cl → Prop
  | nil : HdsM X [] []
  | cons {x : Str} {k : Cl} {n : Option Str} {b₀ : Stmt} {suite : List Stmt} {np pos' : Pos} {hds : List ExceptHandler} {l : List Cl} (hc : Names X x k.c) (hn : NmOk X n k.i)
      (hsu : ∀ (a : Addr) (oe : Obj) (cls : Value) (d : Option Addr) (pn : List (Addr × Obj)), Zc cls d oe → (∃ vs, oe.data = .fields vs) → PSs (X.suite a ((a, oe) :: pn)) (b₀ :: suite) (k.ts a cls d)) (r : HdsM X hds l) :
      HdsM X (.ExceptHandler (some (.Name x np)) n (b₀ :: suite) pos' :: hds) (k :: l)
section
variable {X : Cx} {body : List Stmt} {h₀ : ExceptHandler} {hds : List ExceptHandler} {l : List Cl} {pos : Pos} {tb : WX → TS} {Wout : WX}
theorem ps_try_multi (hs : X.stack = X.env :: X.outer) (hf : X.env.frame = some X.env.locals) (hN : X.N.Nodup) (tk : Takes X Wout)
    (hb : ∀ (W : WX) (pn : List (Addr × Obj)) (xe : Value → Shared → Prop), Takes (X.tr pn xe) W → PassesOwn (model X.prog X.w) X.A X.env xe → PSs (X.tr pn xe) body (tb W))
    (hh : HdsM X (h₀ :: hds) l) : PS X (.Try body (h₀ :: hds) [] [] pos) (fun D σ H => tb (fun cls d σ' H' => σ'.length = X.N.length → wMulti X.K Wout D l cls d σ' H') D σ H) := by
  refine ⟨fun pins s σ H D I h => ?_⟩
  have ok := I.ok
  have hfr : X.A.frames = some (X.env :: X.outer) := by rw [ok.frames, hs]
  refine wpAny_Try_except ?_
  refine wpAny_mono ((hb (fun cls d σ' H' => σ'.length = X.N.length → wMulti X.K Wout D l cls d σ' H') (X.pn ++ pins) (fun e s₁ => wpAny (model X.prog X.w) X.A (noteFrame e X.env) (fun _ s₂ => wpAny (model X.prog X.w) X.A (setFlight e none) (fun _ s₃ =>
    wpAny (model X.prog X.w) X.A (handleBy e X.env (h₀ :: hds)) (SP X pins D) X.xe s₃) X.xe s₂) X.xe s₁) (fun u s' xx => ?_) PassesOwn.looking).run [] s σ H D (I.toTry _) h) (fun f s1 hsp => ?_) (fun e s1 he => he)
  · obtain ⟨a, B, sI, pins', σ', H', cls, d, rfl, J', nb, up, sky, na, os, ag, w⟩ := xx
    have J : Inv X pins σ' H' sI := J'.ofTry ok
    have sky' : Sky B (X.env :: X.outer) a (Zc cls d) X.env.locals s'.heap := by rw [← hs]; exact sky
    show wpAny (model X.prog X.w) X.A (noteFrame (.ref a) X.env) _ _ _
    refine Sky.land Zc.steady hfr hf sky' fun h3 fl3 up3 => ?_
    have J3 : Inv X pins σ' H' { s' with heap := h3 } := J.landed nb fl3.1 (up.trans up3) os ag
    obtain ⟨oe3, vs3, he3, hz3, hd3⟩ := fl3.there
    have notFr : ∀ {h : Heap} {o : Obj} {vs : Array Value}, h.FunFrames B (X.env :: X.outer) → h.get? a = some o → o.data = .fields vs → a ∉ frs (X.env :: X.outer) := fun {h o vs} ff e dd hm => by
      obtain ⟨_, o', e', hnf⟩ := ff.mem hm
      rw [e] at e'; cases e'
      exact hnf _ dd
    have nfr := notFr fl3.2.2.1 he3 hd3
    have nL : a ≠ X.env.locals := fun z => nfr (List.mem_filterMap.mpr ⟨X.env, List.mem_cons_self, by rw [hf, z]⟩)
    have nF : a ∉ X.fs := fun hm => by
      obtain ⟨e, he, q⟩ := List.mem_filterMap.mp hm
      exact nfr (List.mem_filterMap.mpr ⟨e, List.mem_cons_of_mem _ he, q⟩)
    have S3 := J3.suite he3 hd3 na nL nF
    have go : ∀ {hds' : List ExceptHandler} {l' : List Cl}, HdsM X hds' l' → wMulti X.K Wout D l' cls d σ' H' →
        wpAny (model X.prog X.w) X.A (handleBy (.ref a) X.env hds') (SP X pins D) X.xe { s' with heap := h3 } := by
      intro hds' l' hk
      induction hk with
      | nil =>
        intro w
        refine wpAny_handleBy_nil ?_
        obtain ⟨k1, k2, k3, oe, vs, T, oT, ts', he, hz, hd, h1, hr⟩ := id fl3
        unfold PySem.passOn
        refine wpAny_bind (wpAny_field he hd h1 ?_)
        rw [if_neg (show ¬ ((Value.ref T == Value.none) = true) from by simp)]
        have fin : wpAny (model X.prog X.w) X.A (setFlight (.ref a) X.env.frame) (fun _ s4 => wpAny (model X.prog X.w) X.A (throw (.ref a) : Sem Flow) (SP X pins D) X.xe s4) X.xe { s' with heap := h3 } := by
          rw [hf]
          refine HandSPX.setFlight_upZ fl3 fun h4 hh4 up4 => wpAny_throw (tk _ _ ?_)
          exact ⟨a, B, sI, pins, σ', H', cls, d, rfl, J, nb, (up.trans up3).trans up4, .inr (.inr (by rw [hs]; exact hh4)), na, os, ag, w⟩
        first
          | exact wpAny_bind (wpAny_pure (wpAny_bind fin))
          | exact wpAny_bind fin
      | @cons x k n b₀ suite np pos' hds2 l2 hc hn hsu r ih =>
        intro w
        obtain ⟨b, hb1, hyes, hno⟩ := w
        refine wpAny_handleBy_cons (codeAny_handlers_test ?_) (by intro q; cases q)
        have LT : PySem.W.Looks (model X.prog X.w) h3 (typeOf (.ref a)) cls := fun A Q E s k q => wpAny_typeOf_ref (k _ _ he3) (by rw [hz3.1]; exact q)
        have LM := PySem.W.exm_one (M := model X.prog X.w) (J3.kIn) LT hb1
        have test : ∀ {Q : Value → Shared → Prop} {E : Value → Shared → Prop}, Q k.c { s' with heap := h3 } → wpAny (model X.prog X.w) (X.A.mark (some (.ref a))) (eval (.Name x np) X.env) Q E { s' with heap := h3 } := fun {Q E} q => by
          obtain ⟨hg, hdbg, hm | ⟨hm, hv, hnn⟩⟩ := hc
          · exact ld_glob (X := X.suite a ((a, oe3) :: (X.pn ++ pins))) S3 hg hm q hdbg
          · exact ld_blt (X := X.suite a ((a, oe3) :: (X.pn ++ pins))) S3 hg hm hv q hnn hdbg
        refine test (LM.here ?_)
        cases b with
        | false =>
          show wpAny _ X.A (handleBy (.ref a) X.env hds2) _ _ _
          exact ih (hno rfl)
        | true =>
          have hy := hyes rfl a na
          obtain ⟨kc, ki, kts⟩ := k
          cases n with
          | none =>
            cases ki with
            | some i => exact False.elim hn
            | none =>
              refine codeAny_handlers_suite ?_
              refine HandSPX.lands_againZ fl3 fun h4 fl4 up4 => ?_
              have J4 : Inv X pins σ' H' { s' with heap := h4 } := J.landed nb fl4.1 ((up.trans up3).trans up4) os ag
              obtain ⟨oe4, vs4, he4, hz4, hd4⟩ := fl4.there
              have S4 := J4.suite he4 hd4 na nL nF
              refine wpAny_mono ((hsu a oe4 cls d (X.pn ++ pins) hz4 ⟨_, hd4⟩).run [] _ _ H' _ S4 hy) (fun f s6 hsp => ?_) (fun _ _ z => False.elim z)
              cases f with
              | next =>
                obtain ⟨σ6, H6, S6, q6⟩ := hsp
                exact ⟨_, _, S6.unsuite ok, q6⟩
              | brk =>
                obtain ⟨σ6, H6, S6, q6⟩ := hsp
                exact ⟨_, _, S6.unsuite ok, q6⟩
              | cont =>
                obtain ⟨σ6, H6, S6, q6⟩ := hsp
                exact ⟨_, _, S6.unsuite ok, q6⟩
              | ret u =>
                obtain ⟨v6, σ6, H6, S6, r6, q6⟩ := hsp
                exact ⟨_, _, _, S6.unsuite ok, r6, q6⟩
          | some n =>
            cases ki with
            | none => exact False.elim hn
            | some i =>
              obtain ⟨hi, hln⟩ := hn
              have hloc : Loc X.env.scope n := .inl hln
              refine codeAny_handlers_suite_as ?_
              refine HandSPX.lands_againZ fl3 fun h4 fl4 up4 => ?_
              have J4 : Inv X pins σ' H' { s' with heap := h4 } := J.landed nb fl4.1 ((up.trans up3).trans up4) os ag
              obtain ⟨oe4, vs4, he4, hz4, hd4⟩ := fl4.there
              have S4 := J4.suite he4 hd4 na nL nF
              refine store_ok (X := X.suite a ((a, oe4) :: (X.pn ++ pins))) (v := .ref a) S4 hN hi hloc rfl (fun s5 S5 => ?_) (.inr hln)
              refine wpAny_mono ((hsu a oe4 cls d (X.pn ++ pins) hz4 ⟨_, hd4⟩).run [] s5 _ H' _ S5 hy) (fun f s6 hsp => ?_) (fun _ _ z => False.elim z)
              have end_ : ∀ {σ6 : L2.St} {H6 : Hp} {Q : Shared → Prop}, Inv (X.suite a ((a, oe4) :: (X.pn ++ pins))) [] σ6 H6 s6 → (∀ s7, Inv X pins (σ6.set i none) H6 s7 → Q s7) →
                  wpAny (model X.prog X.w) X.A (do bindName X.env n .none; unbindBehindTheSuite X.env n pos') (fun _ s7 => Q s7) X.xe s6 := fun {σ6 H6 Q} S6 hq => gone_ok (S6.unsuite ok) hN hi hln hq
              cases f with
              | next =>
                obtain ⟨σ6, H6, S6, q6⟩ := hsp
                exact end_ S6 fun s7 J7 => ⟨_, _, J7, q6⟩
              | brk =>
                obtain ⟨σ6, H6, S6, q6⟩ := hsp
                exact end_ S6 fun s7 J7 => ⟨_, _, J7, q6⟩
              | cont =>
                obtain ⟨σ6, H6, S6, q6⟩ := hsp
                exact end_ S6 fun s7 J7 => ⟨_, _, J7, q6⟩
              | ret u =>
                obtain ⟨v6, σ6, H6, S6, r6, q6⟩ := hsp
                exact end_ S6 fun s7 J7 => ⟨_, _, _, J7, r6, q6⟩
    exact go hh (w J.len)
  · cases f with
    | next =>
      obtain ⟨σ', H', J', q⟩ := hsp
      exact wpAny_execs_nil ⟨σ', H', J'.ofTry ok, q⟩
    | brk =>
      obtain ⟨σ', H', J', q⟩ := hsp
      exact ⟨σ', H', J'.ofTry ok, q⟩
    | cont =>
      obtain ⟨σ', H', J', q⟩ := hsp
      exact ⟨σ', H', J'.ofTry ok, q⟩
    | ret u =>
      obtain ⟨v, σ', H', J', r, q⟩ := hsp
      exact ⟨v, σ', H', J'.ofTry ok, r, q⟩
end
end Pf

/-! Pf14: raise, try. -/
namespace Pf
open PySem PySem.Spec PyProof.Rows L2

def relX (K : PySem.W.Frag) (mg : Str → Option Value) : Rel Ex (Value × Option Addr) := fun _ _ G H _ b x => ExOk K mg G H x b.1 b.2
def JX (X : Cx) (W : WX) (e : Expr) (den : Rho → R Ex) : Prop := ∃ t, PMk X e t ∧ ∀ F G H σ ρ (Q : XK), SI X.K F G H σ ρ → Post X.K X.mg F G σ W (relX X.K X.mg) (fun b H' => Q b.1 b.2 H') (den ρ) → t σ H Q
def dRaise (e : Rho → R Ex) (ρ : Rho) : Out := (e ρ).out fun x ρ1 => .err x ρ1
theorem js_raise {X : Cx} {W : WX} {e : Expr} {de : Rho → R Ex} {pos : Pos} (hc : X.calm = true) (tk : Takes X W) (h : JX X W e de) : JS X W (.Raise (some e) none pos) (dRaise de) := by
  obtain ⟨t, ht, k⟩ := h
  refine ⟨_, ps_raise hc tk ht, fun F G H σ ρ D I p => k F G H σ ρ _ I (SPost.bind (rel := relX X.K X.mg) p fun x ρ1 G1 H1 b I1 s1 r1 p1 => ?_)⟩
  exact p1 G1 H1 σ b.1 b.2 I1 (Sub.rfl' _) r1

section
variable {X : Cx} {W : WX} {bmB : List Value} {B newId initId : String} {C : Addr} {x f : Str} {p pos p1 p2 : Pos} {e : Expr} {de : Rho → R D}
theorem pmk_own0 (F : ExcBaseFacts B newId initId bmB) (q : PySem.W.excIn X.K C bmB newId = true) (gC : X.mg x = some (.ref C)) (kC : PySem.W.keepIn X.K (.ref C) = true) (r : Raises X (.ref C)) (hg : Gl X x)
    (hdb : (x == ("__debug__" : Str)) = false := by decide) : PMk X (.Call (.Name x p) [] [] pos) (fun _ H Q => Q (.ref C) none H) := by
  intro pins s σ H Q I h
  refine wpAny_Call_Name_kw (ld_glob I hg gC ?_ hdb)
  refine PySem.W.callWith_K0 I.kIn kC ?_
  show wpAny _ _ (call (.ref C) []) _ _ _
  obtain ⟨bm, N, nm, qn, bs, hdct, sn, sub, ab, col, dd, k0, k1, k2, k3, k5, mN, hC, hN, hni, T⟩ := exc_obj I.kIn q
  refine wpAny_call_exc_subT F T hC hN hni (fun h' e hm => ?_) (by show 0 ≤ sizeLine; exact Nat.zero_le _)
  exact mk_of I hm r h (I.hok.gone hm.new)
end
abbrev mroVE : List Value := [.type "ValueError", .type "Exception", .type "BaseException", .type "object"]
/-- an own exception class without fields -/
structure ExK0 (K : PySem.W.Frag) (mg : Str → Option Value) (x : Str) : Prop where
  ex : ∃ C, mg x = some (.ref C) ∧ PySem.W.excIn K C mroVE "ValueError.__new__" = true ∧ PySem.W.keepIn K (.ref C) = true ∧ PySem.W.subIn K (.ref C) (.type "BaseException") = some true ∧ PySem.W.typeIn K (.ref C) = some (.type "type")
/-- self.f = the argument -/
def spIni (K : PySem.W.Frag) (f : Str) : Sp := fun vs H Q _ => ∃ (a C : Addr) (y : V), vs = [.ref a, y] ∧ OexC K C ∧ PySem.W.findIn K (.ref C) f = some none ∧ H a = some (exo a C none) ∧
  ∀ dx, H dx = none → dx ≠ a → Q .non (upd (upd H dx (exd dx [(f, y)])) a (exo a C (some dx)))
/-- an own exception class with one field -/
structure ExK1 (P : Program) (w : World) (K : PySem.W.Frag) (mg : Str → Option Value) (base : Heap) (x f : Str) : Prop where
  ex : ∃ (C fI : Addr) (fd : FuncData) (ps : List Str), mg x = some (.ref C) ∧ OexC K C ∧ PySem.W.findIn K (.ref C) f = some none ∧ PySem.W.findIn K (.ref C) "__init__" = some (some (.ref fI)) ∧ PySem.W.typeIn K (.ref fI) = some (.type "function") ∧
    FnOk P w K mg base (L2.CX P w) 1 fI fd ps (spIni K f) ∧ Binds K fd ps []
def dExc0 (x : Str) (ρ : Rho) : R Ex := .ok ⟨x, []⟩ ρ
def dExc1 (x f : Str) (e : Rho → R D) (ρ : Rho) : R Ex := (e ρ).bind fun d ρ1 => .ok ⟨x, [(f, d)]⟩ ρ1
section
variable {X : Cx} {W : WX} {x f : Str} {p pos p1 p2 : Pos} {e : Expr} {de : Rho → R D}
theorem jx_own0 (E : ExK0 X.K X.mg x) (hg : Gl X x) (hdb : (x == ("__debug__" : Str)) = false := by decide) : JX X W (.Call (.Name x p) [] [] pos) (dExc0 x) := by
  obtain ⟨C, gC, q, kC, h1, h2⟩ := E.ex
  exact ⟨_, pmk_own0 PySem.F.excBase_ValueError q gC kC (raises_own h1 h2) hg hdb, fun F G H σ ρ Q I p => p G H (.ref C, none) I (Sub.rfl' _) ⟨gC, fun h => absurd rfl h, fun _ => rfl⟩⟩
theorem jx_own1 (E : ExK1 X.prog X.w X.K X.mg X.base x f) (hr : Room 2 X.A) (hg : Gl X x) (he : JE X W e de) (hdb : (x == ("__debug__" : Str)) = false := by decide) (hs : starEach [e] X.env = (false, eval e X.env) :: starEach [] X.env := by rfl) :
    JX X W (.Call (.Name x p) [e] [] pos) (dExc1 x f de) := by
  obtain ⟨C, fI, fd, ps, gC, T, hno, iC, tI, F1, hb⟩ := E.ex
  obtain ⟨t, ht, kt⟩ := he
  refine ⟨_, pmk_oex T iC tI F1 hr hb .nil passL hg gC (pa_cons ht pa_nil hs) hdb hs rfl, fun F G H σ ρ Q I p => kt F G H σ ρ _ I (p.bind fun d ρ1 G1 H1 v I1 s1 r1 p1 => ?_)⟩
  refine ⟨by show 1 ≤ 1000; decide, fun a ha => ⟨a, C, v, rfl, T, hno, upd_same, fun dx hdx ndx => ⟨rfl, dx, [(f, v)], upd_same, ?_, ?_, ?_⟩⟩⟩
  · rw [upd_ne ndx, upd_same]
  · rw [upd_ne ndx] at hdx; exact hdx
  · rw [upd_ne ndx] at hdx
    have e : upd (del (upd (upd (upd H1 a (exo a C none)) dx (exd dx [(f, v)])) a (exo a C (some dx))) a) dx (HO.xd [(f, v)]) = upd H1 dx (HO.xd [(f, v)]) := by
      funext b
      by_cases hb : b = dx
      · subst hb; rw [upd_same, upd_same]
      · rw [upd_ne hb, upd_ne hb]
        by_cases ha' : b = a
        · subst ha'; rw [del_same]; exact ha.symm
        · rw [del_ne ha', upd_ne ha', upd_ne hb, upd_ne ha']
    rw [e]
    exact p1 G1 _ (.ref C, some dx) (I1.allocH hdx) (Sub.rfl' _) ⟨gC, fun _ => ⟨dx, _, rfl, upd_same, ⟨rfl, r1, True.intro⟩⟩, fun z => (by cases z)⟩
end

/-! ### suites -/
structure SuC where
  a : Addr
  oe : Obj
  cls : Value
  d : Option Addr
  pn : List (Addr × Obj)
abbrev SuC.cx (c : SuC) (X : Cx) : Cx := X.suite c.a ((c.a, c.oe) :: c.pn)
def SuC.ok (c : SuC) : Prop := Zc c.cls c.d c.oe ∧ ∃ vs, c.oe.data = .fields vs
/-- an expression, a statement of a suite that may look at the exception in slot i -/
def JEu (X : Cx) (i : Option Nat) (e : Expr) (den : Ex → Rho → R D) : Prop := ∀ c : SuC, c.ok → ∃ t, PE (c.cx X) e t ∧ ∀ F G H σ ρ x (Q : VK), SI X.K F G H σ ρ → (∀ j, i = some j → σ[j]? = some (some (V.ref c.a))) → ExOk X.K X.mg G H x c.cls c.d →
  Post X.K X.mg F G σ W0 (relE X.K) Q (den x ρ) → t σ H Q
def JEnu (X : Cx) (i : Option Nat) (e : Expr) (den : Ex → Rho → R (List D)) : Prop := ∀ c : SuC, c.ok → ∃ t, PE (c.cx X) e t ∧ ∀ F G H σ ρ x (Q : VK), SI X.K F G H σ ρ → (∀ j, i = some j → σ[j]? = some (some (V.ref c.a))) → ExOk X.K X.mg G H x c.cls c.d →
  Post X.K X.mg F G σ W0 (relN X.K) Q (den x ρ) → t σ H Q
def JSu (X : Cx) (i : Option Nat) (st : Stmt) (den : Ex → Rho → Out) : Prop := ∀ c : SuC, c.ok → ∃ t, PS (c.cx X) st t ∧ ∀ F G H σ ρ x D, SI X.K F G H σ ρ → (∀ j, i = some j → σ[j]? = some (some (V.ref c.a))) → ExOk X.K X.mg G H x c.cls c.d →
  SPost X.K X.mg F G W0 D (den x ρ) → t D σ H
def JSsu (X : Cx) (i : Option Nat) (st : List Stmt) (den : Ex → Rho → Out) : Prop := ∀ c : SuC, c.ok → ∃ t, PSs (c.cx X) st t ∧ ∀ F G H σ ρ x D, SI X.K F G H σ ρ → (∀ j, i = some j → σ[j]? = some (some (V.ref c.a))) → ExOk X.K X.mg G H x c.cls c.d →
  SPost X.K X.mg F G W0 D (den x ρ) → t D σ H
section
variable {X : Cx} {i : Option Nat} {e : Expr} {st : Stmt} {sts : List Stmt} {pos p1 p2 p3 : Pos} {y f cn : Str}
theorem jssu_of {d : Rho → Out} (h : ∀ c : SuC, c.ok → JSs (c.cx X) W0 sts d) : JSsu X i sts (fun _ => d) := fun c hc => by
  obtain ⟨t, ht, k⟩ := h c hc
  exact ⟨t, ht, fun F G H σ ρ x D I _ _ p => k F G H σ ρ D I p⟩
theorem jssu_one {d : Ex → Rho → Out} (h : JSu X i st d) : JSsu X i [st] d := fun c hc => by
  obtain ⟨t, ht, k⟩ := h c hc
  exact ⟨t, pss_one ht, k⟩
theorem jssu_cons {d : Ex → Rho → Out} {d2 : Rho → Out} (h : JSu X i st d) (h2 : ∀ c : SuC, c.ok → JSs (c.cx X) W0 sts d2) : JSsu X i (st :: sts) (fun x => dSeq (d x) d2) := fun c hc => by
  obtain ⟨t, ht, k⟩ := h c hc
  obtain ⟨u, hu, k2⟩ := h2 c hc
  refine ⟨_, pss_cons ht hu, fun F G H σ ρ x D I hi hx p => k F G H σ ρ x _ I hi hx ?_⟩
  have p : SPost X.K X.mg F G W0 D (dSeq (d x) d2 ρ) := p
  unfold dSeq at p
  cases q : d x ρ with
  | next ρ' => rw [q] at p; exact fun G' H' σ' I' s => k2 F G' H' σ' ρ' D I' (SPost.mono s p)
  | ret d ρ' => rw [q] at p; exact p
  | retN d ρ' => rw [q] at p; exact p
  | brk ρ' => rw [q] at p; exact p
  | cont ρ' => rw [q] at p; exact p
  | err x ρ' => rw [q] at p; exact p
  | bad => rw [q] at p; exact p
theorem jsu_set (k : Nat) {d : Ex → Rho → R D} (hN : X.N.Nodup) (he : JEu X i e d) (hi : X.N[k]? = some y := by rfl) (hx : Loc X.env.scope y := by first | exact Or.inl rfl | exact Or.inr rfl)
    (hs : ∀ c : SuC, swapsWith e (some (.Name y p1)) pos.line (c.cx X).env = pure false := by intro _; rfl) (hf : X.fn y = true ∨ X.env.scope.names.lookup y = some .local := by first | exact .inl rfl | exact .inr rfl | assumption) : JSu X i (.Assign [.Name y p1] e pos) (fun x => dSet k (d x)) := fun c hc => by
  obtain ⟨t, ht, kt⟩ := he c hc
  refine ⟨_, ps_set (X := c.cx X) (i := k) hN hi hx ht (hs c) hf, fun F G H σ ρ x D I hi hx p => kt F G H σ ρ x _ I hi hx (SPost.bind (rel := relE X.K) p fun d ρ1 G1 H1 v I1 s1 r1 p1 => ?_)⟩
  split at p1
  · exact p1.elim
  · exact p1 G1 H1 _ (I1.setImm r1) (Sub.rfl' _)
theorem jsu_setN (k : Nat) {d : Ex → Rho → R (List D)} (hN : X.N.Nodup) (he : JEnu X i e d) (hi : X.N[k]? = some y := by rfl) (hx : Loc X.env.scope y := by first | exact Or.inl rfl | exact Or.inr rfl)
    (hs : ∀ c : SuC, swapsWith e (some (.Name y p1)) pos.line (c.cx X).env = pure false := by intro _; rfl) (hf : X.fn y = true ∨ X.env.scope.names.lookup y = some .local := by first | exact .inl rfl | exact .inr rfl | assumption) : JSu X i (.Assign [.Name y p1] e pos) (fun x => dSetN k (d x)) := fun c hc => by
  obtain ⟨t, ht, kt⟩ := he c hc
  refine ⟨_, ps_set (X := c.cx X) (i := k) hN hi hx ht (hs c) hf, fun F G H σ ρ x D I hi hx p => kt F G H σ ρ x _ I hi hx (SPost.bind (rel := relN X.K) p fun d ρ1 G1 H1 v I1 s1 r1 p1 => ?_)⟩
  obtain ⟨a, e, n⟩ := r1
  subst e
  split at p1
  · exact p1.elim
  · exact p1 G1 H1 _ (I1.setOwn n) (Sub.rfl' _)
/-- e.f of the class named cn -/
def dXf (cn f : Str) (x : Ex) (ρ : Rho) : R D := if x.cls = cn then lift (x.fs.lookup f) ρ else .bad
theorem fsOk_lookup {K : PySem.W.Frag} {G : Hp} {f : Str} : ∀ {vs : List (Str × V)} {fs : List (Str × D)} {d : D}, FsOk K G vs fs → fs.lookup f = some d → ∃ v, vs.lookup f = some v ∧ Rp K G v d
  | [], [], _, _, e => by cases e
  | (g, v) :: vs, (g', d') :: fs, d, h, e => by
    obtain ⟨h1, h2, h3⟩ := h
    subst h1
    by_cases q : f = g
    · subst q
      simp [List.lookup] at e ⊢
      subst e
      exact h2
    · have q' : (f == g) = false := by simpa using q
      simp [List.lookup, q'] at e ⊢
      exact fsOk_lookup h3 e
theorem jeu_xf (j : Nat) {C : Addr} (gC : X.mg cn = some (.ref C)) (T : XfC X.K C) (hno : PySem.W.findIn X.K (.ref C) f = some none) (hij : i = some j) (hN : X.N[j]? = some y := by rfl) (hv : Vis X.env.scope y := by first | exact Or.inl rfl | exact Or.inr (Or.inl rfl) | exact Or.inr (Or.inr rfl))
    (hd : (y == ("__debug__" : Str)) = false := by decide) (hcd : (y == ("__classdict__" : Str)) = false := by decide) (hb : ∀ c : SuC, attributeBase (.Name y p1) f (c.cx X).env (eval (.Name y p1) (c.cx X).env) = eval (.Name y p1) (c.cx X).env := by intro _; rfl) :
    JEu X i (.Attribute (.Name y p1) f pos) (dXf cn f) := fun c hc => by
  refine ⟨_, pe_xf T hno hc.1 hc.2 (pe_var (X := c.cx X) (i := j) hN hv hd hcd) (hb c), fun F G H σ ρ x Q I hi hx p => ?_⟩
  unfold dXf at p
  split at p
  · rename_i ec
    obtain ⟨d, e1, p⟩ := p.lift
    obtain ⟨h1, h2, h3⟩ := hx
    rw [ec, gC] at h1
    have ne : x.fs ≠ [] := fun z => by rw [z] at e1; cases e1
    obtain ⟨dd, vs, h4, h5, h6⟩ := h2 ne
    obtain ⟨v, q1, q2⟩ := fsOk_lookup h6 e1
    exact ⟨_, hi j hij, rfl, (Option.some.inj h1).symm, dd, vs, v, h4, h5, q1, p G H v I (Sub.rfl' _) q2⟩
  · exact p.elim
/-- (a text, e.f) -/
def dXt (m cn f : Str) (x : Ex) (ρ : Rho) : R D := (dXf cn f x ρ).bind fun d ρ1 => .ok (.tuple [.str m, d]) ρ1
theorem jeu_xt {e : Expr} {m : Str} {k j : Nat} (h : JEu X i e (dXf cn f)) (hs1 : ∀ c : SuC, starEach [.Constant (.str m) k p2, e] (c.cx X).env = (false, eval (.Constant (.str m) k p2) (c.cx X).env) :: starEach [e] (c.cx X).env := by intro _; rfl)
    (hs2 : ∀ c : SuC, starEach [e] (c.cx X).env = (false, eval e (c.cx X).env) :: starEach [] (c.cx X).env := by intro _; rfl) : JEu X i (.Tuple [.Constant (.str m) k p2, e] j pos) (dXt m cn f) := fun c hc => by
  obtain ⟨t, ht, kt⟩ := h c hc
  refine ⟨_, pe_tup (pa_cons pe_str (pa_cons ht pa_nil (hs2 c)) (hs1 c)), fun F G H σ ρ x Q I hi hx p => ?_⟩
  refine kt F G H σ ρ x _ I hi hx (p.bind fun d ρ1 G1 H1 v I1 s1 r1 p1 => ⟨Nat.le_of_lt (small1000 (by show 2 ≤ 1000; decide)), fun q hq => ?_⟩)
  exact Gives.tup (o := some (PyData.tuple [.str m, d])) ⟨_, rfl, fun G' H' v I' s' r' => p1 G' H' v I' s' r'⟩ I1 rfl (.cons (.s m) (.cons r1 .nil)) hq
end
end Pf

/-! Pf15: isinstance of the exception, try, while, pairs, new lists. -/
namespace Pf
open PySem PySem.Spec PyProof.Rows L2

/-! ### isinstance(e, X) -/
/-- what the written part says of the classes known, as isinstance(.., A) asks -/
structure ExA (K : PySem.W.Frag) (mg : Str → Option Value) (known : List Str) (A : Str) : Prop where
  ex : ∃ CA, mg A = some (.ref CA) ∧ ∀ nm ∈ known, ∃ D, mg nm = some (.ref D) ∧ ExcC K D ∧ PySem.W.kitOne K (.ref D) (.ref CA) = some (decide (nm = A))
/-- quiet expressions of a suite: nothing is asked of the heap, nothing is changed -/
def JEq (X : Cx) (i : Nat) (e : Expr) (f : Ex → Option D) : Prop := ∀ c : SuC, c.ok → ∃ t, PE (c.cx X) e t ∧ ∀ σ H x d (Q : VK), σ[i]? = some (some (V.ref c.a)) → X.mg x.cls = some c.cls → (x.fs = [] → c.d = none) → f x = some d → (∀ v, (∀ G, Rp X.K G v d) → Q v H) → t σ H Q
def JLq (X : Cx) (i : Nat) (es : List Expr) (f : Ex → Option (List D)) : Prop := ∀ c : SuC, c.ok → ∃ t, PA (c.cx X) es t ∧ ∀ σ H x d (Q : List V → Hp → Prop), σ[i]? = some (some (V.ref c.a)) → X.mg x.cls = some c.cls → (x.fs = [] → c.d = none) → f x = some d → (∀ v, (∀ G, Rs X.K G v d) → Q v H) → t σ H Q
def fIs (known : List Str) (A : Str) (x : Ex) : Option D := if x.cls ∈ known ∧ x.fs = [] then some (.bool (decide (x.cls = A))) else none
def fNil (_ : Ex) : Option (List D) := some []
def fCons (a : Ex → Option D) (b : Ex → Option (List D)) (x : Ex) : Option (List D) := match a x, b x with
  | some d, some ds => some (d :: ds)
  | _, _ => none
def dQ (f : Ex → Option (List D)) (x : Ex) (ρ : Rho) : R (List D) := lift (f x) ρ
theorem exO_cls {K : PySem.W.Frag} {mg : Str → Option Value} {G H : Hp} {x : Ex} {cls : Value} {d : Option Addr} (h : ExOk K mg G H x cls d) : mg x.cls = some cls := h.1
section
variable {X : Cx} {i : Nat} {e : Expr} {es : List Expr} {pos p1 p2 p3 : Pos} {y A : Str} {known : List Str}
theorem jeq_is (E : ExA X.K X.mg known A) (hg : Gl X "isinstance") (hm : X.mg "isinstance" = none) (hgA : Gl X A) (hdA : (A == ("__debug__" : Str)) = false := by decide) (hN : X.N[i]? = some y := by rfl) (hv : Vis X.env.scope y := by first | exact Or.inl rfl | exact Or.inr (Or.inl rfl) | exact Or.inr (Or.inr rfl))
    (hd : (y == ("__debug__" : Str)) = false := by decide) (hcd : (y == ("__classdict__" : Str)) = false := by decide)
    (hs1 : ∀ c : SuC, starEach [.Name y p1, .Name A p2] (c.cx X).env = (false, eval (.Name y p1) (c.cx X).env) :: starEach [.Name A p2] (c.cx X).env := by intro _; rfl)
    (hs2 : ∀ c : SuC, starEach [.Name A p2] (c.cx X).env = (false, eval (.Name A p2) (c.cx X).env) :: starEach [] (c.cx X).env := by intro _; rfl) : JEq X i (.Call (.Name "isinstance" p3) [.Name y p1, .Name A p2] [] pos) (fIs known A) := fun c hc => by
  obtain ⟨CA, gA, hk⟩ := E.ex
  by_cases hD : ∃ D, c.cls = .ref D ∧ c.d = none ∧ ExcC X.K D
  · obtain ⟨D, e1, e2, TD⟩ := hD
    have hz : Zc (.ref D) none c.oe := by have := hc.1; rw [e1, e2] at this; exact this
    refine ⟨_, pe_callB (X := c.cx X) (call_isE TD hz hc.2) hg hm (by rfl) (pa_cons (pe_var (X := c.cx X) (i := i) hN hv hd hcd) (pa_cons (pe_glob (X := c.cx X) (v := .ref CA) hgA gA rfl hdA) pa_nil (hs2 c)) (hs1 c)) (by decide) (by decide) (hs1 c) (by rw [hs2 c]; rfl), fun σ H x d Q hi hx hn hf k => ?_⟩
    unfold fIs at hf
    split at hf
    · rename_i h
      cases hf
      obtain ⟨D', g', T', q'⟩ := hk x.cls h.1
      rw [hx, e1] at g'
      cases g'
      exact ⟨_, hi, V.ref CA, .ref CA, _, rfl, fun u hu => hu, q', k (.bl _) fun G => .b _⟩
    · cases hf
  · refine ⟨fun _ _ _ => False, ⟨fun pins s σ H Q I h => h.elim⟩, fun σ H x d Q hi hx hn hf k => ?_⟩
    unfold fIs at hf
    split at hf
    · rename_i h
      obtain ⟨D', g', T', q'⟩ := hk x.cls h.1
      rw [hx] at g'
      exact hD ⟨D', Option.some.inj g', hn h.2, T'⟩
    · cases hf
theorem jlq_nil : JLq X i [] fNil := fun c hc => ⟨_, pa_nil, fun σ H x d Q _ _ _ hf k => by cases hf; exact k [] fun G => .nil⟩
theorem jlq_cons {f : Ex → Option D} {g : Ex → Option (List D)} (h : JEq X i e f) (h2 : JLq X i es g) (hs : ∀ c : SuC, starEach (e :: es) (c.cx X).env = (false, eval e (c.cx X).env) :: starEach es (c.cx X).env := by intro _; rfl) : JLq X i (e :: es) (fCons f g) := fun c hc => by
  obtain ⟨t, ht, k1⟩ := h c hc
  obtain ⟨u, hu, k2⟩ := h2 c hc
  refine ⟨_, pa_cons ht hu (hs c), fun σ H x d Q hi hx hn hf k => ?_⟩
  unfold fCons at hf
  split at hf
  · rename_i d1 ds e1 e2
    cases hf
    exact k1 σ H x d1 _ hi hx hn e1 fun v r => k2 σ H x ds _ hi hx hn e2 fun vs rs => k (v :: vs) fun G => .cons (r G) (rs G)
  · cases hf
theorem jenu_lst {f : Ex → Option (List D)} (h : JLq X i es f) (hn : es.length ≤ 1000 := by decide) (hl : ∀ x ds, f x = some ds → ds.length = es.length) : JEnu X (some i) (.List es pos) (dQ f) := fun c hc => by
  obtain ⟨t, ht, kt⟩ := h c hc
  refine ⟨_, pe_lst ht, fun F G H σ ρ x Q I hi hx p => ?_⟩
  obtain ⟨ds, e1, p⟩ := p.lift
  refine kt σ H x ds _ (hi i rfl) hx.1 (fun z => hx.2.2 z) e1 fun vs r => ⟨?_, fun a ha => ?_⟩
  · rw [(r G).length, hl x ds e1]; exact Nat.le_of_lt (small1000 hn)
  · obtain ⟨I2, n⟩ := I.newL ha (r G)
    exact p G _ _ I2 (Sub.rfl' _) ⟨a, rfl, n⟩
theorem fCons_len {f : Ex → Option D} {g : Ex → Option (List D)} {n : Nat} (h : ∀ x ds, g x = some ds → ds.length = n) : ∀ x ds, fCons f g x = some ds → ds.length = n + 1 := fun x ds e => by
  unfold fCons at e
  split at e
  · rename_i d ds' _ e2
    cases e
    simp [h x ds' e2]
  · cases e
theorem fNil_len : ∀ x ds, fNil x = some ds → ds.length = 0 := fun x ds e => by cases e; rfl
end

/-! ### try -/
/-- a clause: its class by name, the slot of its name, its suite -/
structure ClD where
  c : Str
  i : Option Nat
  den : Ex → Rho → Out
def offR (i : Option Nat) (ρ : Rho) : Rho := match i with
  | none => ρ
  | some i => ρ.set i .undef
def offO (i : Option Nat) : Out → Out
  | .next ρ => .next (offR i ρ)
  | .brk ρ => .brk (offR i ρ)
  | .cont ρ => .cont (offR i ρ)
  | .err _ _ => .bad
  | o => o
def lenOk (i : Option Nat) (ρ : Rho) : Bool := match i with
  | none => true
  | some i => decide (i < ρ.length)
def dCls (base : Str) : List ClD → Ex → Rho → Out
  | [], x, ρ => .err x ρ
  | k :: r, x, ρ => if subC base x.cls k.c = true then (if lenOk k.i ρ = true then offO k.i (k.den x (offR k.i ρ)) else .bad) else dCls base r x ρ
def dTry (base : Str) (known : List Str) (body : Rho → Out) (l : List ClD) (ρ : Rho) : Out :=
  match body ρ with
  | .err x ρ1 => if x.cls ∈ known then dCls base l x ρ1 else .bad
  | o => o
/-- what an except clause asks of the classes known -/
structure ExM (K : PySem.W.Frag) (mg : Str → Option Value) (base : Str) (known : List Str) (c : Str) : Prop where
  ex : ∃ C, mg c = some (.ref C) ∧ ∀ nm ∈ known, ∃ D, mg nm = some (.ref D) ∧ PySem.W.exmOne K (.ref D) (.ref C) = some (subC base nm c)
inductive HdsD (X : Cx) (base : Str) (known : List Str) : List ExceptHandler → List ClD → Prop
  | nil : HdsD X base known [] []
  | cons {x : Str} {k : ClD} {n : Option Str} {b₀ : Stmt} {suite : List Stmt} {np pos' : Pos} {hds : List ExceptHandler} {l : List ClD} (E : ExM X.K X.mg base known k.c) (ec : x = k.c) (hg : Gl X x) (hd : (x == ("__debug__" : Str)) = false) (hn : NmOk X n k.i)
      (hs : JSsu X k.i (b₀ :: suite) k.den) (r : HdsD X base known hds l) : HdsD X base known (.ExceptHandler (some (.Name x np)) n (b₀ :: suite) pos' :: hds) (k :: l)
theorem offO_post {K : PySem.W.Frag} {mg : Str → Option Value} {F : Fx} {G : Hp} {W : WX} {D : Ends} {i : Option Nat} {o : Out} (p : SPost K mg F G W D (offO i o)) : SPost K mg F G W0 (offD i D) o := by
  have key : ∀ {G' H' : Hp} {σ' : L2.St} {ρ : Rho}, SI K F G' H' σ' ρ → SI K F G' H' (offN i σ') (offR i ρ) := fun {G' H' σ' ρ} I => by
    cases i with
    | none => exact I
    | some i => exact I.undef i
  cases o with
  | next ρ => exact fun G' H' σ' I s => p G' H' _ (key I) s
  | brk ρ => exact fun G' H' σ' I s => p G' H' _ (key I) s
  | cont ρ => exact fun G' H' σ' I s => p G' H' _ (key I) s
  | ret d ρ => exact p
  | retN d ρ => exact p
  | err x ρ => exact p.elim
  | bad => exact p.elim
theorem hds_make {X : Cx} {base : Str} {known : List Str} {hds : List ExceptHandler} {l : List ClD} (h : HdsD X base known hds l) : ∃ l' : List Cl, HdsM X hds l' ∧ ∀ F G H σ ρ x cls d (W : WX) D, SI X.K F G H σ ρ → ExOk X.K X.mg G H x cls d → x.cls ∈ known →
    SPost X.K X.mg F G W D (dCls base l x ρ) → wMulti X.K W D l' cls d σ H := by
  induction h with
  | nil => exact ⟨[], .nil, fun F G H σ ρ x cls d W D I hx _ p => p G H σ cls d I (Sub.rfl' _) hx⟩
  | @cons x k n b₀ suite np pos' hds l E ec hg hd hn hs r ih =>
    obtain ⟨l', hm, ih⟩ := ih
    obtain ⟨C, gC, hC⟩ := E.ex
    subst ec
    refine ⟨⟨.ref C, k.i, fun a cls d D σ H => ∀ (oe : Obj) (pn : List (Addr × Obj)) (ok : (⟨a, oe, cls, d, pn⟩ : SuC).ok), Classical.choose (hs ⟨a, oe, cls, d, pn⟩ ok) D σ H⟩ :: l', ?_, ?_⟩
    · refine .cons (k := ⟨.ref C, k.i, _⟩) ⟨hg, hd, .inl gC⟩ hn (fun a oe cls d pn hz hf => ?_) hm
      exact ⟨fun pins s σ H D I h => (Classical.choose_spec (hs ⟨a, oe, cls, d, pn⟩ ⟨hz, hf⟩)).1.run pins s σ H D I (h oe pn ⟨hz, hf⟩)⟩
    · intro F G H σ ρ x cls d W D I hx hk p
      obtain ⟨D', g', q'⟩ := hC x.cls hk
      have ecls : cls = .ref D' := by have := hx.1; rw [g'] at this; exact (Option.some.inj this).symm
      refine ⟨subC base x.cls k.c, by rw [ecls]; exact q', fun hb a ha oe pn ok => ?_, fun hb => ?_⟩
      · have p : SPost X.K X.mg F G W D (if subC base x.cls k.c = true then (if lenOk k.i ρ = true then offO k.i (k.den x (offR k.i ρ)) else .bad) else dCls base l x ρ) := p
        rw [if_pos hb] at p
        split at p
        case isFalse => exact p.elim
        rename_i hlen
        have hnm : ∀ j, k.i = some j → j < σ.length → (onN k.i a σ)[j]? = some (some (V.ref a)) := fun j hj hl => by
          rw [hj]
          show (σ.set j (some (V.ref a)))[j]? = _
          rw [List.getElem?_set_self hl]
        have Io : SI X.K F G H (onN k.i a σ) (offR k.i ρ) := by
          cases q : k.i with
          | none => exact I
          | some i => exact I.undefV i _
        refine (Classical.choose_spec (hs ⟨a, oe, cls, d, pn⟩ ok)).2 F G H _ _ x _ Io (fun j hj => hnm j hj ?_) hx (offO_post p)
        rw [hj] at hlen
        rw [← I.len]
        exact of_decide_eq_true hlen
      · have p : SPost X.K X.mg F G W D (if subC base x.cls k.c = true then (if lenOk k.i ρ = true then offO k.i (k.den x (offR k.i ρ)) else .bad) else dCls base l x ρ) := p
        rw [if_neg (by rw [hb]; exact Bool.false_ne_true)] at p
        exact ih F G H σ ρ x cls d W D I hx hk p
theorem js_try {X : Cx} {W : WX} {base : Str} {known : List Str} {bodyS : List Stmt} {h₀ : ExceptHandler} {hds : List ExceptHandler} {body : Rho → Out} {l : List ClD} {pos : Pos} (hs : X.stack = X.env :: X.outer) (hf : X.env.frame = some X.env.locals) (hN : X.N.Nodup) (tk : Takes X W)
    (hb : ∀ (W' : WX) (pn : List (Addr × Obj)) (xe : Value → Shared → Prop), Takes (X.tr pn xe) W' → PassesOwn (model X.prog X.w) X.A X.env xe → JSs (X.tr pn xe) W' bodyS body) (hh : HdsD X base known (h₀ :: hds) l) : JS X W (.Try bodyS (h₀ :: hds) [] [] pos) (dTry base known body l) := by
  obtain ⟨l', hm, hw⟩ := hds_make hh
  refine ⟨_, ps_try_multi (tb := fun W' D σ H => ∀ (pn : List (Addr × Obj)) (xe : Value → Shared → Prop) (t : Takes (X.tr pn xe) W') (po : PassesOwn (model X.prog X.w) X.A X.env xe), Classical.choose (hb W' pn xe t po) D σ H) hs hf hN tk
    (fun W' pn xe t po => ⟨fun pins s σ H D I h => (Classical.choose_spec (hb W' pn xe t po)).1.run pins s σ H D I (h pn xe t po)⟩) hm, fun F G H σ ρ D I p pn xe t po => ?_⟩
  refine (Classical.choose_spec (hb _ pn xe t po)).2 F G H σ ρ D I ?_
  unfold dTry at p
  cases q : body ρ with
  | err x ρ1 =>
    rw [q] at p
    have p : SPost X.K X.mg F G W D (if x.cls ∈ known then dCls base l x ρ1 else .bad) := p
    split at p
    · rename_i hk
      exact fun G' H' σ' cls dd I' s' ex _ => hw F G' H' σ' ρ1 x cls dd W D I' ex hk (SPost.mono s' p)
    · exact p.elim
  | next ρ1 => rw [q] at p; exact p
  | ret d ρ1 => rw [q] at p; exact p
  | retN d ρ1 => rw [q] at p; exact p
  | brk ρ1 => rw [q] at p; exact p
  | cont ρ1 => rw [q] at p; exact p
  | bad => rw [q] at p; exact p
end Pf

/-! Pf16: x(lambda: body), x a def: word = 'let' / try: call() / except ..: .. / return word. -/
namespace Pf
open PySem PySem.Spec PyProof.Rows L2

section
variable {K : PySem.W.Frag} {mg : Str → Option Value} {F : Fx} {G H H1 : Hp} {σ : L2.St} {ρ : Rho}
theorem SI.ext (I : SI K F G H σ ρ) (e : LamX.ExtN H H1) (t : LamX.Tabs F.T H1) : SI K F G H1 σ ρ := by
  refine ⟨fun a o h => e a o (I.gH a o h) (fun ps z => I.gt a ps (by rw [h, z])), I.gt, I.g0, I.gn, fun a o h w => e a o (I.h0 a o h w) (fun ps z => I.ht a ps (by rw [h, z])), fun a h => ?_, I.w1, I.w2, I.w3, t, I.len, fun i s q => ?_, I.dj, I.ht, fun i a q => ?_⟩
  · cases q : F.H0 a with
    | none => rfl
    | some o =>
      exfalso
      by_cases hw : ∃ i, F.w i = some a
      · obtain ⟨i, hw⟩ := hw
        obtain ⟨vs, z⟩ := I.w4 i a hw
        rw [e a _ z (fun _ z => by cases z)] at h; cases h
      · rw [e a _ (I.h0 a o q fun i z => hw ⟨i, z⟩) (fun ps z => I.ht a ps (by rw [q, z]))] at h; cases h
  · have x := I.sl i s q
    cases s with
    | undef => trivial
    | imm d => exact x
    | own ds => obtain ⟨a, vs, h1, h2, h3, h4, h5⟩ := x; exact ⟨a, vs, h1, e _ _ h2 (fun _ z => by cases z), h3, h4, h5⟩
    | io ds => obtain ⟨a, vs, h1, h2, h3, h4, h5⟩ := x; exact ⟨a, vs, h1, e _ _ h2 (fun _ z => by cases z), h3, h4, h5⟩
    | scr ns T =>
      obtain ⟨⟨a, h1, h2⟩, hT⟩ := x
      refine ⟨⟨a, h1, ?_⟩, hT⟩
      rcases h2 with (⟨o, h2⟩ | h2) | h2
      · exact .inl (.inl ⟨o, e _ _ h2 (fun _ z => by cases z)⟩)
      · exact .inl (.inr h2)
      · exact .inr h2
    | exc a d fs => exact ⟨x.1, x.2.keep (Sub.rfl' _) fun b vs h => e _ _ h (fun _ z => by cases z)⟩
  · obtain ⟨vs, h⟩ := I.w4 i a q
    exact ⟨vs, e _ _ h (fun _ z => by cases z)⟩
/-- a fresh frame over the same heap -/
theorem SI.fresh (I : SI K F G H σ ρ) (σ' : L2.St) : SI K ⟨untab H, G, fun _ => none, F.T⟩ G H σ' (List.replicate σ'.length .undef) := by
  refine ⟨I.gH, I.gt, Sub.rfl' _, fun a o e => .inl e, fun a o e _ => (at_untab e).1, fun a e => untab_none e, fun k a e => (by cases e), fun k a e => (by cases e), fun k l a e1 e2 => (by cases e1), I.tb, by simp, fun i s e => ?_, fun i j a d1 d2 e1 e2 s1 s2 => ?_, fun a ps e => (at_untab e).2 ps rfl, fun k a e => (by cases e)⟩
  · have : s = .undef := by
      rw [List.getElem?_replicate] at e
      split at e
      · exact (Option.some.inj e).symm
      · cases e
    subst this; trivial
  · rw [List.getElem?_replicate] at e1
    split at e1 <;> cases e1
end

/-- what the def answers of an exception -/
def dWord (n wi : Nat) (base : Str) (known : List Str) (l : List ClD) (x : Ex) : Option D :=
  if x.cls ∈ known then
    match dCls base l x (List.replicate n .undef) with
    | .next ρ => match ρ[wi]? with
      | some (.imm d) => some d
      | _ => none
    | _ => none
  else none
def wordS (wd a : Str) (m : Str) (j : Nat) (h₀ : ExceptHandler) (hds : List ExceptHandler) (p1 p2 p3 p4 p5 p6 p7 p8 p9 : Pos) : List Stmt :=
  [.Assign [.Name wd p3] (.Constant (.str m) j p4) p5, .Try [.Expr (.Call (.Name a p1) [] [] p2) p6] (h₀ :: hds) [] [] p7, .Return (some (.Name wd p8)) p9]
abbrev TTt := (XK → Hp → VK → Prop) → Hp → VK → Prop
def TTw (K : PySem.W.Frag) (mg : Str → Option Value) (n wi : Nat) (base : Str) (known : List Str) (l : List ClD) (m : Str) : TTt := fun tl H Q =>
  ∃ (F : Fx) (G : Hp) (σ : L2.St), ∀ P : Hp → Prop, (∀ H', Q (.str m) H' → P H') →
    tl (fun cls d H' => ∃ (G' : Hp) (x : Ex) (ρ1 : Rho) (dv : D), SI K F G' H' σ ρ1 ∧ ExOk K mg G' H' x cls d ∧ dWord n wi base known l x = some dv ∧ ∀ G'' H'' v, SI K F G'' H'' σ ρ1 → Sub G' G'' → Rp K G'' v dv → Q v H'') H (fun _ H' => P H')
abbrev wCx (X : Cx) (Ng : List Str) (x : Str) (sg : Scope) (g : Addr) (cdg : Value) (s : Shared) (H : Hp) : Cx := (cxOf C8.CX0 X.prog X.w X.K X.mg X.base Ng x sg g cdg X.A X.stack s H C8.E0).nox
theorem word_gives {X : Cx} {Ng : List Str} {x a wd q m base : Str} {known : List Str} {sg : Scope} {g : Addr} {cdg : Value} {wi j n : Nat} {h₀ : ExceptHandler} {hds : List ExceptHandler} {l : List ClD} {p1 p2 p3 p4 p5 p6 p7 p8 p9 : Pos}
    (hN : Ng.Nodup) (hl : Ng.length = n) (h0n : 0 < n) (hwi : Ng[wi]? = some wd) (hw0 : wi ≠ 0) (hwl : sg.names.lookup wd = some .local) (hwd : (wd == ("__debug__" : Str)) = false) (hwc : (wd == ("__classdict__" : Str)) = false)
    (hH : ∀ (s : Shared) (H : Hp), HdsD (wCx X Ng x sg g cdg s H) base known (h₀ :: hds) l)
    (hs1 : ∀ (s : Shared) (H : Hp), swapsWith (.Constant (.str m) j p4) (some (.Name wd p3)) p5.line (wCx X Ng x sg g cdg s H).env = pure false) :
    LamX.GivesTo X Ng x sg g cdg (wordS wd a m j h₀ hds p1 p2 p3 p4 p5 p6 p7 p8 p9) a q (TTw X.K X.mg n wi base known l m) := by
  intro f c' s H Q tl act hc h
  obtain ⟨F, G, σc, h⟩ := h
  obtain ⟨l', hm, hw⟩ := hds_make (hH s H)
  have hwi' : wi < n := by rw [← hl]; exact (List.getElem?_eq_some_iff.mp hwi).1
  have hvis : Vis (wCx X Ng x sg g cdg s H).env.scope wd := .inl hwl
  refine ⟨_, pss_cons (ps_set (X := wCx X Ng x sg g cdg s H) (i := wi) hN hwi (.inl hwl) pe_str (hs1 s H) (.inr hwl))
    (pss_cons (ps_try_multi (X := wCx X Ng x sg g cdg s H) (Wout := fun _ _ _ _ => False)
      (tb := fun W D σ H => ∃ Ech : XK, (∀ cls d σ' H', Ech cls d H' → W cls d σ' H') ∧ σ[0]? = some (some (.ref f)) ∧ H c' = some (LamX.CodeO c' q) ∧ tl Ech H (fun _ H1 => D.nx σ H1))
      rfl rfl hN LamX.takes0 (fun W pn xe tk _ => ?_) hm) (pss_one (ps_ret (pe_var (X := wCx X Ng x sg g cdg s H) (i := wi) hwi hvis hwd hwc)))), ?_⟩
  · refine ⟨fun pins s' σ H' D I h' => ?_⟩
    obtain ⟨Ech, hW, h1, h2, h3⟩ := h'
    have hp := act W pn xe Ech p1 p2 tk hW
    have hq := pss_one (ps_expr (pos := p6) hp (by rfl))
    exact hq.run pins s' σ H' D I ⟨h1, h2, h3⟩
  · have hst : (L2.start Ng [V.ref f]).length = n := by
      unfold L2.start
      rw [List.length_append, List.length_map, List.length_replicate, hl]
      show 1 + (n - 1) = n
      omega
    have h0 : ((L2.start Ng [V.ref f]).set wi (some (.str m)))[0]? = some (some (.ref f)) := by
      rw [List.getElem?_set_ne hw0]
      rfl
    refine ⟨fun cls d H' => ∃ (G' : Hp) (x : Ex) (ρ1 : Rho) (dv : D), SI X.K F G' H' σc ρ1 ∧ ExOk X.K X.mg G' H' x cls d ∧ dWord n wi base known l x = some dv ∧ ∀ G'' H'' v, SI X.K F G'' H'' σc ρ1 → Sub G' G'' → Rp X.K G'' v dv → Q v H'', ?_, h0, hc, h _ fun H' hq => ⟨_, ?_, hq⟩⟩
    · intro cls d σ' H' ⟨G', x, ρ1, dv, I1, ex, ew, k⟩ hlen
      have hlen : σ'.length = n := hlen.trans hl
      have I0 := I1.fresh σ'
      rw [hlen] at I0
      unfold dWord at ew
      split at ew
      case isFalse => cases ew
      rename_i hk
      refine hw _ G' H' σ' _ x cls d _ _ I0 ex hk ?_
      split at ew
      case h_2 => cases ew
      rename_i ρ' eo
      rw [eo]
      intro G'' H'' σ'' I'' s''
      split at ew
      case h_2 => cases ew
      rename_i d' ei
      cases ew
      obtain ⟨v, e1, e2⟩ := I''.sl wi _ ei
      exact ⟨v, e1, k G'' H'' v (I1.after (hd := none) (a0 := 0) (ds0 := []) (fun i z => (by cases z)) (fun k a z => (by cases z)) I'' rfl) s'' e2⟩
    · rw [List.getElem?_set_self (by rw [hst]; exact hwi')]
end Pf

/-! Pf17: the call of such a def with a lambda. -/
namespace Pf
open PySem PySem.Spec PyProof.Rows L2

/-- what is known of the def word = 'let' / try: call() / .. / return word -/
structure WordK (P : Program) (w : World) (K : PySem.W.Frag) (mg : Str → Option Value) (base : Heap) (x : Str) (n wi : Nat) (eb : Str) (known : List Str) (l : List ClD) (m : Str) : Prop where
  ex : ∃ (st : Stmt) (g : Addr) (fd : FuncData) (Ng : List Str) (a : Str), L2.Fun K x x st g fd ∧ mg x = some (.ref g) ∧ Binds K fd [a] [] ∧ FnScope Ng [a] (defScope st) ∧ Ng[0]? = some a ∧ Vis (defScope st) a ∧ (a == ("__debug__" : Str)) = false ∧ (a == ("__classdict__" : Str)) = false ∧
    ∀ (X : Cx) (q : Str) (cdg : Value), Room 1 X.A → X.prog = P → X.w = w → X.K = K → X.mg = mg → X.base = base → LamX.GivesTo X Ng x (defScope st) g cdg (defBody st) a q (TTw K mg n wi eb known l m)
def dLam (n wi : Nat) (eb : Str) (known : List Str) (l : List ClD) (m : Str) (T : List (Addr × Str)) (i0 : Nat) (db : Rho → R D) (ρ : Rho) : R D :=
  match ρ[i0]? with
  | some (.scr _ T') => if T' = T ∧ T ≠ [] then
      (match db ρ with
      | .ok _ ρ1 => .ok (.str m) ρ1
      | .err x ρ1 => lift (dWord n wi eb known l x) ρ1
      | .bad => .bad) else .bad
  | _ => .bad
theorem je_word {X : Cx} {W : WX} {x eb m : Str} {n wi k i0 : Nat} {known : List Str} {l : List ClD} {T : List (Addr × Str)} {c P : Addr} {params : Arguments} {body : Expr} {scope : Scope} {db : Rho → R D} {p lpos pos : Pos} (WF : WordK X.prog X.w X.K X.mg X.base x n wi eb known l m)
    (hg : Gl X x) (TB : LamX.TabB X.base X.mg c P) (hcode : X.env.code = .ref c) (hmT : (P, X.env.qual ++ "<lambda>") ∈ T) (hu : ∀ p ∈ T, p.1 = P → p.2 = X.env.qual ++ "<lambda>") (hr : Room (k + 2) X.A) (L : LamX.LamS X.env.scope scope) (hdef : defaultsOf params X.env = ([], []))
    (hbind : ∀ (q : Str) (cl : List (Str × Addr)) (pm cv ctv : Value), bindArgs (PySem.W.kla_fn "<lambda>" q params body scope cl pm cv ctv) ⟨[], []⟩ = pure [])
    (hbody : ∀ (A : Around) (outer : List Env) (s : Shared) (H : Hp) (E : XK) (f c' : Addr), Room k (A.deeper (LamX.lamEnv X scope s.heap.objs.size f c')) → JE (LamX.lamCx X A outer s H E scope f c') (fun cls d _ H' => E cls d H') body db)
    (hdb : (x == ("__debug__" : Str)) = false := by decide) : JE X W (.Call (.Name x p) [.Lambda params body scope lpos] [] pos) (dLam n wi eb known l m T i0 db) := by
  obtain ⟨st, g, fd, Ng, a, Fw, hm, hb, Sg, hNg, hva, hd, hcd, hG⟩ := WF.ex
  obtain ⟨oc, od, kV, doc, pm, an, cdv, ct, osl, rfl, lk, hcg⟩ := Fw.ex
  have t_ok : ∀ (E : XK), (∀ (A : Around) (outer : List Env) (s : Shared) (H : Hp) (f c' : Addr), Room k (A.deeper (LamX.lamEnv X scope s.heap.objs.size f c')) →
      PE (LamX.lamCx X A outer s H E scope f c') body (fun σ H0 Q => ∀ (A : Around) (outer : List Env) (s : Shared) (H : Hp) (f c' : Addr) (hr : Room k (A.deeper (LamX.lamEnv X scope s.heap.objs.size f c'))), Classical.choose (hbody A outer s H E f c' hr) σ H0 Q)) :=
    fun E A outer s H f c' hr => ⟨fun pins s1 σ H0 Q I h => (Classical.choose_spec (hbody A outer s H E f c' hr)).1.run pins s1 σ H0 Q I (h A outer s H f c' hr)⟩
  refine ⟨_, LamX.pe_lamcall (T := T) (TT := TTw X.K X.mg n wi eb known l m) (t := fun E σ H0 Q => ∀ (A : Around) (outer : List Env) (s : Shared) (H : Hp) (f c' : Addr) (hr : Room k (A.deeper (LamX.lamEnv X scope s.heap.objs.size f c'))), Classical.choose (hbody A outer s H E f c' hr) σ H0 Q)
    hg hm Fw.kp lk hcg hb Sg hNg hva (hG X _ cdv (hr.mono (by omega)) rfl rfl rfl rfl rfl) TB hcode hmT hu hr L hdef hbind (fun A outer s H E f c' hr => t_ok E A outer s H f c' hr) hdb hd hcd, fun F G H σ ρ Q I p => ?_⟩
  unfold dLam at p
  split at p
  case h_2 => exact p.elim
  rename_i ns T' e0
  split at p
  case isFalse => exact p.elim
  rename_i hT
  obtain ⟨_, hT2⟩ := I.sl i0 _ e0
  have eT : T = F.T := by rw [← hT.1]; exact hT2 (by rw [hT.1]; exact hT.2)
  refine ⟨by rw [eT]; exact I.tb, fun H1 eN T1 => ⟨F, G, σ, fun P' hP A outer s H0 f c' hr => ?_⟩⟩
  have I1 : SI X.K F G H1 σ ρ := I.ext eN (by rw [← eT]; exact T1)
  refine (Classical.choose_spec (hbody A outer s H0 _ f c' hr)).2 F G H1 σ ρ _ I1 ?_
  cases q : db ρ with
  | ok d ρ1 =>
    rw [q] at p
    exact fun G' H' b I' s' _ => hP H' (p G' H' _ I' s' (.s m))
  | err ex ρ1 =>
    rw [q] at p
    obtain ⟨dv, ew, p⟩ := Post.lift p
    exact fun G' H' cls dd I' s' hx => ⟨G', ex, ρ1, dv, I', hx, ew, fun G'' H'' v I'' s'' r => p G'' H'' v I'' (s'.tr s'') r⟩
  | bad => rw [q] at p; exact p.elim
end Pf

/-! Pf18: while, pairs, new lists. -/
namespace Pf
open PySem PySem.Spec PyProof.Rows L2

/-! ### while -/
def dWhile (c : Rho → R Bool) (b : Rho → Out) : Nat → Rho → Out
  | 0, _ => .bad
  | n + 1, ρ => (c ρ).out fun k ρ1 => if k = true then
      (match b ρ1 with
      | .next ρ2 => dWhile c b n ρ2
      | .cont ρ2 => dWhile c b n ρ2
      | .brk ρ2 => .next ρ2
      | o => o) else .next ρ1
theorem js_while {X : Cx} {W : WX} {c : Expr} {bodyS : List Stmt} {dc : Rho → R Bool} {body : Rho → Out} {pos : Pos} (fuel : Nat) (hp : PassesOwn (model X.prog X.w) X.A X.env X.xe) (hc : JT X W c dc) (hb : JSs X W bodyS body) : JS X W (.While c bodyS [] pos) (dWhile dc body fuel) := by
  obtain ⟨tc, hc, kc⟩ := hc
  obtain ⟨tb, hb, kb⟩ := hb
  refine ⟨_, ps_while hp hc hb, fun F G H σ ρ D I p => ⟨fun m σ' H' => ∃ G' ρ', SI X.K F G' H' σ' ρ' ∧ Sub G G' ∧ SPost X.K X.mg F G' W D (dWhile dc body m ρ'), ⟨fuel, G, ρ, I, Sub.rfl' _, p⟩, fun m σ' H' ⟨G', ρ', I', s', p'⟩ => ?_⟩⟩
  cases m with
  | zero => exact p'.elim
  | succ n =>
    unfold dWhile at p'
    refine kc F G' H' σ' ρ' _ I' (SPost.bind (rel := relT) p' fun k ρ1 G1 H1 k' I1 s1 r1 p1 => ?_)
    obtain rfl : k' = k := r1
    cases k' with
    | false => rw [if_neg Bool.false_ne_true] at p1 ⊢; exact p1 G1 H1 _ I1 (Sub.rfl' _)
    | true =>
      rw [if_pos rfl] at p1 ⊢
      refine ⟨fun σ2 H2 => ∃ G2 ρ2, SI X.K F G2 H2 σ2 ρ2 ∧ Sub G G2 ∧ SPost X.K X.mg F G2 W D (dWhile dc body n ρ2), fun σ2 H2 h => ⟨n, Nat.lt_succ_self n, h⟩, kb F G1 H1 σ' ρ1 _ I1 ?_⟩
      cases q : body ρ1 with
      | next ρ3 => rw [q] at p1; exact fun G3 H3 σ3 I3 s3 => ⟨G3, ρ3, I3, (s'.tr s1).tr s3, SPost.mono s3 p1⟩
      | cont ρ3 => rw [q] at p1; exact fun G3 H3 σ3 I3 s3 => ⟨G3, ρ3, I3, (s'.tr s1).tr s3, SPost.mono s3 p1⟩
      | brk ρ3 => rw [q] at p1; exact p1
      | ret d ρ3 => rw [q] at p1; exact p1
      | retN d ρ3 => rw [q] at p1; exact p1
      | err d ρ3 => rw [q] at p1; exact p1
      | bad => rw [q] at p1; exact p1

/-! ### target = e, any target -/
def dAsg (b : Bd) (e : Rho → R D) (ρ : Rho) : Out := (e ρ).out fun d ρ1 => match b d ρ1 with
  | some ρ2 => .next ρ2
  | none => .bad
def isIo (ρ : Rho) (i : Nat) : Bool := match ρ[i]? with
  | some (.io _) => true
  | _ => false
/-- a, b = e, f -/
def dParEE (i j : Nat) (a b : Rho → R D) (ρ : Rho) : Out := (a ρ).out fun x ρ1 => (b ρ1).out fun y ρ2 => if (isIo ρ2 i || isIo ρ2 j) = true then .bad else .next ((ρ2.set i (.imm x)).set j (.imm y))
def dParEN (i j : Nat) (a : Rho → R D) (b : Rho → R (List D)) (ρ : Rho) : Out := (a ρ).out fun x ρ1 => (b ρ1).out fun y ρ2 => if (isIo ρ2 i || isIo ρ2 j) = true then .bad else .next ((ρ2.set i (.imm x)).set j (.own y))
def dParNN (i j : Nat) (a : Rho → R (List D)) (b : Rho → R (List D)) (ρ : Rho) : Out := (a ρ).out fun x ρ1 => (b ρ1).out fun y ρ2 => if (isIo ρ2 i || isIo ρ2 j) = true then .bad else .next ((ρ2.set i (.own x)).set j (.own y))
def dParNE (i j : Nat) (a : Rho → R (List D)) (b : Rho → R D) (ρ : Rho) : Out := (a ρ).out fun x ρ1 => (b ρ1).out fun y ρ2 => if (isIo ρ2 i || isIo ρ2 j) = true then .bad else .next ((ρ2.set i (.own x)).set j (.imm y))
theorem R.out_bind {α β : Type} (r : R α) (f : α → Rho → R β) (g : β → Rho → Out) : (r.out fun x ρ1 => (f x ρ1).out g) = (r.bind f).out g := by
  cases r <;> rfl
section
variable {K : PySem.W.Frag} {F : Fx} {G G' H H' : Hp} {σ : L2.St} {ρ ρ' : Rho}
theorem NewL.setImm {a : Addr} {ds : List D} {v : V} {i : Nat} {d : D} (n : NewL K F G H σ ρ a ds) : NewL K F G H (σ.set i (some v)) (ρ.set i (.imm d)) a ds :=
  ⟨n.h, n.g, n.z, fun j es e z => by
    by_cases hj : j = i
    · subst hj
      have hl : j < ρ.length := by
        have := (List.getElem?_eq_some_iff.mp e).1
        simpa using this
      rw [List.getElem?_set_self hl] at e
      cases e
    · rw [List.getElem?_set_ne (Ne.symm hj)] at e z
      exact n.sl j es e z⟩
theorem NewL.setOwn {a b : Addr} {ds es : List D} {i : Nat} (n : NewL K F G H σ ρ a ds) (ne : b ≠ a) : NewL K F G H (σ.set i (some (V.ref b))) (ρ.set i (.own es)) a ds :=
  ⟨n.h, n.g, n.z, fun j fs e z => by
    by_cases hj : j = i
    · subst hj
      have hl : j < σ.length := by
        have := (List.getElem?_eq_some_iff.mp z).1
        simpa using this
      rw [List.getElem?_set_self hl] at z
      cases z
      exact ne rfl
    · rw [List.getElem?_set_ne (Ne.symm hj)] at e z
      exact n.sl j fs e z⟩
end
def dCatN (a b : Rho → R D) (ρ : Rho) : R (List D) := (a ρ).bind fun x ρ1 => (b ρ1).bind fun y ρ2 =>
  match x, y with
  | .list xs, .list ys => if xs.length + ys.length ≤ sizeLine then .ok (xs ++ ys) ρ2 else .bad
  | _, _ => .bad
def dCatNO (i : Nat) (b : Rho → R D) (ρ : Rho) : R (List D) :=
  match ρ.lst? i with
  | none => .bad
  | some _ => (b ρ).bind fun y ρ2 =>
    match ρ2.lst? i, y with
    | some xs, .list ys => if xs.length + ys.length ≤ sizeLine then .ok (xs ++ ys) ρ2 else .bad
    | _, _ => .bad
def dListN (a : Rho → R D) (ρ : Rho) : R (List D) := (a ρ).bind fun x ρ1 =>
  match x with
  | .list xs => .ok xs ρ1
  | .tuple xs => .ok xs ρ1
  | _ => .bad
section
variable {X : Cx} {W : WX} {a b e : Expr} {da db : Rho → R D} {na nb : Rho → R (List D)} {pos p1 p2 p3 pt : Pos} {x y : Str} {kt k2 : Nat} {pt2 : Pos}
theorem js_asg {tg : Expr} {ixs : List Nat} {bd : Bd} (he : JE X W e da) (hg : JG X tg ixs bd) (hs : swapsWithSole [tg] e pos.line X.env = pure false := by rfl) (hw : swappedStores [tg] e X.env = pure none := by rfl)
    (h1 : (assignEach [tg] X.env).map (·.2) = [assign tg X.env] := by rfl) : JS X W (.Assign [tg] e pos) (dAsg bd da) := by
  obtain ⟨t, ht, k⟩ := he
  obtain ⟨g, hg, kg⟩ := hg
  refine ⟨_, ps_asg ht hg hs hw h1, fun F G H σ ρ D I p => k F G H σ ρ _ I (SPost.bind (rel := relE X.K) p fun d ρ1 G1 H1 v I1 s1 r1 p1 => ?_)⟩
  split at p1
  · rename_i ρ2 e2
    exact kg F G1 H1 σ ρ1 v d ρ2 _ I1 r1 e2 fun σ' I' _ => p1 G1 H1 σ' I' (Sub.rfl' _)
  · exact p1.elim
theorem js_parEE (i j : Nat) {px py : Pos} (hc : X.calm = true) (hN : X.N.Nodup) (ha : JE X W a da) (hb : JE X W b db) (hi : X.N[i]? = some x := by rfl) (hj : X.N[j]? = some y := by rfl) (hij : i ≠ j := by decide)
    (hx : X.env.scope.names.lookup x = some .local := by rfl) (hy : X.env.scope.names.lookup y = some .local := by rfl)
    (hw : swappedStores [.Tuple [.Name x px, .Name y py] kt pt] (.Tuple [a, b] k2 pt2) X.env = pure (some [x, y]) := by rfl) (hs : swapsWithSole [.Tuple [.Name x px, .Name y py] kt pt] (.Tuple [a, b] k2 pt2) pos.line X.env = pure false := by rfl)
    (hs1 : starEach [a, b] X.env = (false, eval a X.env) :: starEach [b] X.env := by rfl) (hs2 : starEach [b] X.env = (false, eval b X.env) :: starEach [] X.env := by rfl) :
    JS X W (.Assign [.Tuple [.Name x px, .Name y py] kt pt] (.Tuple [a, b] k2 pt2) pos) (dParEE i j da db) := by
  obtain ⟨t, ht, kt⟩ := ha
  obtain ⟨u, hu, ku⟩ := hb
  refine ⟨_, ps_par hc hN hi hj hij hx hy (pa_cons ht (pa_cons hu pa_nil hs2) hs1) hw hs, fun F G H σ ρ D I p => kt F G H σ ρ _ I (SPost.bind (rel := relE X.K) p fun d ρ1 G1 H1 v I1 s1 r1 p1 => ku F G1 H1 σ ρ1 _ I1 (SPost.bind (rel := relE X.K) p1 fun d2 ρ2 G2 H2 v2 I2 s2 r2 p2 => ?_))⟩
  split at p2
  · exact p2.elim
  · exact ⟨v, v2, rfl, p2 G2 H2 _ ((I2.setImm (Rp.mono s2 _ _ r1)).setImm r2) (Sub.rfl' _)⟩
theorem js_parEN (i j : Nat) {px py : Pos} (hc : X.calm = true) (hN : X.N.Nodup) (ha : JE X W a da) (hb : JN X W b nb) (hi : X.N[i]? = some x := by rfl) (hj : X.N[j]? = some y := by rfl) (hij : i ≠ j := by decide)
    (hx : X.env.scope.names.lookup x = some .local := by rfl) (hy : X.env.scope.names.lookup y = some .local := by rfl)
    (hw : swappedStores [.Tuple [.Name x px, .Name y py] kt pt] (.Tuple [a, b] k2 pt2) X.env = pure (some [x, y]) := by rfl) (hs : swapsWithSole [.Tuple [.Name x px, .Name y py] kt pt] (.Tuple [a, b] k2 pt2) pos.line X.env = pure false := by rfl)
    (hs1 : starEach [a, b] X.env = (false, eval a X.env) :: starEach [b] X.env := by rfl) (hs2 : starEach [b] X.env = (false, eval b X.env) :: starEach [] X.env := by rfl) :
    JS X W (.Assign [.Tuple [.Name x px, .Name y py] kt pt] (.Tuple [a, b] k2 pt2) pos) (dParEN i j da nb) := by
  obtain ⟨t, ht, kt⟩ := ha
  obtain ⟨u, hu, ku⟩ := hb
  refine ⟨_, ps_par hc hN hi hj hij hx hy (pa_cons ht (pa_cons hu pa_nil hs2) hs1) hw hs, fun F G H σ ρ D I p => kt F G H σ ρ _ I (SPost.bind (rel := relE X.K) p fun d ρ1 G1 H1 v I1 s1 r1 p1 => ku F G1 H1 σ ρ1 _ I1 (SPost.bind (rel := relN X.K) p1 fun d2 ρ2 G2 H2 v2 I2 s2 r2 p2 => ?_))⟩
  obtain ⟨c, rfl, n⟩ := r2
  split at p2
  · exact p2.elim
  · exact ⟨v, _, rfl, p2 G2 H2 _ ((I2.setImm (Rp.mono s2 _ _ r1)).setOwn n.setImm) (Sub.rfl' _)⟩
/-- a list that stands by itself through a further reading -/
theorem lent {K : PySem.W.Frag} {mg : Str → Option Value} {F : Fx} {G H : Hp} {σ : L2.St} {ρ : Rho} {α β : Type} {rel : Rel α β} {t : L2.St → Hp → (β → Hp → Prop) → Prop} {den : Rho → R α} (kt : ∀ F, ROK K mg F W rel t den) (I : SI K F G H σ ρ) {c : Addr} {ds : List D} (n : NewL K F G H σ ρ c ds) {Q : β → Hp → Prop}
    (p : ∀ vs, Post K mg (F.plus c vs) G σ W rel Q (den ρ)) : t σ H Q := by
  obtain ⟨⟨vs, h1, h2⟩, h3, h4, h5⟩ := n
  exact kt (F.plus c vs) G H σ ρ Q (I.lend h1 h3 h4 h5) (p vs)
theorem NewL.back {K : PySem.W.Frag} {F : Fx} {G G2 H H2 : Hp} {σ : L2.St} {ρ ρ2 : Rho} {c : Addr} {ds : List D} {vs : List V} (I : SI K F G H σ ρ) (n : NewL K F G H σ ρ c ds) (hv : H c = some (.lst vs)) (I2 : SI K (F.plus c vs) G2 H2 σ ρ2) (s : Sub G G2) : SI K F G2 H2 σ ρ2 ∧ NewL K F G2 H2 σ ρ2 c ds := by
  obtain ⟨⟨vs', h1, h2⟩, h3, h4, h5⟩ := n
  rw [h1] at hv
  cases hv
  have hg0 : F.G0 c = none := by
    cases q : F.G0 c with
    | none => rfl
    | some o => rw [I.g0 c o q] at h3; cases h3
  obtain ⟨I3, k1, k2, k3⟩ := I2.unlend h4 hg0 (I.noW h4) (I.noTab h1)
  exact ⟨I3, ⟨⟨vs, k1, h2.mono s _ _⟩, k2, h4, k3⟩⟩
theorem js_parNN (i j : Nat) {px py : Pos} (hc : X.calm = true) (hN : X.N.Nodup) (ha : JN X W a na) (hb : JN X W b nb) (hi : X.N[i]? = some x := by rfl) (hj : X.N[j]? = some y := by rfl) (hij : i ≠ j := by decide)
    (hx : X.env.scope.names.lookup x = some .local := by rfl) (hy : X.env.scope.names.lookup y = some .local := by rfl)
    (hw : swappedStores [.Tuple [.Name x px, .Name y py] kt pt] (.Tuple [a, b] k2 pt2) X.env = pure (some [x, y]) := by rfl) (hs : swapsWithSole [.Tuple [.Name x px, .Name y py] kt pt] (.Tuple [a, b] k2 pt2) pos.line X.env = pure false := by rfl)
    (hs1 : starEach [a, b] X.env = (false, eval a X.env) :: starEach [b] X.env := by rfl) (hs2 : starEach [b] X.env = (false, eval b X.env) :: starEach [] X.env := by rfl) :
    JS X W (.Assign [.Tuple [.Name x px, .Name y py] kt pt] (.Tuple [a, b] k2 pt2) pos) (dParNN i j na nb) := by
  obtain ⟨t, ht, kt⟩ := ha
  obtain ⟨u, hu, ku⟩ := hb
  refine ⟨_, ps_par hc hN hi hj hij hx hy (pa_cons ht (pa_cons hu pa_nil hs2) hs1) hw hs, fun F G H σ ρ D I p => kt F G H σ ρ _ I (SPost.bind (rel := relN X.K) p fun d ρ1 G1 H1 v I1 s1 r1 p1 => ?_)⟩
  obtain ⟨c, rfl, n⟩ := r1
  obtain ⟨vs, hv, rv⟩ := id n.h
  refine ku (F.plus c vs) G1 H1 σ ρ1 _ (I1.lend hv n.g n.z n.sl) ?_
  cases q : nb ρ1 with
  | ok d2 ρ2 =>
    rw [q] at p1
    intro G2 H2 v2 I2' s2 r2
    obtain ⟨I2, n2⟩ := NewL.back I1 n hv I2' s2
    obtain ⟨c2, rfl, m⟩ := r2
    have ne : c ≠ c2 := fun z => by
      subst z
      have := m.z
      have : upd F.H0 c (HO.lst vs) c = none := this
      rw [upd_same] at this; cases this
    have m' : NewL X.K F G2 H2 σ ρ2 c2 d2 := ⟨m.h, m.g, by
      have := m.z
      have : upd F.H0 c (HO.lst vs) c2 = none := this
      rw [upd_ne (Ne.symm ne)] at this; exact this, m.sl⟩
    have p1 : SPost X.K X.mg F G1 W D (if (isIo ρ2 i || isIo ρ2 j) = true then .bad else .next ((ρ2.set i (.own d)).set j (.own d2))) := p1
    split at p1
    · exact p1.elim
    · exact ⟨_, _, rfl, p1 G2 H2 _ ((I2.setOwn n2).setOwn (m'.setOwn ne)) s2⟩
  | err z ρ2 =>
    rw [q] at p1
    intro G2 H2 cls dd I2' s2 hx
    obtain ⟨I2, n2⟩ := NewL.back I1 n hv I2' s2
    exact p1 G2 H2 σ cls dd I2 s2 hx
  | bad => rw [q] at p1; exact p1.elim
theorem js_parNE (i j : Nat) {px py : Pos} (hc : X.calm = true) (hN : X.N.Nodup) (ha : JN X W a na) (hb : JE X W b db) (hi : X.N[i]? = some x := by rfl) (hj : X.N[j]? = some y := by rfl) (hij : i ≠ j := by decide)
    (hx : X.env.scope.names.lookup x = some .local := by rfl) (hy : X.env.scope.names.lookup y = some .local := by rfl)
    (hw : swappedStores [.Tuple [.Name x px, .Name y py] kt pt] (.Tuple [a, b] k2 pt2) X.env = pure (some [x, y]) := by rfl) (hs : swapsWithSole [.Tuple [.Name x px, .Name y py] kt pt] (.Tuple [a, b] k2 pt2) pos.line X.env = pure false := by rfl)
    (hs1 : starEach [a, b] X.env = (false, eval a X.env) :: starEach [b] X.env := by rfl) (hs2 : starEach [b] X.env = (false, eval b X.env) :: starEach [] X.env := by rfl) :
    JS X W (.Assign [.Tuple [.Name x px, .Name y py] kt pt] (.Tuple [a, b] k2 pt2) pos) (dParNE i j na db) := by
  obtain ⟨t, ht, kt⟩ := ha
  obtain ⟨u, hu, ku⟩ := hb
  refine ⟨_, ps_par hc hN hi hj hij hx hy (pa_cons ht (pa_cons hu pa_nil hs2) hs1) hw hs, fun F G H σ ρ D I p => kt F G H σ ρ _ I (SPost.bind (rel := relN X.K) p fun d ρ1 G1 H1 v I1 s1 r1 p1 => ?_)⟩
  obtain ⟨c, rfl, n⟩ := r1
  obtain ⟨vs, hv, rv⟩ := id n.h
  refine ku (F.plus c vs) G1 H1 σ ρ1 _ (I1.lend hv n.g n.z n.sl) ?_
  cases q : db ρ1 with
  | ok d2 ρ2 =>
    rw [q] at p1
    intro G2 H2 v2 I2' s2 r2
    obtain ⟨I2, n2⟩ := NewL.back I1 n hv I2' s2
    have p1 : SPost X.K X.mg F G1 W D (if (isIo ρ2 i || isIo ρ2 j) = true then .bad else .next ((ρ2.set i (.own d)).set j (.imm d2))) := p1
    split at p1
    · exact p1.elim
    · exact ⟨_, _, rfl, p1 G2 H2 _ ((I2.setOwn n2).setImm r2) s2⟩
  | err z ρ2 =>
    rw [q] at p1
    intro G2 H2 cls dd I2' s2 hx
    obtain ⟨I2, n2⟩ := NewL.back I1 n hv I2' s2
    exact p1 G2 H2 σ cls dd I2 s2 hx
  | bad => rw [q] at p1; exact p1.elim
/-- x = [.. for ..], x a plain local -/
theorem js_setLc (i : Nat) {elt tg iter : Expr} {ifs : List Expr} {scope : Scope} {own : List (Str × Nat)} {py spos : Pos} {it : Rho → R (List D)} {ixs : List Nat} {bind : Bd} {cond : Rho → R Bool} {de : Rho → R D} (hc : X.calm = true) (hN : X.N.Nodup) (hi : JI X W tg iter it) (ok : BlkOk X.N X.env.scope scope own)
    (hg : ∀ b : Blk, JG (b.cx X scope) tg ixs bind) (ht : ∀ b : Blk, JTs (b.cx X scope) ifs cond) (he : ∀ b : Blk, JE (b.cx X scope) W0 elt de) (hix : ∀ i ∈ ixs, i ∈ own.map (·.2) := by decide) (hy : X.N[i]? = some y := by rfl) (hyl : X.env.scope.names.lookup y = some .local := by rfl)
    (hsw : swapsWith (.ListComp elt [⟨tg, iter, ifs, 0⟩] scope pos) (some (.Name y py)) spos.line X.env = pure true := by rfl) (hs : ∀ x, foldedSetIterable iter X.env x = pure x := by intro _; rfl) :
    JS X W (.Assign [.Name y py] (.ListComp elt [⟨tg, iter, ifs, 0⟩] scope pos) spos) (dSetN i (dLc (own.map (·.2)) it bind cond de)) := by
  obtain ⟨wi, hi, ki⟩ := hi
  obtain ⟨g, tt, te, g1, t1, e1, g2, t2, e2⟩ := lc_parts hg ht he
  refine ⟨_, ps_setLc hc hN hy hyl hsw hi ok (fun s H C cl fp => g1 ⟨s, H, C, cl, fp⟩) (fun s H C cl fp => t1 ⟨s, H, C, cl, fp⟩) (fun s H C cl fp => e1 ⟨s, H, C, cl, fp⟩) hs, fun F G H σ ρ D I p => ?_⟩
  refine lc_run ki g2 t2 e2 hix F G H σ ρ _ I (SPost.bind (rel := relN X.K) p fun d ρ1 G1 H1 v I1 s1 r1 p1 => ?_)
  obtain ⟨a, e, n⟩ := r1
  subst e
  split at p1
  · exact p1.elim
  · exact p1 G1 H1 _ (I1.setOwn n) (Sub.rfl' _)
theorem jn_cat (ha : JE X W a da) (hb : JB X W b db) : JN X W (.BinOp a .Add b pos) (dCatN da db) := by
  obtain ⟨ta, ha, ka⟩ := ha
  obtain ⟨tb, hb, kb⟩ := hb
  refine ⟨_, pe_op op_cat ha hb, fun F G H σ ρ Q I p => ka F G H σ ρ _ I (p.bind fun x ρ1 G1 H1 v I1 s1 r1 p1 => kb F G1 H1 σ ρ1 _ I1 (p1.bind fun y ρ2 G2 H2 u I2 s2 r2 p2 => ?_))⟩
  split at p2
  · obtain ⟨q1, vs, rfl, e1, w1⟩ := Bw.lst (H := H2) (.inl (Rp.mono s2 _ _ r1)) I2.gH
    obtain ⟨q2, ws, rfl, e2, w2⟩ := Bw.lst r2 I2.gH
    split at p2
    · rename_i c
      refine ⟨q1, q2, vs, ws, rfl, rfl, e1, e2, by rw [w1.length, w2.length]; exact c, fun q hq => ?_⟩
      obtain ⟨I3, n⟩ := I2.newL hq (w1.app w2)
      exact p2 G2 _ _ I3 (Sub.rfl' _) ⟨q, rfl, n⟩
    · exact p2.elim
  · exact p2.elim
theorem jn_catO (i : Nat) (hb : JB X W b db) (hN : X.N[i]? = some x := by rfl) (hv : Vis X.env.scope x := by first | exact Or.inl rfl | exact Or.inr (Or.inl rfl) | exact Or.inr (Or.inr rfl)) (hd : (x == ("__debug__" : Str)) = false := by decide)
    (hcd : (x == ("__classdict__" : Str)) = false := by decide) : JN X W (.BinOp (.Name x p2) .Add b pos) (dCatNO i db) := by
  obtain ⟨tb, hb, kb⟩ := hb
  refine ⟨_, pe_op op_cat (pe_var (i := i) hN hv hd hcd) hb, fun F G H σ ρ Q I p => ?_⟩
  unfold dCatNO at p
  split at p
  · exact p.elim
  rename_i ds0 e0
  obtain ⟨a0, m1, _⟩ := I.at_ e0
  refine ⟨_, m1, kb F G H σ ρ _ I (p.bind fun y ρ2 G2 H2 u I2 s2 r2 p2 => ?_)⟩
  split at p2
  · rename_i xs ys e3
    obtain ⟨a3, n1, ⟨vs, n2, n3⟩, _⟩ := I2.at_ e3
    obtain rfl : a3 = a0 := by rw [m1] at n1; cases n1; rfl
    obtain ⟨q2, ws, rfl, e2, w2⟩ := Bw.lst r2 I2.gH
    split at p2
    · rename_i c
      refine ⟨_, q2, vs, ws, rfl, rfl, n2, e2, by rw [n3.length, w2.length]; exact c, fun q hq => ?_⟩
      obtain ⟨I3, n⟩ := I2.newL hq (n3.app w2)
      exact p2 G2 _ _ I3 (Sub.rfl' _) ⟨q, rfl, n⟩
    · exact p2.elim
  · exact p2.elim
end
end Pf

/-! Pf19: a loop over any source, list(x), defs by the head's facts. -/
namespace Pf
open PySem PySem.Spec PyProof.Rows L2

section
variable {P : Program} {w : World} {K : PySem.W.Frag} {mg : Str → Option Value} {base : Heap}
theorem fun_of {x : Str} {st : Stmt} {f : Addr} {fd : FuncData} (F : FunD K x x (defArgs st) (defBody st) (defScope st) [] [] f fd) : L2.Fun K x x st f fd := by
  obtain ⟨oc, od, dV, kV, doc, pm, an, cdv, ct, osl, e, lk, hcd, hD, hK⟩ := F.ex
  rcases hD with ⟨_, rfl⟩ | ⟨e, _⟩
  · exact ⟨⟨oc, od, kV, doc, pm, an, cdv, ct, osl, e, lk, hcd⟩, F.kp⟩
  · exact absurd rfl e
/-- a def of the head -/
theorem fnK_of {x : Str} {st : Stmt} {f : Addr} {N ps : List Str} {k n np : Nat} {body : Rho → Out} (F : ∃ fd, FunD K x x (defArgs st) (defBody st) (defScope st) [] [] f fd) (g : mg x = some (.ref f)) (S : FnScope N ps (defScope st)) (hn : N.length = n) (hp : ps.length = np)
    (hb : ∀ (kV doc pm : Value) (an : Option Addr) (cdv ct : Value) (us : List Value), us.length = ps.length → bindArgs (PySem.W.fnOf x x (defArgs st) (defBody st) (defScope st) .none kV doc pm an cdv ct) ⟨us, []⟩ = pure (ps.zip us))
    (hbody : ∀ (cdv : Value) (A : Around) (outer : List Env) (s : Shared) (H : Hp) (E : XK), Room k (A.deeper (envOfC x (defScope st) s.heap.objs.size f cdv)) →
      JSs (cxOf (L2.CX P w) P w K mg base N x (defScope st) f cdv A outer s H E) (fun cls d _ H' => E cls d H') (defBody st) body) : FnK P w K mg base x (k + 1) n np body := by
  obtain ⟨fd, F⟩ := F
  exact ⟨f, fd, ps, fnF (fun_of F) S hn hp hbody, g, F.kp, F.bindsN hb⟩
end
/-! ### a loop over a list, a tuple or a text -/
def iAny (K : PySem.W.Frag) (te : TE) : TI := fun σ H R => te σ H fun x H1 => (∃ a xs, x = .ref a ∧ SqL K H1 a xs ∧ R (Itl K a) H1) ∨ (∃ a xs, x = .ref a ∧ SqT K H1 a xs ∧ R (Itt K a) H1) ∨ ∃ z, x = .str z ∧ R (Its z) H1
theorem pi_any {X : Cx} {tg e : Expr} {te : TE} (he : PE X e te) : PI X tg e (iAny X.K te) := by
  refine ⟨fun pins s σ H R I h => ?_⟩
  refine thn (he.run pins s σ H _ I h) fun v s1 ⟨y, H1, I1, r1, q⟩ => ?_
  rcases q with ⟨a, xs, rfl, hq, q⟩ | ⟨a, xs, rfl, hq, q⟩ | ⟨x, rfl, q⟩
  · cases r1
    obtain ⟨its, rv, p, hz⟩ := I1.list hq
    refine wpAny_pyIter_list p.isList ?_
    refine ⟨s1.heap.objs.size, [s1.heap.objs.size], _, _, H1, rfl, I1.kept (t' := s1.toks) fun b o e => Heap.get?_push_of_some _ e, turn_list a _, ⟨_, Heap.get?_push_size _ rfl, rfl, rfl⟩, fun b hb => ?_, q⟩
    have e : b = s1.heap.objs.size := by simpa using hb
    subst e
    exact I1.fpOk (Nat.le_refl _) (I1.hok.fresh (Nat.le_refl _))
  · cases r1
    obtain ⟨its, rv, p, hz⟩ := I1.tuple hq
    refine wpAny_pyIter_tuple (show s1.heap.IsTuple a its.toArray from p) ?_
    refine ⟨s1.heap.objs.size, [s1.heap.objs.size], _, _, H1, rfl, I1.kept (t' := s1.toks) fun b o e => Heap.get?_push_of_some _ e, turn_tuple a _, ⟨_, Heap.get?_push_size _ rfl, rfl, rfl⟩, fun b hb => ?_, q⟩
    have e : b = s1.heap.objs.size := by simpa using hb
    subst e
    exact I1.fpOk (Nat.le_refl _) (I1.hok.fresh (Nat.le_refl _))
  · obtain ⟨t, rfl⟩ := r1
    cases ha : x.cps.all (· < 128)
    · exact wpAny_pyIter_wide ha (pi_one (tk := s1.toks) I1 _ (turn_str _ x t "str_iterator" (.inr rfl)) ⟨_, Heap.get?_push_size _ rfl, rfl, rfl⟩ q)
    · exact wpAny_pyIter_ascii ha (pi_one (tk := s1.toks) I1 _ (turn_str _ x t "str_ascii_iterator" (.inl rfl)) ⟨_, Heap.get?_push_size _ rfl, rfl, rfl⟩ q)
def dSrc (a : Rho → R D) (ρ : Rho) : R (List D) := (a ρ).bind fun d ρ1 => lift (seqD d) ρ1
theorem ji_any {X : Cx} {W : WX} {tg a : Expr} {da : Rho → R D} (ha : JE X W a da) : JI X W tg a (dSrc da) := by
  obtain ⟨t, ht, k⟩ := ha
  refine ⟨_, pi_any ht, fun F G H σ ρ Q I p => k F G H σ ρ _ I (p.bind fun d ρ1 G1 H1 v I1 s1 r1 p1 => ?_)⟩
  cases d with
  | list ds =>
    cases r1 with
    | l e r =>
      rename_i ad vs
      refine .inl ⟨ad, vs, rfl, .inl (.inl (I1.gH _ _ e)), p1 G1 H1 _ I1 (Sub.rfl' _) ⟨fun H => SqL X.K H ad vs, YAt vs, ?_, ?_, ?_⟩⟩
      · rw [← r.length]; exact walk_list
      · exact fun G' H' s s' => .inl (.inl (s' _ _ (s _ _ e)))
      · intro i H x H' d hd y
        obtain ⟨v, h1, h2⟩ := r.get hd
        refine .inl ⟨y.1, ?_⟩
        have := y.2
        rw [h1] at this
        cases this
        exact h2
  | tuple ds =>
    cases r1 with
    | t e r =>
      rename_i ad vs
      refine .inr (.inl ⟨ad, vs, rfl, I1.gH.seqT e, p1 G1 H1 _ I1 (Sub.rfl' _) ⟨fun H => SqT X.K H ad vs, YAt vs, ?_, ?_, ?_⟩⟩)
      · rw [← r.length]; exact walk_tup
      · exact fun G' H' s s' => s'.seqT (s.seqT e)
      · intro i H x H' d hd y
        obtain ⟨v, h1, h2⟩ := r.get hd
        refine .inl ⟨y.1, ?_⟩
        have := y.2
        rw [h1] at this
        cases this
        exact h2
  | str z =>
    cases r1
    refine .inr (.inr ⟨z, rfl, p1 G1 H1 _ I1 (Sub.rfl' _) ⟨fun _ => True, fun i H v H' => H' = H ∧ ∃ c, z.cps[i]? = some c ∧ v = .str ⟨#[c]⟩, ?_, ?_, ?_⟩⟩)
    · rw [show (z.cps.toList.map fun c => PyData.str ⟨#[c]⟩).length = z.cps.size by simp]; exact walk_str
    · exact fun G' H' s s' => True.intro
    · intro i H x H' d hd y
      obtain ⟨e, c, h1, h2⟩ := y
      have : d = .str ⟨#[c]⟩ := by
        simp [h1] at hd
        exact hd.symm
      subst this
      exact .inl ⟨e, by rw [h2]; exact .s _⟩
  | _ => exact p1.elim
/-! ### list(x) -/
theorem jn_list {X : Cx} {W : WX} {b : Expr} {db : Rho → R D} {pos p1 : Pos} (hg : Gl X "list") (hm : X.mg "list" = none) (hb : JB X W b db) (hs : starEach [b] X.env = [(false, eval b X.env)] := by rfl) : JN X W (.Call (.Name "list" p1) [b] [] pos) (dListN db) := by
  obtain ⟨tb, hb, kb⟩ := hb
  refine ⟨_, pe_callTy call_list_of hg hm (by rfl) (pa_cons hb pa_nil hs) (by decide) (by decide) hs rfl, fun F G H σ ρ Q I p => kb F G H σ ρ _ I (p.bind fun d ρ1 G1 H1 v I1 s1 r1 p1 => ?_)⟩
  cases d with
  | list ds =>
    obtain ⟨q1, vs, rfl, e1, w1⟩ := Bw.lst r1 I1.gH
    refine ⟨q1, vs, rfl, .inl (.inl (.inl e1)), fun q hq => ?_⟩
    obtain ⟨I3, n⟩ := I1.newL hq w1
    exact p1 G1 _ _ I3 (Sub.rfl' _) ⟨q, rfl, n⟩
  | tuple ds =>
    obtain ⟨q1, vs, rfl, e1, w1⟩ := Bw.tup r1 I1.gH
    refine ⟨q1, vs, rfl, .inr e1, fun q hq => ?_⟩
    obtain ⟨I3, n⟩ := I1.newL hq w1
    exact p1 G1 _ _ I3 (Sub.rfl' _) ⟨q, rfl, n⟩
  | _ => exact p1.elim
end Pf

/-! Pf20: a slot read as it stands, whatever its kind. -/
namespace Pf
open PySem PySem.Spec PyProof.Rows L2

def Rho.rd (ρ : Rho) (i : Nat) : Option D :=
  match ρ[i]? with
  | some (.imm d) => some d
  | some (.own ds) => some (.list ds)
  | some (.io ds) => some (.list ds)
  | _ => none
theorem SI.rd {K : PySem.W.Frag} {F : Fx} {G H : Hp} {σ : L2.St} {ρ : Rho} (I : SI K F G H σ ρ) {i : Nat} {d : D} (h : ρ.rd i = some d) : ∃ v, σ[i]? = some (some v) ∧ Bw K G H v d := by
  unfold Rho.rd at h
  split at h
  · rename_i d' e
    cases h
    obtain ⟨v, h1, h2⟩ := I.sl i _ e
    exact ⟨v, h1, .inl h2⟩
  · rename_i ds e
    cases h
    obtain ⟨a, vs, h1, h2, h3, h4, h5⟩ := I.sl i _ e
    exact ⟨_, h1, .inr ⟨a, vs, ds, rfl, rfl, h2, h4⟩⟩
  · rename_i ds e
    cases h
    obtain ⟨a, vs, h1, h2, h3, h4, h5⟩ := I.sl i _ e
    exact ⟨_, h1, .inr ⟨a, vs, ds, rfl, rfl, h2, h4⟩⟩
  · cases h
def dRd (i : Nat) (ρ : Rho) : R D := lift (ρ.rd i) ρ
/-- the left side a slot, read behind the right side -/
def dOpR (f : D → D → Option D) (i : Nat) (b : Rho → R D) (ρ : Rho) : R D :=
  match ρ.rd i with
  | none => .bad
  | some _ => (b ρ).bind fun y ρ2 => lift ((ρ2.rd i).bind fun x => f x y) ρ2
def dSlR (i : Nat) (lo hi : Rho → R (Option Int)) (ρ : Rho) : R D :=
  match ρ.rd i with
  | none => .bad
  | some _ => (lo ρ).bind fun l ρ2 => (hi ρ2).bind fun h ρ3 => lift ((ρ3.rd i).bind fun x => dCut x l h) ρ3
section
variable {X : Cx} {W : WX} {a b c e : Expr} {da db dc : Rho → R D} {pos p2 p3 : Pos} {f : D → D → Option D} {x : Str}
theorem jb_rd (i : Nat) (hN : X.N[i]? = some x := by rfl) (hv : Vis X.env.scope x := by first | exact Or.inl rfl | exact Or.inr (Or.inl rfl) | exact Or.inr (Or.inr rfl)) (hd : (x == ("__debug__" : Str)) = false := by decide)
    (hcd : (x == ("__classdict__" : Str)) = false := by decide) : JB X W (.Name x pos) (dRd i) := by
  refine ⟨_, pe_var (i := i) hN hv hd hcd, fun F G H σ ρ Q I p => ?_⟩
  obtain ⟨d, e, p⟩ := Post.lift p
  obtain ⟨v, h1, h2⟩ := I.rd e
  exact ⟨v, h1, p G H v I (Sub.rfl' G) h2⟩
theorem rok_opR {r : R2} {tb : TE} {i : Nat} (ho : OpOK X.K r f) (kb : ∀ F, ROK X.K X.mg F W (relB X.K) tb db) (F : Fx) : ROK X.K X.mg F W (relE X.K) (tOp r (tVar i) tb) (dOpR f i db) := by
  intro G H σ ρ Q I p
  unfold dOpR at p
  split at p
  · exact p.elim
  · rename_i d0 e
    obtain ⟨v, h1, _⟩ := I.rd e
    refine ⟨v, h1, kb F G H σ ρ _ I (p.bind fun y ρ2 G2 H2 u I2 s2 r2 p2 => ?_)⟩
    cases q : ρ2.rd i with
    | none => rw [q] at p2; exact p2.elim
    | some d =>
      rw [q] at p2
      obtain ⟨v2, h2, h3⟩ := I2.rd q
      obtain rfl : v2 = v := by rw [h1] at h2; cases h2; rfl
      exact ho F G2 H2 σ ρ2 _ _ _ _ Q I2 h3 r2 p2.gives
theorem je_binR (i : Nat) {op : Operator} (o : JOp X (binaryOp op) f) (hb : JB X W b db) (hN : X.N[i]? = some x := by rfl) (hv : Vis X.env.scope x := by first | exact Or.inl rfl | exact Or.inr (Or.inl rfl) | exact Or.inr (Or.inr rfl)) (hd : (x == ("__debug__" : Str)) = false := by decide)
    (hcd : (x == ("__classdict__" : Str)) = false := by decide) : JE X W (.BinOp (.Name x p2) op b pos) (dOpR f i db) := by
  obtain ⟨r, h1, h2⟩ := o
  obtain ⟨tb, hb, kb⟩ := hb
  exact ⟨_, pe_op h1 (pe_var (i := i) hN hv hd hcd) hb, rok_opR h2 kb⟩
theorem je_cmpR (i : Nat) {op : CmpOp} (o : JOp X (compareOp op) f) (hb : JB X W b db) (hm : behindInMarks op b = false := by first | exact nobehind _ (by decide) (by decide) | rfl) (hN : X.N[i]? = some x := by rfl) (hv : Vis X.env.scope x := by first | exact Or.inl rfl | exact Or.inr (Or.inl rfl) | exact Or.inr (Or.inr rfl))
    (hd : (x == ("__debug__" : Str)) = false := by decide) (hcd : (x == ("__classdict__" : Str)) = false := by decide) : JE X W (.Compare (.Name x p2) [op] [b] pos) (dOpR f i db) := by
  obtain ⟨r, h1, h2⟩ := o
  obtain ⟨tb, hb, kb⟩ := hb
  exact ⟨_, pe_cmpR h1 (pe_var (i := i) hN hv hd hcd) hb hm, rok_opR h2 kb⟩
theorem jt_cmpR (i : Nat) {op : CmpOp} (o : JOp X (compareOp op) f) (hb : JB X W b db) (hm : behindInMarks op b = false := by first | exact nobehind _ (by decide) (by decide) | rfl) (hN : X.N[i]? = some x := by rfl) (hv : Vis X.env.scope x := by first | exact Or.inl rfl | exact Or.inr (Or.inl rfl) | exact Or.inr (Or.inr rfl))
    (hd : (x == ("__debug__" : Str)) = false := by decide) (hcd : (x == ("__classdict__" : Str)) = false := by decide) : JT X W (.Compare (.Name x p2) [op] [b] pos) (dBool (dOpR f i db)) := by
  obtain ⟨r, h1, h2⟩ := o
  obtain ⟨tb, hb, kb⟩ := hb
  exact ⟨_, pt_cmpR h1 (pe_var (i := i) hN hv hd hcd) hb hm, fun F => rok_B (rok_opR h2 kb F)⟩
theorem je_ixR (i : Nat) (hb : JB X W b db) (hs : PlainIx b := by exact fun _ _ => rfl) (hN : X.N[i]? = some x := by rfl) (hv : Vis X.env.scope x := by first | exact Or.inl rfl | exact Or.inr (Or.inl rfl) | exact Or.inr (Or.inr rfl))
    (hd : (x == ("__debug__" : Str)) = false := by decide) (hcd : (x == ("__classdict__" : Str)) = false := by decide) : JE X W (.Subscript (.Name x p2) b pos) (dOpR dIx i db) := by
  obtain ⟨tb, hb, kb⟩ := hb
  exact ⟨_, pe_ix ix_seq (pe_var (i := i) hN hv hd hcd) hb hs, rok_opR ok_ix kb⟩
theorem je_slR (i : Nat) {lo hi : Option Expr} {dl dh : Rho → R (Option Int)} (hl : JP X W lo dl) (hh : JP X W hi dh) (hN : X.N[i]? = some x := by rfl) (hv : Vis X.env.scope x := by first | exact Or.inl rfl | exact Or.inr (Or.inl rfl) | exact Or.inr (Or.inr rfl))
    (hd : (x == ("__debug__" : Str)) = false := by decide) (hcd : (x == ("__classdict__" : Str)) = false := by decide) : JE X W (.Subscript (.Name x p3) (.Slice lo hi none p2) pos) (dSlR i dl dh) := by
  obtain ⟨tl, hl, kl⟩ := hl
  obtain ⟨th, hh, kh⟩ := hh
  refine ⟨_, pe_slice (SlR.or sl_list (SlR.or sl_tupA sl_str)) (pe_var (i := i) hN hv hd hcd) hl hh, fun F G H σ ρ Q I p => ?_⟩
  unfold dSlR at p
  split at p
  · exact p.elim
  rename_i d0 e0
  obtain ⟨v, m1, _⟩ := I.rd e0
  refine ⟨_, m1, kl F G H σ ρ _ I (p.bind fun l ρ2 G2 H2 l' I2 s2 r2 p2 => ?_)⟩
  obtain rfl : l' = l := r2
  refine kh F G2 H2 σ ρ2 _ I2 (p2.bind fun h ρ3 G3 H3 h' I3 s3 r3 p3 => ?_)
  obtain rfl : h' = h := r3
  cases q : ρ3.rd i with
  | none => rw [q] at p3; exact p3.elim
  | some d =>
    rw [q] at p3
    obtain ⟨v2, h2, h3⟩ := I3.rd q
    obtain rfl : v2 = v := by rw [m1] at h2; cases h2; rfl
    exact ok_cut I3 h3 p3.gives
end
def dIadd : D → D → Option D
  | .int a, .int b => some (.int (a + b))
  | .str a, .str b => if a.length + b.length ≤ sizeLine then some (.str (a ++ b)) else none
  | _, _ => none
def rIadd : R2 := fun x y H Q => rI0 (fun i j => .int (i + j)) x y H Q ∨ (∃ i j, x = .str i ∧ y = .str j ∧ i.length + j.length ≤ sizeLine ∧ Q (.str (i ++ j)) H)
theorem op_iadd {X : Cx} : OpR X (inplaceOp .Add) rIadd := OpR.or iop_add iop_add_str
theorem ok_iadd {K : PySem.W.Frag} : OpOK K rIadd dIadd := fun F G H σ ρ x y d1 d2 Q I h1 h2 g => by
  unfold dIadd at g
  split at g
  · obtain rfl := h1.int
    obtain rfl := h2.int
    exact .inl ⟨_, _, rfl, rfl, g.here I rfl (.i _)⟩
  · obtain rfl := h1.str
    obtain rfl := h2.str
    split at g
    · rename_i c
      exact .inr ⟨_, _, rfl, rfl, c, g.here I rfl (.s _)⟩
    · exact g.no
  · exact g.no
theorem hu65 {k : Nat} {A : Around} (r : Room k A) : A.units + 65 < cLine := by have := r.un; omega
end Pf

/-! Pf21: from the head's facts to the law. -/
namespace Pf
open PySem PySem.Spec PyProof.Rows L2

theorem jeu_xfE {X : Cx} {i : Option Nat} {y f cn : Str} {p1 pos : Pos} (j : Nat) (h : ∃ C, X.mg cn = some (.ref C) ∧ XfC X.K C ∧ PySem.W.findIn X.K (.ref C) f = some none) (hij : i = some j) (hN : X.N[j]? = some y := by rfl) (hv : Vis X.env.scope y := by first | exact Or.inl rfl | exact Or.inr (Or.inl rfl) | exact Or.inr (Or.inr rfl))
    (hd : (y == ("__debug__" : Str)) = false := by decide) (hcd : (y == ("__classdict__" : Str)) = false := by decide) (hb : ∀ c : SuC, attributeBase (.Name y p1) f (c.cx X).env (eval (.Name y p1) (c.cx X).env) = eval (.Name y p1) (c.cx X).env := by intro _; rfl) :
    JEu X i (.Attribute (.Name y p1) f pos) (dXf cn f) := by
  obtain ⟨C, h1, h2, h3⟩ := h
  exact jeu_xf j h1 h2 h3 hij hN hv hd hcd hb
def qLam (x : Str) : Str := (x ++ ".<locals>.") ++ "<lambda>"

section
variable {P : Program} {w : World} {K : PySem.W.Frag} {mg : Str → Option Value} {base : Heap}
/-- the law's def, with the table of its lambdas -/
theorem fnL {x : Str} {st : Stmt} {N ps : List Str} {k n np : Nat} {body : Rho → Out} {fd : FuncData} (F : FunD K x x (defArgs st) (defBody st) (defScope st) [] [] (He.fAd K (x, none)) fd) (S : FnScope N ps (defScope st)) (hn : N.length = n) (hp : ps.length = np)
    (hbody : ∀ (c : Addr) (A : Around) (outer : List Env) (s : Shared) (H : Hp) (E : XK), c = (He.cT K (x, none)).1 → Room k (A.deeper (envOfC x (defScope st) s.heap.objs.size (He.fAd K (x, none)) (.ref c))) →
      JSs (cxOf (L2.CX P w) P w K mg base N x (defScope st) (He.fAd K (x, none)) (.ref c) A outer s H E) (fun cls d _ H' => E cls d H') (defBody st) body) : FnOk P w K mg base (L2.CX P w) (k + 1) (He.fAd K (x, none)) fd ps (spF K mg n np body) := by
  obtain ⟨oc, od, dV, kV, doc, pm, an, cdv, ct, osl, rfl, lk, hcd, _, _⟩ := F.ex
  obtain ⟨c, rfl⟩ := He.codeIn_ref hcd
  have ec : c = (He.cT K (x, none)).1 := (He.codeOf_eq lk rfl).symm
  refine fn_of lk hcd S (fun vs H Q E h => ?_) fun A outer s H vs Q E hr h => ?_
  · obtain ⟨G, w', T, ρ, h1, _⟩ := h
    rw [h1, hp]
  · obtain ⟨G, w', T, ρ, h1, I, p⟩ := h
    obtain ⟨t, ht, kt⟩ := hbody c A outer s H E ec hr
    refine ⟨t, ht, kt ⟨untab H, G, w', T⟩ G H _ ρ _ ?_ p⟩
    unfold L2.start
    rw [hn]
    exact I
/-- the promise at the law's own start -/
theorem law_start {n : Nat} {body : Rho → Out} {H : Hp} {a : Addr} {ns : List Int} {T : List (Addr × Str)} (hT : LamX.Tabs T H) (hS : SqL K H a (ns.map V.int)) (hn : 0 < n)
    (h : ∃ ρ', body (.scr ns T :: List.replicate (n - 1) .undef) = .ret (.bool true) ρ') : spF K mg n 1 body [.ref a] H (fun v _ => v = .bl true) (fun _ _ _ => False) := by
  obtain ⟨ρ', h⟩ := h
  have key : ∀ G : Hp, Sub G H → (∀ b o, G b = some o → ∃ vs, o = .lst vs) → (ScrOk K H a ns ∨ G a = some (HO.lst (ns.map V.int))) → spF K mg n 1 body [.ref a] H (fun v _ => v = .bl true) (fun _ _ _ => False) := fun G hG hl hs => by
    have hall : AllSl K ⟨untab H, G, fun _ => none, T⟩ G H 0 (.scr ns T :: List.replicate (n - 1) .undef) ([V.ref a].map some ++ List.replicate (n - 1) none) := ⟨⟨⟨a, rfl, hs⟩, fun _ => rfl⟩, AllSl.und _⟩
    refine ⟨G, fun _ => none, T, .scr ns T :: List.replicate (n - 1) .undef, rfl, ⟨hG, fun b ps e => ?_, Sub.rfl' _, fun a o e => .inl e, fun a o e _ => (at_untab e).1, fun a e => untab_none e, fun k a e => (by cases e), fun k a e => (by cases e), fun k l a e1 e2 => (by cases e1), hT, hall.len, fun i s e => by have := hall.get i s e; rw [Nat.zero_add] at this; exact this, fun i j a d1 d2 e1 e2 s1 s2 => ?_, fun a ps e => (at_untab e).2 ps rfl, fun k a e => (by cases e)⟩, ?_⟩
    · obtain ⟨vs, z⟩ := hl b _ e
      cases z
    · exfalso
      obtain ⟨b, vs, x1, x2, x3, x4, x5⟩ := hall.get i _ e1
      have x5 : untab H b = none := x5
      rw [untab_at x2 (fun _ z => by cases z)] at x5; cases x5
    · rw [h]
      intro G' H' σ' v I' s' r
      cases r
      rfl
  have key0 : ScrOk K H a ns → spF K mg n 1 body [.ref a] H (fun v _ => v = .bl true) (fun _ _ _ => False) := fun hs => key (fun _ => none) (fun a o e => by cases e) (fun b o e => by cases e) (.inl hs)
  rcases hS with (hS | ⟨o, hS⟩) | hS
  · refine key (fun b => if b = a then some (HO.lst (ns.map V.int)) else none) (fun b o e => ?_) (fun b o e => ?_) (.inr (if_pos rfl))
    · have e : (if b = a then some (HO.lst (ns.map V.int)) else none) = some o := e
      split at e
      · rename_i hb; rw [hb, ← Option.some.inj e]; exact hS
      · cases e
    · have e : (if b = a then some (HO.lst (ns.map V.int)) else none) = some o := e
      split at e
      · exact ⟨_, (Option.some.inj e).symm⟩
      · cases e
  · exact key0 (.inl ⟨o, hS⟩)
  · exact key0 (.inr hS)
end
/-- THE END: what is known at the head, the law's def, the plain law -/
theorem lawAt {l : PySem.W.OpenLaw} {w : World} {K : PySem.W.Frag} {mg : Str → Option Value} {h : Heap} {fa : List He.Fa} {fn : List He.DefD} {ex : PySem.W.Frag → Bool} {st : Stmt} {N : List Str} {k n : Nat} {body : List (Addr × Str) → Rho → Out} (KX : K.In h) (G : h.Ns mainGlobals mg)
    (c : He.SaysX fa fn [] [(PySem.Str.ofString "law", none)] ex w h K) (FD : ∃ fd, FunD K (PySem.Str.ofString "law") (PySem.Str.ofString "law") (defArgs st) (defBody st) (defScope st) [] [] (He.fAd K (PySem.Str.ofString "law", none)) fd) (S : FnScope N [PySem.Str.ofString "script"] (defScope st)) (hn : N.length = n) (h0 : 0 < n)
    (hb : ∀ (kV doc pm : Value) (an : Option Addr) (cdv ct : Value) (us : List Value), us.length = 1 → bindArgs (PySem.W.fnOf (PySem.Str.ofString "law") (PySem.Str.ofString "law") (defArgs st) (defBody st) (defScope st) .none kV doc pm an cdv ct) ⟨us, []⟩ = pure ([PySem.Str.ofString "script"].zip us))
    (hbody : ∀ (base : Heap) (T : List (Addr × Str)) (c P : Addr), K.In base → base.Ns mainGlobals mg → LamX.TabB base mg c P → T = [(P, qLam (PySem.Str.ofString "law"))] → ∀ (A : Around) (outer : List Env) (s : Shared) (H : Hp) (E : XK), Room k (A.deeper (envOfC (PySem.Str.ofString "law") (defScope st) s.heap.objs.size (He.fAd K (PySem.Str.ofString "law", none)) (.ref c))) →
      JSs (cxOf (L2.CX l.prog w) l.prog w K mg base N (PySem.Str.ofString "law") (defScope st) (He.fAd K (PySem.Str.ofString "law", none)) (.ref c) A outer s H E) (fun cls d _ H' => E cls d H') (defBody st) (body T))
    (plain : ∀ (ns : List Int) (T : List (Addr × Str)), ns.length ≤ 63 → (∀ z ∈ ns, Builtin.Int.intBits z ≤ 1048576) → T ≠ [] → ∃ ρ', body T (.scr ns T :: List.replicate (n - 1) .undef) = .ret (.bool true) ρ') :
    LamX.LawAtS l w K (L2.CX l.prog w) (k + 1) 63 (PySem.Str.ofString "script") mg (He.fAd K (PySem.Str.ofString "law", none)) h := by
  obtain ⟨fd, F⟩ := FD
  have hm : (PySem.Str.ofString "law", (none : Option Str)) ∈ [(PySem.Str.ofString "law", (none : Option Str))] := List.mem_cons_self
  refine ⟨fd, [He.cT K (PySem.Str.ofString "law", none)], spF K mg n 1 (body [((He.cT K (PySem.Str.ofString "law", none)).2, qLam (PySem.Str.ofString "law"))]), fun p hp => ?_, fun p hp => ?_, fun p hp => ?_, fun s u => ?_, fun H a ns hl hz hT hS => ?_, fun base KB GB TB => ?_⟩
  · obtain rfl := List.mem_singleton.mp hp; exact c.empty _ hm
  · obtain rfl := List.mem_singleton.mp hp; exact c.out _ hm
  · obtain rfl := List.mem_singleton.mp hp; exact PySem.W.codeHd_of_K KX (c.hd _ hm)
  · exact FunD.bindsA (ps := [PySem.Str.ofString "script"]) F hb s [u] rfl
  · refine law_start (fun p hp => ?_) hS h0 (plain ns _ hl hz (by simp))
    obtain rfl := List.mem_singleton.mp hp
    exact .nil (hT _ List.mem_cons_self)
  · refine fnL F S hn rfl fun c' A outer s H E ec hr => ?_
    subst ec
    exact hbody base _ _ _ KB GB (TB _ List.mem_cons_self) rfl A outer s H E hr
end Pf

/-! Pf22: the head's further checks; own exceptions by them. -/
namespace Pf
open PySem PySem.Spec PyProof.Rows L2

theorem oexB_ok {K : PySem.W.Frag} {C : Addr} (h : oexB K C = true) : OexC K C := by
  obtain ⟨h0, h⟩ := He.ba h
  obtain ⟨h1, h⟩ := He.ba h
  obtain ⟨h2, h⟩ := He.ba h
  obtain ⟨h3, h4⟩ := He.ba h
  refine ⟨?_, of_decide_eq_true h1, of_decide_eq_true h2, of_decide_eq_true h3, h4⟩
  split at h0
  · rename_i dd cd sl ho
    split at h0
    · rename_i C' bm k0 k1 k2 k3 n k5 hm hs
      simp only [Bool.and_eq_true, beq_iff_eq, Bool.not_eq_true'] at h0
      obtain ⟨⟨⟨⟨rfl, rfl⟩, hdel⟩, hdi⟩, ht⟩ := h0
      obtain ⟨nm, bs, mro, ns, qn, hd, sn, sub, ab, col, del⟩ := cd
      dsimp only at hm hdel hdi
      subst hm hdel hdi
      have hsl : sl = #[k0, k1, k2, k3, some (.builtin "ValueError.__new__"), k5] := by
        obtain ⟨l⟩ := sl
        simp only at hs
        rw [hs]
      subst hsl
      exact ⟨nm, qn, ns, bs, bm, sn, sub, ab, col, dd, k0, k1, k2, k3, k5, ho, ht⟩
    · cases h0
  · cases h0
theorem excCB_ok {K : PySem.W.Frag} {C : Addr} (h : excCB K C = true) : ExcC K C := by
  obtain ⟨h1, h⟩ := He.ba h
  obtain ⟨h2, h⟩ := He.ba h
  obtain ⟨h3, h⟩ := He.ba h
  obtain ⟨h4, h⟩ := He.ba h
  obtain ⟨h5, h⟩ := He.ba h
  obtain ⟨h6, h⟩ := He.ba h
  obtain ⟨h7, h8⟩ := He.ba h
  exact ⟨of_decide_eq_true h1, of_decide_eq_true h2, of_decide_eq_true h3, h4, of_decide_eq_true h5, of_decide_eq_true h6, of_decide_eq_true h7, of_decide_eq_true h8⟩
section
variable {P : Program} {w : World} {K : PySem.W.Frag} {mg : Str → Option Value} {base : Heap}
theorem exA_of {known : List Str} {A : Str} (h : isaB K known A = true) (g : ∀ x ∈ known, mg x = some (.ref (He.ga K x))) (gA : mg A = some (.ref (He.ga K A))) : ExA K mg known A :=
  ⟨_, gA, fun nm hnm => by
    obtain ⟨h1, h2⟩ := He.ba (List.all_eq_true.mp h nm hnm)
    exact ⟨_, g nm hnm, excCB_ok h1, of_decide_eq_true h2⟩⟩
theorem exM_of {b : Str} {known : List Str} {c : Str} (h : exmB K b known c = true) (g : ∀ x ∈ known, mg x = some (.ref (He.ga K x))) (gA : mg c = some (.ref (He.ga K c))) : ExM K mg b known c :=
  ⟨_, gA, fun nm hnm => ⟨_, g nm hnm, of_decide_eq_true (List.all_eq_true.mp h nm hnm)⟩⟩
theorem exK0_of {x : Str} (c : (He.Fa.exc x).ok K = true) (g : mg x = some (.ref (He.ga K x))) : ExK0 K mg x := by
  obtain ⟨h1, h2, h3, h4⟩ := He.exc_ok c
  exact ⟨_, g, h1, h2, h3, h4⟩
theorem exF_of {x f : Str} (h : exFB K x f = true) (g : mg x = some (.ref (He.ga K x))) : ∃ C, mg x = some (.ref C) ∧ XfC K C ∧ PySem.W.findIn K (.ref C) f = some none := by
  obtain ⟨_, h⟩ := He.ba h
  obtain ⟨h1, h⟩ := He.ba h
  obtain ⟨h2, h⟩ := He.ba h
  exact ⟨_, g, xfB_ok h1, of_decide_eq_true h2⟩
/-- def __init__(self, y): self.f = y -/
theorem exK1_of {x f q y : Str} {st : Stmt} {p1 p2 p3 p4 : Pos} (h : exFB K x f = true) (g : mg x = some (.ref (He.ga K x))) (FD : ∃ fd, FunD K (PySem.Str.ofString "__init__") q (defArgs st) (defBody st) (defScope st) [] [] (He.fAd K (x, some (PySem.Str.ofString "__init__"))) fd)
    (hst : defBody st = [.Assign [.Attribute (.Name (PySem.Str.ofString "self") p1) f p2] (.Name y p3) p4]) (S : FnScope [PySem.Str.ofString "self", y] [PySem.Str.ofString "self", y] (defScope st))
    (hb : ∀ (kV doc pm : Value) (an : Option Addr) (cdv ct : Value) (us : List Value), us.length = 2 → bindArgs (PySem.W.fnOf (PySem.Str.ofString "__init__") q (defArgs st) (defBody st) (defScope st) .none kV doc pm an cdv ct) ⟨us, []⟩ = pure ([PySem.Str.ofString "self", y].zip us))
    (hv0 : Vis (defScope st) (PySem.Str.ofString "self")) (hv1 : Vis (defScope st) y) (hd : (y == ("__debug__" : Str)) = false) (hcd : (y == ("__classdict__" : Str)) = false) : ExK1 P w K mg base x f := by
  obtain ⟨fd, F⟩ := FD
  obtain ⟨h0, h⟩ := He.ba h
  obtain ⟨h1, h⟩ := He.ba h
  obtain ⟨h2, h⟩ := He.ba h
  obtain ⟨h3, h4⟩ := He.ba h
  refine ⟨He.ga K x, He.ma K (He.ga K x) (PySem.Str.ofString "__init__"), fd, _, g, oexB_ok h0, of_decide_eq_true h2, of_decide_eq_true h3, of_decide_eq_true h4, ?_, FunD.bindsN (ps := [PySem.Str.ofString "self", y]) F hb⟩
  refine FunD.ok F S (fun vs H Q E h => ?_) fun cdv A outer s H vs Q E hr h => ?_
  · obtain ⟨a, C, v, rfl, _⟩ := h
    rfl
  · rw [hst]
    obtain ⟨a, C, v, rfl, T, hno, ha, hq⟩ := h
    refine ⟨_, pss_one (ps_ost (pe_var (i := 0) rfl hv0) (pe_var (i := 1) rfl hv1 hd hcd)), ?_⟩
    exact ⟨v, rfl, .ref a, rfl, a, C, rfl, T, hno, .inl ⟨ha, hq⟩⟩
end
/-- the statements of a class -/
def clsBody : Stmt → List Stmt
  | .ClassDef _ _ _ b _ _ _ _ _ _ _ => b
  | _ => []
end Pf

/-! Pf24: zip of any two of a list, a tuple, a text. -/
namespace Pf
open PySem PySem.Spec PyProof.Rows L2
structure ZApart (z TI TO i1 i2 : Addr) (f1 f2 : List Addr) : Prop where
  TIz : TI ≠ z
  TOz : TO ≠ z
  i1z : i1 ≠ z
  i2z : i2 ≠ z
  TITO : TI ≠ TO
  TIi1 : TI ≠ i1
  TIi2 : TI ≠ i2
  TOi1 : TO ≠ i1
  TOi2 : TO ≠ i2
  i12 : i1 ≠ i2
  z1 : z ∉ f1
  z2 : z ∉ f2
  T1 : TO ∉ f1
  T2 : TO ∉ f2
  c1 : i2 ∉ f1
  c2 : i1 ∉ f2
section
variable {prog : Program} {w : World} {A : Around} {E : Value → Shared → Prop}
theorem zipD_next_item {s : Shared} {z TI TO i1 i2 : Addr} {f1 f2 : List Addr} {n1 n2 k1 k2 : Nat} {P1 P2 : Nat → Value → Prop} {St1 St2 : Nat → Heap → Prop} {a b : Value} {Q : Value → Shared → Prop}
    (D1 : Draws prog w A i1 f1 n1 P1 St1) (D2 : Draws prog w A i2 f2 n2 P2 St2) (D : ZApart z TI TO i1 i2 f1 f2)
    (hz : IsZip s.heap z TI TO .none) (hTI : IsPair s.heap TI (.ref i1) (.ref i2)) (hTO : IsPair s.heap TO a b)
    (h1 : St1 k1 s.heap) (h2 : St2 k2 s.heap) (l1 : k1 < n1) (l2 : k2 < n2)
    (hQ : ∀ x y h' tk, P1 k1 x → P2 k2 y → IsZip h' z TI TO (rawInt s.heap.objs.size) → IsPair h' TO x y → St1 (k1 + 1) h' → St2 (k2 + 1) h' → IsPair h' s.heap.objs.size x y → h'.objs.size = s.heap.objs.size + 1 →
      (∀ c o, c ≠ z → c ≠ TO → c ≠ i1 → c ≠ i2 → s.heap.get? c = some o → h'.get? c = some o) → Q (.ref s.heap.objs.size) { s with heap := h', toks := tk }) :
    wpAny (model prog w) A (Builtin.«zip.__next__» ⟨[.ref z], []⟩) (fun fin s' => ∃ v, fin = .done (.ret v) ∧ Q v s') E s := by
  show wpAny _ _ (field (.ref z) 2 >>= _) _ _ _
  refine wpAny_bind (wpAny_field hz rfl (x := .bool false) rfl ?_)
  show wpAny _ _ (field (.ref z) 3 >>= _) _ _ _
  refine wpAny_bind (wpAny_field hz rfl (x := .ref TI) rfl ?_)
  refine wpAny_bind (wpAny_seqItems hTI rfl ?_)
  show wpAny _ _ (Builtin.SmallTypes.ownedTupleIsFree (.ref z) >>= _) _ _ _
  refine wpAny_bind ?_
  unfold Builtin.SmallTypes.ownedTupleIsFree
  refine wpAny_bind (wpAny_field hz rfl (x := .none) rfl (wpAny_pure ?_))
  simp only [if_true]
  refine wpAny_bind (wpAny_rule ?_)
  refine wpAny_bind (wpAny_field hz rfl (x := .ref TO) rfl ?_)
  refine wpAny_bind (wpAny_setField_rec hz (by simp) fun h₁ hz₁ hs₁ => ?_)
  replace hz₁ : IsZip h₁ z TI TO .ellipsis := hz₁
  refine wpAny_bind ?_
  simp only [List.zipIdx_cons, List.zipIdx_nil, List.forIn_cons, List.forIn_nil]
  refine wpAny_bind (wpAny_bind (wpAny_onRaise ?_))
  show wpAny _ _ (Builtin.SmallTypes.nextOf (.ref i1) >>= _) _ _ _
  refine wpAny_bind (D1.item k1 _ _ _ l1 (D1.frame _ _ _ h1 fun c hc o e => hs₁.extBut _ _ (fun q => D.z1 (q ▸ hc)) e) fun x h₂ tk₂ hx h1₂ hs₂ => wpAny_pure ?_)
  have hTO₂ : IsPair h₂ TO a b := hs₂.extBut _ _ D.TOi1 (hs₁.extBut _ _ D.TOz hTO)
  refine wpAny_bind (wpAny_seqItems hTO₂ rfl ?_)
  refine wpAny_bind (wpAny_updateSeq_pair hTO₂ fun h₃ hTO₃ hs₃ => ?_)
  replace hTO₃ : IsPair h₃ TO x b := hTO₃
  refine wpAny_bind (wpAny_letGo (wpAny_pure ?_))
  refine wpAny_bind (wpAny_bind (wpAny_onRaise ?_))
  show wpAny _ _ (Builtin.SmallTypes.nextOf (.ref i2) >>= _) _ _ _
  refine wpAny_bind (D2.item k2 _ _ _ l2 (D2.frame _ _ _ h2 fun c hc o e => hs₃.extBut _ _ (fun q => D.T2 (q ▸ hc)) (hs₂.extBut _ _ (fun q => D.c2 (q ▸ hc)) (hs₁.extBut _ _ (fun q => D.z2 (q ▸ hc)) e))) fun y h₄ tk₄ hy h2₄ hs₄ => wpAny_pure ?_)
  have hTO₄ : IsPair h₄ TO x b := hs₄.extBut _ _ D.TOi2 hTO₃
  refine wpAny_bind (wpAny_seqItems hTO₄ rfl ?_)
  refine wpAny_bind (wpAny_updateSeq_pair hTO₄ fun h₅ hTO₅ hs₅ => ?_)
  replace hTO₅ : IsPair h₅ TO x y := hTO₅
  refine wpAny_bind (wpAny_letGo (wpAny_pure (wpAny_pure ?_)))
  refine wpAny_bind (wpAny_seqItems hTO₅ rfl ?_)
  refine wpAny_bind (wpAny_newTuple ?_)
  have hsz : h₅.objs.size = s.heap.objs.size := by rw [hs₅.1, hs₄.1, hs₃.1, hs₂.1, hs₁.1]
  have hz₅ : IsZip h₅ z TI TO .ellipsis := hs₅.extBut _ _ D.TOz.symm (hs₄.extBut _ _ D.i2z.symm (hs₃.extBut _ _ D.TOz.symm (hs₂.extBut _ _ D.i1z.symm hz₁)))
  have hk₅ : ∀ c o, c ≠ z → c ≠ TO → c ≠ i1 → c ≠ i2 → s.heap.get? c = some o → h₅.get? c = some o := fun c o c1 c2 c3 c4 e =>
    hs₅.extBut _ _ c2 (hs₄.extBut _ _ c4 (hs₃.extBut _ _ c2 (hs₂.extBut _ _ c3 (hs₁.extBut _ _ c1 e))))
  have hzlt : z < h₅.objs.size := Heap.lt_size hz₅
  have hTOlt : TO < h₅.objs.size := Heap.lt_size hTO₅
  show wpAny _ _ (Builtin.SmallTypes.ownedTupleHandOut (.ref z) (.ref h₅.objs.size) >>= _) _ _ _
  refine wpAny_bind ?_
  unfold Builtin.SmallTypes.ownedTupleHandOut
  have hz₆ : IsZip (h₅.push { cls := .type "tuple", data := .seq #[x, y] }) z TI TO .ellipsis := Heap.get?_push_of_some _ hz₅
  refine wpAny_bind (wpAny_setField_rec hz₆ (by simp) fun h₇ hz₇ hs₇ => ?_)
  replace hz₇ : IsZip h₇ z TI TO (rawInt h₅.objs.size) := hz₇
  refine wpAny_setField_rec hz₇ (by simp) fun h₈ hz₈ hs₈ => ?_
  replace hz₈ : IsZip h₈ z TI TO (rawInt h₅.objs.size) := hz₈
  have up : ∀ c o, c ≠ z → h₅.get? c = some o → h₈.get? c = some o := fun c o c1 e => hs₈.extBut _ _ c1 (hs₇.extBut _ _ c1 (Heap.get?_push_of_some _ e))
  have hT₈ : IsPair h₈ h₅.objs.size x y := hs₈.extBut _ _ (Nat.ne_of_gt hzlt) (hs₇.extBut _ _ (Nat.ne_of_gt hzlt) (Heap.get?_push_size _ rfl))
  have hz8 : h₈.objs.size = h₅.objs.size + 1 := by rw [hs₈.1, hs₇.1, Heap.size_push]
  have h1₈ : St1 (k1 + 1) h₈ := D1.frame _ _ _ h1₂ fun c hc o e => up _ _ (fun q => D.z1 (q ▸ hc)) (hs₅.extBut _ _ (fun q => D.T1 (q ▸ hc)) (hs₄.extBut _ _ (fun q => D.c1 (q ▸ hc)) (hs₃.extBut _ _ (fun q => D.T1 (q ▸ hc)) e)))
  have h2₈ : St2 (k2 + 1) h₈ := D2.frame _ _ _ h2₄ fun c hc o e => up _ _ (fun q => D.z2 (q ▸ hc)) (hs₅.extBut _ _ (fun q => D.T2 (q ▸ hc)) e)
  rw [hsz] at hz₈ hT₈ hz8
  refine wpAny_pure ⟨_, rfl, ?_⟩
  show Q (.ref h₅.objs.size) _
  rw [hsz]
  exact hQ x y h₈ tk₄ hx hy hz₈ (up _ _ D.TOz hTO₅) h1₈ h2₈ hT₈ hz8 fun c o c1 c2 c3 c4 e => up c o c1 (hk₅ c o c1 c2 c3 c4 e)

theorem zipD_next_end {s : Shared} {z TI TO i1 i2 : Addr} {f1 f2 : List Addr} {n1 n2 k : Nat} {P1 P2 : Nat → Value → Prop} {St1 St2 : Nat → Heap → Prop} {a b : Value} {Q : Fin → Shared → Prop}
    (D1 : Draws prog w A i1 f1 n1 P1 St1) (D2 : Draws prog w A i2 f2 n2 P2 St2) (D : ZApart z TI TO i1 i2 f1 f2)
    (hz : IsZip s.heap z TI TO .none) (hTI : IsPair s.heap TI (.ref i1) (.ref i2)) (hTO : IsPair s.heap TO a b)
    (h1 : St1 k s.heap) (h2 : St2 k s.heap) (l1 : k ≤ n1) (l2 : k ≤ n2) (hend : k = n1 ∨ k = n2)
    (hE : ∀ h' e tk, (∀ c o, c ≠ z → c ≠ TO → c ≠ i1 → c ≠ i2 → s.heap.get? c = some o → h'.get? c = some o) → (∃ o, h'.get? e = some o ∧ o.cls = .type "StopIteration") → E (.ref e) { s with heap := h', toks := tk }) :
    wpAny (model prog w) A (Builtin.«zip.__next__» ⟨[.ref z], []⟩) Q E s := by
  show wpAny _ _ (field (.ref z) 2 >>= _) _ _ _
  refine wpAny_bind (wpAny_field hz rfl (x := .bool false) rfl ?_)
  show wpAny _ _ (field (.ref z) 3 >>= _) _ _ _
  refine wpAny_bind (wpAny_field hz rfl (x := .ref TI) rfl ?_)
  refine wpAny_bind (wpAny_seqItems hTI rfl ?_)
  show wpAny _ _ (Builtin.SmallTypes.ownedTupleIsFree (.ref z) >>= _) _ _ _
  refine wpAny_bind ?_
  unfold Builtin.SmallTypes.ownedTupleIsFree
  refine wpAny_bind (wpAny_field hz rfl (x := .none) rfl (wpAny_pure ?_))
  simp only [if_true]
  refine wpAny_bind (wpAny_rule ?_)
  refine wpAny_bind (wpAny_field hz rfl (x := .ref TO) rfl ?_)
  refine wpAny_bind (wpAny_setField_rec hz (by simp) fun h₁ hz₁ hs₁ => ?_)
  replace hz₁ : IsZip h₁ z TI TO .ellipsis := hz₁
  refine wpAny_bind ?_
  simp only [List.zipIdx_cons, List.zipIdx_nil, List.forIn_cons, List.forIn_nil]
  refine wpAny_bind (wpAny_bind (wpAny_onRaise ?_))
  show wpAny _ _ (Builtin.SmallTypes.nextOf (.ref i1) >>= _) _ _ _
  have h1₁ : St1 k h₁ := D1.frame _ _ _ h1 fun c hc o e => hs₁.extBut _ _ (fun q => D.z1 (q ▸ hc)) e
  by_cases e1 : k = n1
  · subst e1
    refine wpAny_bind (D1.done _ _ _ h1₁ fun h₂ e hs₂ he => ?_)
    obtain ⟨oe, hoe, hce⟩ := he
    have hz₂ : IsZip h₂ z TI TO .ellipsis := hs₂ _ _ D.i1z.symm hz₁
    have hez : e ≠ z := fun x => by subst x; rw [hz₂] at hoe; cases hoe; simp at hce
    refine wpAny_setField_rec hz₂ (by simp) fun h₃ _ hs₃ => hE h₃ e s.toks (fun c o c1 _ c3 _ x => hs₃.extBut _ _ c1 (hs₂ _ _ c3 (hs₁.extBut _ _ c1 x))) ⟨oe, hs₃.extBut _ _ hez hoe, hce⟩
  · have e2 : k = n2 := by rcases hend with q | q; exact absurd q e1; exact q
    refine wpAny_bind (D1.item k _ _ _ (by omega) h1₁ fun x h₂ tk₂ hx h1₂ hs₂ => wpAny_pure ?_)
    have hTO₂ : IsPair h₂ TO a b := hs₂.extBut _ _ D.TOi1 (hs₁.extBut _ _ D.TOz hTO)
    refine wpAny_bind (wpAny_seqItems hTO₂ rfl ?_)
    refine wpAny_bind (wpAny_updateSeq_pair hTO₂ fun h₃ hTO₃ hs₃ => ?_)
    refine wpAny_bind (wpAny_letGo (wpAny_pure ?_))
    refine wpAny_bind (wpAny_bind (wpAny_onRaise ?_))
    show wpAny _ _ (Builtin.SmallTypes.nextOf (.ref i2) >>= _) _ _ _
    subst e2
    refine wpAny_bind (D2.done _ _ _ (D2.frame _ _ _ h2 fun c hc o e => hs₃.extBut _ _ (fun q => D.T2 (q ▸ hc)) (hs₂.extBut _ _ (fun q => D.c2 (q ▸ hc)) (hs₁.extBut _ _ (fun q => D.z2 (q ▸ hc)) e))) fun h₄ e hs₄ he => ?_)
    obtain ⟨oe, hoe, hce⟩ := he
    have hz₄ : IsZip h₄ z TI TO .ellipsis := hs₄ _ _ D.i2z.symm (hs₃.extBut _ _ D.TOz.symm (hs₂.extBut _ _ D.i1z.symm hz₁))
    have hez : e ≠ z := fun x => by subst x; rw [hz₄] at hoe; cases hoe; simp at hce
    refine wpAny_setField_rec hz₄ (by simp) fun h₅ _ hs₅ => hE h₅ e tk₂ (fun c o c1 c2 c3 c4 x => hs₅.extBut _ _ c1 (hs₄ _ _ c4 (hs₃.extBut _ _ c2 (hs₂.extBut _ _ c3 (hs₁.extBut _ _ c1 x))))) ⟨oe, hs₅.extBut _ _ hez hoe, hce⟩

theorem pyNext_zipD_item {s : Shared} {z TI TO i1 i2 : Addr} {f1 f2 : List Addr} {n1 n2 k1 k2 : Nat} {P1 P2 : Nat → Value → Prop} {St1 St2 : Nat → Heap → Prop} {a b : Value} {Q : Option Value → Shared → Prop}
    (D1 : Draws prog w A.in1 i1 f1 n1 P1 St1) (D2 : Draws prog w A.in1 i2 f2 n2 P2 St2) (D : ZApart z TI TO i1 i2 f1 f2)
    (hz : IsZip s.heap z TI TO .none) (hTI : IsPair s.heap TI (.ref i1) (.ref i2)) (hTO : IsPair s.heap TO a b)
    (h1 : St1 k1 s.heap) (h2 : St2 k2 s.heap) (l1 : k1 < n1) (l2 : k2 < n2)
    (hQ : ∀ x y h' tk, P1 k1 x → P2 k2 y → IsZip h' z TI TO (rawInt s.heap.objs.size) → IsPair h' TO x y → St1 (k1 + 1) h' → St2 (k2 + 1) h' → IsPair h' s.heap.objs.size x y → h'.objs.size = s.heap.objs.size + 1 →
      (∀ c o, c ≠ z → c ≠ TO → c ≠ i1 → c ≠ i2 → s.heap.get? c = some o → h'.get? c = some o) → Q (some (.ref s.heap.objs.size)) { s with heap := h', toks := tk }) :
    wpAny (model prog w) A (pyNext (.ref z)) Q E s := by
  have hT : s.TypeIs (.ref z) "zip" := ⟨_, hz, rfl⟩
  unfold pyNext
  exact wpAny_bind (wpAny_attempt (wpAny_callSpecial?_slot (name := Str.ofString "__next__") hT F.slot_zip_next
    (wpAny_call_entry F.slot_zip_next hT F.entry_zip_next
      (zipD_next_item D1 D2 D hz hTI hTO h1 h2 l1 l2 fun x y h' tk a1 a2 a3 a4 a5 a6 a7 a8 a9 => wpAny_pure (hQ x y h' tk a1 a2 a3 a4 a5 a6 a7 a8 a9)) (F.args_zip_next_1 _))))
theorem pyNext_zipD_end {s : Shared} {z TI TO i1 i2 : Addr} {f1 f2 : List Addr} {n1 n2 k : Nat} {P1 P2 : Nat → Value → Prop} {St1 St2 : Nat → Heap → Prop} {a b : Value} {Q : Option Value → Shared → Prop}
    (D1 : Draws prog w A.in1 i1 f1 n1 P1 St1) (D2 : Draws prog w A.in1 i2 f2 n2 P2 St2) (D : ZApart z TI TO i1 i2 f1 f2)
    (hz : IsZip s.heap z TI TO .none) (hTI : IsPair s.heap TI (.ref i1) (.ref i2)) (hTO : IsPair s.heap TO a b)
    (h1 : St1 k s.heap) (h2 : St2 k s.heap) (l1 : k ≤ n1) (l2 : k ≤ n2) (hend : k = n1 ∨ k = n2)
    (hQ : ∀ h' tk, (∀ c o, c ≠ z → c ≠ TO → c ≠ i1 → c ≠ i2 → s.heap.get? c = some o → h'.get? c = some o) → Q none { s with heap := h', toks := tk }) : wpAny (model prog w) A (pyNext (.ref z)) Q E s := by
  have hT : s.TypeIs (.ref z) "zip" := ⟨_, hz, rfl⟩
  unfold pyNext
  refine wpAny_bind (wpAny_attempt (wpAny_callSpecial?_slot (name := Str.ofString "__next__") hT F.slot_zip_next
    (wpAny_call_entry F.slot_zip_next hT F.entry_zip_next (zipD_next_end D1 D2 D hz hTI hTO h1 h2 l1 l2 hend fun h' e tk hk he => ?_) (F.args_zip_next_1 _))))
  obtain ⟨o, ho, hc⟩ := he
  refine wpAny_bind (wpAny_isInstance (T := "StopIteration") (b := true) ⟨o, ho, hc⟩ isSubtype_stop ?_)
  exact wpAny_pure (hQ _ _ hk)
end
end Pf

/-! Pf25: the rule of zip. -/
namespace Pf
open PySem PySem.Spec PyProof.Rows L2
/-- an object that a source is -/
def SrcA : Src → Addr → Prop
  | .l a, b => b = a
  | .t a, b => b = a
  | .s _, _ => False
theorem draws_src2 {X : Cx} {pins : List (Addr × Obj)} {σ : L2.St} {H : Hp} {s : Shared} {A : Around} (I : Inv X pins σ H s) (hh : A.handled = none) {src : Src} {xs : List V} (hq : SqS X.K H src xs) {it : Addr} {i : Nat} (hi : ItAt s.heap it i src) :
    ∃ (fp : List Addr) (St : Nat → Heap → Prop), Draws X.prog X.w A it fp xs.length (fun i v => ∃ x, xs[i]? = some x ∧ RelV x v) St ∧ (∀ j h, St j h → ItAt h it j src) ∧ St i s.heap ∧
      (∀ b ∈ fp, b = it ∨ (SrcA src b ∧ ∃ o, s.heap.get? b = some o ∧ (o.cls = .type "list" ∨ o.cls = .type "tuple"))) := by
  cases src with
  | l a =>
    obtain ⟨its, rv, p, hz⟩ := I.list hq
    have hi : s.heap.IsListIter it a i := hi
    obtain ⟨o, ho, hc, hd⟩ := id hi
    obtain ⟨oa, na, ha, hca, _⟩ := id p
    have hne : a ≠ it := fun z => by
      subst z
      rw [ho] at ha
      cases ha
      rw [hc] at hca
      exact absurd hca (by decide)
    refine ⟨[it, a], fun i h => h.IsListIter it a i ∧ h.IsList a its.toArray, draws_mono (by have := Draws.list (prog := X.prog) (w := X.w) hh it a hne its.toArray; rw [show its.toArray.size = xs.length by rw [List.size_toArray, rv.length]] at this; exact this) fun j v e => ?_, fun j h st => st.1, ⟨hi, p.isList⟩, fun b hb => ?_⟩
    · have e : its[j]? = some v := by simpa using e
      obtain ⟨x, h1, h2⟩ := vals_back rv e
      exact ⟨x, h1, h2⟩
    · have : b = it ∨ b = a := by simpa using hb
      rcases this with z | z
      · exact .inl z
      · exact .inr ⟨z, oa, by rw [z]; exact ha, .inl hca⟩
  | t a =>
    obtain ⟨its, rv, p, hz⟩ := I.tuple hq
    have hi : s.heap.IsTupleIter it a i := hi
    obtain ⟨o, ho, hc, hd⟩ := id hi
    obtain ⟨oa, ha, hca, na, hda⟩ := id p
    have hne : a ≠ it := fun z => by
      subst z
      rw [ho] at ha
      cases ha
      rw [hc] at hca
      exact absurd hca (by decide)
    refine ⟨[it, a], fun i h => h.IsTupleIter it a i ∧ h.IsTuple a its.toArray, draws_mono (by have := draws_tuple (prog := X.prog) (w := X.w) hh it a hne its.toArray; rw [show its.toArray.size = xs.length by rw [List.size_toArray, rv.length]] at this; exact this) fun j v e => ?_, fun j h st => st.1, ⟨hi, p⟩, fun b hb => ?_⟩
    · have e : its[j]? = some v := by simpa using e
      obtain ⟨x, h1, h2⟩ := vals_back rv e
      exact ⟨x, h1, h2⟩
    · have : b = it ∨ b = a := by simpa using hb
      rcases this with z | z
      · exact .inl z
      · exact .inr ⟨z, oa, by rw [z]; exact ha, .inr hca⟩
  | s x =>
    obtain ⟨t, hi⟩ := hi
    have hq : xs = chrs x := hq
    subst hq
    refine ⟨[it], fun i h => h.IsStrIter it (strIterType x) x t i, draws_mono (by have := draws_str (prog := X.prog) (w := X.w) hh it x t; rw [show x.cps.size = (chrs x).length by simp [chrs]] at this; exact this) fun j v e => ?_, fun j h st => ⟨t, st⟩, hi, fun b hb => .inl (by simpa using hb)⟩
    obtain ⟨c, u, e1, e2⟩ := e
    exact ⟨V.str ⟨#[c]⟩, by simp [chrs, e1], by rw [e2]; exact ⟨u, rfl⟩⟩
theorem SrcA.live {X : Cx} {pins : List (Addr × Obj)} {σ : L2.St} {H : Hp} {s : Shared} (I : Inv X pins σ H s) {src : Src} {xs : List V} (hq : SqS X.K H src xs) {b : Addr} (hb : SrcA src b) : b < s.heap.objs.size := by
  cases src with
  | l a =>
    obtain ⟨its, rv, p, hz⟩ := I.list hq
    obtain ⟨oa, na, ha, _⟩ := id p
    rw [show b = a from hb]; exact Heap.lt_size ha
  | t a =>
    obtain ⟨its, rv, p, hz⟩ := I.tuple hq
    obtain ⟨oa, ha, _⟩ := id p
    rw [show b = a from hb]; exact Heap.lt_size ha
  | s x => exact hb.elim

/-- the iterator that a source gives -/
def itO : Src → Tok → Obj
  | .l a, _ => { cls := .type "list_iterator", data := .fields #[.ref a, .int 0 0] }
  | .t a, _ => { cls := .type "tuple_iterator", data := .fields #[.ref a, .int 0 0] }
  | .s x, t => { cls := .type (strIterType x), data := .fields #[.str x t, .int 0 0] }
def SrcU (h : Heap) (u : Value) (t : Tok) : Src → Prop
  | .l a => u = .ref a ∧ ∃ its, h.IsList a its
  | .t a => u = .ref a ∧ ∃ its, h.IsTuple a its
  | .s x => u = .str x t
theorem SrcU.push {h : Heap} {u : Value} {t : Tok} {src : Src} (x : SrcU h u t src) (o : Obj) : SrcU (h.push o) u t src := by
  cases src with
  | l a => obtain ⟨e, its, q⟩ := x; exact ⟨e, its, q.push o⟩
  | t a => obtain ⟨e, its, q⟩ := x; exact ⟨e, its, q.push o⟩
  | s z => exact x
theorem wpAny_pyIter_src {prog : Program} {w : World} {A : Around} {E : Value → Shared → Prop} {s : Shared} {u : Value} {t : Tok} {src : Src} {Q : Value → Shared → Prop} (hu : SrcU s.heap u t src)
    (hQ : Q (.ref s.heap.objs.size) { s with heap := s.heap.push (itO src t) }) : wpAny (model prog w) A (pyIter u) Q E s := by
  cases src with
  | l a => obtain ⟨rfl, its, q⟩ := hu; exact wpAny_pyIter_list q hQ
  | t a => obtain ⟨rfl, its, q⟩ := hu; exact wpAny_pyIter_tuple q hQ
  | s z => cases (show u = .str z t from hu); exact wpAny_pyIter_strU hQ
theorem itAt_new {h : Heap} {t : Tok} {src : Src} {it : Addr} (g : h.get? it = some (itO src t)) : ItAt h it 0 src := by
  cases src with
  | l a => exact ⟨_, g, rfl, rfl⟩
  | t a => exact ⟨_, g, rfl, rfl⟩
  | s z => exact ⟨t, _, g, rfl, rfl⟩
theorem itO_free {src : Src} {t : Tok} : (itO src t).isFreed = false := by cases src <;> rfl
abbrev zipSH1 (h : Heap) (o1 : Obj) : Heap := h.push o1
abbrev zipSH2 (h : Heap) (o1 o2 : Obj) : Heap := (zipSH1 h o1).push o2
abbrev zipSH3 (h : Heap) (o1 o2 : Obj) : Heap := (zipSH2 h o1 o2).push { cls := .type "tuple", data := .seq #[.ref h.objs.size, .ref (zipSH1 h o1).objs.size] }
abbrev zipSH4 (h : Heap) (o1 o2 : Obj) : Heap := (zipSH3 h o1 o2).push { cls := .type "tuple", data := .seq #[.none, .none] }
abbrev zipSH5 (h : Heap) (o1 o2 : Obj) : Heap := (zipSH4 h o1 o2).push { cls := .type "zip", data := .fields #[.none, .bool false, .bool false, .ref (zipSH2 h o1 o2).objs.size, .ref (zipSH3 h o1 o2).objs.size] }
theorem meets_zipS_new (u1 u2 : Value) (t1 t2 : Tok) (s1 s2 : Src) :
    Meets (Builtin.«zip.__new__» ⟨[.type "zip", u1, u2], []⟩) (fun _ R s => SrcU s.heap u1 t1 s1 ∧ SrcU s.heap u2 t2 s2 ∧
      R (.ok (.ret (.ref (zipSH4 s.heap (itO s1 t1) (itO s2 t2)).objs.size))) { s with heap := zipSH5 s.heap (itO s1 t1) (itO s2 t2) }) :=
  .of_wp fun prog w A R s h => by
    obtain ⟨hp, g, d, tk, os⟩ := s; obtain ⟨hl1, hl2, h⟩ := h
    have hsub := sub_zip
    have hL1 : SrcU (Shared.heap ⟨hp, g, d, tk, os⟩) u1 t1 s1 := hl1
    have hL2 : SrcU (Shared.heap ⟨hp.push (itO s1 t1), g, d, tk, os⟩) u2 t2 s2 := hl2.push _
    wp_walk using wpAny_pyIter_src hL1, wpAny_pyIter_src hL2
    exact ⟨_, rfl, h⟩
theorem call_zipS {prog : Program} {w : World} {A : Around} {E : Value → Shared → Prop} {s : Shared} {u1 u2 : Value} {t1 t2 : Tok} {s1 s2 : Src} {Q : Value → Shared → Prop} (hl1 : SrcU s.heap u1 t1 s1) (hl2 : SrcU s.heap u2 t2 s2)
    (h : ∀ h', IsZip h' (s.heap.objs.size + 4) (s.heap.objs.size + 2) (s.heap.objs.size + 3) .none → IsPair h' (s.heap.objs.size + 2) (.ref s.heap.objs.size) (.ref (s.heap.objs.size + 1)) →
      IsPair h' (s.heap.objs.size + 3) .none .none → ItAt h' s.heap.objs.size 0 s1 → ItAt h' (s.heap.objs.size + 1) 0 s2 → h'.objs.size = s.heap.objs.size + 5 →
      (∀ c o, s.heap.get? c = some o → h'.get? c = some o) → Q (.ref (s.heap.objs.size + 4)) { s with heap := h' }) :
    wpAny (model prog w) A (call (.type "zip") [u1, u2]) Q E s := by
  refine callType_new F.called_zip (by decide) (F.typeCall_zip_2 _ _) (F.newCall_zip_2 _ _) (fun obj => F.args_object_init_3 obj _ _) F.entry_zip_new
    (meets_zipS_new u1 u2 t1 t2 s1 s2) ⟨hl1, hl2, ?_⟩
  generalize ho1 : itO s1 t1 = o1
  generalize ho2 : itO s2 t2 = o2
  have f1 : o1.isFreed = false := by rw [← ho1]; exact itO_free
  have f2 : o2.isFreed = false := by rw [← ho2]; exact itO_free
  have z1 : (zipSH1 s.heap o1).objs.size = s.heap.objs.size + 1 := Heap.size_push ..
  have z2 : (zipSH2 s.heap o1 o2).objs.size = s.heap.objs.size + 2 := by rw [Heap.size_push, z1]
  have z3 : (zipSH3 s.heap o1 o2).objs.size = s.heap.objs.size + 3 := by rw [Heap.size_push, z2]
  have z4 : (zipSH4 s.heap o1 o2).objs.size = s.heap.objs.size + 4 := by rw [Heap.size_push, z3]
  have z5 : (zipSH5 s.heap o1 o2).objs.size = s.heap.objs.size + 5 := by rw [Heap.size_push, z4]
  have g5 : (zipSH5 s.heap o1 o2).get? (zipSH4 s.heap o1 o2).objs.size = some _ := Heap.get?_push_size _ rfl
  have g4 : (zipSH5 s.heap o1 o2).get? (zipSH3 s.heap o1 o2).objs.size = some _ := Heap.get?_push_of_some _ (Heap.get?_push_size _ rfl)
  have g3 : (zipSH5 s.heap o1 o2).get? (zipSH2 s.heap o1 o2).objs.size = some _ := Heap.get?_push_of_some _ (Heap.get?_push_of_some _ (Heap.get?_push_size _ rfl))
  have g2 : (zipSH5 s.heap o1 o2).get? (zipSH1 s.heap o1).objs.size = some o2 := Heap.get?_push_of_some _ (Heap.get?_push_of_some _ (Heap.get?_push_of_some _ (Heap.get?_push_size _ f2)))
  have g1 : (zipSH5 s.heap o1 o2).get? s.heap.objs.size = some o1 := Heap.get?_push_of_some _ (Heap.get?_push_of_some _ (Heap.get?_push_of_some _ (Heap.get?_push_of_some _ (Heap.get?_push_size _ f1))))
  show _ ∧ _
  rw [z2, z3, z4] at g5
  rw [z1, z2] at g3
  rw [z3] at g4
  rw [z1] at g2
  rw [z4]
  exact ⟨⟨_, g5, rfl⟩, h _ g5 g3 g4 (itAt_new (t := t1) (by rw [ho1]; exact g1)) (itAt_new (t := t2) (by rw [ho2]; exact g2)) z5 fun c o x =>
    Heap.get?_push_of_some _ (Heap.get?_push_of_some _ (Heap.get?_push_of_some _ (Heap.get?_push_of_some _ (Heap.get?_push_of_some _ x))))⟩
/-- two sources as they stand at each turn, the items in new pairs -/
def Itzs (K : PySem.W.Frag) (a b : Src) : It :=
  ⟨fun i H => ∃ (xs ys : List V) (x y : V), SqS K H a xs ∧ SqS K H b ys ∧ xs[i]? = some x ∧ ys[i]? = some y,
    fun i H v H' => ∃ T x y, v = .ref T ∧ H T = none ∧ H' = upd H T (.tup [x, y]) ∧ (∀ xs, SqS K H a xs → xs[i]? = some x) ∧ ∀ ys, SqS K H b ys → ys[i]? = some y,
    fun i H => ∃ xs ys : List V, SqS K H a xs ∧ SqS K H b ys ∧ i = min xs.length ys.length⟩
structure ZAp (z TI TO i1 i2 : Addr) (a b : Src) : Prop where
  TIz : TI ≠ z
  TOz : TO ≠ z
  i1z : i1 ≠ z
  i2z : i2 ≠ z
  TITO : TI ≠ TO
  TIi1 : TI ≠ i1
  TIi2 : TI ≠ i2
  TOi1 : TO ≠ i1
  TOi2 : TO ≠ i2
  i12 : i1 ≠ i2
  a1 : ∀ c, SrcA a c → c ≠ z ∧ c ≠ TO ∧ c ≠ i1 ∧ c ≠ i2
  b1 : ∀ c, SrcA b c → c ≠ z ∧ c ≠ TO ∧ c ≠ i1 ∧ c ≠ i2
theorem turn_zipS {P : Program} {w : World} {K : PySem.W.Frag} {elts : List Expr} {kk : Nat} {tpos : Pos} {a b : Src} {z TI TO i1 i2 : Addr} (D : ZAp z TI TO i1 i2 a b) :
    Turn P w K (.Tuple elts kk tpos) (Itzs K a b) [z, TI, TO, i1, i2] z (fun i h => IsZip h z TI TO .none ∧ IsPair h TI (.ref i1) (.ref i2) ∧ (∃ x y, IsPair h TO x y) ∧ ItAt h i1 i a ∧ ItAt h i2 i b) where
  mem := by simp
  obj := fun i h st c hc => by
    obtain ⟨hz, hTI, ⟨x, y, hTO⟩, h1, h2⟩ := st
    obtain ⟨o1, e1, d1, _⟩ := h1.obj
    obtain ⟨o2, e2, d2, _⟩ := h2.obj
    have e' : c = z ∨ c = TI ∨ c = TO ∨ c = i1 ∨ c = i2 := by simpa using hc
    rcases e' with q | q | q | q | q
    · rw [q]; exact ⟨_, hz, fun v q => nomatch q⟩
    · rw [q]; exact ⟨_, hTI, fun v q => nomatch q⟩
    · rw [q]; exact ⟨_, hTO, fun v q => nomatch q⟩
    · rw [q]; exact ⟨o1, e1, d1⟩
    · rw [q]; exact ⟨o2, e2, d2⟩
  keep := fun i h h' st k => by
    obtain ⟨hz, hTI, ⟨x, y, hTO⟩, h1, h2⟩ := st
    exact ⟨k z (by simp) _ hz, k TI (by simp) _ hTI, ⟨x, y, k TO (by simp) _ hTO⟩, h1.keep fun o q => k i1 (by simp) o q, h2.keep fun o q => k i2 (by simp) o q⟩
  item := by
    intro X hP hw hK hc i pins s σ H E I hf st hg
    subst hP hw hK
    obtain ⟨hz, hTI, ⟨x0, y0, hTO⟩, h1, h2⟩ := st
    obtain ⟨xs, ys, x, y, hqx, hqy, hx, hy⟩ := hg
    have lx : i < xs.length := (List.getElem?_eq_some_iff.mp hx).1
    have ly : i < ys.length := (List.getElem?_eq_some_iff.mp hy).1
    have hzl : z < s.heap.objs.size := Heap.lt_size hz
    obtain ⟨o1, eo1, _⟩ := h1.obj
    obtain ⟨o2, eo2, _⟩ := h2.obj
    obtain ⟨f1, St1, D1, k1, st1, m1⟩ := draws_src2 (A := X.A.in1) I (show X.A.in1.handled = none from I.ok.hd hc) hqx h1
    obtain ⟨f2, St2, D2, k2, st2, m2⟩ := draws_src2 (A := X.A.in1) I (show X.A.in1.handled = none from I.ok.hd hc) hqy h2
    have ap : ZApart z TI TO i1 i2 f1 f2 := ⟨D.TIz, D.TOz, D.i1z, D.i2z, D.TITO, D.TIi1, D.TIi2, D.TOi1, D.TOi2, D.i12,
      fun q => (m1 _ q).elim (fun e => D.i1z e.symm) fun e => (D.a1 _ e.1).1 rfl, fun q => (m2 _ q).elim (fun e => D.i2z e.symm) fun e => (D.b1 _ e.1).1 rfl,
      fun q => (m1 _ q).elim (fun e => D.TOi1 e) fun e => (D.a1 _ e.1).2.1 rfl, fun q => (m2 _ q).elim (fun e => D.TOi2 e) fun e => (D.b1 _ e.1).2.1 rfl,
      fun q => (m1 _ q).elim (fun e => D.i12 e.symm) fun e => (D.a1 _ e.1).2.2.2 rfl, fun q => (m2 _ q).elim (fun e => D.i12 e) fun e => (D.b1 _ e.1).2.2.1 rfl⟩
    refine pyNext_zipD_item D1 D2 ap hz hTI hTO st1 st2 lx ly fun u u2 h' tk hu hu2 z' TO' st1' st2' hT hsz hk => ?_
    obtain ⟨x', hx', ru⟩ := hu
    rw [hx] at hx'
    cases hx'
    obtain ⟨y', hy', ru2⟩ := hu2
    rw [hy] at hy'
    cases hy'
    refine ⟨_, rfl, wpAny_letOwnedTupleGo_zip (s := { s with heap := h', toks := tk }) z' fun h'' z'' sb => ?_⟩
    have hT2 : h''.get? s.heap.objs.size = some { cls := .type "tuple", data := .seq #[u, u2] } := (sb.2 _ (Nat.ne_of_gt hzl)).trans hT
    have new : ObjOk X.prog X.w (upd H s.heap.objs.size (.tup [x, y])) h'' s.heap.objs.size (.tup [x, y]) :=
      ⟨by show 2 ≤ sizeLine; decide, [u, u2], .cons ru (.cons ru2 .nil), ⟨_, hT2, rfl, _, rfl⟩⟩
    have I1 : Inv X pins σ (upd H s.heap.objs.size (.tup [x, y])) { s with heap := h'', toks := tk } :=
      I.turnedNew (t' := tk) (ch := [z, TI, TO, i1, i2]) (fun c o hb q => (sb.2 c (fun q' => hb (by simp [q']))).trans (hk c o (fun q' => hb (by simp [q'])) (fun q' => hb (by simp [q'])) (fun q' => hb (by simp [q'])) (fun q' => hb (by simp [q'])) q)) hf (Nat.le_refl _) new
    refine ⟨.ref s.heap.objs.size, _, I1, rfl, ⟨_, x, y, rfl, I.hok.fresh (Nat.le_refl _), rfl, fun l hl => by rw [sqs_inj I hl hqx]; exact hx, fun l hl => by rw [sqs_inj I hl hqy]; exact hy⟩, ⟨z'', ?_, ⟨u, u2, ?_⟩, ?_, ?_⟩, fun c hcm => ?_⟩
    · exact (sb.2 _ D.TIz).trans (hk _ _ D.TIz D.TITO D.TIi1 D.TIi2 hTI)
    · exact (sb.2 _ D.TOz).trans TO'
    · exact (k1 _ _ st1').keep fun o q => (sb.2 _ D.i1z).trans q
    · exact (k2 _ _ st2').keep fun o q => (sb.2 _ D.i2z).trans q
    · have hlt : c < s.heap.objs.size := by
        have e' : c = z ∨ c = TI ∨ c = TO ∨ c = i1 ∨ c = i2 := by simpa using hcm
        rcases e' with q | q | q | q | q
        · rw [q]; exact hzl
        · rw [q]; exact Heap.lt_size hTI
        · rw [q]; exact Heap.lt_size hTO
        · rw [q]; exact Heap.lt_size eo1
        · rw [q]; exact Heap.lt_size eo2
      rw [upd_ne (Nat.ne_of_lt hlt)]
      exact (hf c hcm).1
  done := by
    intro X hP hw hK hc i pins s σ H E I hf st hg
    subst hP hw hK
    obtain ⟨hz, hTI, ⟨x0, y0, hTO⟩, h1, h2⟩ := st
    obtain ⟨xs, ys, hqx, hqy, hend⟩ := hg
    obtain ⟨f1, St1, D1, k1, st1, m1⟩ := draws_src2 (A := X.A.in1) I (show X.A.in1.handled = none from I.ok.hd hc) hqx h1
    obtain ⟨f2, St2, D2, k2, st2, m2⟩ := draws_src2 (A := X.A.in1) I (show X.A.in1.handled = none from I.ok.hd hc) hqy h2
    have ap : ZApart z TI TO i1 i2 f1 f2 := ⟨D.TIz, D.TOz, D.i1z, D.i2z, D.TITO, D.TIi1, D.TIi2, D.TOi1, D.TOi2, D.i12,
      fun q => (m1 _ q).elim (fun e => D.i1z e.symm) fun e => (D.a1 _ e.1).1 rfl, fun q => (m2 _ q).elim (fun e => D.i2z e.symm) fun e => (D.b1 _ e.1).1 rfl,
      fun q => (m1 _ q).elim (fun e => D.TOi1 e) fun e => (D.a1 _ e.1).2.1 rfl, fun q => (m2 _ q).elim (fun e => D.TOi2 e) fun e => (D.b1 _ e.1).2.1 rfl,
      fun q => (m1 _ q).elim (fun e => D.i12 e.symm) fun e => (D.a1 _ e.1).2.2.2 rfl, fun q => (m2 _ q).elim (fun e => D.i12 e) fun e => (D.b1 _ e.1).2.2.1 rfl⟩
    exact pyNext_zipD_end D1 D2 ap hz hTI hTO st1 st2 (by omega) (by omega) (by omega) fun h' tk hk => ⟨rfl, I.turnedL (t' := tk) (ch := [z, TI, TO, i1, i2]) (fun c o hb q =>
      hk c o (fun q' => hb (by simp [q'])) (fun q' => hb (by simp [q'])) (fun q' => hb (by simp [q'])) (fun q' => hb (by simp [q'])) q) hf⟩
  self := fun A i s Q E st h => wpAny_pyIter_zip st.1 h
theorem srcU_of {X : Cx} {pins : List (Addr × Obj)} {σ : L2.St} {H : Hp} {s : Shared} (I : Inv X pins σ H s) {v : V} {u : Value} {src : Src} {xs : List V} (hv : SrcV v src) (hq : SqS X.K H src xs) (r : RelV v u) : ∃ t, SrcU s.heap u t src := by
  cases src with
  | l a =>
    obtain rfl := hv.l
    cases r
    obtain ⟨its, rv, p', hz⟩ := I.list hq
    exact ⟨0, rfl, _, p'.isList⟩
  | t a =>
    obtain rfl := hv.t
    cases r
    obtain ⟨its, rv, p', hz⟩ := I.tuple hq
    exact ⟨0, rfl, _, p'⟩
  | s x =>
    obtain rfl := hv.s
    obtain ⟨t, rfl⟩ := r
    exact ⟨t, rfl⟩
def iZipS (K : PySem.W.Frag) (ta : TA) : TI := fun σ H R => ta σ H fun vs H1 => ∃ v1 v2 s1 s2 xs ys, vs = [v1, v2] ∧ SrcV v1 s1 ∧ SrcV v2 s2 ∧ SqS K H1 s1 xs ∧ SqS K H1 s2 ys ∧ R (Itzs K s1 s2) H1
theorem pi_zipS {X : Cx} {e e2 : Expr} {ta : TA} {p pos tpos : Pos} {elts : List Expr} {kk : Nat} (hg : Gl X "zip") (hm : X.mg "zip" = none) (ha : PA X [e, e2] ta)
    (hs : starEach [e, e2] X.env = (false, eval e X.env) :: starEach [e2] X.env := by rfl) (hpl : (backTo pos (starEach [e2] X.env)).any (·.1) = false := by rfl) :
    PI X (.Tuple elts kk tpos) (.Call (.Name "zip" p) [e, e2] [] pos) (iZipS X.K ta) := by
  refine ⟨fun pins s σ H R I h => ?_⟩
  refine Call_ (ld_blt I hg hm PyProof.Rows.boot_zip (PyProof.Rows.callWith_type1 (thn (ha.run pos pins s σ H _ I h) fun us s1 ⟨vs, H1, I1, r1, q1⟩ => ?_) hs hpl))
  obtain ⟨v1, v2, a, b, xs, ys, ex, hv1, hv2, hqx, hqy, q⟩ := q1
  subst ex
  cases r1 with
  | cons r rr =>
    cases rr with
    | cons r' rr =>
      cases rr
      have fresh5 : ∀ c, c ∈ [s1.heap.objs.size + 4, s1.heap.objs.size + 2, s1.heap.objs.size + 3, s1.heap.objs.size, s1.heap.objs.size + 1] → FpOk X pins H1 c := fun c hcm => by
        have e' : c = s1.heap.objs.size + 4 ∨ c = s1.heap.objs.size + 2 ∨ c = s1.heap.objs.size + 3 ∨ c = s1.heap.objs.size ∨ c = s1.heap.objs.size + 1 := by simpa using hcm
        have hle : s1.heap.objs.size ≤ c := by
          rcases e' with z | z | z | z | z
          · rw [z]; exact Nat.le_add_right _ _
          · rw [z]; exact Nat.le_add_right _ _
          · rw [z]; exact Nat.le_add_right _ _
          · rw [z]; exact Nat.le_refl _
          · rw [z]; exact Nat.le_add_right _ _
        exact I1.fpOk hle (I1.hok.fresh hle)
      obtain ⟨t1, hu1⟩ := srcU_of I1 hv1 hqx r
      obtain ⟨t2, hu2⟩ := srcU_of I1 hv2 hqy r'
      refine call_zipS hu1 hu2 fun h' hz hTI hTO h1 h2 hsz hk => wpAny_pyIter_zip hz ?_
      have I2 : Inv X pins σ H1 { s1 with heap := h' } := I1.kept (t' := s1.toks) hk
      have la : ∀ c, SrcA a c → c < s1.heap.objs.size := fun c hc => SrcA.live I1 hqx hc
      have lb : ∀ c, SrcA b c → c < s1.heap.objs.size := fun c hc => SrcA.live I1 hqy hc
      have far : ∀ c, c < s1.heap.objs.size → c ≠ s1.heap.objs.size + 4 ∧ c ≠ s1.heap.objs.size + 3 ∧ c ≠ s1.heap.objs.size ∧ c ≠ s1.heap.objs.size + 1 := fun c hc => by
        refine ⟨?_, ?_, ?_, ?_⟩ <;> (intro z; rw [z] at hc; exact absurd hc (by simp [Addr]))
      have n : ∀ x y : Nat, x ≠ y → s1.heap.objs.size + x ≠ s1.heap.objs.size + y := fun x y h z => h (Nat.add_left_cancel z)
      exact ⟨s1.heap.objs.size + 4, [s1.heap.objs.size + 4, s1.heap.objs.size + 2, s1.heap.objs.size + 3, s1.heap.objs.size, s1.heap.objs.size + 1], _, _, H1, rfl, I2,
        turn_zipS ⟨n 2 4 (by decide), n 3 4 (by decide), n 0 4 (by decide), n 1 4 (by decide), n 2 3 (by decide), n 2 0 (by decide), n 2 1 (by decide), n 3 0 (by decide), n 3 1 (by decide), n 0 1 (by decide), fun c hc => far c (la c hc), fun c hc => far c (lb c hc)⟩, ⟨hz, hTI, ⟨_, _, hTO⟩, h1, h2⟩, fresh5, q⟩
theorem walk_zipS {K : PySem.W.Frag} {a b : Src} {xs ys : List V} {n : Nat} (hn : n = min xs.length ys.length) : Walk (Itzs K a b) n (fun H => SqS K H a xs ∧ SqS K H b ys) (YPair (fun i => xs[i]?) (fun i => ys[i]?)) := by
  subst hn
  refine ⟨fun i _ hi q => ?_, fun _ q => ⟨xs, ys, q.1, q.2, rfl⟩, fun i H v H' _ q y => ?_⟩
  · have h1 : i < xs.length := by omega
    have h2 : i < ys.length := by omega
    exact ⟨xs, ys, xs[i], ys[i], q.1, q.2, by simp [h1], by simp [h2]⟩
  · obtain ⟨T, x, z, h1, h2, h3, h4, h5⟩ := y
    exact ⟨T, x, z, h1, h2, h3, h4 xs q.1, h5 ys q.2⟩
/-! ### zip as a source of a loop -/
def dSrcZ (a b : Rho → R D) (ρ : Rho) : R (List D) := (a ρ).bind fun d ρ1 => (b ρ1).bind fun e ρ2 =>
  match seqD d, seqD e with
  | some xs, some ys => .ok (xs.zipWith (fun x y => .tuple [x, y]) ys) ρ2
  | _, _ => .bad
theorem zip_at (xs ys : List D) (i : Nat) {d : D} (h : (xs.zipWith (fun x y => PyData.tuple [x, y]) ys)[i]? = some d) : ∃ x y, xs[i]? = some x ∧ ys[i]? = some y ∧ d = .tuple [x, y] := by
  rw [List.getElem?_zipWith] at h
  cases hx : xs[i]? with
  | none => rw [hx] at h; cases h
  | some x =>
    cases hy : ys[i]? with
    | none => rw [hx, hy] at h; cases h
    | some y => rw [hx, hy] at h; cases h; exact ⟨x, y, rfl, rfl, rfl⟩
/-- a value whose items are walked -/
theorem seqD_src {K : PySem.W.Frag} {F : Fx} {G H : Hp} {σ : L2.St} {ρ : Rho} (I : SI K F G H σ ρ) {v : V} {d : D} {ds : List D} (r : Rp K G v d) (e : seqD d = some ds) :
    ∃ src xs, SrcV v src ∧ SqS K H src xs ∧ Rs K G xs ds ∧ ∀ G' H', Sub G G' → Sub G' H' → SqS K H' src xs := by
  cases d with
  | list es =>
    cases e
    cases r with
    | l e r =>
      rename_i ad vs
      exact ⟨.l ad, vs, rfl, .inl (.inl (I.gH _ _ e)), r, fun G' H' s s' => .inl (.inl (s' _ _ (s _ _ e)))⟩
  | tuple es =>
    cases e
    cases r with
    | t e r =>
      rename_i ad vs
      exact ⟨.t ad, vs, rfl, I.gH.seqT e, r, fun G' H' s s' => s'.seqT (s.seqT e)⟩
  | str z =>
    cases e
    cases r
    have cr : ∀ l : List Nat, Rs K G (l.map fun c => V.str ⟨#[c]⟩) (l.map fun c => .str ⟨#[c]⟩) := fun l => by
      induction l with
      | nil => exact .nil
      | cons c l ih => exact .cons (.s _) ih
    exact ⟨.s z, chrs z, rfl, rfl, cr _, fun G' H' s s' => rfl⟩
  | _ => cases e
theorem ji_zip {X : Cx} {W : WX} {a b : Expr} {da db : Rho → R D} {p1 pos : Pos} {elts : List Expr} {kk : Nat} {tpos : Pos} (hg : Gl X "zip") (hm : X.mg "zip" = none) (ha : JE X W a da) (hb : JE X W b db)
    (hs : starEach [a, b] X.env = (false, eval a X.env) :: starEach [b] X.env := by rfl) (hpl : (backTo pos (starEach [b] X.env)).any (·.1) = false := by rfl) (hs2 : starEach [b] X.env = (false, eval b X.env) :: starEach [] X.env := by rfl) :
    JI X W (.Tuple elts kk tpos) (.Call (.Name "zip" p1) [a, b] [] pos) (dSrcZ da db) := by
  obtain ⟨t, ht, k⟩ := ha
  obtain ⟨t2, ht2, k2⟩ := hb
  refine ⟨_, pi_zipS hg hm (pa_cons ht (pa_cons ht2 pa_nil hs2) hs) hs hpl, fun F G H σ ρ Q I p => k F G H σ ρ _ I (p.bind fun d ρ1 G1 H1 v I1 s1 r1 p1 => ?_)⟩
  refine k2 F G1 H1 σ ρ1 _ I1 (p1.bind fun e ρ2 G2 H2 v2 I2 s2 r2 p2 => ?_)
  have r1' : Rp X.K G2 v d := Rp.mono s2 _ _ r1
  cases hd : seqD d with
  | none => rw [hd] at p2; exact p2.elim
  | some xs =>
    cases he : seqD e with
    | none => rw [hd, he] at p2; exact p2.elim
    | some ys =>
      rw [hd, he] at p2
      obtain ⟨src1, us, hv1, hq1, rr1, st1⟩ := seqD_src I2 r1' hd
      obtain ⟨src2, ws, hv2, hq2, rr2, st2⟩ := seqD_src I2 r2 he
      refine ⟨v, v2, src1, src2, us, ws, rfl, hv1, hv2, hq1, hq2, p2 G2 H2 _ I2 (Sub.rfl' _) ⟨fun H => SqS X.K H src1 us ∧ SqS X.K H src2 ws, YPair (fun i => us[i]?) (fun i => ws[i]?), ?_, fun G' H' s s' => ⟨st1 G' H' s s', st2 G' H' s s'⟩, fun i H x H' d' hd' y => ?_⟩⟩
      · exact walk_zipS (by rw [List.length_zipWith, rr1.length, rr2.length])
      · obtain ⟨T, v1, w1, h1, h2, h3, h4, h5⟩ := y
        obtain ⟨x', y', q1, q2, rfl⟩ := zip_at _ _ _ hd'
        obtain ⟨x'', q3, q4⟩ := rr1.getV h4
        obtain ⟨y'', q5, q6⟩ := rr2.getV h5
        rw [q1] at q3; cases q3
        rw [q2] at q5; cases q5
        exact .inr ⟨T, _, w1, _, _, h1, h2, h3, rfl, q4, q6⟩
end Pf

/-! Pf26: sum(xs, start) of tuples, of lists. -/
namespace Pf
open PySem PySem.Spec PyProof.Rows L2
theorem args_sum2 (a b : Value) : argsOk "sum" ⟨[a, b], []⟩ := by unfold argsOk; kernel_rfl
/-- an add at any depth -/
def AddR (X : Cx) (r : R2) : Prop := ∀ (A : Around) (pins : List (Addr × Obj)) (s : Shared) (σ : L2.St) (H : Hp) (x y : V) (u v : Value) (Q : VK) (E : Value → Shared → Prop), Inv X pins σ H s → RelV x u → RelV y v → r x y H Q →
  wpAny (model X.prog X.w) A (binaryOp .Add u v) (fun w s' => ∃ z H', Inv X pins σ H' s' ∧ RelV z w ∧ Q z H' ∧ (∀ b o, s.heap.get? b = some o → s'.heap.get? b = some o) ∧ ∀ b, b < s.heap.objs.size → H' b = H b) E s
theorem addR_cat {X : Cx} : AddR X (rCatA X.K) := by
  intro A pins s σ H x y v u Q E I rx ry h
  obtain ⟨a, b, xs, ys, rfl, rfl, ha, hb, hz, q0, q1, q2⟩ := h
  cases rx
  cases ry
  obtain ⟨its, r1, p1, _⟩ := I.tuple ha
  obtain ⟨its2, r2, p2, _⟩ := I.tuple hb
  by_cases hx : xs = []
  · subst hx
    cases r1
    exact cat_tup0 p1 p2 ⟨.ref b, H, I, rfl, q0 rfl, fun _ _ e => e, fun _ _ => rfl⟩
  · refine HT.cat_tup p1 p2 (fun z => hx (r1.nil_iff.mp z)) (fun z => ⟨.ref a, H, I, rfl, q1 hx (r2.nil_iff.mp z), fun _ _ e => e, fun _ _ => rfl⟩) (fun z => ?_) (by rw [← r1.length, ← r2.length]; exact hz)
    refine ⟨.ref s.heap.objs.size, _, I.laid (t' := s.toks) (o := .tup (xs ++ ys)) (fun b ob q => Heap.get?_push_of_some _ q) (Nat.le_refl _) ?_, rfl, q2 hx (fun w => z (r2.nil_iff.mpr w)) _ (I.hok.fresh (Nat.le_refl _)), fun _ _ e => Heap.get?_push_of_some _ e, fun b hb => upd_ne (Nat.ne_of_lt hb)⟩
    exact ⟨by rw [List.length_append]; exact hz, _, r1.append r2, IsTup.new _ _⟩
def SeqSrc : Src → Prop
  | .l _ => True
  | .t _ => True
  | .s _ => False
theorem pyNext_src_item {X : Cx} {pins : List (Addr × Obj)} {σ : L2.St} {H : Hp} {s : Shared} {A : Around} {E : Value → Shared → Prop} (I : Inv X pins σ H s) {src : Src} {xs : List V} (hs : SeqSrc src) (hq : SqS X.K H src xs) {it : Addr} {i : Nat} {x : V} (hi : ItAt s.heap it i src) (hx : xs[i]? = some x)
    {Q : Option Value → Shared → Prop} (h : ∀ u h', RelV x u → ItAt h' it (i + 1) src → Heap.SameBut it s.heap h' → Q (some u) { s with heap := h' }) : wpAny (model X.prog X.w) A (pyNext (.ref it)) Q E s := by
  cases src with
  | l a =>
    obtain ⟨its, rv, p, hz⟩ := I.list hq
    obtain ⟨u, hu, ru⟩ := rv.get hx
    exact wpAny_pyNext_list_item hi p.isList (x := u) (by simpa using hu) fun h' a1 a2 => h u h' ru a1 a2
  | t a =>
    obtain ⟨its, rv, p, hz⟩ := I.tuple hq
    obtain ⟨u, hu, ru⟩ := rv.get hx
    exact wpAny_pyNext_tuple_item (items := its.toArray) hi p (x := u) (by simpa using hu) fun h' a1 a2 => h u h' ru a1 a2
  | s z => exact hs.elim
theorem pyNext_src_end {X : Cx} {pins : List (Addr × Obj)} {σ : L2.St} {H : Hp} {s : Shared} {A : Around} {E : Value → Shared → Prop} (hh : A.handled = none) (I : Inv X pins σ H s) {src : Src} {xs : List V} (hs : SeqSrc src) (hq : SqS X.K H src xs) {it : Addr} (hi : ItAt s.heap it xs.length src)
    {Q : Option Value → Shared → Prop} (h : ∀ h', Heap.ExtBut it s.heap h' → Q none { s with heap := h' }) : wpAny (model X.prog X.w) A (pyNext (.ref it)) Q E s := by
  cases src with
  | l a =>
    obtain ⟨its, rv, p, hz⟩ := I.list hq
    exact wpAny_pyNext_list_end hh hi p.isList (by rw [rv.length]; simp) h
  | t a =>
    obtain ⟨its, rv, p, hz⟩ := I.tuple hq
    exact wpAny_pyNext_tuple_end (items := its.toArray) hh hi p (by rw [rv.length]; simp) h
  | s z => exact hs.elim
theorem FpOk.at {X : Cx} {pins : List (Addr × Obj)} {H H' : Hp} {b : Addr} (h : FpOk X pins H b) (e : H' b = H b) : FpOk X pins H' b := ⟨e.trans h.1, h.2⟩
abbrev lstO (u : Value) (c : Nat) : Obj := { cls := .type "list", dict := none, data := .seq #[u] c, slots := #[] }
theorem codeAny_sumS {X : Cx} {pins : List (Addr × Obj)} {σ : L2.St} {r : R2} (hr : AddR X r) (hh : X.A.in1.handled = none) {src : Src} {it S : Addr} {xs : List V} {P : Nat → Hp → V → Prop} {Q : VK} {R : Result → Shared → Prop} (hsrc : SeqSrc src)
    (hP : ∀ i H v, P i H v → SqS X.K H src xs) (hs : ∀ i H t v, xs[i]? = some v → P i H t → r t v H (fun w H' => P (i + 1) H' w)) (hq : ∀ H t, P xs.length H t → Q t H) (hne : S ≠ it)
    (hR : ∀ s' t H' u', Inv X pins σ H' s' → RelV t u' → Q t H' → R (.ok (.ret u')) s') :
    ∀ (k i : Nat) (s : Shared) (H : Hp) (t : V) (u : Addr) (c : Nat), xs.length - i = k → i ≤ xs.length → Inv X pins σ H s → P i H t → RelV t (.ref u) → (∀ H t, P i H t → ∃ a, t = .ref a) → (∀ j H t, P j H t → ∃ a, t = .ref a) → ItAt s.heap it i src →
      s.heap.get? S = some (lstO (.ref u) c) → FpOk X pins H it → FpOk X pins H S →
      codeAny (model X.prog X.w) X.A (.builtin "sum.loop" ⟨[.ref it, .ref S, rawInt 2, rawInt 0], []⟩) R s := by
  intro k
  induction k with
  | zero =>
    intro i s H t u c hk hi I p rt _ hrf hit hS f1 f2
    have hin : i = xs.length := by omega
    subst hin
    refine codeAny_builtin F.entry_sum_loop ?_
    rw [Around.under_plainId F.plain_sum_loop _]
    show wpAny _ X.A.in1 (seqItems? (.ref S) >>= _) _ _ s
    refine wpAny_bind (wpAny_seqItems hS rfl ?_)
    show wpAny _ X.A.in1 (tryCatch (pyNext (.ref it)) _ >>= _) _ _ s
    refine wpAny_bind (wpAny_tryCatch (pyNext_src_end hh I hsrc (hP _ _ _ p) hit fun h' he => ?_))
    have I2 : Inv X pins σ H { s with heap := h' } := I.turned (t' := s.toks) he f1.1 f1.2.1 f1.2.2.2.1 f1.2.2.2.2.1 f1.2.2.2.2.2
    exact wpAny_pure (hR _ _ _ _ I2 rt (hq _ _ p))
  | succ k ih =>
    intro i s H t u c hk hi I p rt _ hrf hit hS f1 f2
    have hlt : i < xs.length := by omega
    have hx : xs[i]? = some xs[i] := List.getElem?_eq_getElem hlt
    refine codeAny_builtin F.entry_sum_loop ?_
    rw [Around.under_plainId F.plain_sum_loop _]
    show wpAny _ X.A.in1 (seqItems? (.ref S) >>= _) _ _ s
    refine wpAny_bind (wpAny_seqItems hS rfl ?_)
    show wpAny _ X.A.in1 (tryCatch (pyNext (.ref it)) _ >>= _) _ _ s
    refine wpAny_bind (wpAny_tryCatch (pyNext_src_item I hsrc (hP _ _ _ p) hit hx fun v h' rv hit' sb => ?_))
    have I2 : Inv X pins σ H { s with heap := h' } := I.turned (t' := s.toks) (fun b o hb e => sb.extBut _ _ hb e) f1.1 f1.2.1 f1.2.2.2.1 f1.2.2.2.2.1 f1.2.2.2.2.2
    have hS2 : h'.get? S = some (lstO (.ref u) c) := (sb.2 S hne).trans hS
    show wpAny _ X.A.in1 ((holding [v] (binaryOp .Add (.ref u) v)).attempt >>= _) _ _ _
    refine wpAny_bind (wpAny_attempt (wpAny_holding (wpAny_mono (hr X.A.in1 pins _ σ H t _ _ v _ _ I2 rt rv (hs i H t _ hx p)) (fun w s3 hw => ?_) fun _ _ e => e)))
    obtain ⟨z, H', I3, rz, p', k3, k4⟩ := hw
    obtain ⟨az, ez⟩ := hrf _ _ _ p'
    subst ez
    cases rz
    have hS3 : s3.heap.get? S = some (lstO (.ref u) c) := k3 _ _ hS2
    have lS : S < h'.objs.size := Heap.lt_size hS2
    have lit : it < h'.objs.size := by obtain ⟨o, q, _⟩ := hit'.obj; exact Heap.lt_size q
    have g1 : FpOk X pins H' it := FpOk.at f1 (k4 it lit)
    have g2 : FpOk X pins H' S := FpOk.at f2 (k4 S lS)
    show wpAny _ X.A.in1 (updateSeq S (fun _ => #[.ref az]) >>= _) _ _ _
    refine wpAny_bind (wpAny_updateSeq hS3 rfl ?_)
    have e1 : (s3.heap.update S (Obj.mapSeq fun _ => #[Value.ref az])).get? S = some (lstO (.ref az) _) := Heap.get?_update_self (Obj.mapSeq fun _ => #[Value.ref az]) hS3 rfl
    refine wpAny_bind (wpAny_letGo ?_)
    refine wpAny_bind (wpAny_updateSeq e1 rfl (wpAny_pure ⟨plainId_quiet F.plain_sum_loop _, ?_⟩))
    have e2 := Heap.get?_update_self (Obj.mapSeq fun _ => #[Value.ref az]) e1 rfl
    have kk : ∀ b o, b ≠ S → s3.heap.get? b = some o → ((s3.heap.update S (Obj.mapSeq fun _ => #[Value.ref az])).update S (Obj.mapSeq fun _ => #[Value.ref az])).get? b = some o := fun b o hb e =>
      (Heap.get?_update_other _ _ (Ne.symm hb)).trans ((Heap.get?_update_other _ _ (Ne.symm hb)).trans e)
    have I4 := I3.turned (t' := s3.toks) (it := S) kk g2.1 g2.2.1 g2.2.2.2.1 g2.2.2.2.2.1 g2.2.2.2.2.2
    refine ih (i + 1) _ H' (.ref az) az _ (by omega) hlt I4 p' rfl (hrf _) hrf ?_ e2 g1 g2
    exact hit'.keep fun o q => kk _ _ (Ne.symm hne) (k3 _ _ q)
end Pf

/-! Pf27: the rules of sum(xs, start). -/
namespace Pf
open PySem PySem.Spec PyProof.Rows L2
theorem sub_tup_str : isSubtype (.type "tuple") (.type "str") = pure false := by rw [isSubtype_type]; kernel_rfl
theorem sub_tup_bytes : isSubtype (.type "tuple") (.type "bytes") = pure false := by rw [isSubtype_type]; kernel_rfl
theorem sub_tup_bytearray : isSubtype (.type "tuple") (.type "bytearray") = pure false := by rw [isSubtype_type]; kernel_rfl
theorem sub_lst_str : isSubtype (.type "list") (.type "str") = pure false := by rw [isSubtype_type]; kernel_rfl
theorem sub_lst_bytes : isSubtype (.type "list") (.type "bytes") = pure false := by rw [isSubtype_type]; kernel_rfl
theorem sub_lst_bytearray : isSubtype (.type "list") (.type "bytearray") = pure false := by rw [isSubtype_type]; kernel_rfl
def rSumS (K : PySem.W.Frag) (r : R2) : CRt := fun vs H Q => ∃ (x : V) (b : Addr) (src : Src) (xs : List V) (P : Nat → Hp → V → Prop), vs = [x, .ref b] ∧ SrcV x src ∧ SeqSrc src ∧ SqS K H src xs ∧ ((∃ ws, SqT K H b ws) ∨ ∃ ws, SqL K H b ws) ∧
  (∀ i H v, P i H v → SqS K H src xs) ∧ (∀ i H t v, xs[i]? = some v → P i H t → r t v H (fun w H' => P (i + 1) H' w)) ∧ (∀ H t, P xs.length H t → Q t H) ∧ P 0 H (.ref b) ∧ ∀ j H t, P j H t → ∃ a, t = .ref a
theorem call_sumS {X : Cx} {r : R2} (hr : AddR X r) (hc : X.calm = true) : CallR X (.builtin "sum") (rSumS X.K r) := by
  intro pins s σ H vs us Q I rv h
  obtain ⟨x, b, src, xs, P, rfl, hsv, hseq, hsq, hb, hP, hs, hq, p0, hrf⟩ := h
  cases rv with
  | cons rx rr =>
    cases rr with
    | cons rb rr =>
      cases rr
      cases rb
      obtain ⟨t0, hu⟩ := srcU_of I hsv hsq rx
      refine call_function_tree F.kind_sum F.plain_sum F.entry_sum (args_sum2 _ _) ?_
      unfold Builtin.«sum»
      simp only [List.length_cons, List.length_nil]
      rw [if_neg (by decide)]
      refine wpAny_bind (wpAny_of_eq (show Builtin.Builtins.bindParams "sum" ["start"] 0 ⟨[.ref b], []⟩ = pure [some (.ref b)] from rfl) ?_)
      refine wpAny_bind (wpAny_pyIter_src hu ?_)
      refine wpAny_bind (wpAny_pure ?_)
      simp only [List.forIn_cons, List.forIn_nil]
      have hk : ∀ o' b' o, s.heap.get? b' = some o → (s.heap.push o').get? b' = some o := fun o' b' o e => Heap.get?_push_of_some _ e
      have go : wpAny (model X.prog X.w) X.A.in1 (newList [Value.ref b] >>= fun l => again (.builtin "sum.loop" ⟨[.ref s.heap.objs.size, l, rawInt 2, rawInt 0], []⟩)) (fun fin s' => match fin with
          | .done f => (match (Except.ok f : Result) with | .ok (.ret v) => (EP X pins σ Q) v s' | .ok _ => False | .error e => X.xe e s')
          | .again c' => c'.quiet = true ∧ codeAny (model X.prog X.w) X.A c' (fun r s' => match r with | .ok (.ret v) => (EP X pins σ Q) v s' | .ok _ => False | .error e => X.xe e s') s') X.xe { s with heap := s.heap.push (itO src t0) } := by
        refine wpAny_bind (wpAny_newObj_type ?_)
        have z1 : (s.heap.push (itO src t0)).objs.size = s.heap.objs.size + 1 := Heap.size_push ..
        have I1 : Inv X pins σ H { s with heap := (s.heap.push (itO src t0)).push { cls := .type "list", data := .seq #[.ref b] } } := I.kept (t' := s.toks) fun b o e => Heap.get?_push_of_some _ (hk _ _ _ e)
        have g1 : ((s.heap.push (itO src t0)).push { cls := .type "list", data := .seq #[.ref b] }).get? s.heap.objs.size = some (itO src t0) := Heap.get?_push_of_some _ (Heap.get?_push_size _ itO_free)
        refine wpAny_pure ⟨plainId_quiet F.plain_sum_loop _, codeAny_sumS hr (I.ok.hd hc) (it := s.heap.objs.size) (S := (s.heap.push (itO src t0)).objs.size) hseq hP hs hq (by rw [z1]; exact Nat.succ_ne_self _) (fun s' t H' u' I' ru q => ⟨t, H', I', ru, q⟩) xs.length 0 _ H (.ref b) b _ rfl (Nat.zero_le _) I1 p0 rfl (hrf 0) hrf (itAt_new g1) (Heap.get?_push_size _ rfl)
          (I.fpOk (Nat.le_refl _) (I.hok.fresh (Nat.le_refl _))) (I.fpOk (by rw [z1]; exact Nat.le_succ _) (I.hok.fresh (by rw [z1]; exact Nat.le_succ _)))⟩
      rcases hb with ⟨ws, hb⟩ | ⟨ws, hb⟩
      · obtain ⟨its, r1, p1, _⟩ := I.tuple hb
        have hT : Shared.TypeIs ({ s with heap := s.heap.push (itO src t0) } : Shared) (.ref b) "tuple" := let ⟨o, ho, hc', _⟩ := p1; ⟨o, hk _ _ _ ho, hc'⟩
        refine wpAny_bind (wpAny_bind (wpAny_bind (wpAny_isInstance (T := "tuple") (b := false) hT sub_tup_str ?_)))
        simp only [Bool.false_eq_true, if_false]
        refine wpAny_pure (wpAny_bind (wpAny_bind (wpAny_isInstance (T := "tuple") (b := false) hT sub_tup_bytes ?_)))
        simp only [Bool.false_eq_true, if_false]
        refine wpAny_pure (wpAny_bind (wpAny_bind (wpAny_isInstance (T := "tuple") (b := false) hT sub_tup_bytearray ?_)))
        simp only [Bool.false_eq_true, if_false]
        refine wpAny_pure (wpAny_pure ?_)
        exact go
      · obtain ⟨its, r1, p1, _⟩ := I.list hb
        have hT : Shared.TypeIs ({ s with heap := s.heap.push (itO src t0) } : Shared) (.ref b) "list" := let ⟨o, n, ho, hc', _⟩ := p1; ⟨o, hk _ _ _ ho, hc'⟩
        refine wpAny_bind (wpAny_bind (wpAny_bind (wpAny_isInstance (T := "list") (b := false) hT sub_lst_str ?_)))
        simp only [Bool.false_eq_true, if_false]
        refine wpAny_pure (wpAny_bind (wpAny_bind (wpAny_isInstance (T := "list") (b := false) hT sub_lst_bytes ?_)))
        simp only [Bool.false_eq_true, if_false]
        refine wpAny_pure (wpAny_bind (wpAny_bind (wpAny_isInstance (T := "list") (b := false) hT sub_lst_bytearray ?_)))
        simp only [Bool.false_eq_true, if_false]
        refine wpAny_pure (wpAny_pure ?_)
        exact go
/-! ### over data -/
def tupsOf : List D → Option (List (List D))
  | [] => some []
  | .tuple ds :: r => (tupsOf r).map (ds :: ·)
  | _ :: _ => none
theorem tupsOf_eq : ∀ {ds : List D} {ls : List (List D)}, tupsOf ds = some ls → ds = ls.map .tuple
  | [], _, h => by cases h; rfl
  | d :: r, _, h => by
    cases d with
    | tuple es =>
      simp only [tupsOf] at h
      cases e : tupsOf r with
      | none => rw [e] at h; cases h
      | some l => rw [e] at h; cases h; rw [tupsOf_eq e]; rfl
    | _ => cases h
def seqLT : D → Option (List D)
  | .list ds => some ds
  | .tuple ds => some ds
  | _ => none
theorem seqLT_eq {d : D} {ds : List D} (h : seqLT d = some ds) : d = .list ds ∨ d = .tuple ds := by
  cases d with
  | list l => cases h; exact .inl rfl
  | tuple l => cases h; exact .inr rfl
  | _ => cases h
def sumT (es : List D) : Option (List (List D)) → Option D
  | some ls => if es.length + (ls.map List.length).sum ≤ 16777216 then some (.tuple (es ++ ls.flatten)) else none
  | none => none
def dSumT (a b : D) : Option D := match seqLT a with
  | none => none
  | some ds => match b with
    | .tuple es => sumT es (tupsOf ds)
    | _ => none
theorem sum_take (l : List Nat) (i : Nat) : (l.take i).sum ≤ l.sum := by
  induction l generalizing i with
  | nil => simp
  | cons a r ih =>
    cases i with
    | zero => simp
    | succ i => simp; exact ih i
theorem b2_sumT {K : PySem.W.Frag} : B2 K (rSumS K (rCatA K)) dSumT := fun F G H σ ρ x y d d' Q I h h' g => by
  unfold dSumT at g
  cases hd : seqLT d with
  | none => rw [hd] at g; exact g.no
  | some ds =>
    rw [hd] at g
    cases d' with
    | tuple es =>
      replace g : Gives K F G H σ ρ (sumT es (tupsOf ds)) Q := g
      cases ht : tupsOf ds with
      | none => rw [ht] at g; exact g.no
      | some ls =>
        rw [ht] at g
        have gd := seqLT_eq hd
        have hd : seqD d = some ds := by rcases gd with rfl | rfl <;> rfl
        have g' : Gives K F G H σ ρ (if es.length + (ls.map List.length).sum ≤ 16777216 then some (.tuple (es ++ ls.flatten)) else none) Q := g
        by_cases hsz : es.length + (ls.map List.length).sum ≤ 16777216
        · rw [if_pos hsz] at g'
          have hds := tupsOf_eq ht
          obtain ⟨src, xs, hv, hq, rr, st⟩ := seqD_src I h hd
          have hseq : SeqSrc src := by
            rcases gd with rfl | rfl
            · cases h; cases src with
              | s z => cases hv.s
              | _ => trivial
            · cases h; cases src with
              | s z => cases hv.s
              | _ => trivial
          cases h' with
          | t eb rb =>
            rename_i b ws
            obtain ⟨d0, e0, fin⟩ := g'
            cases e0
            refine ⟨x, b, src, xs, fun i H' v => ∃ G', Sub G G' ∧ SI K F G' H' σ ρ ∧ Rp K G' v (.tuple (es ++ (ls.take i).flatten)) ∧ ∃ a, v = .ref a, rfl, hv, hseq, hq, .inl ⟨ws, I.gH.seqT eb⟩, fun i H' v p => ?_, fun i H' t v hx p => ?_, fun H' t p => ?_, ⟨G, Sub.rfl' G, I, ?_, b, rfl⟩, fun j H' t p => p.choose_spec.2.2.2⟩
            · obtain ⟨G', s', I', _⟩ := p
              exact st G' H' s' I'.gH
            · obtain ⟨G', s', I', r', a, rfl⟩ := p
              obtain ⟨dx, q1, q2⟩ := rr.getV hx
              rw [hds, List.getElem?_map] at q1
              cases el : ls[i]? with
              | none => rw [el] at q1; cases q1
              | some l =>
                rw [el] at q1
                cases q1
                have q2' := Rp.mono s' _ _ q2
                cases q2' with
                | t el2 rl =>
                  rename_i a2 us
                  cases r' with
                  | t ea ra =>
                    rename_i vs
                    have hi : i < ls.length := (List.getElem?_eq_some_iff.mp el).1
                    have ez : ls[i] = l := (List.getElem?_eq_some_iff.mp el).2
                    have efl : (ls.take (i + 1)).flatten = (ls.take i).flatten ++ l := by
                      rw [List.take_succ, el]
                      simp
                    have hlen : vs.length + us.length ≤ sizeLine := by
                      rw [ra.length, rl.length, sizeLine_eq, List.length_append]
                      have h1 : ((ls.take (i + 1)).flatten).length ≤ (ls.map List.length).sum := by
                        rw [List.length_flatten, List.map_take]
                        exact sum_take _ _
                      rw [efl, List.length_append] at h1
                      omega
                    refine ⟨a, a2, vs, us, rfl, rfl, I'.gH.seqT ea, I'.gH.seqT el2, hlen, fun e => ?_, fun _ e => ?_, fun _ _ p hp => ?_⟩
                    · refine ⟨G', s', I', ?_, a2, rfl⟩
                      have : es ++ (ls.take i).flatten = [] := by
                        have := ra.length
                        rw [e] at this
                        exact List.eq_nil_of_length_eq_zero this.symm
                      rw [efl, ← List.append_assoc, this]
                      exact .t el2 rl
                    · refine ⟨G', s', I', ?_, a, rfl⟩
                      have : l = [] := by
                        have := rl.length
                        rw [e] at this
                        exact List.eq_nil_of_length_eq_zero this.symm
                      rw [efl, this, List.append_nil]
                      exact .t ea ra
                    · have gp : G' p = none := by
                        cases q : G' p with
                        | none => rfl
                        | some u => rw [I'.gH p u q] at hp; cases hp
                      have sG : Sub G' (upd G' p (HO.tup (vs ++ us))) := Sub.new gp
                      refine ⟨_, s'.tr sG, I'.alloc hp (fun ps z => by cases z), ?_, p, rfl⟩
                      rw [efl, ← List.append_assoc]
                      exact .t (.inl (.inl upd_same)) ((ra.app rl).mono sG _ _)
            · obtain ⟨G', s', I', r', a, rfl⟩ := p
              have : ls.take xs.length = ls := by
                rw [List.take_of_length_le]
                have h1 := rr.length
                rw [hds, List.length_map] at h1
                omega
              rw [show (List.take xs.length ls) = ls from this] at r'
              exact fin G' H' _ I' s' r'
            · simpa using Rp.t (K := K) (G := G) eb rb
        · rw [if_neg hsz] at g'; exact g'.no
    | _ => exact g.no
theorem je_sumT {X : Cx} {W : WX} {a b : Expr} {da db : Rho → R D} {p1 pos : Pos} (hc : X.calm = true) (hg : Gl X "sum") (hm : X.mg "sum" = none) (ha : JE X W a da) (hb : JE X W b db) (hs : starEach [a, b] X.env = (false, eval a X.env) :: starEach [b] X.env := by rfl) (hs2 : starEach [b] X.env = [(false, eval b X.env)] := by rfl) :
    JE X W (.Call (.Name "sum" p1) [a, b] [] pos) (d2 dSumT da db) := je_cb2 (call_sumS addR_cat hc) b2_sumT hg hm ha hb (by rfl) (hs := hs) (hs2 := hs2)
end Pf

/-! Pf28: sorted of ints, len(set(..)), list(range(..)), slots forgotten. -/
namespace Pf
open PySem PySem.Spec PyProof.Rows L2
/-! ### sorted ints -/
def insI (x : Int) : List Int → List Int
  | [] => [x]
  | y :: r => if x ≤ y then x :: y :: r else y :: insI x r
def sortI : List Int → List Int
  | [] => []
  | x :: r => insI x (sortI r)
theorem insI_perm (x : Int) : ∀ l : List Int, (insI x l).Perm (x :: l)
  | [] => List.Perm.refl _
  | y :: r => by
    unfold insI
    split
    · exact List.Perm.refl _
    · exact ((insI_perm x r).cons y).trans (List.Perm.swap x y r)
theorem sortI_perm : ∀ l : List Int, (sortI l).Perm l
  | [] => List.Perm.refl _
  | x :: r => (insI_perm x _).trans ((sortI_perm r).cons x)
theorem insI_sorted (x : Int) : ∀ l : List Int, l.Pairwise (· ≤ ·) → (insI x l).Pairwise (· ≤ ·)
  | [], _ => by simp [insI]
  | y :: r, h => by
    unfold insI
    rw [List.pairwise_cons] at h
    split
    · rename_i hxy
      exact List.pairwise_cons.mpr ⟨fun z hz => by
        rcases List.mem_cons.mp hz with rfl | hz
        · exact hxy
        · exact Int.le_trans hxy (h.1 z hz), List.pairwise_cons.mpr h⟩
    · rename_i hxy
      refine List.pairwise_cons.mpr ⟨fun z hz => ?_, insI_sorted x r h.2⟩
      rcases List.mem_cons.mp ((insI_perm x r).mem_iff.mp hz) with rfl | hz
      · omega
      · exact h.1 z hz
theorem sortI_sorted : ∀ l : List Int, (sortI l).Pairwise (· ≤ ·)
  | [] => .nil
  | x :: r => insI_sorted x _ (sortI_sorted r)
theorem sorted_eq : ∀ {l m : List Int}, l.Perm m → l.Pairwise (· ≤ ·) → m.Pairwise (· ≤ ·) → l = m
  | [], m, p, _, _ => (List.Perm.nil_eq p)
  | x :: r, [], p, _, _ => absurd p.length_eq (by simp)
  | x :: r, y :: s, p, h1, h2 => by
    rw [List.pairwise_cons] at h1 h2
    have e : x = y := by
      have hy : y ∈ x :: r := p.mem_iff.mpr (List.mem_cons_self ..)
      have hx : x ∈ y :: s := p.mem_iff.mp (List.mem_cons_self ..)
      rcases List.mem_cons.mp hy with e | hy
      · exact e.symm
      · rcases List.mem_cons.mp hx with e | hx
        · exact e
        · have := h1.1 y hy
          have := h2.1 x hx
          omega
    subst e
    rw [sorted_eq (p.cons_inv) h1.2 h2.2]
def dSortN (a : Rho → R D) (ρ : Rho) : R (List D) := (a ρ).bind fun x ρ1 =>
  match x with
  | .list xs => match intsOf xs with
    | some ns => .ok ((sortI ns).map .int) ρ1
    | none => .bad
  | _ => .bad
section
variable {X : Cx} {W : WX} {a b e : Expr} {da db : Rho → R D} {pos p1 p2 p3 : Pos}
theorem jn_sortI (hg : Gl X "sorted") (hm : X.mg "sorted" = none) (hb : JB X W b db) (hs : starEach [b] X.env = [(false, eval b X.env)] := by rfl) : JN X W (.Call (.Name "sorted" p1) [b] [] pos) (dSortN db) := by
  obtain ⟨tb, hb, kb⟩ := hb
  refine ⟨_, pe_callB cr_sortedI hg hm (by rfl) (pa_cons hb pa_nil hs) (by decide) (by decide) hs rfl, fun F G H σ ρ Q I p => kb F G H σ ρ _ I (p.bind fun d ρ1 G1 H1 v I1 s1 r1 p1 => ?_)⟩
  cases d with
  | list ds =>
    obtain ⟨q1, vs, rfl, e1, w1⟩ := Bw.lst r1 I1.gH
    cases en : intsOf ds with
    | none => simp only [en] at p1; exact p1.elim
    | some ns =>
      simp only [en] at p1
      have e2 := intsOf_eq en
      subst e2
      have e3 := Rs.ints w1
      subst e3
      refine ⟨q1, ns, rfl, .inl (.inl e1), fun ns' q hp hs' hq => ?_⟩
      have e4 : ns' = sortI ns := sorted_eq (hp.trans (sortI_perm ns).symm) hs' (sortI_sorted ns)
      subst e4
      obtain ⟨I3, n⟩ := I1.newL hq (Rs.ofInts _)
      exact p1 G1 _ _ I3 (Sub.rfl' _) ⟨q, rfl, n⟩
  | _ => exact p1.elim
/-! ### len(set(xs)), no item twice -/
def dLenSet : D → Option D
  | .list xs => match intsOf xs with
    | some ns => if ns.Nodup ∧ ns.length ≤ 4000 then some (.int (ns.length : Nat)) else none
    | none => none
  | _ => none
theorem je_lenSet (hc : X.calm = true) (hg : Gl X "len") (hm : X.mg "len" = none) (hg2 : Gl X "set") (hm2 : X.mg "set" = none) (hb : JB X W b db) (hs : starEach [b] X.env = [(false, eval b X.env)] := by rfl) :
    JE X W (.Call (.Name "len" p1) [.Call (.Name "set" p2) [b] [] p3] [] pos) (d1 dLenSet db) := by
  obtain ⟨tb, hb, kb⟩ := hb
  refine ⟨_, RZ.pe_lenSetI hg hm hg2 hm2 hb hc hs, fun F G H σ ρ Q I p => kb F G H σ ρ _ I (p.bind fun d ρ1 G1 H1 v I1 s1 r1 p1 => ?_)⟩
  have g : Gives X.K F G1 H1 σ ρ1 (dLenSet d) Q := p1.gives
  cases d with
  | list ds =>
    obtain ⟨q1, vs, rfl, e1, w1⟩ := Bw.lst r1 I1.gH
    unfold dLenSet at g
    cases en : intsOf ds with
    | none => simp only [en] at g; exact g.no
    | some ns =>
      simp only [en] at g
      have e2 := intsOf_eq en
      subst e2
      have e3 := Rs.ints w1
      subst e3
      split at g
      · rename_i c
        exact ⟨q1, ns, rfl, .inl (.inl e1), c.1, c.2, g.here I1 rfl (.i _)⟩
      · exact g.no
  | _ => exact g.no
/-! ### list(range(..)) -/
def dRgL (lo hi : Int) (ρ : Rho) : R (List D) := if Mil lo ∧ Mil hi then .ok (rgD lo 1 (hi - lo).toNat) ρ else .bad
def dListR1 (a : Rho → R D) (ρ : Rho) : R (List D) := (a ρ).bind fun x ρ1 =>
  match x with
  | .int i => dRgL 0 i ρ1
  | _ => .bad
def dListR2 (a b : Rho → R D) (ρ : Rho) : R (List D) := (a ρ).bind fun x ρ1 => (b ρ1).bind fun y ρ2 =>
  match x, y with
  | .int i, .int j => dRgL i j ρ2
  | _, _ => .bad
theorem rgV_rs {K : PySem.W.Frag} {G : Hp} {a b : Int} : Rs K G (rgV a b) (rgD a 1 (b - a).toNat) := by
  have e1 : rgV a b = ((List.range (b - a).toNat).map fun i : Nat => a + (i : Int)).map V.int := by unfold rgV; rw [List.map_map]; rfl
  have e2 : rgD a 1 (b - a).toNat = ((List.range (b - a).toNat).map fun i : Nat => a + (i : Int)).map PyData.int := by unfold rgD; rw [List.map_map]; apply List.map_congr_left; intro i _; simp
  rw [e1, e2]
  exact Rs.ofInts _
theorem rgL_post {K : PySem.W.Frag} {mg : Str → Option Value} {F : Fx} {G H : Hp} {σ : L2.St} {ρ : Rho} {W : WX} {Q : VK} {lo hi : Int} (I : SI K F G H σ ρ) (p : Post K mg F G σ W (relN K) Q (dRgL lo hi ρ)) : RgOk lo hi ∧ ∀ q, H q = none → Q (.ref q) (upd H q (.lst (rgV lo hi))) := by
  unfold dRgL at p
  split at p
  · rename_i c
    unfold Mil at c
    refine ⟨⟨by omega, by omega, by omega, by omega, by omega⟩, fun q hq => ?_⟩
    obtain ⟨I3, n⟩ := I.newL hq rgV_rs
    exact p G _ _ I3 (Sub.rfl' _) ⟨q, rfl, n⟩
  · exact p.elim
theorem jn_listR1 (hc : X.calm = true) (hg : Gl X "list") (hm : X.mg "list" = none) (hg2 : Gl X "range") (hm2 : X.mg "range" = none) (ha : JE X W a da) (na : starEach [a] X.env = (false, eval a X.env) :: starEach [] X.env := by rfl)
    (nb : starEach [.Call (.Name "range" p2) [a] [] p3] X.env = (false, eval (.Call (.Name "range" p2) [a] [] p3) X.env) :: starEach [] X.env := by rfl) :
    JN X W (.Call (.Name "list" p1) [.Call (.Name "range" p2) [a] [] p3] [] pos) (dListR1 da) := by
  obtain ⟨ta, ha, ka⟩ := ha
  refine ⟨_, pe_listRg hc hg hm (prg_1 hg2 hm2 ha na) nb, fun F G H σ ρ Q I p => ka F G H σ ρ _ I (p.bind fun d ρ1 G1 H1 v I1 s1 r1 p1 => ?_)⟩
  cases d with
  | int i => cases r1; exact ⟨i, rfl, rgL_post I1 p1⟩
  | _ => exact p1.elim
theorem jn_listR2 (hc : X.calm = true) (hg : Gl X "list") (hm : X.mg "list" = none) (hg2 : Gl X "range") (hm2 : X.mg "range" = none) (ha : JE X W a da) (hb : JE X W b db) (na : starEach [a, b] X.env = (false, eval a X.env) :: starEach [b] X.env := by rfl)
    (nb : starEach [b] X.env = (false, eval b X.env) :: starEach [] X.env := by rfl) (hp : (backTo p3 (starEach [b] X.env)).any (·.1) = false := by rfl)
    (nc : starEach [.Call (.Name "range" p2) [a, b] [] p3] X.env = (false, eval (.Call (.Name "range" p2) [a, b] [] p3) X.env) :: starEach [] X.env := by rfl) :
    JN X W (.Call (.Name "list" p1) [.Call (.Name "range" p2) [a, b] [] p3] [] pos) (dListR2 da db) := by
  obtain ⟨ta, ha, ka⟩ := ha
  obtain ⟨tb, hb, kb⟩ := hb
  refine ⟨_, pe_listRg hc hg hm (prg_2 hg2 hm2 ha hb na nb hp) nc, fun F G H σ ρ Q I p => ka F G H σ ρ _ I (p.bind fun d ρ1 G1 H1 v I1 s1 r1 p1 => kb F G1 H1 σ ρ1 _ I1 (p1.bind fun d2 ρ2 G2 H2 v2 I2 s2 r2 p2 => ?_))⟩
  cases d with
  | int i =>
    cases d2 with
    | int j => cases r1; cases r2; exact ⟨i, j, rfl, rfl, rgL_post I2 p2⟩
    | _ => exact p2.elim
  | _ => exact p2.elim
end
/-! ### slots forgotten -/
theorem SI.forget1 {K : PySem.W.Frag} {F : Fx} {G H : Hp} {σ : L2.St} {ρ : Rho} (I : SI K F G H σ ρ) (i : Nat) : SI K F G H σ (ρ.set i .undef) := by
  rcases Nat.lt_or_ge i σ.length with h | h
  · have := I.undefV i σ[i]
    rw [List.set_getElem_self] at this
    exact this
  · rw [List.set_eq_of_length_le (by rw [I.len]; exact h)]
    exact I
theorem SI.forget {K : PySem.W.Frag} {F : Fx} {G H : Hp} {σ : L2.St} : ∀ {vs : List Nat} {ρ : Rho}, SI K F G H σ ρ → SI K F G H σ (wipeR ρ vs)
  | [], _, I => I
  | i :: vs, _, I => (SI.forget (vs := vs) I).forget1 i
def dKill (vs : List Nat) (d : Rho → Out) (ρ : Rho) : Out := d (wipeR ρ vs)
theorem jss_kill {X : Cx} {W : WX} {sts : List Stmt} {d : Rho → Out} (vs : List Nat) (h : JSs X W sts d) : JSs X W sts (dKill vs d) :=
  let ⟨t, ht, k⟩ := h; ⟨t, ht, fun F G H σ ρ D I p => k F G H σ (wipeR ρ vs) D I.forget p⟩
theorem js_kill {X : Cx} {W : WX} {st : Stmt} {d : Rho → Out} (vs : List Nat) (h : JS X W st d) : JS X W st (dKill vs d) :=
  let ⟨t, ht, k⟩ := h; ⟨t, ht, fun F G H σ ρ D I p => k F G H σ (wipeR ρ vs) D I.forget p⟩
end Pf

/-! Pf29: a list some times over, stores of three and four side by side. -/
namespace Pf
open PySem PySem.Spec PyProof.Rows L2
def dRepN (a : Rho → R (List D)) (b : Rho → R D) (ρ : Rho) : R (List D) := (a ρ).bind fun xs ρ1 => (b ρ1).bind fun y ρ2 =>
  match y with
  | .int k => if Mil k ∧ xs.length * k.toNat ≤ 16777216 then .ok (List.replicate k.toNat xs).flatten ρ2 else .bad
  | _ => .bad
theorem jn_rep {X : Cx} {W : WX} {a b : Expr} {na : Rho → R (List D)} {db : Rho → R D} {pos : Pos} (ha : JN X W a na) (hb : JE X W b db) : JN X W (.BinOp a .Mult b pos) (dRepN na db) := by
  obtain ⟨ta, ha, ka⟩ := ha
  obtain ⟨tb, hb, kb⟩ := hb
  refine ⟨_, pe_op op_rep ha hb, fun F G H σ ρ Q I p => ka F G H σ ρ _ I (p.bind fun xs ρ1 G1 H1 v I1 s1 r1 p1 => ?_)⟩
  obtain ⟨c, rfl, n⟩ := r1
  obtain ⟨vs, hv, rv⟩ := id n.h
  refine kb (F.plus c vs) G1 H1 σ ρ1 _ (I1.lend hv n.g n.z n.sl) ?_
  cases q : db ρ1 with
  | ok d2 ρ2 =>
    rw [q] at p1
    intro G2 H2 v2 I2' s2 r2
    obtain ⟨I2, n2⟩ := NewL.back I1 n hv I2' s2
    cases d2 with
    | int k =>
      cases r2
      have p1 : Post X.K X.mg F G1 σ W (relN X.K) Q (if Mil k ∧ xs.length * k.toNat ≤ 16777216 then .ok (List.replicate k.toNat xs).flatten ρ2 else .bad) := p1
      split at p1
      · rename_i hc
        have hm : -1000000 ≤ k ∧ k ≤ 1000000 := hc.1
        obtain ⟨us, e1, e2⟩ := n2.h
        refine ⟨c, k, us, rfl, rfl, e1, by omega, by omega, by rw [e2.length, sizeLine_eq]; exact hc.2, fun q hq => ?_⟩
        obtain ⟨I3, n3⟩ := I2.newL hq (e2.rep k.toNat)
        exact p1 G2 _ _ I3 s2 ⟨q, rfl, n3⟩
      · exact p1.elim
    | _ => exact p1.elim
  | err z ρ2 =>
    rw [q] at p1
    intro G2 H2 cls dd I2' s2 hx
    obtain ⟨I2, n2⟩ := NewL.back I1 n hv I2' s2
    exact p1 G2 H2 cls dd I2 s2 hx
  | bad => rw [q] at p1; exact p1.elim
/-! ### several values side by side, some new lists -/
inductive Nv where
  | e (d : D)
  | n (ds : List D)
def NsOk (K : PySem.W.Frag) (F : Fx) (G H : Hp) (σ : L2.St) (ρ : Rho) : List V → List Nv → Prop
  | [], [] => True
  | v :: vs, .e d :: ns => Rp K G v d ∧ NsOk K F G H σ ρ vs ns
  | v :: vs, .n ds :: ns => (∃ a, v = V.ref a ∧ NewL K F G H σ ρ a ds ∧ ∀ (j : Nat) (b : Addr) (es : List D), ns[j]? = some (.n es) → vs[j]? = some (V.ref b) → b ≠ a) ∧ NsOk K F G H σ ρ vs ns
  | _, _ => False
def JA (X : Cx) (W : WX) (es : List Expr) (den : Rho → R (List Nv)) : Prop := ∃ t, PA X es t ∧ ∀ F, ROK X.K X.mg F W (fun F σ G H ρ vs ns => NsOk X.K F G H σ ρ vs ns) t den
def aNil (ρ : Rho) : R (List Nv) := .ok [] ρ
def aE (a : Rho → R D) (b : Rho → R (List Nv)) (ρ : Rho) : R (List Nv) := (a ρ).bind fun x ρ1 => (b ρ1).bind fun xs ρ2 => .ok (.e x :: xs) ρ2
def aN (a : Rho → R (List D)) (b : Rho → R (List Nv)) (ρ : Rho) : R (List Nv) := (a ρ).bind fun x ρ1 => (b ρ1).bind fun xs ρ2 => .ok (.n x :: xs) ρ2
theorem NsOk.len {K : PySem.W.Frag} {F : Fx} {G H : Hp} {σ : L2.St} {ρ : Rho} : ∀ {vs : List V} {ns : List Nv}, NsOk K F G H σ ρ vs ns → vs.length = ns.length
  | [], [], _ => rfl
  | v :: vs, .e d :: ns, h => by simp [NsOk.len h.2]
  | v :: vs, .n ds :: ns, h => by simp [NsOk.len h.2]
theorem unlendNs {K : PySem.W.Frag} {F : Fx} {G H : Hp} {σ : L2.St} {ρ : Rho} {c : Addr} {us : List V} : ∀ {vs : List V} {ns : List Nv}, NsOk K (F.plus c us) G H σ ρ vs ns →
    NsOk K F G H σ ρ vs ns ∧ ∀ (j : Nat) (b : Addr) (es : List D), ns[j]? = some (.n es) → vs[j]? = some (V.ref b) → b ≠ c
  | [], [], _ => ⟨True.intro, fun j b es h => by simp at h⟩
  | v :: vs, .e d :: ns, h => by
    obtain ⟨h1, h2⟩ := unlendNs h.2
    refine ⟨⟨h.1, h1⟩, fun j b es e1 e2 => ?_⟩
    cases j with
    | zero => simp at e1
    | succ j => exact h2 j b es (by simpa using e1) (by simpa using e2)
  | v :: vs, .n ds :: ns, h => by
    obtain ⟨h1, h2⟩ := unlendNs h.2
    obtain ⟨a, rfl, m, ap⟩ := h.1
    have ne : a ≠ c := fun z => by
      subst z
      have := m.z
      have : upd F.H0 a (HO.lst us) a = none := this
      rw [upd_same] at this; cases this
    have m' : NewL K F G H σ ρ a ds := ⟨m.h, m.g, by
      have := m.z
      have : upd F.H0 c (HO.lst us) a = none := this
      rw [upd_ne ne] at this; exact this, m.sl⟩
    refine ⟨⟨⟨a, rfl, m', ap⟩, h1⟩, fun j b es e1 e2 => ?_⟩
    cases j with
    | zero => simp at e2; rw [← e2]; exact ne
    | succ j => exact h2 j b es (by simpa using e1) (by simpa using e2)
section
variable {X : Cx} {W : WX} {a : Expr} {es : List Expr} {da : Rho → R D} {na : Rho → R (List D)} {dl : Rho → R (List Nv)}
theorem ja_nil : JA X W [] aNil := ⟨_, pa_nil, fun F G H σ ρ Q I p => p G H [] I (Sub.rfl' _) True.intro⟩
theorem ja_e (ha : JE X W a da) (hb : JA X W es dl) (hs : starEach (a :: es) X.env = (false, eval a X.env) :: starEach es X.env := by rfl) : JA X W (a :: es) (aE da dl) := by
  obtain ⟨t, ht, k⟩ := ha
  obtain ⟨u, hu, ku⟩ := hb
  refine ⟨_, pa_cons ht hu hs, fun F G H σ ρ Q I p => k F G H σ ρ _ I (p.bind fun d ρ1 G1 H1 v I1 s1 r1 p1 => ku F G1 H1 σ ρ1 _ I1 (p1.bind fun ns ρ2 G2 H2 vs I2 s2 r2 p2 => ?_))⟩
  exact p2 G2 H2 (v :: vs) I2 (Sub.rfl' _) ⟨Rp.mono s2 _ _ r1, r2⟩
theorem ja_n (ha : JN X W a na) (hb : JA X W es dl) (hs : starEach (a :: es) X.env = (false, eval a X.env) :: starEach es X.env := by rfl) : JA X W (a :: es) (aN na dl) := by
  obtain ⟨t, ht, k⟩ := ha
  obtain ⟨u, hu, ku⟩ := hb
  refine ⟨_, pa_cons ht hu hs, fun F G H σ ρ Q I p => k F G H σ ρ _ I (p.bind fun d ρ1 G1 H1 v I1 s1 r1 p1 => ?_)⟩
  obtain ⟨c, rfl, n⟩ := r1
  obtain ⟨vs, hv, rv⟩ := id n.h
  refine ku (F.plus c vs) G1 H1 σ ρ1 _ (I1.lend hv n.g n.z n.sl) ?_
  cases q : dl ρ1 with
  | ok ns ρ2 =>
    rw [q] at p1
    intro G2 H2 ws I2' s2 r2
    obtain ⟨I2, n2⟩ := NewL.back I1 n hv I2' s2
    obtain ⟨r3, ap⟩ := unlendNs r2
    exact p1 G2 H2 (_ :: ws) I2 s2 ⟨⟨c, rfl, n2, ap⟩, r3⟩
  | err z ρ2 =>
    rw [q] at p1
    intro G2 H2 cls dd I2' s2 hx
    obtain ⟨I2, n2⟩ := NewL.back I1 n hv I2' s2
    exact p1 G2 H2 cls dd I2 s2 hx
  | bad => rw [q] at p1; exact p1.elim
end
def Nv.slot : Nv → Slot
  | .e d => .imm d
  | .n ds => .own ds
def putR : Rho → List Nat → List Nv → Rho
  | ρ, i :: ix, n :: ns => putR (ρ.set i n.slot) ix ns
  | ρ, _, _ => ρ
def putV : L2.St → List Nat → List V → L2.St
  | σ, i :: ix, v :: vs => putV (σ.set i (some v)) ix vs
  | σ, _, _ => σ
theorem NsOk.setImm {K : PySem.W.Frag} {F : Fx} {G H : Hp} {σ : L2.St} {ρ : Rho} {i : Nat} {x : V} {d : D} : ∀ {vs : List V} {ns : List Nv}, NsOk K F G H σ ρ vs ns → NsOk K F G H (σ.set i (some x)) (ρ.set i (.imm d)) vs ns
  | [], [], _ => True.intro
  | v :: vs, .e d :: ns, h => ⟨h.1, h.2.setImm⟩
  | v :: vs, .n ds :: ns, h => let ⟨a, e, n, p⟩ := h.1; ⟨⟨a, e, n.setImm, p⟩, h.2.setImm⟩
theorem NsOk.setOwn {K : PySem.W.Frag} {F : Fx} {G H : Hp} {σ : L2.St} {ρ : Rho} {i : Nat} {b : Addr} {fs : List D} : ∀ {vs : List V} {ns : List Nv}, NsOk K F G H σ ρ vs ns → (∀ (j : Nat) (c : Addr) (es : List D), ns[j]? = some (.n es) → vs[j]? = some (V.ref c) → c ≠ b) →
    NsOk K F G H (σ.set i (some (V.ref b))) (ρ.set i (.own fs)) vs ns
  | [], [], _, _ => True.intro
  | v :: vs, .e d :: ns, h, k => ⟨h.1, h.2.setOwn fun j c es e1 e2 => k (j + 1) c es (by simpa using e1) (by simpa using e2)⟩
  | v :: vs, .n ds :: ns, h, k => by
    obtain ⟨a, e, n, p⟩ := h.1
    subst e
    exact ⟨⟨a, rfl, n.setOwn (Ne.symm (k 0 a ds rfl rfl)), p⟩, h.2.setOwn fun j c es e1 e2 => k (j + 1) c es (by simpa using e1) (by simpa using e2)⟩
theorem SI.putN {K : PySem.W.Frag} {F : Fx} {G H : Hp} : ∀ {ix : List Nat} {σ : L2.St} {ρ : Rho} {vs : List V} {ns : List Nv}, SI K F G H σ ρ → NsOk K F G H σ ρ vs ns → ix.length = ns.length → SI K F G H (putV σ ix vs) (putR ρ ix ns)
  | [], σ, ρ, vs, ns, I, h, e => by
    cases ns with
    | nil => cases vs with
      | nil => exact I
      | cons _ _ => exact h.elim
    | cons _ _ => simp at e
  | i :: ix, σ, ρ, [], ns, I, h, e => by
    cases ns with
    | nil => simp at e
    | cons n _ => cases n <;> exact h.elim
  | i :: ix, σ, ρ, v :: vs, [], I, h, e => h.elim
  | i :: ix, σ, ρ, v :: vs, .e d :: ns, I, h, e => SI.putN (ix := ix) (I.setImm h.1) h.2.setImm (by simpa using e)
  | i :: ix, σ, ρ, v :: vs, .n ds :: ns, I, h, e => by
    obtain ⟨⟨a, rfl, n, p⟩, h2⟩ := h
    exact SI.putN (ix := ix) (I.setOwn n) (h2.setOwn p) (by simpa using e)
/-- a new object does not touch them -/
theorem NewL.fresh {K : PySem.W.Frag} {F : Fx} {G H : Hp} {σ : L2.St} {ρ : Rho} {a p : Addr} {o : HO} {ds : List D} (n : NewL K F G H σ ρ a ds) (hp : H p = none) : NewL K F G (upd H p o) σ ρ a ds := by
  obtain ⟨⟨vs, h1, h2⟩, h3, h4, h5⟩ := n
  exact ⟨⟨vs, by rw [upd_ne (ne_of_none h1 hp)]; exact h1, h2⟩, h3, h4, h5⟩
theorem NsOk.fresh {K : PySem.W.Frag} {F : Fx} {G H : Hp} {σ : L2.St} {ρ : Rho} {p : Addr} {o : HO} (hp : H p = none) : ∀ {vs : List V} {ns : List Nv}, NsOk K F G H σ ρ vs ns → NsOk K F G (upd H p o) σ ρ vs ns
  | [], [], _ => True.intro
  | v :: vs, .e d :: ns, h => ⟨h.1, h.2.fresh hp⟩
  | v :: vs, .n ds :: ns, h => let ⟨a, e, n, q⟩ := h.1; ⟨⟨a, e, n.fresh hp, q⟩, h.2.fresh hp⟩
def anyIo (ρ : Rho) (ix : List Nat) : Bool := ix.any fun i => isIo ρ i
def dPar (ix : List Nat) (a : Rho → R (List Nv)) (ρ : Rho) : Out := (a ρ).out fun ns ρ1 => if ns.length = ix.length ∧ anyIo ρ1 ix = false then .next (putR ρ1 ix ns) else .bad
section
variable {X : Cx} {W : WX} {a b c : Expr} {es : List Expr} {dl : Rho → R (List Nv)} {pos pt pt2 px py pz : Pos} {kt k2 : Nat} {x y z : Str}
theorem js_par3 (i j l : Nat) (hc : X.calm = true) (hN : X.N.Nodup) (ha : JA X W [a, b, c] dl) (hi : X.N[i]? = some x := by rfl) (hj : X.N[j]? = some y := by rfl) (hl : X.N[l]? = some z := by rfl) (hij : i ≠ j := by decide) (hil : i ≠ l := by decide) (hjl : j ≠ l := by decide)
    (hx : X.env.scope.names.lookup x = some .local := by rfl) (hy : X.env.scope.names.lookup y = some .local := by rfl) (hz : X.env.scope.names.lookup z = some .local := by rfl)
    (hw : swappedStores [.Tuple [.Name x px, .Name y py, .Name z pz] kt pt] (.Tuple [a, b, c] k2 pt2) X.env = pure (some [x, y, z]) := by rfl)
    (hs : swapsWithSole [.Tuple [.Name x px, .Name y py, .Name z pz] kt pt] (.Tuple [a, b, c] k2 pt2) pos.line X.env = pure false := by rfl) :
    JS X W (.Assign [.Tuple [.Name x px, .Name y py, .Name z pz] kt pt] (.Tuple [a, b, c] k2 pt2) pos) (dPar [i, j, l] dl) := by
  obtain ⟨t, ht, k⟩ := ha
  refine ⟨_, ps_par3 hc hN hi hj hl hij hil hjl hx hy hz ht hw hs, fun F G H σ ρ D I p => k F G H σ ρ _ I (SPost.bind (rel := fun F σ G H ρ vs ns => NsOk X.K F G H σ ρ vs ns) p fun ns ρ1 G1 H1 vs I1 s1 r1 p1 => ?_)⟩
  split at p1
  · rename_i h
    have hl := r1.len
    have h3 : vs.length = 3 := by rw [hl]; exact h.1
    match vs, h3, r1 with
    | [u, v, w], _, r1 =>
      exact ⟨u, v, w, rfl, p1 G1 H1 _ (I1.putN (ix := [i, j, l]) r1 h.1.symm) (Sub.rfl' _)⟩
  · exact p1.elim
/-- names stored to one after another -/
def gNames (ix : List Nat) : TGs := fun vs σ H Q => vs.length = ix.length ∧ Q (putV σ ix vs) H
def JNm (X : Cx) (tgs : List Expr) (ix : List Nat) : Prop := PGs X tgs (gNames ix)
theorem jnm_nil : JNm X [] [] := ⟨fun pins s σ H vs us Q I r h => by
  obtain ⟨e, h⟩ := h
  have e : vs = [] := List.eq_nil_of_length_eq_zero e
  subst e
  exact pgs_nil.run pins s σ H [] us Q I r ⟨rfl, h⟩⟩
theorem jnm_cons {tgs : List Expr} {ix : List Nat} (i : Nat) (h : JNm X tgs ix) (hN : X.N.Nodup) (hi : X.N[i]? = some x := by rfl) (hx : Loc X.env.scope x := by first | exact Or.inl rfl | exact Or.inr rfl) (hf : X.fn x = true ∨ X.env.scope.names.lookup x = some .local := by first | exact .inl rfl | exact .inr rfl | assumption)
    (hs : (assignEach (.Name x px :: tgs) X.env).map (·.2) = assign (.Name x px) X.env :: (assignEach tgs X.env).map (·.2) := by rfl) : JNm X (.Name x px :: tgs) (i :: ix) := ⟨fun pins s σ H vs us Q I r h2 => by
  obtain ⟨e, h2⟩ := h2
  match vs, e, r with
  | v :: vs, e, r => exact (pgs_cons (pg_name (i := i) hN hi hx hf) h hs).run pins s σ H (v :: vs) us Q I r ⟨v, vs, rfl, by simpa using e, h2⟩⟩
theorem js_parM {tgs : List Expr} {ix : List Nat} (hc : X.calm = true) (hN : X.N.Nodup) (ha : JA X W es dl) (hg : JNm X tgs ix) (hn : es.length = ix.length := by rfl) (hb : es.length ≤ 1000 := by decide)
    (hs : swapsWithSole [.Tuple tgs kt pt] (.Tuple es k2 pt2) pos.line X.env = pure false := by rfl) (hw : swappedStores [.Tuple tgs kt pt] (.Tuple es k2 pt2) X.env = pure none := by rfl)
    (h1 : (assignEach [.Tuple tgs kt pt] X.env).map (·.2) = [assign (.Tuple tgs kt pt) X.env] := by rfl) (hn2 : (assignEach tgs X.env).length = ix.length := by rfl) (hst : (assignEach tgs X.env).findIdx? (·.1) = none := by rfl) :
    JS X W (.Assign [.Tuple tgs kt pt] (.Tuple es k2 pt2) pos) (dPar ix dl) := by
  obtain ⟨t, ht, k⟩ := ha
  refine ⟨_, ps_asg (pe_tup ht) (pg_tup hc hg hn2 hst) hs hw h1, fun F G H σ ρ D I p => k F G H σ ρ _ I (SPost.bind (rel := fun F σ G H ρ vs ns => NsOk X.K F G H σ ρ vs ns) p fun ns ρ1 G1 H1 vs I1 s1 r1 p1 => ?_)⟩
  split at p1
  · rename_i h
    have hl := r1.len
    refine ⟨by rw [hl, h.1, ← hn, sizeLine_eq]; omega, fun q hq => ⟨q, vs, rfl, .inl (.inl upd_same), by rw [hl, h.1], by rw [hl, h.1], ?_⟩⟩
    exact p1 G1 _ _ ((I1.allocH hq).putN (ix := ix) (r1.fresh hq) h.1.symm) (Sub.rfl' _)
  · exact p1.elim
end
/-! ### list(x), x a list, a tuple, a text -/
theorem call_list_text {X : Cx} (hc : X.calm = true) : CallR X (.type "list") (fun xs H Q => ∃ x : Str, xs = [.str x] ∧ x.length ≤ sizeLine ∧ ∀ l, H l = none → Q (.ref l) (upd H l (.lst (chrs x)))) := by
  intro pins s σ H xs us Q I r h
  obtain ⟨x, rfl, hz, q⟩ := h
  obtain ⟨u, rfl, ru⟩ := vals1 r
  obtain ⟨t, rfl⟩ := ru
  refine call_list_str (I.ok.hd hc) x t (fun h' tk acc' c' hk hS hacc => ?_) (hn := hz)
  refine ⟨.ref s.heap.objs.size, upd H s.heap.objs.size (.lst (chrs x)), I.laid hk (Nat.le_refl _) (show ObjOk X.prog X.w _ _ _ (.lst (chrs x)) from ⟨?_, acc'.toList, c', ?_, ?_⟩), rfl, q _ (I.hok.fresh (Nat.le_refl _))⟩
  · show (chrs x).length ≤ sizeLine
    unfold chrs
    rw [List.length_map, Array.length_toList]
    exact hz
  · have el : acc'.toList.length = acc'.size := by simp
    refine vals_of_at (by rw [el, hacc.1]; simp [chrs]) fun j y w h1 h2 => ?_
    obtain ⟨c, tt, hcj, rfl⟩ := hacc.2 j w (by rw [← Array.getElem?_toList]; exact h2)
    have : y = .str ⟨#[c]⟩ := by
      simp [chrs, hcj] at h1
      exact h1.symm
    subst this
    exact ⟨_, rfl⟩
  · rw [Array.toArray_toList]; exact hS
def dListA (a : Rho → R D) (ρ : Rho) : R (List D) := (a ρ).bind fun x ρ1 =>
  match x with
  | .list xs => .ok xs ρ1
  | .tuple xs => .ok xs ρ1
  | .str s => if s.length ≤ 16777216 then .ok (s.cps.toList.map fun c => .str ⟨#[c]⟩) ρ1 else .bad
  | _ => .bad
theorem jn_listA {X : Cx} {W : WX} {b : Expr} {db : Rho → R D} {pos p1 : Pos} (hc : X.calm = true) (hg : Gl X "list") (hm : X.mg "list" = none) (hb : JB X W b db) (hs : starEach [b] X.env = [(false, eval b X.env)] := by rfl) : JN X W (.Call (.Name "list" p1) [b] [] pos) (dListA db) := by
  obtain ⟨tb, hb, kb⟩ := hb
  refine ⟨_, pe_callTy (CallR.or call_list_of (call_list_text hc)) hg hm (by rfl) (pa_cons hb pa_nil hs) (by decide) (by decide) hs rfl, fun F G H σ ρ Q I p => kb F G H σ ρ _ I (p.bind fun d ρ1 G1 H1 v I1 s1 r1 p1 => ?_)⟩
  cases d with
  | list ds =>
    obtain ⟨q1, vs, rfl, e1, w1⟩ := Bw.lst r1 I1.gH
    refine .inl ⟨q1, vs, rfl, .inl (.inl (.inl e1)), fun q hq => ?_⟩
    obtain ⟨I3, n⟩ := I1.newL hq w1
    exact p1 G1 _ _ I3 (Sub.rfl' _) ⟨q, rfl, n⟩
  | tuple ds =>
    obtain ⟨q1, vs, rfl, e1, w1⟩ := Bw.tup r1 I1.gH
    refine .inl ⟨q1, vs, rfl, .inr e1, fun q hq => ?_⟩
    obtain ⟨I3, n⟩ := I1.newL hq w1
    exact p1 G1 _ _ I3 (Sub.rfl' _) ⟨q, rfl, n⟩
  | str z =>
    have e := Bw.str r1
    subst e
    have p1 : Post X.K X.mg F G1 σ W (relN X.K) Q (if z.length ≤ 16777216 then .ok (z.cps.toList.map fun c => .str ⟨#[c]⟩) ρ1 else .bad) := p1
    split at p1
    · rename_i hz
      refine .inr ⟨z, rfl, hz, fun q hq => ?_⟩
      have cr : ∀ l : List Nat, Rs X.K G1 (l.map fun c => V.str ⟨#[c]⟩) (l.map fun c => .str ⟨#[c]⟩) := fun l => by
        induction l with
        | nil => exact .nil
        | cons c l ih => exact .cons (.s _) ih
      obtain ⟨I3, n⟩ := I1.newL hq (cr z.cps.toList)
      exact p1 G1 _ _ I3 (Sub.rfl' _) ⟨q, rfl, n⟩
    · exact p1.elim
  | _ => exact p1.elim
end Pf

/-! Pf32: a suite that asks twice: flags = [..], flags = flags + [..]. -/
namespace Pf
open PySem PySem.Spec PyProof.Rows L2
def dSetQ (k : Nat) (f g : Ex → Option (List D)) (x : Ex) (ρ : Rho) : Out := match f x, g x with
  | some ds, some es => if isIo ρ k = true then .bad else if k < ρ.length then .next (ρ.set k (.own (ds ++ es))) else .bad
  | _, _ => .bad
section
variable {X : Cx} {i : Nat} {es es2 : List Expr} {sts : List Stmt} {pos pos2 p1 p2 p3 p4 p5 : Pos} {y : Str}
theorem jssu_two (k : Nat) {f g : Ex → Option (List D)} {d2 : Rho → Out} (hN : X.N.Nodup) (h1 : JLq X i es f) (h2 : JLq X i es2 g) (hr : ∀ c : SuC, c.ok → JSs (c.cx X) W0 sts d2) (hn : es.length ≤ 1000 := by decide) (hl : ∀ x ds, f x = some ds → ds.length = es.length)
    (hn2 : es2.length ≤ 1000 := by decide) (hl2 : ∀ x ds, g x = some ds → ds.length = es2.length) (hik : i ≠ k := by decide) (hi : X.N[k]? = some y := by rfl) (hx : Loc X.env.scope y := by first | exact Or.inl rfl | exact Or.inr rfl)
    (hv : Vis X.env.scope y := by first | exact Or.inl rfl | exact Or.inr (Or.inl rfl) | exact Or.inr (Or.inr rfl)) (hd : (y == ("__debug__" : Str)) = false := by decide) (hcd : (y == ("__classdict__" : Str)) = false := by decide)
    (hs : ∀ c : SuC, swapsWith (.List es p3) (some (.Name y p1)) pos.line (c.cx X).env = pure false := by intro _; rfl) (hs2 : ∀ c : SuC, swapsWith (.BinOp (.Name y p4) .Add (.List es2 p5) p2) (some (.Name y p1)) pos2.line (c.cx X).env = pure false := by intro _; rfl)
    (hf : X.fn y = true ∨ X.env.scope.names.lookup y = some .local := by first | exact .inl rfl | exact .inr rfl | assumption) :
    JSsu X (some i) (.Assign [.Name y p1] (.List es p3) pos :: .Assign [.Name y p1] (.BinOp (.Name y p4) .Add (.List es2 p5) p2) pos2 :: sts) (fun x => dSeq (dSetQ k f g x) d2) := fun c hc => by
  obtain ⟨t1, ht1, k1⟩ := h1 c hc
  obtain ⟨t2, ht2, k2⟩ := h2 c hc
  obtain ⟨t3, ht3, k3⟩ := hr c hc
  refine ⟨_, pss_cons (ps_set (X := c.cx X) (i := k) hN hi hx (pe_lst ht1) (hs c) hf) (pss_cons (ps_set (X := c.cx X) (i := k) hN hi hx (pe_op op_cat (pe_var (X := c.cx X) (i := k) hi hv hd hcd) (pe_lst ht2)) (hs2 c) hf) ht3), fun F G H σ ρ x D I hi' hx' p => ?_⟩
  have p : SPost X.K X.mg F G W0 D (dSeq (dSetQ k f g x) d2 ρ) := p
  unfold dSeq dSetQ at p
  cases e1 : f x with
  | none => rw [e1] at p; exact p.elim
  | some ds =>
    cases e2 : g x with
    | none => rw [e1, e2] at p; exact p.elim
    | some es' =>
      rw [e1, e2] at p
      have hz : ds.length = es.length := hl x ds e1
      have hz2 : es'.length = es2.length := hl2 x es' e2
      have s1 := small1000 hn
      have hsi := hi' i rfl
      simp only at p
      by_cases hio : isIo ρ k = true
      · rw [if_pos hio] at p; exact p.elim
      rw [if_neg hio] at p
      by_cases hkl : k < ρ.length
      · rw [if_pos hkl] at p
        refine k1 σ H x ds _ hsi hx'.1 (fun z => hx'.2.2 z) e1 fun vs r => ⟨?_, fun a ha => ?_⟩
        · rw [(r G).length, hz]; exact Nat.le_of_lt s1
        · obtain ⟨I2, n⟩ := I.newL ha (r G)
          have hkl' : k < σ.length := by have := I.len; omega
          have g2 : (σ.set k (some (V.ref a)))[k]? = some (some (V.ref a)) := List.getElem?_set_self hkl'
          refine ⟨V.ref a, g2, k2 (σ.set k (some (V.ref a))) (upd H a (.lst vs)) x es' _ (by rw [List.getElem?_set_ne (Ne.symm hik)]; exact hsi) hx'.1 (fun z => hx'.2.2 z) e2 fun ws r2 => ⟨?_, fun a2 ha2 => ?_⟩⟩
          · rw [(r2 G).length, hz2]; exact Nat.le_of_lt (small1000 hn2)
          · have na : a2 ≠ a := fun e => by subst e; rw [upd_same] at ha2; cases ha2
            obtain ⟨I3, n3⟩ := I2.newL ha2 (r2 G)
            refine ⟨a, a2, vs, ws, rfl, rfl, by rw [upd_ne (Ne.symm na)]; exact upd_same, upd_same, by rw [(r G).length, (r2 G).length, hz, hz2, sizeLine_eq]; omega, fun q hq => ?_⟩
            obtain ⟨I4, n4⟩ := I3.newL hq ((r G).app (r2 G))
            have I5 := I4.setOwn (i := k) n4
            have p' : SPost X.K X.mg F G W0 D (d2 (ρ.set k (.own (ds ++ es')))) := p
            have e : (σ.set k (some (V.ref a))).set k (some (V.ref q)) = σ.set k (some (V.ref q)) := List.set_set ..
            show t3 D ((σ.set k (some (V.ref a))).set k (some (V.ref q))) _
            rw [e]
            exact k3 F G _ _ _ D I5 p'
      · rw [if_neg hkl] at p; exact p.elim
end
end Pf

/-! Pf33: sum(xs, []) of lists. -/
namespace Pf
open PySem PySem.Spec PyProof.Rows L2
theorem addR_catL {X : Cx} : AddR X rCat := by
  intro A pins s σ H x y v u Q E I rx ry h
  obtain ⟨a, b, xs, ys, rfl, rfl, ha, hb, hz, q⟩ := h
  cases rx
  cases ry
  obtain ⟨z, its, n, r, hl, e⟩ := I.lstM ha
  obtain ⟨z2, its2, n2, r2, hl2, e2⟩ := I.lstM hb
  refine PySem.P.add_list e e2 ?_ (by rw [List.size_toArray, List.size_toArray]; omega)
  have ea : its.toArray ++ its2.toArray = (its ++ its2).toArray := by simp
  rw [ea]
  refine ⟨.ref s.heap.objs.size, _, I.lnew (t' := s.toks) (r.append r2) (by rw [List.length_append]; omega), rfl, q _ I.fresh, fun _ _ e => Heap.get?_push_of_some _ e, fun b hb => upd_ne (Nat.ne_of_lt hb)⟩
def listsOf : List D → Option (List (List D))
  | [] => some []
  | .list ds :: r => (listsOf r).map (ds :: ·)
  | _ :: _ => none
theorem listsOf_eq : ∀ {ds : List D} {ls : List (List D)}, listsOf ds = some ls → ds = ls.map .list
  | [], _, h => by cases h; rfl
  | d :: r, _, h => by
    cases d with
    | list es =>
      simp only [listsOf] at h
      cases e : listsOf r with
      | none => rw [e] at h; cases h
      | some l => rw [e] at h; cases h; rw [listsOf_eq e]; rfl
    | _ => cases h
def sumL (es : List D) : Option (List (List D)) → Option D
  | some ls => if es.length + (ls.map List.length).sum ≤ 16777216 then some (.list (es ++ ls.flatten)) else none
  | none => none
def dSumL (a b : D) : Option D := match seqLT a with
  | none => none
  | some ds => match b with
    | .list es => sumL es (listsOf ds)
    | _ => none
theorem b2_sumL {K : PySem.W.Frag} : B2 K (rSumS K rCat) dSumL := fun F G H σ ρ x y d d' Q I h h' g => by
  unfold dSumL at g
  cases hd : seqLT d with
  | none => rw [hd] at g; exact g.no
  | some ds =>
    rw [hd] at g
    cases d' with
    | list es =>
      replace g : Gives K F G H σ ρ (sumL es (listsOf ds)) Q := g
      cases ht : listsOf ds with
      | none => rw [ht] at g; exact g.no
      | some ls =>
        rw [ht] at g
        have gd := seqLT_eq hd
        have hd : seqD d = some ds := by rcases gd with rfl | rfl <;> rfl
        have g' : Gives K F G H σ ρ (if es.length + (ls.map List.length).sum ≤ 16777216 then some (.list (es ++ ls.flatten)) else none) Q := g
        by_cases hsz : es.length + (ls.map List.length).sum ≤ 16777216
        · rw [if_pos hsz] at g'
          have hds := listsOf_eq ht
          obtain ⟨src, xs, hv, hq, rr, st⟩ := seqD_src I h hd
          have hseq : SeqSrc src := by
            rcases gd with rfl | rfl
            · cases h; cases src with
              | s z => cases hv.s
              | _ => trivial
            · cases h; cases src with
              | s z => cases hv.s
              | _ => trivial
          cases h' with
          | l eb rb =>
            rename_i b ws
            obtain ⟨d0, e0, fin⟩ := g'
            cases e0
            refine ⟨x, b, src, xs, fun i H' v => ∃ G', Sub G G' ∧ SI K F G' H' σ ρ ∧ Rp K G' v (.list (es ++ (ls.take i).flatten)) ∧ ∃ a, v = .ref a, rfl, hv, hseq, hq, .inr ⟨ws, .inl (.inl (I.gH _ _ eb))⟩, fun i H' v p => ?_, fun i H' t v hx p => ?_, fun H' t p => ?_, ⟨G, Sub.rfl' G, I, ?_, b, rfl⟩, fun j H' t p => p.choose_spec.2.2.2⟩
            · obtain ⟨G', s', I', _⟩ := p
              exact st G' H' s' I'.gH
            · obtain ⟨G', s', I', r', a, rfl⟩ := p
              obtain ⟨dx, q1, q2⟩ := rr.getV hx
              rw [hds, List.getElem?_map] at q1
              cases el : ls[i]? with
              | none => rw [el] at q1; cases q1
              | some l =>
                rw [el] at q1
                cases q1
                have q2' := Rp.mono s' _ _ q2
                cases q2' with
                | l el2 rl =>
                  rename_i a2 us
                  cases r' with
                  | l ea ra =>
                    rename_i vs
                    have efl : (ls.take (i + 1)).flatten = (ls.take i).flatten ++ l := by
                      rw [List.take_succ, el]
                      simp
                    have hlen : vs.length + us.length ≤ sizeLine := by
                      rw [ra.length, rl.length, sizeLine_eq, List.length_append]
                      have h1 : ((ls.take (i + 1)).flatten).length ≤ (ls.map List.length).sum := by
                        rw [List.length_flatten, List.map_take]
                        exact sum_take _ _
                      rw [efl, List.length_append] at h1
                      omega
                    refine ⟨a, a2, vs, us, rfl, rfl, I'.gH _ _ ea, I'.gH _ _ el2, hlen, fun p hp => ?_⟩
                    have gp : G' p = none := by
                      cases q : G' p with
                      | none => rfl
                      | some u => rw [I'.gH p u q] at hp; cases hp
                    have sG : Sub G' (upd G' p (HO.lst (vs ++ us))) := Sub.new gp
                    refine ⟨_, s'.tr sG, I'.alloc hp (fun ps z => by cases z), ?_, p, rfl⟩
                    rw [efl, ← List.append_assoc]
                    exact .l upd_same ((ra.app rl).mono sG _ _)
            · obtain ⟨G', s', I', r', a, rfl⟩ := p
              have : ls.take xs.length = ls := by
                rw [List.take_of_length_le]
                have h1 := rr.length
                rw [hds, List.length_map] at h1
                omega
              rw [show (List.take xs.length ls) = ls from this] at r'
              exact fin G' H' _ I' s' r'
            · simpa using Rp.l (K := K) (G := G) eb rb
        · rw [if_neg hsz] at g'; exact g'.no
    | _ => exact g.no
theorem je_sumL {X : Cx} {W : WX} {a b : Expr} {da db : Rho → R D} {p1 pos : Pos} (hc : X.calm = true) (hg : Gl X "sum") (hm : X.mg "sum" = none) (ha : JE X W a da) (hb : JE X W b db) (hs : starEach [a, b] X.env = (false, eval a X.env) :: starEach [b] X.env := by rfl) (hs2 : starEach [b] X.env = [(false, eval b X.env)] := by rfl) :
    JE X W (.Call (.Name "sum" p1) [a, b] [] pos) (d2 dSumL da db) := je_cb2 (call_sumS addR_catL hc) b2_sumL hg hm ha hb (by rfl) (hs := hs) (hs2 := hs2)
end Pf

namespace Pf
open PySem PySem.Spec PyProof.Rows L2
theorem sc_is_integer : FnScope N_is_integer [(PySem.Str.ofString "thing")] (defScope s_is_integer) := ⟨rfl, rfl, rfl, by decide +kernel, rfl, by decide +kernel, by decide +kernel⟩
theorem sc_is_within : FnScope N_is_within [(PySem.Str.ofString "thing"), (PySem.Str.ofString "low"), (PySem.Str.ofString "high")] (defScope s_is_within) := ⟨rfl, rfl, rfl, by decide +kernel, rfl, by decide +kernel, by decide +kernel⟩
theorem sc_is_tuple_of : FnScope N_is_tuple_of [(PySem.Str.ofString "thing"), (PySem.Str.ofString "size")] (defScope s_is_tuple_of) := ⟨rfl, rfl, rfl, by decide +kernel, rfl, by decide +kernel, by decide +kernel⟩
theorem sc_is_few : FnScope N_is_few [(PySem.Str.ofString "thing"), (PySem.Str.ofString "most")] (defScope s_is_few) := ⟨rfl, rfl, rfl, by decide +kernel, rfl, by decide +kernel, by decide +kernel⟩
theorem sc_is_sign : FnScope N_is_sign [(PySem.Str.ofString "thing")] (defScope s_is_sign) := ⟨rfl, rfl, rfl, by decide +kernel, rfl, by decide +kernel, by decide +kernel⟩
theorem sc_is_width : FnScope N_is_width [(PySem.Str.ofString "thing")] (defScope s_is_width) := ⟨rfl, rfl, rfl, by decide +kernel, rfl, by decide +kernel, by decide +kernel⟩
theorem sc_raw_is_card : FnScope N_raw_is_card [(PySem.Str.ofString "width"), (PySem.Str.ofString "thing")] (defScope s_raw_is_card) := ⟨rfl, rfl, rfl, by decide +kernel, rfl, by decide +kernel, by decide +kernel⟩
theorem sc_raw_is_deck : FnScope N_raw_is_deck [(PySem.Str.ofString "width"), (PySem.Str.ofString "thing")] (defScope s_raw_is_deck) := ⟨rfl, rfl, rfl, by decide +kernel, rfl, by decide +kernel, by decide +kernel⟩
theorem sc_raw_is_field : FnScope N_raw_is_field [(PySem.Str.ofString "width"), (PySem.Str.ofString "thing")] (defScope s_raw_is_field) := ⟨rfl, rfl, rfl, by decide +kernel, rfl, by decide +kernel, by decide +kernel⟩
theorem sc_is_name : FnScope N_is_name [(PySem.Str.ofString "thing")] (defScope s_is_name) := ⟨rfl, rfl, rfl, by decide +kernel, rfl, by decide +kernel, by decide +kernel⟩
theorem sc_is_flag : FnScope N_is_flag [(PySem.Str.ofString "thing")] (defScope s_is_flag) := ⟨rfl, rfl, rfl, by decide +kernel, rfl, by decide +kernel, by decide +kernel⟩
theorem sc_is_factor : FnScope N_is_factor [(PySem.Str.ofString "thing")] (defScope s_is_factor) := ⟨rfl, rfl, rfl, by decide +kernel, rfl, by decide +kernel, by decide +kernel⟩
theorem sc_is_worded : FnScope N_is_worded [(PySem.Str.ofString "thing"), (PySem.Str.ofString "word"), (PySem.Str.ofString "size")] (defScope s_is_worded) := ⟨rfl, rfl, rfl, by decide +kernel, rfl, by decide +kernel, by decide +kernel⟩
theorem sc_are_levels : FnScope N_are_levels [(PySem.Str.ofString "width"), (PySem.Str.ofString "thing")] (defScope s_are_levels) := ⟨rfl, rfl, rfl, by decide +kernel, rfl, by decide +kernel, by decide +kernel⟩
theorem sc_is_latch : FnScope N_is_latch [(PySem.Str.ofString "width"), (PySem.Str.ofString "levels"), (PySem.Str.ofString "thing")] (defScope s_is_latch) := ⟨rfl, rfl, rfl, by decide +kernel, rfl, by decide +kernel, by decide +kernel⟩
theorem sc_is_test : FnScope N_is_test [(PySem.Str.ofString "board"), (PySem.Str.ofString "thing"), (PySem.Str.ofString "on_cards")] (defScope s_is_test) := ⟨rfl, rfl, rfl, by decide +kernel, rfl, by decide +kernel, by decide +kernel⟩
theorem sc_is_when : FnScope N_is_when [(PySem.Str.ofString "board"), (PySem.Str.ofString "thing"), (PySem.Str.ofString "on_cards")] (defScope s_is_when) := ⟨rfl, rfl, rfl, by decide +kernel, rfl, by decide +kernel, by decide +kernel⟩
theorem sc_are_pairs : FnScope N_are_pairs [(PySem.Str.ofString "many"), (PySem.Str.ofString "thing")] (defScope s_are_pairs) := ⟨rfl, rfl, rfl, by decide +kernel, rfl, by decide +kernel, by decide +kernel⟩
theorem sc_raw_keys : FnScope N_raw_keys [(PySem.Str.ofString "board")] (defScope s_raw_keys) := ⟨rfl, rfl, rfl, by decide +kernel, rfl, by decide +kernel, by decide +kernel⟩
theorem sc_is_item : FnScope N_is_item [(PySem.Str.ofString "board"), (PySem.Str.ofString "thing"), (PySem.Str.ofString "on_cards")] (defScope s_is_item) := ⟨rfl, rfl, rfl, by decide +kernel, rfl, by decide +kernel, by decide +kernel⟩
theorem sc_are_items : FnScope N_are_items [(PySem.Str.ofString "board"), (PySem.Str.ofString "thing"), (PySem.Str.ofString "on_cards")] (defScope s_are_items) := ⟨rfl, rfl, rfl, by decide +kernel, rfl, by decide +kernel, by decide +kernel⟩
theorem sc_is_add : FnScope N_is_add [(PySem.Str.ofString "board"), (PySem.Str.ofString "thing")] (defScope s_is_add) := ⟨rfl, rfl, rfl, by decide +kernel, rfl, by decide +kernel, by decide +kernel⟩
theorem sc_is_list : FnScope N_is_list [(PySem.Str.ofString "board"), (PySem.Str.ofString "thing")] (defScope s_is_list) := ⟨rfl, rfl, rfl, by decide +kernel, rfl, by decide +kernel, by decide +kernel⟩
theorem sc_is_deed : FnScope N_is_deed [(PySem.Str.ofString "board"), (PySem.Str.ofString "thing")] (defScope s_is_deed) := ⟨rfl, rfl, rfl, by decide +kernel, rfl, by decide +kernel, by decide +kernel⟩
theorem sc_are_deeds : FnScope N_are_deeds [(PySem.Str.ofString "board"), (PySem.Str.ofString "thing")] (defScope s_are_deeds) := ⟨rfl, rfl, rfl, by decide +kernel, rfl, by decide +kernel, by decide +kernel⟩
theorem sc_is_board : FnScope N_is_board [(PySem.Str.ofString "thing")] (defScope s_is_board) := ⟨rfl, rfl, rfl, by decide +kernel, rfl, by decide +kernel, by decide +kernel⟩
theorem sc_check_board : FnScope N_check_board [(PySem.Str.ofString "board")] (defScope s_check_board) := ⟨rfl, rfl, rfl, by decide +kernel, rfl, by decide +kernel, by decide +kernel⟩
theorem sc_does_hold : FnScope N_does_hold [(PySem.Str.ofString "when"), (PySem.Str.ofString "latches"), (PySem.Str.ofString "card")] (defScope s_does_hold) := ⟨rfl, rfl, rfl, by decide +kernel, rfl, by decide +kernel, by decide +kernel⟩
theorem sc_keys_on : FnScope N_keys_on [(PySem.Str.ofString "board"), (PySem.Str.ofString "card")] (defScope s_keys_on) := ⟨rfl, rfl, rfl, by decide +kernel, rfl, by decide +kernel, by decide +kernel⟩
theorem sc_raw_broken : FnScope N_raw_broken [(PySem.Str.ofString "board"), (PySem.Str.ofString "keys"), (PySem.Str.ofString "later")] (defScope s_raw_broken) := ⟨rfl, rfl, rfl, by decide +kernel, rfl, by decide +kernel, by decide +kernel⟩
theorem sc_latches_off : FnScope N_latches_off [(PySem.Str.ofString "board"), (PySem.Str.ofString "latches"), (PySem.Str.ofString "level")] (defScope s_latches_off) := ⟨rfl, rfl, rfl, by decide +kernel, rfl, by decide +kernel, by decide +kernel⟩
theorem sc_latches_on : FnScope N_latches_on [(PySem.Str.ofString "board"), (PySem.Str.ofString "latches"), (PySem.Str.ofString "card")] (defScope s_latches_on) := ⟨rfl, rfl, rfl, by decide +kernel, rfl, by decide +kernel, by decide +kernel⟩
theorem sc_deed_events : FnScope N_deed_events [(PySem.Str.ofString "board"), (PySem.Str.ofString "level"), (PySem.Str.ofString "latches")] (defScope s_deed_events) := ⟨rfl, rfl, rfl, by decide +kernel, rfl, by decide +kernel, by decide +kernel⟩
theorem sc_raw_events : FnScope N_raw_events [(PySem.Str.ofString "board"), (PySem.Str.ofString "state"), (PySem.Str.ofString "card")] (defScope s_raw_events) := ⟨rfl, rfl, rfl, by decide +kernel, rfl, by decide +kernel, by decide +kernel⟩
theorem sc_raw_end_events : FnScope N_raw_end_events [(PySem.Str.ofString "board"), (PySem.Str.ofString "state")] (defScope s_raw_end_events) := ⟨rfl, rfl, rfl, by decide +kernel, rfl, by decide +kernel, by decide +kernel⟩
theorem sc_raw_first_state : FnScope N_raw_first_state [(PySem.Str.ofString "board")] (defScope s_raw_first_state) := ⟨rfl, rfl, rfl, by decide +kernel, rfl, by decide +kernel, by decide +kernel⟩
theorem sc_check_run : FnScope N_check_run [(PySem.Str.ofString "board"), (PySem.Str.ofString "deck")] (defScope s_check_run) := ⟨rfl, rfl, rfl, by decide +kernel, rfl, by decide +kernel, by decide +kernel⟩
theorem sc_are_prices : FnScope N_are_prices [(PySem.Str.ofString "thing")] (defScope s_are_prices) := ⟨rfl, rfl, rfl, by decide +kernel, rfl, by decide +kernel, by decide +kernel⟩
theorem sc_check_prices : FnScope N_check_prices [(PySem.Str.ofString "board"), (PySem.Str.ofString "prices")] (defScope s_check_prices) := ⟨rfl, rfl, rfl, by decide +kernel, rfl, by decide +kernel, by decide +kernel⟩
theorem sc_event_price : FnScope N_event_price [(PySem.Str.ofString "board"), (PySem.Str.ofString "event"), (PySem.Str.ofString "prices")] (defScope s_event_price) := ⟨rfl, rfl, rfl, by decide +kernel, rfl, by decide +kernel, by decide +kernel⟩
theorem sc_events_price : FnScope N_events_price [(PySem.Str.ofString "board"), (PySem.Str.ofString "events"), (PySem.Str.ofString "prices")] (defScope s_events_price) := ⟨rfl, rfl, rfl, by decide +kernel, rfl, by decide +kernel, by decide +kernel⟩
theorem sc_card_costs : FnScope N_card_costs [(PySem.Str.ofString "board"), (PySem.Str.ofString "deck"), (PySem.Str.ofString "prices")] (defScope s_card_costs) := ⟨rfl, rfl, rfl, by decide +kernel, rfl, by decide +kernel, by decide +kernel⟩
theorem sc_costs_of : FnScope N_costs_of [(PySem.Str.ofString "board"), (PySem.Str.ofString "deck"), (PySem.Str.ofString "prices")] (defScope s_costs_of) := ⟨rfl, rfl, rfl, by decide +kernel, rfl, by decide +kernel, by decide +kernel⟩
theorem sc_cost_of : FnScope N_cost_of [(PySem.Str.ofString "board"), (PySem.Str.ofString "deck"), (PySem.Str.ofString "prices")] (defScope s_cost_of) := ⟨rfl, rfl, rfl, by decide +kernel, rfl, by decide +kernel, by decide +kernel⟩
theorem sc_all_events : FnScope N_all_events [(PySem.Str.ofString "board"), (PySem.Str.ofString "deck")] (defScope s_all_events) := ⟨rfl, rfl, rfl, by decide +kernel, rfl, by decide +kernel, by decide +kernel⟩
theorem sc_told_counts : FnScope N_told_counts [(PySem.Str.ofString "board"), (PySem.Str.ofString "deck"), (PySem.Str.ofString "word"), (PySem.Str.ofString "many")] (defScope s_told_counts) := ⟨rfl, rfl, rfl, by decide +kernel, rfl, by decide +kernel, by decide +kernel⟩
theorem sc_adds_done : FnScope N_adds_done [(PySem.Str.ofString "board"), (PySem.Str.ofString "deck")] (defScope s_adds_done) := ⟨rfl, rfl, rfl, by decide +kernel, rfl, by decide +kernel, by decide +kernel⟩
theorem sc_lists_done : FnScope N_lists_done [(PySem.Str.ofString "board"), (PySem.Str.ofString "deck")] (defScope s_lists_done) := ⟨rfl, rfl, rfl, by decide +kernel, rfl, by decide +kernel, by decide +kernel⟩
theorem sc_deeds_done : FnScope N_deeds_done [(PySem.Str.ofString "board"), (PySem.Str.ofString "deck")] (defScope s_deeds_done) := ⟨rfl, rfl, rfl, by decide +kernel, rfl, by decide +kernel, by decide +kernel⟩
theorem sc__law_hand : FnScope N__law_hand [(PySem.Str.ofString "script")] (defScope s__law_hand) := ⟨rfl, rfl, rfl, by decide +kernel, rfl, by decide +kernel, by decide +kernel⟩
theorem sc__law_draw : FnScope N__law_draw [(PySem.Str.ofString "hand"), (PySem.Str.ofString "many")] (defScope s__law_draw) := ⟨rfl, rfl, rfl, by decide +kernel, rfl, by decide +kernel, by decide +kernel⟩
theorem sc__law_any : FnScope N__law_any [(PySem.Str.ofString "hand"), (PySem.Str.ofString "some")] (defScope s__law_any) := ⟨rfl, rfl, rfl, by decide +kernel, rfl, by decide +kernel, by decide +kernel⟩
theorem sc__law_holds : FnScope N__law_holds [(PySem.Str.ofString "when"), (PySem.Str.ofString "card"), (PySem.Str.ofString "on")] (defScope s__law_holds) := ⟨rfl, rfl, rfl, by decide +kernel, rfl, by decide +kernel, by decide +kernel⟩
theorem sc__law_when : FnScope N__law_when [(PySem.Str.ofString "hand"), (PySem.Str.ofString "width"), (PySem.Str.ofString "latches"), (PySem.Str.ofString "is_total")] (defScope s__law_when) := ⟨rfl, rfl, rfl, by decide +kernel, rfl, by decide +kernel, by decide +kernel⟩
theorem sc__law_field : FnScope N__law_field [(PySem.Str.ofString "hand"), (PySem.Str.ofString "width")] (defScope s__law_field) := ⟨rfl, rfl, rfl, by decide +kernel, rfl, by decide +kernel, by decide +kernel⟩
theorem sc__law_sum : FnScope N__law_sum [(PySem.Str.ofString "hand"), (PySem.Str.ofString "many")] (defScope s__law_sum) := ⟨rfl, rfl, rfl, by decide +kernel, rfl, by decide +kernel, by decide +kernel⟩
theorem sc__law_add : FnScope N__law_add [(PySem.Str.ofString "hand"), (PySem.Str.ofString "width"), (PySem.Str.ofString "latches"), (PySem.Str.ofString "many")] (defScope s__law_add) := ⟨rfl, rfl, rfl, by decide +kernel, rfl, by decide +kernel, by decide +kernel⟩
theorem sc__law_list : FnScope N__law_list [(PySem.Str.ofString "hand"), (PySem.Str.ofString "width"), (PySem.Str.ofString "levels"), (PySem.Str.ofString "latches"), (PySem.Str.ofString "many")] (defScope s__law_list) := ⟨rfl, rfl, rfl, by decide +kernel, rfl, by decide +kernel, by decide +kernel⟩
theorem sc__law_one_deed : FnScope N__law_one_deed [(PySem.Str.ofString "hand"), (PySem.Str.ofString "levels"), (PySem.Str.ofString "latches"), (PySem.Str.ofString "many")] (defScope s__law_one_deed) := ⟨rfl, rfl, rfl, by decide +kernel, rfl, by decide +kernel, by decide +kernel⟩
theorem sc__law_board : FnScope N__law_board [(PySem.Str.ofString "hand"), (PySem.Str.ofString "most")] (defScope s__law_board) := ⟨rfl, rfl, rfl, by decide +kernel, rfl, by decide +kernel, by decide +kernel⟩
theorem sc__law_deck : FnScope N__law_deck [(PySem.Str.ofString "hand"), (PySem.Str.ofString "width"), (PySem.Str.ofString "most")] (defScope s__law_deck) := ⟨rfl, rfl, rfl, by decide +kernel, rfl, by decide +kernel, by decide +kernel⟩
theorem sc__law_first : FnScope N__law_first [(PySem.Str.ofString "board")] (defScope s__law_first) := ⟨rfl, rfl, rfl, by decide +kernel, rfl, by decide +kernel, by decide +kernel⟩
theorem sc__law_deeds_cost : FnScope N__law_deeds_cost [(PySem.Str.ofString "deeds"), (PySem.Str.ofString "on"), (PySem.Str.ofString "prices")] (defScope s__law_deeds_cost) := ⟨rfl, rfl, rfl, by decide +kernel, rfl, by decide +kernel, by decide +kernel⟩
theorem sc__law_breaks : FnScope N__law_breaks [(PySem.Str.ofString "board"), (PySem.Str.ofString "state"), (PySem.Str.ofString "card"), (PySem.Str.ofString "prices")] (defScope s__law_breaks) := ⟨rfl, rfl, rfl, by decide +kernel, rfl, by decide +kernel, by decide +kernel⟩
theorem sc__law_card_cost : FnScope N__law_card_cost [(PySem.Str.ofString "board"), (PySem.Str.ofString "state"), (PySem.Str.ofString "card"), (PySem.Str.ofString "prices")] (defScope s__law_card_cost) := ⟨rfl, rfl, rfl, by decide +kernel, rfl, by decide +kernel, by decide +kernel⟩
theorem sc__law_end_cost : FnScope N__law_end_cost [(PySem.Str.ofString "board"), (PySem.Str.ofString "state"), (PySem.Str.ofString "prices")] (defScope s__law_end_cost) := ⟨rfl, rfl, rfl, by decide +kernel, rfl, by decide +kernel, by decide +kernel⟩
theorem sc__law_costs : FnScope N__law_costs [(PySem.Str.ofString "board"), (PySem.Str.ofString "deck"), (PySem.Str.ofString "prices")] (defScope s__law_costs) := ⟨rfl, rfl, rfl, by decide +kernel, rfl, by decide +kernel, by decide +kernel⟩
theorem sc__law_prices : FnScope N__law_prices [(PySem.Str.ofString "hand")] (defScope s__law_prices) := ⟨rfl, rfl, rfl, by decide +kernel, rfl, by decide +kernel, by decide +kernel⟩
theorem sc__law_by_counts : FnScope N__law_by_counts [(PySem.Str.ofString "board"), (PySem.Str.ofString "deck"), (PySem.Str.ofString "prices")] (defScope s__law_by_counts) := ⟨rfl, rfl, rfl, by decide +kernel, rfl, by decide +kernel, by decide +kernel⟩
theorem sc__law_word : FnScope N__law_word [(PySem.Str.ofString "call")] (defScope s__law_word) := ⟨rfl, rfl, rfl, by decide +kernel, rfl, by decide +kernel, by decide +kernel⟩
theorem sc_law : FnScope N_law [(PySem.Str.ofString "script")] (defScope s_law) := ⟨rfl, rfl, rfl, by decide +kernel, rfl, by decide +kernel, by decide +kernel⟩
def d_is_integer : Rho → Out :=
  dRet (dAndV (dIsi isInt (dImm 0)) (dNotV (dIsi isBool (dImm 0))))
def d_is_within : Rho → Out :=
  dRet (dAndV (dVal (dCallV 1 d_is_integer (dCons (dImm 0) (dNil)))) (dChain (dCmp fun i j => decide (i ≤ j)) (dCmp fun i j => decide (i ≤ j)) (dImm 1) (dImm 0) (dImm 2)))
def d_is_tuple_of : Rho → Out :=
  dRet (dAndV (dIsi isTup (dImm 0)) (dOp dEq (d1 dLen (dImm 0)) (dImm 1)))
def d_is_few : Rho → Out :=
  dRet (dAndV (dIsi isTup (dImm 0)) (dOp (dCmp fun i j => decide (i ≤ j)) (d1 dLen (dImm 0)) (dImm 1)))
def d_is_sign : Rho → Out :=
  dRet (dAndV (dIsi isStr (dImm 0)) (dAndV (dOp dEq (d1 dLen (dImm 0)) (dC (.int 1))) (dOp dIn (dImm 0) (dC (.str (PySem.Str.ofString "0123456789x."))))))
def d_is_width : Rho → Out :=
  dRet (dVal (dCallV 3 d_is_within (dCons (dImm 0) (dCons (dC (.int 1)) (dCons (dC (.int 8)) (dNil))))))
def c_raw_is_card_1 : Rho → R (List D) :=
  dLc [2] (dSrc (dImm 1)) (bName 2) (dYes) (dOp dIn (dImm 2) (dC (.str (PySem.Str.ofString "0123456789x."))))
def d_raw_is_card : Rho → Out :=
  dRet (dAndV (dIsi isStr (dImm 1)) (dAndV (dOp dEq (d1 dLen (dImm 1)) (dImm 0)) (d1 dAll (dLst (c_raw_is_card_1)))))
def c_raw_is_deck_1 : Rho → R (List D) :=
  dLc [2] (dSrc (dImm 1)) (bName 2) (dYes) (dVal (dCallV 3 d_raw_is_card (dCons (dImm 0) (dCons (dImm 2) (dNil)))))
def d_raw_is_deck : Rho → Out :=
  dRet (dAndV (dVal (dCallV 2 d_is_few (dCons (dImm 1) (dCons (dC (.int 400)) (dNil))))) (d1 dAll (dLst (c_raw_is_deck_1))))
def d_raw_is_field : Rho → Out :=
  dSeq (dIf (dOr (dNot (dBool (dVal (dCallV 2 d_is_tuple_of (dCons (dImm 1) (dCons (dC (.int 2)) (dNil))))))) (dNot (dBool (dVal (dCallV 3 d_is_within (dCons (dOp dIx (dImm 1) (dC (.int 0))) (dCons (dC (.int 0)) (dCons (dOp dSub (dImm 0) (dC (.int 1))) (dNil))))))))) (dRet (dC (.bool false))) (dNext))
  (dRet (dVal (dCallV 3 d_is_within (dCons (dOp dIx (dImm 1) (dC (.int 1))) (dCons (dC (.int 1)) (dCons (d2 dMin2 (dC (.int 6)) (dOp dSub (dImm 0) (dOp dIx (dImm 1) (dC (.int 0))))) (dNil)))))))
def c_is_name_1 : Rho → R (List D) :=
  dLc [1] (dSrc (dImm 0)) (bName 1) (dYes) (dOp dIn (dImm 1) (dC (.str (PySem.Str.ofString "abcdefghijklmnopqrstuvwxyz"))))
def d_is_name : Rho → Out :=
  dRet (dAndV (dIsi isStr (dImm 0)) (dAndV (dChain (dCmp fun i j => decide (i ≤ j)) (dCmp fun i j => decide (i ≤ j)) (dC (.int 1)) (d1 dLen (dImm 0)) (dC (.int 8))) (d1 dAll (dLst (c_is_name_1)))))
def d_is_flag : Rho → Out :=
  dRet (dIsi isBool (dImm 0))
def d_is_factor : Rho → Out :=
  dRet (dAndV (dVal (dCallV 3 d_is_within (dCons (dImm 0) (dCons (d1 dNeg (dC (.int 99))) (dCons (dC (.int 99)) (dNil)))))) (dOp dNe (dImm 0) (dC (.int 0))))
def d_is_worded : Rho → Out :=
  dRet (dAndV (dVal (dCallV 2 d_is_tuple_of (dCons (dImm 0) (dCons (dImm 2) (dNil))))) (dAndV (dIsi isStr (dOp dIx (dImm 0) (dC (.int 0)))) (dOp dEq (dOp dIx (dImm 0) (dC (.int 0))) (dImm 1))))
def c_are_levels_1 : Rho → R (List D) :=
  dLc [4] (dSrc (dImm 3)) (bName 4) (dYes) (dVal (dCallV 3 d_is_within (dCons (dImm 4) (dCons (dC (.int 0)) (dCons (dOp dSub (dImm 0) (dC (.int 1))) (dNil))))))
def c_are_levels_2 : Rho → R (List D) :=
  dLc [5, 6] (dSrcZ (dImm 3) (dSl (dImm 3) (dSm (dC (.int 1))) (dNo))) (bTup (bCons (bName 5) (bCons (bName 6) (bNil)))) (dYes) (dOp (dCmp fun i j => decide (i < j)) (dImm 5) (dImm 6))
def b_are_levels_1 : Rho → Out :=
  dSeq (dIf (dOr (dNot (dBool (dIsi isTup (dImm 3)))) (dNot (dBool (dChain (dCmp fun i j => decide (i ≤ j)) (dCmp fun i j => decide (i ≤ j)) (dC (.int 1)) (d1 dLen (dImm 3)) (dC (.int 2)))))) (dRet (dC (.bool false))) (dNext))
  (dSeq (dIf (dNot (dBool (d1 dAll (dLst (c_are_levels_1))))) (dRet (dC (.bool false))) (dNext))
  (dSeq (dIf (dNot (dBool (d1 dAll (dLst (c_are_levels_2))))) (dRet (dC (.bool false))) (dNext))
  (dSeq (dExt 2 (dLst (dListA (dImm 3))))
  (dKill [3] dNext))))
def f_are_levels_1 : Rho → Out :=
  dFor (dSrc (dImm 1)) (bName 3) b_are_levels_1
def d_are_levels : Rho → Out :=
  dSeq (dIf (dNot (dBool (dVal (dCallV 2 d_is_few (dCons (dImm 1) (dCons (dC (.int 2)) (dNil))))))) (dRet (dC (.bool false))) (dNext))
  (dSeq (dSetN 2 (dNil))
  (dSeq (f_are_levels_1)
  (dRet (dAndV (dOp (dCmp fun i j => decide (i ≤ j)) (d1 dLen (dRd 2)) (dC (.int 2))) (dOp dEq (d1 dLenSet (dRd 2)) (d1 dLen (dRd 2)))))))
def d_is_latch : Rho → Out :=
  dSeq (dIf (dOr (dNot (dBool (dVal (dCallV 2 d_is_tuple_of (dCons (dImm 2) (dCons (dC (.int 3)) (dNil))))))) (dOr (dNot (dBool (dVal (dCallV 3 d_is_within (dCons (dOp dIx (dImm 2) (dC (.int 0))) (dCons (dC (.int 0)) (dCons (dOp dSub (dImm 0) (dC (.int 1))) (dNil)))))))) (dNot (dBool (dVal (dCallV 1 d_is_sign (dCons (dOp dIx (dImm 2) (dC (.int 1))) (dNil)))))))) (dRet (dC (.bool false))) (dNext))
  (dRet (dVal (dCallV 3 d_is_within (dCons (dOp dIx (dImm 2) (dC (.int 2))) (dCons (dC (.int 0)) (dCons (d1 dLen (dImm 1)) (dNil)))))))
def d_is_test : Rho → Out :=
  dSeq (dIf (dBool (dVal (dCallV 3 d_is_worded (dCons (dImm 1) (dCons (dC (.str (PySem.Str.ofString "latch"))) (dCons (dC (.int 3)) (dNil))))))) (dRet (dAndV (dVal (dCallV 3 d_is_within (dCons (dOp dIx (dImm 1) (dC (.int 1))) (dCons (dC (.int 0)) (dCons (dOp dSub (d1 dLen (dOp dIx (dImm 0) (dC (.int 2)))) (dC (.int 1))) (dNil)))))) (dVal (dCallV 1 d_is_flag (dCons (dOp dIx (dImm 1) (dC (.int 2))) (dNil)))))) (dNext))
  (dSeq (dIf (dOr (dNot (dBool (dImm 2))) (dNot (dBool (dVal (dCallV 3 d_is_worded (dCons (dImm 1) (dCons (dC (.str (PySem.Str.ofString "sign"))) (dCons (dC (.int 4)) (dNil))))))))) (dRet (dC (.bool false))) (dNext))
  (dRet (dAndV (dVal (dCallV 3 d_is_within (dCons (dOp dIx (dImm 1) (dC (.int 1))) (dCons (dC (.int 0)) (dCons (dOp dSub (dOp dIx (dImm 0) (dC (.int 0))) (dC (.int 1))) (dNil)))))) (dAndV (dVal (dCallV 1 d_is_sign (dCons (dOp dIx (dImm 1) (dC (.int 2))) (dNil)))) (dVal (dCallV 1 d_is_flag (dCons (dOp dIx (dImm 1) (dC (.int 3))) (dNil))))))))
def c_is_when_1 : Rho → R (List D) :=
  dLc [3] (dSrc (dImm 1)) (bName 3) (dYes) (dVal (dCallV 3 d_is_test (dCons (dImm 0) (dCons (dImm 3) (dCons (dImm 2) (dNil))))))
def d_is_when : Rho → Out :=
  dRet (dAndV (dVal (dCallV 2 d_is_few (dCons (dImm 1) (dCons (dC (.int 3)) (dNil))))) (d1 dAll (dLst (c_is_when_1))))
def b_are_pairs_1 : Rho → Out :=
  dSeq (dIf (dOr (dNot (dBool (dVal (dCallV 2 d_is_tuple_of (dCons (dImm 2) (dCons (dC (.int 2)) (dNil))))))) (dOr (dNot (dBool (dVal (dCallV 1 d_is_factor (dCons (dOp dIx (dImm 2) (dC (.int 0))) (dNil)))))) (dNot (dBool (dVal (dCallV 3 d_is_within (dCons (dOp dIx (dImm 2) (dC (.int 1))) (dCons (dC (.int 0)) (dCons (dOp dSub (dImm 0) (dC (.int 1))) (dNil)))))))))) (dRet (dC (.bool false))) (dNext))
  (dKill [2] dNext)
def f_are_pairs_1 : Rho → Out :=
  dFor (dSrc (dImm 1)) (bName 2) b_are_pairs_1
def c_are_pairs_1 : Rho → R (List D) :=
  dLc [3, 4] (dSrcZ (dImm 1) (dSl (dImm 1) (dSm (dC (.int 1))) (dNo))) (bTup (bCons (bName 3) (bCons (bName 4) (bNil)))) (dYes) (dOp (dCmp fun i j => decide (i < j)) (dOp dIx (dImm 3) (dC (.int 1))) (dOp dIx (dImm 4) (dC (.int 1))))
def d_are_pairs : Rho → Out :=
  dSeq (dIf (dOr (dNot (dBool (dIsi isTup (dImm 1)))) (dNot (dBool (dChain (dCmp fun i j => decide (i ≤ j)) (dCmp fun i j => decide (i ≤ j)) (dC (.int 1)) (d1 dLen (dImm 1)) (dC (.int 4)))))) (dRet (dC (.bool false))) (dNext))
  (dSeq (f_are_pairs_1)
  (dRet (d1 dAll (dLst (c_are_pairs_1)))))
def b_raw_keys_1 : Rho → Out :=
  dSeq (dExt 1 (dLst (dListA (dImm 2))))
  (dKill [2] dNext)
def f_raw_keys_1 : Rho → Out :=
  dFor (dSrc (dOp dIx (dImm 0) (dC (.int 1)))) (bName 2) b_raw_keys_1
def d_raw_keys : Rho → Out :=
  dSeq (dSetN 1 (dNil))
  (dSeq (f_raw_keys_1)
  (dRetN (dSortN (dRd 1))))
def d_is_item : Rho → Out :=
  dSeq (dIf (dBool (dVal (dCallV 3 d_is_worded (dCons (dImm 1) (dCons (dC (.str (PySem.Str.ofString "word"))) (dCons (dC (.int 2)) (dNil))))))) (dRet (dVal (dCallV 2 d_is_name (dCons (dOp dIx (dImm 1) (dC (.int 1))) (dNil))))) (dNext))
  (dSeq (dIf (dBool (dVal (dCallV 3 d_is_worded (dCons (dImm 1) (dCons (dC (.str (PySem.Str.ofString "key"))) (dCons (dC (.int 2)) (dNil))))))) (dRet (dAndV (dVal (dCallV 1 d_is_integer (dCons (dOp dIx (dImm 1) (dC (.int 1))) (dNil)))) (dOp dIn (dOp dIx (dImm 1) (dC (.int 1))) (dVal (dCallV 3 d_raw_keys (dCons (dImm 0) (dNil))))))) (dNext))
  (dSeq (dIf (dBool (dVal (dCallV 3 d_is_worded (dCons (dImm 1) (dCons (dC (.str (PySem.Str.ofString "sum"))) (dCons (dC (.int 2)) (dNil))))))) (dRet (dVal (dCallV 5 d_are_pairs (dCons (dOp dIx (dImm 0) (dC (.int 3))) (dCons (dOp dIx (dImm 1) (dC (.int 1))) (dNil)))))) (dNext))
  (dSeq (dIf (dBool (dVal (dCallV 3 d_is_worded (dCons (dImm 1) (dCons (dC (.str (PySem.Str.ofString "number"))) (dCons (dC (.int 2)) (dNil))))))) (dRet (dAndV (dVal (dCallV 1 d_is_integer (dCons (dOp dIx (dImm 1) (dC (.int 1))) (dNil)))) (dOp (dCmp fun i j => decide (i < j)) (d1 dAbs (dOp dIx (dImm 1) (dC (.int 1)))) (dC (.int 1000000000))))) (dNext))
  (dSeq (dIf (dAnd (dBool (dImm 2)) (dBool (dVal (dCallV 3 d_is_worded (dCons (dImm 1) (dCons (dC (.str (PySem.Str.ofString "field"))) (dCons (dC (.int 2)) (dNil)))))))) (dRet (dVal (dCallV 2 d_raw_is_field (dCons (dOp dIx (dImm 0) (dC (.int 0))) (dCons (dOp dIx (dImm 1) (dC (.int 1))) (dNil)))))) (dNext))
  (dRet (dAndV (dImm 2) (dAndV (dVal (dCallV 3 d_is_worded (dCons (dImm 1) (dCons (dC (.str (PySem.Str.ofString "sign"))) (dCons (dC (.int 2)) (dNil)))))) (dVal (dCallV 3 d_is_within (dCons (dOp dIx (dImm 1) (dC (.int 1))) (dCons (dC (.int 0)) (dCons (dOp dSub (dOp dIx (dImm 0) (dC (.int 0))) (dC (.int 1))) (dNil)))))))))))))
def c_are_items_1 : Rho → R (List D) :=
  dLc [3] (dSrc (dImm 1)) (bName 3) (dYes) (dVal (dCallV 3 d_is_item (dCons (dImm 0) (dCons (dImm 3) (dCons (dImm 2) (dNil))))))
def d_are_items : Rho → Out :=
  dRet (dAndV (dVal (dCallV 2 d_is_few (dCons (dImm 1) (dCons (dC (.int 6)) (dNil))))) (d1 dAll (dLst (c_are_items_1))))
def d_is_add : Rho → Out :=
  dSeq (dIf (dOr (dNot (dBool (dVal (dCallV 2 d_is_tuple_of (dCons (dImm 1) (dCons (dC (.int 4)) (dNil))))))) (dNot (dBool (dVal (dCallV 4 d_is_when (dCons (dImm 0) (dCons (dOp dIx (dImm 1) (dC (.int 0))) (dCons (dC (.bool true)) (dNil))))))))) (dRet (dC (.bool false))) (dNext))
  (dRet (dAndV (dVal (dCallV 3 d_is_within (dCons (dOp dIx (dImm 1) (dC (.int 1))) (dCons (dC (.int 0)) (dCons (dOp dSub (dOp dIx (dImm 0) (dC (.int 3))) (dC (.int 1))) (dNil)))))) (dAndV (dVal (dCallV 1 d_is_factor (dCons (dOp dIx (dImm 1) (dC (.int 2))) (dNil)))) (dVal (dCallV 2 d_raw_is_field (dCons (dOp dIx (dImm 0) (dC (.int 0))) (dCons (dOp dIx (dImm 1) (dC (.int 3))) (dNil))))))))
def d_is_list : Rho → Out :=
  dRet (dAndV (dVal (dCallV 2 d_is_tuple_of (dCons (dImm 1) (dCons (dC (.int 2)) (dNil))))) (dAndV (dVal (dCallV 4 d_is_when (dCons (dImm 0) (dCons (dOp dIx (dImm 1) (dC (.int 0))) (dCons (dC (.bool true)) (dNil)))))) (dVal (dCallV 4 d_are_items (dCons (dImm 0) (dCons (dOp dIx (dImm 1) (dC (.int 1))) (dCons (dC (.bool true)) (dNil))))))))
def d_is_deed : Rho → Out :=
  dSeq (dIf (dBool (dVal (dCallV 3 d_is_worded (dCons (dImm 1) (dCons (dC (.str (PySem.Str.ofString "print"))) (dCons (dC (.int 3)) (dNil))))))) (dRet (dAndV (dVal (dCallV 4 d_is_when (dCons (dImm 0) (dCons (dOp dIx (dImm 1) (dC (.int 1))) (dCons (dC (.bool false)) (dNil)))))) (dVal (dCallV 4 d_are_items (dCons (dImm 0) (dCons (dOp dIx (dImm 1) (dC (.int 2))) (dCons (dC (.bool false)) (dNil)))))))) (dNext))
  (dSeq (dIf (dBool (dVal (dCallV 3 d_is_worded (dCons (dImm 1) (dCons (dC (.str (PySem.Str.ofString "clear"))) (dCons (dC (.int 2)) (dNil))))))) (dRet (dVal (dCallV 3 d_is_within (dCons (dOp dIx (dImm 1) (dC (.int 1))) (dCons (dC (.int 0)) (dCons (dOp dSub (dOp dIx (dImm 0) (dC (.int 3))) (dC (.int 1))) (dNil))))))) (dNext))
  (dSeq (dIf (dOr (dNot (dBool (dVal (dCallV 3 d_is_worded (dCons (dImm 1) (dCons (dC (.str (PySem.Str.ofString "roll"))) (dCons (dC (.int 3)) (dNil)))))))) (dNot (dBool (dVal (dCallV 3 d_is_within (dCons (dOp dIx (dImm 1) (dC (.int 1))) (dCons (dC (.int 0)) (dCons (dOp dSub (dOp dIx (dImm 0) (dC (.int 3))) (dC (.int 1))) (dNil))))))))) (dRet (dC (.bool false))) (dNext))
  (dRet (dAndV (dVal (dCallV 3 d_is_within (dCons (dOp dIx (dImm 1) (dC (.int 2))) (dCons (dC (.int 0)) (dCons (dOp dSub (dOp dIx (dImm 0) (dC (.int 3))) (dC (.int 1))) (dNil)))))) (dOp dNe (dOp dIx (dImm 1) (dC (.int 1))) (dOp dIx (dImm 1) (dC (.int 2))))))))
def c_are_deeds_1 : Rho → R (List D) :=
  dLc [2] (dSrc (dImm 1)) (bName 2) (dYes) (dVal (dCallV 2 d_is_deed (dCons (dImm 0) (dCons (dImm 2) (dNil)))))
def d_are_deeds : Rho → Out :=
  dRet (dAndV (dVal (dCallV 2 d_is_few (dCons (dImm 1) (dCons (dC (.int 12)) (dNil))))) (d1 dAll (dLst (c_are_deeds_1))))
def c_is_board_1 : Rho → R (List D) :=
  dLc [8] (dSrc (dImm 3)) (bName 8) (dYes) (dVal (dCallV 3 d_is_latch (dCons (dImm 1) (dCons (dImm 2) (dCons (dImm 8) (dNil))))))
def c_is_board_2 : Rho → R (List D) :=
  dLc [10] (dSrc (dImm 6)) (bName 10) (dYes) (dVal (dCallV 2 d_is_list (dCons (dImm 0) (dCons (dImm 10) (dNil)))))
def c_is_board_3 : Rho → R (List D) :=
  dLc [9] (dSrc (dImm 5)) (bName 9) (dYes) (dVal (dCallV 2 d_is_add (dCons (dImm 0) (dCons (dImm 9) (dNil)))))
def c_is_board_4 : Rho → R (List D) :=
  dLc [11] (dSrc (dImm 7)) (bName 11) (dYes) (dVal (dCallV 3 d_are_deeds (dCons (dImm 0) (dCons (dImm 11) (dNil)))))
def d_is_board : Rho → Out :=
  dSeq (dIf (dOr (dNot (dBool (dVal (dCallV 2 d_is_tuple_of (dCons (dImm 0) (dCons (dC (.int 7)) (dNil))))))) (dOr (dNot (dBool (dVal (dCallV 1 d_is_width (dCons (dOp dIx (dImm 0) (dC (.int 0))) (dNil)))))) (dNot (dBool (dVal (dCallV 7 d_are_levels (dCons (dOp dIx (dImm 0) (dC (.int 0))) (dCons (dOp dIx (dImm 0) (dC (.int 1))) (dNil))))))))) (dRet (dC (.bool false))) (dNext))
  (dSeq (dAsg (bTup (bCons (bName 1) (bCons (bName 2) (bCons (bName 3) (bCons (bName 4) (bCons (bName 5) (bCons (bName 6) (bCons (bName 7) (bNil))))))))) (dImm 0))
  (dSeq (dIf (dOr (dNot (dBool (dVal (dCallV 2 d_is_few (dCons (dImm 3) (dCons (dC (.int 3)) (dNil))))))) (dNot (dBool (d1 dAll (dLst (c_is_board_1)))))) (dRet (dC (.bool false))) (dNext))
  (dSeq (dIf (dOr (dNot (dBool (dVal (dCallV 3 d_is_within (dCons (dImm 4) (dCons (dC (.int 0)) (dCons (dC (.int 6)) (dNil)))))))) (dOr (dNot (dBool (dVal (dCallV 2 d_is_few (dCons (dImm 5) (dCons (dC (.int 12)) (dNil))))))) (dNot (dBool (dVal (dCallV 2 d_is_few (dCons (dImm 6) (dCons (dC (.int 4)) (dNil))))))))) (dRet (dC (.bool false))) (dNext))
  (dSeq (dIf (dOr (dNot (dBool (d1 dAll (dLst (c_is_board_3))))) (dNot (dBool (d1 dAll (dLst (c_is_board_2)))))) (dRet (dC (.bool false))) (dNext))
  (dRet (dAndV (dVal (dCallV 2 d_is_tuple_of (dCons (dImm 7) (dCons (dOp dAdd (d1 dLen (dImm 2)) (dC (.int 1))) (dNil))))) (d1 dAll (dLst (c_is_board_4)))))))))
def d_check_board : Rho → Out :=
  dIf (dNot (dBool (dVal (dCallV 12 d_is_board (dCons (dImm 0) (dNil)))))) (dRaise (dExc0 (PySem.Str.ofString "NoBoard"))) (dNext)
def b_does_hold_1 : Rho → Out :=
  dSeq (dIf (dBool (dOp dEq (dOp dIx (dImm 3) (dC (.int 0))) (dC (.str (PySem.Str.ofString "latch"))))) (dIf (dBool (dOp dNe (dOp dEq (dOp dIx (dImm 1) (dOp dIx (dImm 3) (dC (.int 1)))) (dC (.str (PySem.Str.ofString "1")))) (dOp dIx (dImm 3) (dC (.int 2))))) (dRet (dC (.bool false))) (dNext)) (dIf (dBool (dOp dNe (dOp dEq (dOp dIx (dImm 2) (dOp dIx (dImm 3) (dC (.int 1)))) (dOp dIx (dImm 3) (dC (.int 2)))) (dOp dIx (dImm 3) (dC (.int 3))))) (dRet (dC (.bool false))) (dNext)))
  (dKill [3] dNext)
def f_does_hold_1 : Rho → Out :=
  dFor (dSrc (dImm 0)) (bName 3) b_does_hold_1
def d_does_hold : Rho → Out :=
  dSeq (f_does_hold_1)
  (dRet (dC (.bool true)))
def c_keys_on_1 : Rho → R (List D) :=
  dLc [2] (dSrc (dVal (dCallV 3 d_raw_keys (dCons (dImm 0) (dNil))))) (bName 2) (dYes) (dOp dIx (dImm 1) (dImm 2))
def d_keys_on : Rho → Out :=
  dRet (dJn (dC (.str (PySem.Str.ofString ""))) (dLst (c_keys_on_1)))
def c_raw_broken_1 : Rho → R (List D) :=
  dLc [7] (dSrc (dImm 6)) (bName 7) (dYes) (dOp dNe (dOp dIx (dImm 1) (dOpL dIdx (dImm 3) (dImm 7))) (dOp dIx (dImm 2) (dOpL dIdx (dImm 3) (dImm 7))))
def b_raw_broken_1 : Rho → Out :=
  dSeq (dIf (dBool (d1 dAny (dLst (c_raw_broken_1)))) (dSet 4 (dImm 5)) (dNext))
  (dKill [5, 6] dNext)
def f_raw_broken_1 : Rho → Out :=
  dFor (dSrcE (dOp dIx (dImm 0) (dC (.int 1)))) (bTup (bCons (bName 5) (bCons (bName 6) (bNil)))) b_raw_broken_1
def d_raw_broken : Rho → Out :=
  dSeq (dAsg (bTup (bCons (bName 3) (bCons (bName 4) (bNil)))) (dTup (dCons (dVal (dCallV 3 d_raw_keys (dCons (dImm 0) (dNil)))) (dCons (d1 dNeg (dC (.int 1))) (dNil)))))
  (dSeq (f_raw_broken_1)
  (dRetN (dListR1 (dOp dAdd (dImm 4) (dC (.int 1))))))
def c_latches_off_1 : Rho → R (List D) :=
  dLc [3, 4] (dSrcZ (dOp dIx (dImm 0) (dC (.int 2))) (dImm 1)) (bTup (bCons (bName 3) (bCons (bName 4) (bNil)))) (dYes) (dIfE (dBool (dOp dEq (dOp dIx (dImm 3) (dC (.int 2))) (dImm 2))) (dC (.str (PySem.Str.ofString "0"))) (dImm 4))
def d_latches_off : Rho → Out :=
  dRet (dJn (dC (.str (PySem.Str.ofString ""))) (dLst (c_latches_off_1)))
def c_latches_on_1 : Rho → R (List D) :=
  dLc [3, 4] (dSrcZ (dOp dIx (dImm 0) (dC (.int 2))) (dImm 1)) (bTup (bCons (bName 3) (bCons (bName 4) (bNil)))) (dYes) (dIfE (dBool (dOp dEq (dOp dIx (dImm 2) (dOp dIx (dImm 3) (dC (.int 0)))) (dOp dIx (dImm 3) (dC (.int 1))))) (dC (.str (PySem.Str.ofString "1"))) (dImm 4))
def d_latches_on : Rho → Out :=
  dRet (dJn (dC (.str (PySem.Str.ofString ""))) (dLst (c_latches_on_1)))
def b_deed_events_1 : Rho → Out :=
  dSeq (dIf (dOr (dBool (dOp dNe (dOp dIx (dImm 5) (dC (.int 0))) (dC (.str (PySem.Str.ofString "print"))))) (dBool (dVal (dCallV 4 d_does_hold (dCons (dOp dIx (dImm 5) (dC (.int 1))) (dCons (dImm 2) (dCons (dC .none) (dNil)))))))) (dApp 3 (dTup (dCons (dC (.str (PySem.Str.ofString "deed"))) (dCons (dImm 1) (dCons (dImm 4) (dNil)))))) (dNext))
  (dKill [4, 5] dNext)
def f_deed_events_1 : Rho → Out :=
  dFor (dSrcE (dOp dIx (dOp dIx (dImm 0) (dC (.int 6))) (dImm 1))) (bTup (bCons (bName 4) (bCons (bName 5) (bNil)))) b_deed_events_1
def d_deed_events : Rho → Out :=
  dSeq (dSetN 3 (dNil))
  (dSeq (f_deed_events_1)
  (dRetOwn 3))
def b_raw_events_1 : Rho → Out :=
  dSeq (dExt 6 (dVal (dCallV 6 d_deed_events (dCons (dImm 0) (dCons (dImm 7) (dCons (dImm 4) (dNil)))))))
  (dSeq (dSet 4 (dVal (dCallV 5 d_latches_off (dCons (dImm 0) (dCons (dImm 4) (dCons (dImm 7) (dNil)))))))
  (dKill [7] dNext))
def f_raw_events_1 : Rho → Out :=
  dFor (dSrc (dVal (dCallV 8 d_raw_broken (dCons (dImm 0) (dCons (dImm 3) (dCons (dImm 5) (dNil))))))) (bName 7) b_raw_events_1
def c_raw_events_1 : Rho → R (List D) :=
  dLc [8, 9] (dSrcE (dOp dIx (dImm 0) (dC (.int 4)))) (bTup (bCons (bName 8) (bCons (bName 9) (bNil)))) (dBool (dVal (dCallV 4 d_does_hold (dCons (dOp dIx (dImm 9) (dC (.int 0))) (dCons (dImm 4) (dCons (dImm 2) (dNil))))))) (dTup (dCons (dC (.str (PySem.Str.ofString "add"))) (dCons (dImm 8) (dNil))))
def c_raw_events_2 : Rho → R (List D) :=
  dLc [8, 10] (dSrcE (dOp dIx (dImm 0) (dC (.int 5)))) (bTup (bCons (bName 8) (bCons (bName 10) (bNil)))) (dBool (dVal (dCallV 4 d_does_hold (dCons (dOp dIx (dImm 10) (dC (.int 0))) (dCons (dImm 4) (dCons (dImm 2) (dNil))))))) (dTup (dCons (dC (.str (PySem.Str.ofString "list"))) (dCons (dImm 8) (dNil))))
def d_raw_events : Rho → Out :=
  dSeq (dAsg (bTup (bCons (bName 3) (bCons (bName 4) (bNil)))) (dImm 1))
  (dSeq (dParEN 5 6 (dVal (dCallV 3 d_keys_on (dCons (dImm 0) (dCons (dImm 2) (dNil))))) (dNil))
  (dSeq (dIf (dBool (dF (fun d => !isNon d) (dImm 3))) (dKill [1] (f_raw_events_1)) (dNext))
  (dSeq (dSet 4 (dVal (dCallV 5 d_latches_on (dCons (dImm 0) (dCons (dImm 4) (dCons (dImm 2) (dNil)))))))
  (dSeq (dExt 6 (dLst (c_raw_events_1)))
  (dSeq (dExt 6 (dLst (c_raw_events_2)))
  (dRet (dTup (dCons (dFrz 6) (dCons (dTup (dCons (dImm 5) (dCons (dImm 4) (dNil)))) (dNil))))))))))
def b_raw_end_events_1 : Rho → Out :=
  dSeq (dExt 4 (dVal (dCallV 6 d_deed_events (dCons (dImm 0) (dCons (dImm 5) (dCons (dImm 3) (dNil)))))))
  (dSeq (dSet 3 (dVal (dCallV 5 d_latches_off (dCons (dImm 0) (dCons (dImm 3) (dCons (dImm 5) (dNil)))))))
  (dKill [5] dNext))
def f_raw_end_events_1 : Rho → Out :=
  dFor (dRng1 (d1 dLen (dOp dIx (dImm 0) (dC (.int 1))))) (bName 5) b_raw_end_events_1
def d_raw_end_events : Rho → Out :=
  dSeq (dAsg (bTup (bCons (bName 2) (bCons (bName 3) (bNil)))) (dImm 1))
  (dSeq (dSetN 4 (dNil))
  (dSeq (dIf (dBool (dF (fun d => !isNon d) (dImm 2))) (dKill [1, 2] (f_raw_end_events_1)) (dNext))
  (dRetN (dCatNO 4 (dVal (dCallV 6 d_deed_events (dCons (dImm 0) (dCons (d1 dLen (dOp dIx (dImm 0) (dC (.int 1)))) (dCons (dImm 3) (dNil))))))))))
def d_raw_first_state : Rho → Out :=
  dRet (dTup (dCons (dC .none) (dCons (dOp dMul (dC (.str (PySem.Str.ofString "0"))) (d1 dLen (dOp dIx (dImm 0) (dC (.int 2))))) (dNil))))
def d_check_run : Rho → Out :=
  dSeq (dDrop (dVal (dCallV 1 d_check_board (dCons (dImm 0) (dNil)))))
  (dIf (dNot (dBool (dVal (dCallV 3 d_raw_is_deck (dCons (dOp dIx (dImm 0) (dC (.int 0))) (dCons (dImm 1) (dNil))))))) (dRaise (dExc0 (PySem.Str.ofString "NoDeck"))) (dNext))
def c_are_prices_1 : Rho → R (List D) :=
  dLc [1] (dSrc (dImm 0)) (bName 1) (dYes) (dVal (dCallV 3 d_is_within (dCons (dImm 1) (dCons (dC (.int 0)) (dCons (dC (.int 1000000)) (dNil))))))
def d_are_prices : Rho → Out :=
  dRet (dAndV (dVal (dCallV 2 d_is_tuple_of (dCons (dImm 0) (dCons (dC (.int 4)) (dNil))))) (d1 dAll (dLst (c_are_prices_1))))
def d_check_prices : Rho → Out :=
  dSeq (dDrop (dVal (dCallV 1 d_check_board (dCons (dImm 0) (dNil)))))
  (dIf (dNot (dBool (dVal (dCallV 2 d_are_prices (dCons (dImm 1) (dNil)))))) (dRaise (dExc0 (PySem.Str.ofString "NoPrices"))) (dNext))
def d_event_price : Rho → Out :=
  dSeq (dIf (dBool (dOp dEq (dOp dIx (dImm 1) (dC (.int 0))) (dC (.str (PySem.Str.ofString "add"))))) (dRet (dOp dIx (dImm 2) (dC (.int 1)))) (dNext))
  (dSeq (dIf (dAnd (dBool (dOp dEq (dOp dIx (dImm 1) (dC (.int 0))) (dC (.str (PySem.Str.ofString "deed"))))) (dBool (dOp dNe (dOp dIx (dOp dIx (dOp dIx (dOp dIx (dImm 0) (dC (.int 6))) (dOp dIx (dImm 1) (dC (.int 1)))) (dOp dIx (dImm 1) (dC (.int 2)))) (dC (.int 0))) (dC (.str (PySem.Str.ofString "print")))))) (dRet (dOp dIx (dImm 2) (dC (.int 3)))) (dNext))
  (dRet (dOp dIx (dImm 2) (dC (.int 2)))))
def c_events_price_1 : Rho → R (List D) :=
  dLc [3] (dSrc (dImm 1)) (bName 3) (dYes) (dVal (dCallV 3 d_event_price (dCons (dImm 0) (dCons (dImm 3) (dCons (dImm 2) (dNil))))))
def d_events_price : Rho → Out :=
  dRet (d1 dSum (dLst (c_events_price_1)))
def b_card_costs_1 : Rho → Out :=
  dSeq (dAsg (bTup (bCons (bName 6) (bCons (bName 3) (bNil)))) (dVal (dCallV 11 d_raw_events (dCons (dImm 0) (dCons (dImm 3) (dCons (dImm 5) (dNil)))))))
  (dSeq (dApp 4 (dOp dAdd (dOp dIx (dImm 2) (dC (.int 0))) (dVal (dCallV 4 d_events_price (dCons (dImm 0) (dCons (dImm 6) (dCons (dImm 2) (dNil))))))))
  (dKill [5, 6] dNext))
def f_card_costs_1 : Rho → Out :=
  dFor (dSrc (dImm 1)) (bName 5) b_card_costs_1
def d_card_costs : Rho → Out :=
  dSeq (dParEN 3 4 (dVal (dCallV 1 d_raw_first_state (dCons (dImm 0) (dNil)))) (dNil))
  (dSeq (f_card_costs_1)
  (dRetN (dCatNO 4 (dLst (dCons (dVal (dCallV 4 d_events_price (dCons (dImm 0) (dCons (dVal (dCallV 6 d_raw_end_events (dCons (dImm 0) (dCons (dImm 3) (dNil))))) (dCons (dImm 2) (dNil)))))) (dNil))))))
def d_costs_of : Rho → Out :=
  dSeq (dDrop (dVal (dCallV 2 d_check_run (dCons (dImm 0) (dCons (dImm 1) (dNil))))))
  (dSeq (dDrop (dVal (dCallV 2 d_check_prices (dCons (dImm 0) (dCons (dImm 2) (dNil))))))
  (dRet (d1 dTuple (dVal (dCallV 7 d_card_costs (dCons (dImm 0) (dCons (dImm 1) (dCons (dImm 2) (dNil)))))))))
def d_cost_of : Rho → Out :=
  dSeq (dDrop (dVal (dCallV 2 d_check_run (dCons (dImm 0) (dCons (dImm 1) (dNil))))))
  (dSeq (dDrop (dVal (dCallV 2 d_check_prices (dCons (dImm 0) (dCons (dImm 2) (dNil))))))
  (dRet (d1 dSum (dVal (dCallV 7 d_card_costs (dCons (dImm 0) (dCons (dImm 1) (dCons (dImm 2) (dNil)))))))))
def c_all_events_1 : Rho → R (List D) :=
  dLc [6] (dSrc (dImm 5)) (bName 6) (dYes) (dTup (dCons (dImm 6) (dCons (dImm 4) (dNil))))
def b_all_events_1 : Rho → Out :=
  dSeq (dAsg (bTup (bCons (bName 5) (bCons (bName 2) (bNil)))) (dVal (dCallV 11 d_raw_events (dCons (dImm 0) (dCons (dImm 2) (dCons (dImm 4) (dNil)))))))
  (dSeq (dExt 3 (dLst (c_all_events_1)))
  (dKill [4, 5] dNext))
def f_all_events_1 : Rho → Out :=
  dFor (dSrc (dImm 1)) (bName 4) b_all_events_1
def c_all_events_2 : Rho → R (List D) :=
  dLc [6] (dSrc (dVal (dCallV 6 d_raw_end_events (dCons (dImm 0) (dCons (dImm 2) (dNil)))))) (bName 6) (dYes) (dTup (dCons (dImm 6) (dCons (dC .none) (dNil))))
def d_all_events : Rho → Out :=
  dSeq (dParEN 2 3 (dVal (dCallV 1 d_raw_first_state (dCons (dImm 0) (dNil)))) (dNil))
  (dSeq (f_all_events_1)
  (dSeq (dExt 3 (dLst (c_all_events_2)))
  (dRetOwn 3)))
def c_told_counts_1 : Rho → R (List D) :=
  dLc [5, 6] (dSrc (dVal (dCallV 7 d_all_events (dCons (dImm 0) (dCons (dImm 1) (dNil)))))) (bTup (bCons (bName 5) (bCons (bName 6) (bNil)))) (dBool (dOp dEq (dOp dIx (dImm 5) (dC (.int 0))) (dImm 2))) (dOp dIx (dImm 5) (dC (.int 1)))
def c_told_counts_2 : Rho → R (List D) :=
  dLc [7] (dRng1 (dImm 3)) (bName 7) (dYes) (dOpL dCount (dImm 4) (dImm 7))
def d_told_counts : Rho → Out :=
  dSeq (dSet 4 (dLst (c_told_counts_1)))
  (dRet (d1 dTuple (dLst (c_told_counts_2))))
def d_adds_done : Rho → Out :=
  dSeq (dDrop (dVal (dCallV 2 d_check_run (dCons (dImm 0) (dCons (dImm 1) (dNil))))))
  (dRet (dVal (dCallV 8 d_told_counts (dCons (dImm 0) (dCons (dImm 1) (dCons (dC (.str (PySem.Str.ofString "add"))) (dCons (d1 dLen (dOp dIx (dImm 0) (dC (.int 4)))) (dNil))))))))
def d_lists_done : Rho → Out :=
  dSeq (dDrop (dVal (dCallV 2 d_check_run (dCons (dImm 0) (dCons (dImm 1) (dNil))))))
  (dRet (dVal (dCallV 8 d_told_counts (dCons (dImm 0) (dCons (dImm 1) (dCons (dC (.str (PySem.Str.ofString "list"))) (dCons (d1 dLen (dOp dIx (dImm 0) (dC (.int 5)))) (dNil))))))))
def c_deeds_done_1 : Rho → R (List D) :=
  dLc [6, 7] (dSrc (dVal (dCallV 7 d_all_events (dCons (dImm 0) (dCons (dImm 1) (dNil)))))) (bTup (bCons (bName 6) (bCons (bName 7) (bNil)))) (dBool (dOp dEq (dOp dIx (dImm 6) (dC (.int 0))) (dC (.str (PySem.Str.ofString "deed"))))) (dImm 6)
def c_deeds_done_2 : Rho → R (List D) :=
  dLc [8] (dRng1 (d1 dLen (dImm 5))) (bName 8) (dYes) (dOpL dCount (dImm 2) (dTup (dCons (dC (.str (PySem.Str.ofString "deed"))) (dCons (dImm 4) (dCons (dImm 8) (dNil))))))
def b_deeds_done_1 : Rho → Out :=
  dSeq (dApp 3 (d1 dTuple (dLst (c_deeds_done_2))))
  (dKill [4, 5] dNext)
def f_deeds_done_1 : Rho → Out :=
  dFor (dSrcE (dOp dIx (dImm 0) (dC (.int 6)))) (bTup (bCons (bName 4) (bCons (bName 5) (bNil)))) b_deeds_done_1
def d_deeds_done : Rho → Out :=
  dSeq (dDrop (dVal (dCallV 2 d_check_run (dCons (dImm 0) (dCons (dImm 1) (dNil))))))
  (dSeq (dSet 2 (dLst (c_deeds_done_1)))
  (dSeq (dSetN 3 (dNil))
  (dKill [1] (dSeq (f_deeds_done_1)
  (dRet (d1 dTuple (dRd 3)))))))
def c__law_hand_1 : Rho → R (List D) :=
  dLc [2] (dSrc (dScr 0 63)) (bName 2) (dYes) (d1 dAbs (d1 dInt (dImm 2)))
def d__law_hand : Rho → Out :=
  dSeq (dSetN 1 (c__law_hand_1))
  (dRetN (dCons (dFrz 1) (dCons (dC (.int 0)) (dCons (dC (.int 0)) (dCons (dOp dAdd (dC (.int 83)) (dOp dMul (dC (.int 7)) (d1 dLen (dRd 1)))) (dCons (dC (.int 0)) (dNil)))))))
def d__law_draw : Rho → Out :=
  dSeq (dIf (dAnd (dBool (dOp dEq (dOpR dIx 0 (dC (.int 2))) (dC (.int 0)))) (dBool (dOp (dCmp fun i j => decide (i < j)) (dOpR dIx 0 (dC (.int 1))) (d1 dLen (dOpR dIx 0 (dC (.int 0))))))) (dSeq (dSet 2 (dOp dIx (dOpR dIx 0 (dC (.int 0))) (dOpR dIx 0 (dC (.int 1)))))
  (dSeq (dPut 0 (dC (.int 1)) (dOp dAdd (dOpR dIx 0 (dC (.int 1))) (dC (.int 1))))
  (dSeq (dPut 0 (dC (.int 3)) (dOp dMod (d1 dInt (dOp dAdd (dOp dAdd (dOp dMul (dOpR dIx 0 (dC (.int 3))) (dC (.int 69621))) (dOp dMul (dImm 2) (dC (.int 40692)))) (dC (.int 31)))) (dC (.int 2147483629))))
  (dIf (dBool (dOp (dCmp fun i j => decide (j ≤ i)) (dImm 2) (dOp dPow (dC (.int 10)) (dC (.int 18))))) (dPut 0 (dC (.int 2)) (dImm 2)) (dNext))))) (dNext))
  (dSeq (dIf (dBool (dOp (dCmp fun i j => decide (j < i)) (dOpR dIx 0 (dC (.int 2))) (dC (.int 0)))) (dSeq (dSet 3 (dOp dMod (d1 dInt (dOpR dIx 0 (dC (.int 2)))) (dImm 1)))
  (dSeq (dPut 0 (dC (.int 2)) (dOp dFdiv (dOpR dIx 0 (dC (.int 2))) (dImm 1)))
  (dRet (dImm 3)))) (dNext))
  (dSeq (dPut 0 (dC (.int 4)) (dOp dAdd (dOpR dIx 0 (dC (.int 4))) (dC (.int 1))))
  (dSeq (dSet 4 (dOp dMod (d1 dInt (dOp dMul (d1 dInt (dOp dAdd (dOpR dIx 0 (dC (.int 3))) (dOp dMul (dC (.int 7919)) (dOpR dIx 0 (dC (.int 4)))))) (dC (.int 48271)))) (dC (.int 2147483647))))
  (dSeq (dSet 4 (dOp dMod (d1 dInt (dOp dMul (dImm 4) (dOp dAdd (dOp dFdiv (dImm 4) (dC (.int 1009))) (dC (.int 69621))))) (dC (.int 2147483647))))
  (dSeq (dSet 4 (dOp dMod (d1 dInt (dOp dMul (dImm 4) (dOp dAdd (dOp dFdiv (dImm 4) (dC (.int 2003))) (dC (.int 40014))))) (dC (.int 2147483563))))
  (dRet (dOp dMod (d1 dInt (dOp dFdiv (dImm 4) (dC (.int 16)))) (dImm 1))))))))
def d__law_any : Rho → Out :=
  dRet (dOp dIx (dImm 1) (dVal (dCallH 5 d__law_draw 0 (dCons (d1 dLen (dImm 1)) (dNil)))))
def b__law_holds_1 : Rho → Out :=
  dSeq (dIf (dAnd (dBool (dOp dEq (dOp dIx (dImm 3) (dC (.int 0))) (dC (.str (PySem.Str.ofString "sign"))))) (dBool (dOp dNe (dOp dEq (dOp dIx (dImm 1) (dOp dIx (dImm 3) (dC (.int 1)))) (dOp dIx (dImm 3) (dC (.int 2)))) (dOp dIx (dImm 3) (dC (.int 3)))))) (dRet (dC (.bool false))) (dNext))
  (dSeq (dIf (dAnd (dBool (dOp dEq (dOp dIx (dImm 3) (dC (.int 0))) (dC (.str (PySem.Str.ofString "latch"))))) (dBool (dOp dNe (dOp dIx (dImm 2) (dOp dIx (dImm 3) (dC (.int 1)))) (dOp dIx (dImm 3) (dC (.int 2)))))) (dRet (dC (.bool false))) (dNext))
  (dKill [3] dNext))
def f__law_holds_1 : Rho → Out :=
  dFor (dSrc (dImm 0)) (bName 3) b__law_holds_1
def d__law_holds : Rho → Out :=
  dSeq (f__law_holds_1)
  (dRet (dC (.bool true)))
def d__law_when : Rho → Out :=
  dSeq (dIf (dBool (dOp dEq (dVal (dCallH 5 d__law_draw 0 (dCons (dC (.int 2)) (dNil)))) (dC (.int 0)))) (dRet (dTup (dNil))) (dNext))
  (dSeq (dIf (dAnd (dBool (dOp dNe (dImm 2) (dTup (dNil)))) (dOr (dBool (dImm 3)) (dBool (dOp dEq (dVal (dCallH 5 d__law_draw 0 (dCons (dC (.int 2)) (dNil)))) (dC (.int 0)))))) (dRet (dTup (dCons (dTup (dCons (dC (.str (PySem.Str.ofString "latch"))) (dCons (dC (.int 0)) (dCons (dOp dEq (dVal (dCallH 5 d__law_draw 0 (dCons (dC (.int 2)) (dNil)))) (dC (.int 0))) (dNil))))) (dNil)))) (dNext))
  (dSeq (dIf (dBool (dImm 3)) (dRet (dTup (dNil))) (dNext))
  (dRet (dTup (dCons (dTup (dCons (dC (.str (PySem.Str.ofString "sign"))) (dCons (dVal (dCallH 5 d__law_draw 0 (dCons (dImm 1) (dNil)))) (dCons (dVal (dCallH 2 d__law_any 0 (dCons (dLst (dCons (dC (.str (PySem.Str.ofString "x"))) (dCons (dC (.str (PySem.Str.ofString "1"))) (dCons (dC (.str (PySem.Str.ofString "."))) (dNil))))) (dNil)))) (dCons (dOp dEq (dVal (dCallH 5 d__law_draw 0 (dCons (dC (.int 2)) (dNil)))) (dC (.int 0))) (dNil)))))) (dNil))))))
def d__law_field : Rho → Out :=
  dSeq (dSet 2 (dVal (dCallH 5 d__law_draw 0 (dCons (dImm 1) (dNil)))))
  (dRet (dTup (dCons (dImm 2) (dCons (dOp dAdd (dC (.int 1)) (dVal (dCallH 5 d__law_draw 0 (dCons (d2 dMin2 (dC (.int 2)) (dOp dSub (dImm 1) (dImm 2))) (dNil))))) (dNil)))))
def d__law_sum : Rho → Out :=
  dSeq (dSet 2 (dVal (dCallH 5 d__law_draw 0 (dCons (dImm 1) (dNil)))))
  (dSeq (dSet 3 (dTup (dCons (dTup (dCons (dVal (dCallH 2 d__law_any 0 (dCons (dLst (dCons (dC (.int 1)) (dCons (d1 dNeg (dC (.int 1))) (dCons (dC (.int 2)) (dNil))))) (dNil)))) (dCons (dImm 2) (dNil)))) (dNil))))
  (dRet (dTup (dCons (dC (.str (PySem.Str.ofString "sum"))) (dCons (dIfE (dAnd (dBool (dOp (dCmp fun i j => decide (i < j)) (dOp dAdd (dImm 2) (dC (.int 1))) (dImm 1))) (dBool (dOp dEq (dVal (dCallH 5 d__law_draw 0 (dCons (dC (.int 2)) (dNil)))) (dC (.int 0))))) (dOp dAdd (dImm 3) (dTup (dCons (dTup (dCons (dVal (dCallH 2 d__law_any 0 (dCons (dLst (dCons (dC (.int 1)) (dCons (d1 dNeg (dC (.int 1))) (dNil)))) (dNil)))) (dCons (dOp dAdd (dImm 2) (dC (.int 1))) (dNil)))) (dNil)))) (dImm 3)) (dNil))))))
def d__law_add : Rho → Out :=
  dSeq (dSet 4 (dVal (dCallH 2 d__law_any 0 (dCons (dLst (dCons (dC (.int 1)) (dCons (dC (.int 1)) (dCons (d1 dNeg (dC (.int 1))) (dCons (dC (.int 2)) (dCons (d1 dNeg (dC (.int 3))) (dNil))))))) (dNil)))))
  (dRet (dTup (dCons (dVal (dCallH 4 d__law_when 0 (dCons (dImm 1) (dCons (dImm 2) (dCons (dC (.bool false)) (dNil)))))) (dCons (dVal (dCallH 5 d__law_draw 0 (dCons (dImm 3) (dNil)))) (dCons (dImm 4) (dCons (dVal (dCallH 3 d__law_field 0 (dCons (dImm 1) (dNil)))) (dNil)))))))
def d__law_list : Rho → Out :=
  dSeq (dSetN 5 (dCons (dVal (dCallH 2 d__law_any 0 (dCons (dLst (dCons (dTup (dCons (dC (.str (PySem.Str.ofString "sign"))) (dCons (dC (.int 0)) (dNil)))) (dCons (dTup (dCons (dC (.str (PySem.Str.ofString "field"))) (dCons (dVal (dCallH 3 d__law_field 0 (dCons (dImm 1) (dNil)))) (dNil)))) (dCons (dTup (dCons (dC (.str (PySem.Str.ofString "word"))) (dCons (dC (.str (PySem.Str.ofString "card"))) (dNil)))) (dCons (dVal (dCallH 4 d__law_sum 0 (dCons (dImm 4) (dNil)))) (dNil)))))) (dNil)))) (dNil)))
  (dSeq (dIf (dAnd (dBool (dOp dNe (dImm 2) (dTup (dNil)))) (dBool (dOp dEq (dVal (dCallH 5 d__law_draw 0 (dCons (dC (.int 3)) (dNil)))) (dC (.int 0))))) (dApp 5 (dTup (dCons (dC (.str (PySem.Str.ofString "key"))) (dCons (dOp dIx (dOp dIx (dImm 2) (dC (.int 0))) (dC (.int 0))) (dNil))))) (dNext))
  (dRet (dTup (dCons (dVal (dCallH 4 d__law_when 0 (dCons (dImm 1) (dCons (dImm 3) (dCons (dC (.bool false)) (dNil)))))) (dCons (d1 dTuple (dRd 5)) (dNil))))))
def d__law_one_deed : Rho → Out :=
  dSeq (dSet 4 (dVal (dCallH 2 d__law_any 0 (dCons (dLst (dCons (dC (.str (PySem.Str.ofString "print"))) (dCons (dC (.str (PySem.Str.ofString "print"))) (dCons (dC (.str (PySem.Str.ofString "clear"))) (dCons (dC (.str (PySem.Str.ofString "roll"))) (dNil)))))) (dNil)))))
  (dSeq (dIf (dBool (dOp dEq (dImm 4) (dC (.str (PySem.Str.ofString "clear"))))) (dRet (dTup (dCons (dImm 4) (dCons (dVal (dCallH 5 d__law_draw 0 (dCons (dImm 3) (dNil)))) (dNil))))) (dNext))
  (dSeq (dIf (dAnd (dBool (dOp dEq (dImm 4) (dC (.str (PySem.Str.ofString "roll"))))) (dBool (dOp (dCmp fun i j => decide (j < i)) (dImm 3) (dC (.int 1))))) (dSeq (dSet 5 (dVal (dCallH 5 d__law_draw 0 (dCons (dImm 3) (dNil)))))
  (dRet (dTup (dCons (dImm 4) (dCons (dImm 5) (dCons (dOp dMod (d1 dInt (dOp dAdd (dImm 5) (dC (.int 1)))) (dImm 3)) (dNil))))))) (dNext))
  (dSeq (dSet 6 (dLst (dCatN (dLst (dCons (dVal (dCallH 4 d__law_sum 0 (dCons (dImm 3) (dNil)))) (dNil))) (dVal (dCallH 2 d__law_any 0 (dCons (dLst (dCons (dLst (dNil)) (dCons (dLst (dCons (dTup (dCons (dC (.str (PySem.Str.ofString "word"))) (dCons (dC (.str (PySem.Str.ofString "sum"))) (dNil)))) (dNil))) (dCons (dLst (dCons (dTup (dCons (dC (.str (PySem.Str.ofString "number"))) (dCons (dC (.int 7)) (dNil)))) (dNil))) (dNil))))) (dNil)))))))
  (dSeq (dSet 6 (dLst (dCatN (dImm 6) (dLst (dIfE (dAnd (dBool (dOp dNe (dImm 1) (dTup (dNil)))) (dBool (dOp dEq (dVal (dCallH 5 d__law_draw 0 (dCons (dC (.int 2)) (dNil)))) (dC (.int 0))))) (dCons (dTup (dCons (dC (.str (PySem.Str.ofString "key"))) (dCons (dOp dIx (dOp dIx (dImm 1) (dC (.int 0))) (dC (.int 0))) (dNil)))) (dNil)) (dNil))))))
  (dRet (dTup (dCons (dC (.str (PySem.Str.ofString "print"))) (dCons (dVal (dCallH 4 d__law_when 0 (dCons (dC (.int 0)) (dCons (dImm 2) (dCons (dC (.bool true)) (dNil)))))) (dCons (d1 dTuple (dImm 6)) (dNil))))))))))
def c__law_board_1 : Rho → R (List D) :=
  dLc [10] (dRng1 (dOp dAdd (dC (.int 1)) (dVal (dCallH 5 d__law_draw 0 (dCons (dImm 1) (dNil)))))) (bName 10) (dYes) (dVal (dCallH 5 d__law_add 0 (dCons (dImm 2) (dCons (dImm 5) (dCons (dImm 3) (dNil))))))
def c__law_board_2 : Rho → R (List D) :=
  dLc [10] (dRng1 (dVal (dCallH 5 d__law_draw 0 (dCons (dC (.int 2)) (dNil))))) (bName 10) (dYes) (dVal (dCallH 6 d__law_list 0 (dCons (dImm 2) (dCons (dImm 4) (dCons (dImm 5) (dCons (dImm 3) (dNil)))))))
def c__law_board_3 : Rho → R (List D) :=
  dLc [10] (dRng1 (dOp dAdd (dC (.int 1)) (dVal (dCallH 5 d__law_draw 0 (dCons (dImm 1) (dNil)))))) (bName 10) (dYes) (dVal (dCallH 7 d__law_one_deed 0 (dCons (dImm 4) (dCons (dImm 5) (dCons (dImm 3) (dNil))))))
def b__law_board_1 : Rho → Out :=
  dSeq (dApp 8 (d1 dTuple (dLst (c__law_board_3))))
  (dKill [9] dNext)
def f__law_board_1 : Rho → Out :=
  dFor (dRng1 (dOp dAdd (d1 dLen (dImm 4)) (dC (.int 1)))) (bName 9) b__law_board_1
def d__law_board : Rho → Out :=
  dSeq (dAsg (bTup (bCons (bName 2) (bCons (bName 3) (bNil)))) (dTup (dCons (dOp dAdd (dC (.int 2)) (dVal (dCallH 5 d__law_draw 0 (dCons (dC (.int 2)) (dNil))))) (dCons (dOp dAdd (dC (.int 1)) (dVal (dCallH 5 d__law_draw 0 (dCons (dC (.int 3)) (dNil))))) (dNil)))))
  (dSeq (dSet 4 (dIfE (dBool (dOp dEq (dVal (dCallH 5 d__law_draw 0 (dCons (dC (.int 2)) (dNil)))) (dC (.int 0)))) (dTup (dCons (dTup (dCons (dVal (dCallH 5 d__law_draw 0 (dCons (dImm 2) (dNil)))) (dNil))) (dNil))) (dTup (dNil))))
  (dSeq (dSet 5 (dTup (dNil)))
  (dSeq (dIf (dBool (dOp dEq (dVal (dCallH 5 d__law_draw 0 (dCons (dC (.int 2)) (dNil)))) (dC (.int 0)))) (dSet 5 (dTup (dCons (dTup (dCons (dVal (dCallH 5 d__law_draw 0 (dCons (dImm 2) (dNil)))) (dCons (dVal (dCallH 2 d__law_any 0 (dCons (dLst (dCons (dC (.str (PySem.Str.ofString "x"))) (dCons (dC (.str (PySem.Str.ofString "2"))) (dNil)))) (dNil)))) (dCons (dVal (dCallH 5 d__law_draw 0 (dCons (dOp dAdd (d1 dLen (dImm 4)) (dC (.int 1))) (dNil)))) (dNil))))) (dNil)))) (dNext))
  (dSeq (dSet 6 (d1 dTuple (dLst (c__law_board_1))))
  (dSeq (dSet 7 (d1 dTuple (dLst (c__law_board_2))))
  (dSeq (dSetN 8 (dNil))
  (dSeq (f__law_board_1)
  (dRet (dTup (dCons (dImm 2) (dCons (dImm 4) (dCons (dImm 5) (dCons (dImm 3) (dCons (dImm 6) (dCons (dImm 7) (dCons (d1 dTuple (dRd 8)) (dNil)))))))))))))))))
def c__law_deck_1 : Rho → R (List D) :=
  dLc [7] (dRng1 (dImm 1)) (bName 7) (dYes) (dVal (dCallH 2 d__law_any 0 (dCons (dLst (dListA (dImm 3))) (dNil))))
def b__law_deck_1 : Rho → Out :=
  dSeq (dSet 6 (dJn (dC (.str (PySem.Str.ofString ""))) (dLst (c__law_deck_1))))
  (dSeq (dApp 4 (dIfE (dAnd (dBool (dOpR dNe 4 (dLst (dNil)))) (dBool (dOp dEq (dVal (dCallH 5 d__law_draw 0 (dCons (dC (.int 2)) (dNil)))) (dC (.int 0))))) (dOp dAdd (dSl (dOpR dIx 4 (d1 dNeg (dC (.int 1)))) (dNo) (dSm (dC (.int 1)))) (dSl (dImm 6) (dSm (dC (.int 1))) (dNo))) (dImm 6)))
  (dKill [5, 6] dNext))
def f__law_deck_1 : Rho → Out :=
  dFor (dRng1 (dVal (dCallH 5 d__law_draw 0 (dCons (dOp dAdd (dImm 2) (dC (.int 1))) (dNil))))) (bName 5) b__law_deck_1
def d__law_deck : Rho → Out :=
  dSeq (dSet 3 (dVal (dCallH 2 d__law_any 0 (dCons (dLst (dCons (dC (.str (PySem.Str.ofString "12x."))) (dCons (dC (.str (PySem.Str.ofString "01x"))) (dCons (dC (.str (PySem.Str.ofString "129x."))) (dCons (dC (.str (PySem.Str.ofString "0123456789x."))) (dNil)))))) (dNil)))))
  (dSeq (dSetN 4 (dNil))
  (dSeq (f__law_deck_1)
  (dRet (d1 dTuple (dRd 4)))))
def d__law_first : Rho → Out :=
  dRet (dTup (dCons (dC .none) (dCons (dOp dMul (dTup (dCons (dC (.bool false)) (dNil))) (d1 dLen (dOp dIx (dImm 0) (dC (.int 2))))) (dNil))))
def b__law_deeds_cost_1 : Rho → Out :=
  dSeq (dIf (dBool (dOp dNe (dOp dIx (dImm 4) (dC (.int 0))) (dC (.str (PySem.Str.ofString "print"))))) (dSet 3 (dOp dAdd (dImm 3) (dOp dIx (dImm 2) (dC (.int 3))))) (dIf (dBool (dVal (dCallV 4 d__law_holds (dCons (dOp dIx (dImm 4) (dC (.int 1))) (dCons (dC (.str (PySem.Str.ofString ""))) (dCons (dImm 1) (dNil))))))) (dSet 3 (dOp dAdd (dImm 3) (dOp dIx (dImm 2) (dC (.int 2))))) (dNext)))
  (dKill [4] dNext)
def f__law_deeds_cost_1 : Rho → Out :=
  dFor (dSrc (dImm 0)) (bName 4) b__law_deeds_cost_1
def d__law_deeds_cost : Rho → Out :=
  dSeq (dSet 3 (dC (.int 0)))
  (dSeq (f__law_deeds_cost_1)
  (dRet (dImm 3)))
def c__law_breaks_1 : Rho → R (List D) :=
  dLc [11] (dSrc (d2 dSumT (dSl (dImm 6) (dSm (dImm 10)) (dNo)) (dTup (dNil)))) (bName 11) (dYes) (dOp dNe (dOp dIx (dImm 4) (dImm 11)) (dOp dIx (dImm 2) (dImm 11)))
def c__law_breaks_2 : Rho → R (List D) :=
  dLc [12, 13] (dSrcZ (dImm 5) (dImm 7)) (bTup (bCons (bName 12) (bCons (bName 13) (bNil)))) (dYes) (dAndV (dImm 12) (dOp dNe (dOp dIx (dImm 13) (dC (.int 2))) (dImm 10)))
def b__law_breaks_1 : Rho → Out :=
  dSeq (dIf (dOr (dBool (dF isNon (dImm 2))) (dBool (d1 dAny (dLst (c__law_breaks_1))))) (dSeq (dSet 9 (dOp dAdd (dImm 9) (dVal (dCallV 5 d__law_deeds_cost (dCons (dOp dIx (dImm 8) (dImm 10)) (dCons (dImm 5) (dCons (dImm 3) (dNil))))))))
  (dSet 5 (d1 dTuple (dLst (c__law_breaks_2))))) (dNext))
  (dKill [10] dNext)
def f__law_breaks_1 : Rho → Out :=
  dFor (dRng1 (dIfE (dBool (dF (fun d => !isNon d) (dImm 4))) (d1 dLen (dImm 6)) (dC (.int 0)))) (bName 10) b__law_breaks_1
def d__law_breaks : Rho → Out :=
  dSeq (dAsg (bTup (bCons (bName 4) (bCons (bName 5) (bNil)))) (dImm 1))
  (dSeq (dPar [6, 7, 8] (aE (dOp dIx (dImm 0) (dC (.int 1))) (aE (dOp dIx (dImm 0) (dC (.int 2))) (aE (dOp dIx (dImm 0) (dC (.int 6))) (aNil)))))
  (dSeq (dSet 9 (dC (.int 0)))
  (dKill [0, 1] (dSeq (f__law_breaks_1)
  (dRet (dTup (dCons (dImm 9) (dCons (dImm 5) (dNil)))))))))
def c__law_card_cost_1 : Rho → R (List D) :=
  dLc [6, 7] (dSrcZ (dImm 5) (dOp dIx (dImm 0) (dC (.int 2)))) (bTup (bCons (bName 6) (bCons (bName 7) (bNil)))) (dYes) (dOrV (dImm 6) (dOp dEq (dOp dIx (dImm 2) (dOp dIx (dImm 7) (dC (.int 0)))) (dOp dIx (dImm 7) (dC (.int 1)))))
def c__law_card_cost_2 : Rho → R (List D) :=
  dLc [8] (dSrc (dOp dIx (dImm 0) (dC (.int 4)))) (bName 8) (dBool (dVal (dCallV 4 d__law_holds (dCons (dOp dIx (dImm 8) (dC (.int 0))) (dCons (dImm 2) (dCons (dImm 5) (dNil))))))) (dC (.int 1))
def c__law_card_cost_3 : Rho → R (List D) :=
  dLc [9, 10] (dSrc (dOp dIx (dImm 0) (dC (.int 5)))) (bTup (bCons (bName 9) (bCons (bName 10) (bNil)))) (dBool (dVal (dCallV 4 d__law_holds (dCons (dImm 9) (dCons (dImm 2) (dCons (dImm 5) (dNil))))))) (dC (.int 1))
def d__law_card_cost : Rho → Out :=
  dSeq (dAsg (bTup (bCons (bName 4) (bCons (bName 5) (bNil)))) (dVal (dCallV 14 d__law_breaks (dCons (dImm 0) (dCons (dImm 1) (dCons (dImm 2) (dCons (dImm 3) (dNil))))))))
  (dSeq (dSet 5 (d1 dTuple (dLst (c__law_card_cost_1))))
  (dSeq (dSet 4 (dOp dAdd (dOp dAdd (dImm 4) (dOp dIx (dImm 3) (dC (.int 0)))) (dOp dMul (dOp dIx (dImm 3) (dC (.int 1))) (d1 dLen (dLst (c__law_card_cost_2))))))
  (dSeq (dSet 4 (dOp dAdd (dImm 4) (dOp dMul (dOp dIx (dImm 3) (dC (.int 2))) (d1 dLen (dLst (c__law_card_cost_3))))))
  (dRet (dTup (dCons (dImm 4) (dCons (dTup (dCons (dImm 2) (dCons (dImm 5) (dNil)))) (dNil))))))))
def d__law_end_cost : Rho → Out :=
  dSeq (dAsg (bTup (bCons (bName 3) (bCons (bName 4) (bNil)))) (dVal (dCallV 14 d__law_breaks (dCons (dImm 0) (dCons (dImm 1) (dCons (dC .none) (dCons (dImm 2) (dNil))))))))
  (dRet (dOp dAdd (dImm 3) (dVal (dCallV 5 d__law_deeds_cost (dCons (dOp dIx (dOp dIx (dImm 0) (dC (.int 6))) (d1 dLen (dOp dIx (dImm 0) (dC (.int 1))))) (dCons (dImm 4) (dCons (dImm 2) (dNil))))))))
def b__law_costs_1 : Rho → Out :=
  dSeq (dAsg (bTup (bCons (bName 6) (bCons (bName 3) (bNil)))) (dVal (dCallV 11 d__law_card_cost (dCons (dImm 0) (dCons (dImm 3) (dCons (dImm 5) (dCons (dImm 2) (dNil))))))))
  (dSeq (dApp 4 (dImm 6))
  (dKill [5, 6] dNext))
def f__law_costs_1 : Rho → Out :=
  dFor (dSrc (dImm 1)) (bName 5) b__law_costs_1
def d__law_costs : Rho → Out :=
  dSeq (dParEN 3 4 (dVal (dCallV 1 d__law_first (dCons (dImm 0) (dNil)))) (dNil))
  (dSeq (f__law_costs_1)
  (dRet (dOp dAdd (d1 dTuple (dRd 4)) (dTup (dCons (dVal (dCallV 5 d__law_end_cost (dCons (dImm 0) (dCons (dImm 3) (dCons (dImm 2) (dNil)))))) (dNil))))))
def c__law_prices_1 : Rho → R (List D) :=
  dLc [1] (dRng1 (dC (.int 4))) (bName 1) (dYes) (dVal (dCallH 2 d__law_any 0 (dCons (dLst (dCons (dC (.int 0)) (dCons (dC (.int 1)) (dCons (dC (.int 5)) (dCons (dVal (dCallH 5 d__law_draw 0 (dCons (dC (.int 100)) (dNil)))) (dCons (dOp dPow (dC (.int 10)) (dC (.int 6))) (dNil))))))) (dNil))))
def d__law_prices : Rho → Out :=
  dRet (d1 dTuple (dLst (c__law_prices_1)))
def b__law_by_counts_1 : Rho → Out :=
  dSeq (dSet 3 (dOp dAdd (dImm 3) (dOp dMul (dImm 7) (dIfE (dBool (dOp dEq (dOp dIx (dImm 6) (dC (.int 0))) (dC (.str (PySem.Str.ofString "print"))))) (dOp dIx (dImm 2) (dC (.int 2))) (dOp dIx (dImm 2) (dC (.int 3)))))))
  (dKill [6, 7] dNext)
def f__law_by_counts_1 : Rho → Out :=
  dFor (dSrcZ (dImm 4) (dImm 5)) (bTup (bCons (bName 6) (bCons (bName 7) (bNil)))) b__law_by_counts_1
def b__law_by_counts_2 : Rho → Out :=
  dKill [0, 1] (dSeq (f__law_by_counts_1)
  (dKill [4, 5] dNext))
def f__law_by_counts_2 : Rho → Out :=
  dFor (dSrcZ (dOp dIx (dImm 0) (dC (.int 6))) (dVal (dCallV 9 d_deeds_done (dCons (dImm 0) (dCons (dImm 1) (dNil)))))) (bTup (bCons (bName 4) (bCons (bName 5) (bNil)))) b__law_by_counts_2
def d__law_by_counts : Rho → Out :=
  dSeq (dSet 3 (dOp dAdd (dOp dAdd (dOp dMul (dOp dIx (dImm 2) (dC (.int 0))) (d1 dLen (dImm 1))) (dOp dMul (dOp dIx (dImm 2) (dC (.int 1))) (d1 dSum (dVal (dCallV 2 d_adds_done (dCons (dImm 0) (dCons (dImm 1) (dNil)))))))) (dOp dMul (dOp dIx (dImm 2) (dC (.int 2))) (d1 dSum (dVal (dCallV 2 d_lists_done (dCons (dImm 0) (dCons (dImm 1) (dNil)))))))))
  (dSeq (f__law_by_counts_2)
  (dRet (dImm 3)))
def cl__law_word : List ClD := ⟨(PySem.Str.ofString "CardError"), (some 2), (fun x => dSeq (dSetN 3 (dQ (fCons (fIs known (PySem.Str.ofString "NoBoard")) (fCons (fIs known (PySem.Str.ofString "NoDeck")) (fCons (fIs known (PySem.Str.ofString "NoPrices")) (fNil)))) x)) (dSet 1 (dIfE (dBool (dOp dEq (dOpLO dCount 3 (dC (.bool true))) (dC (.int 1)))) (dOp dIx (dLst (dCons (dC (.str (PySem.Str.ofString "board"))) (dCons (dC (.str (PySem.Str.ofString "deck"))) (dCons (dC (.str (PySem.Str.ofString "prices"))) (dNil))))) (dOpLO dIdx 3 (dC (.bool true)))) (dC (.str (PySem.Str.ofString "other"))))))⟩ :: []
def dLamL__law_word (T : List (Addr × Str)) (db : Rho → R D) : Rho → R D := dLam 4 1 (PySem.Str.ofString "CardError") known cl__law_word (PySem.Str.ofString "let") T 0 db
def b_law_1 (T : List (Addr × Str)) : Rho → Out :=
  dSeq (dAsg (bTup (bCons (bName 3) (bCons (bName 4) (bNil)))) (dTup (dCons (dVal (dCallH 11 d__law_board 1 (dCons (dC (.int 3)) (dNil)))) (dCons (dVal (dCallH 2 d__law_prices 1 (dNil))) (dNil)))))
  (dSeq (dSet 5 (dVal (dCallH 8 d__law_deck 1 (dCons (dOp dIx (dImm 3) (dC (.int 0))) (dCons (dC (.int 8)) (dNil))))))
  (dSeq (dSet 6 (dVal (dCallV 7 d__law_costs (dCons (dImm 3) (dCons (dImm 5) (dCons (dImm 4) (dNil)))))))
  (dSeq (dIf (dOr (dBool (dOp dNe (dVal (dCallV 3 d_costs_of (dCons (dImm 3) (dCons (dImm 5) (dCons (dImm 4) (dNil)))))) (dImm 6))) (dBool (dOp dNe (dVal (dCallV 3 d_cost_of (dCons (dImm 3) (dCons (dImm 5) (dCons (dImm 4) (dNil)))))) (d1 dSum (dImm 6))))) (dRet (dC (.bool false))) (dNext))
  (dSeq (dIf (dOr (dBool (dOp dNe (dVal (dCallV 8 d__law_by_counts (dCons (dImm 3) (dCons (dImm 5) (dCons (dImm 4) (dNil)))))) (d1 dSum (dImm 6)))) (dBool (dOp dIsNotB (dVal (dCallV 2 d_are_prices (dCons (dImm 4) (dNil)))) (dC (.bool true))))) (dRet (dC (.bool false))) (dNext))
  (dSeq (dSet 7 (dLst (dCons (dC .none) (dCons (dSl (dImm 4) (dNo) (dSm (dC (.int 3)))) (dCons (dLst (dListA (dImm 4))) (dCons (dOp dAdd (dImm 4) (dTup (dCons (dC (.int 0)) (dNil)))) (dCons (dOp dAdd (dTup (dCons (d1 dNeg (dC (.int 1))) (dNil))) (dSl (dImm 4) (dSm (dC (.int 1))) (dNo))) (dCons (dOp dAdd (dTup (dCons (dC (.bool true)) (dNil))) (dSl (dImm 4) (dSm (dC (.int 1))) (dNo))) (dCons (dC (.int 0)) (dNil))))))))))
  (dSeq (dSet 8 (dVal (dCallH 2 d__law_any 1 (dCons (dImm 7) (dNil)))))
  (dSeq (dSet 9 (dVal (dCallH 2 d__law_any 1 (dCons (dLst (dCons (dImm 8) (dCons (dOp dAdd (dSl (dImm 4) (dNo) (dSm (dC (.int 3)))) (dTup (dCons (dOp dAdd (dOp dPow (dC (.int 10)) (dC (.int 6))) (dC (.int 1))) (dNil)))) (dNil)))) (dNil)))))
  (dSeq (dIf (dOr (dBool (dOp dIsNotB (dVal (dCallV 2 d_are_prices (dCons (dImm 8) (dNil)))) (dC (.bool false)))) (dBool (dOp dIsNotB (dVal (dCallV 2 d_are_prices (dCons (dImm 9) (dNil)))) (dC (.bool false))))) (dRet (dC (.bool false))) (dNext))
  (dSeq (dSet 10 (dVal (dCallH 2 d__law_any 1 (dCons (dLst (dCons (dC .none) (dCons (dSl (dImm 3) (dNo) (dSm (dC (.int 6)))) (dCons (dLst (dListA (dImm 3))) (dCons (dOp dAdd (dTup (dCons (dC (.int 9)) (dNil))) (dSl (dImm 3) (dSm (dC (.int 1))) (dNo))) (dNil)))))) (dNil)))))
  (dSeq (dSet 11 (dVal (dCallH 2 d__law_any 1 (dCons (dLst (dCons (dC .none) (dCons (dLst (dListA (dImm 5))) (dCons (dOp dAdd (dImm 5) (dTup (dCons (dC (.str (PySem.Str.ofString "1"))) (dNil)))) (dCons (dOp dAdd (dImm 5) (dTup (dCons (dC (.int 12)) (dNil)))) (dCons (dC (.str (PySem.Str.ofString "12"))) (dNil))))))) (dNil)))))
  (dSeq (dSetN 12 (dCons (dLamL__law_word T (dVal (dCallV 3 d_costs_of (dCons (dImm 10) (dCons (dC .none) (dCons (dC .none) (dNil))))))) (dNil)))
  (dSeq (dApp 12 (dLamL__law_word T (dVal (dCallV 3 d_cost_of (dCons (dImm 3) (dCons (dImm 11) (dCons (dC .none) (dNil))))))))
  (dSeq (dApp 12 (dLamL__law_word T (dVal (dCallV 3 d_costs_of (dCons (dImm 3) (dCons (dImm 5) (dCons (dImm 9) (dNil))))))))
  (dSeq (dIf (dBool (dOpR dNe 12 (dLst (dCons (dC (.str (PySem.Str.ofString "board"))) (dCons (dC (.str (PySem.Str.ofString "deck"))) (dCons (dC (.str (PySem.Str.ofString "prices"))) (dNil))))))) (dRet (dC (.bool false))) (dNext))
  (dKill [2, 3, 4, 5, 6, 7, 8, 9, 10, 11, 12] dNext)))))))))))))))
def f_law_1 (T : List (Addr × Str)) : Rho → Out :=
  dFor (dRng1 (dC (.int 6))) (bName 2) (b_law_1 T)
def d_law (T : List (Addr × Str)) : Rho → Out :=
  dSeq (dSetN 1 (dNew (dCallS 3 d__law_hand 0)))
  (dSeq ((f_law_1 T))
  (dRet (dC (.bool true))))
--PLAIN
structure Fct (P : Program) (w : World) (K : PySem.W.Frag) (mg : Str → Option Value) (base : Heap) : Prop where
  a_NoBoard : ExA K mg known (PySem.Str.ofString "NoBoard")
  a_NoDeck : ExA K mg known (PySem.Str.ofString "NoDeck")
  a_NoPrices : ExA K mg known (PySem.Str.ofString "NoPrices")
  b_abs : mg (PySem.Str.ofString "abs") = none
  b_all : mg (PySem.Str.ofString "all") = none
  b_any : mg (PySem.Str.ofString "any") = none
  b_bool : mg (PySem.Str.ofString "bool") = none
  b_enumerate : mg (PySem.Str.ofString "enumerate") = none
  b_int : mg (PySem.Str.ofString "int") = none
  b_isinstance : mg (PySem.Str.ofString "isinstance") = none
  b_len : mg (PySem.Str.ofString "len") = none
  b_list : mg (PySem.Str.ofString "list") = none
  b_min : mg (PySem.Str.ofString "min") = none
  b_range : mg (PySem.Str.ofString "range") = none
  b_set : mg (PySem.Str.ofString "set") = none
  b_sorted : mg (PySem.Str.ofString "sorted") = none
  b_str : mg (PySem.Str.ofString "str") = none
  b_sum : mg (PySem.Str.ofString "sum") = none
  b_tuple : mg (PySem.Str.ofString "tuple") = none
  b_zip : mg (PySem.Str.ofString "zip") = none
  i_KINDS : ∃ t, mg (PySem.Str.ofString "KINDS") = some (.int 4 t)
  i_MOST_ADDS : ∃ t, mg (PySem.Str.ofString "MOST_ADDS") = some (.int 12 t)
  i_MOST_CARDS : ∃ t, mg (PySem.Str.ofString "MOST_CARDS") = some (.int 400 t)
  i_MOST_COUNTERS : ∃ t, mg (PySem.Str.ofString "MOST_COUNTERS") = some (.int 6 t)
  i_MOST_DEEDS : ∃ t, mg (PySem.Str.ofString "MOST_DEEDS") = some (.int 12 t)
  i_MOST_FACTOR : ∃ t, mg (PySem.Str.ofString "MOST_FACTOR") = some (.int 99 t)
  i_MOST_FIELD : ∃ t, mg (PySem.Str.ofString "MOST_FIELD") = some (.int 6 t)
  i_MOST_ITEMS : ∃ t, mg (PySem.Str.ofString "MOST_ITEMS") = some (.int 6 t)
  i_MOST_KEYS : ∃ t, mg (PySem.Str.ofString "MOST_KEYS") = some (.int 2 t)
  i_MOST_LATCHES : ∃ t, mg (PySem.Str.ofString "MOST_LATCHES") = some (.int 3 t)
  i_MOST_LEVELS : ∃ t, mg (PySem.Str.ofString "MOST_LEVELS") = some (.int 2 t)
  i_MOST_LISTS : ∃ t, mg (PySem.Str.ofString "MOST_LISTS") = some (.int 4 t)
  i_MOST_NAME : ∃ t, mg (PySem.Str.ofString "MOST_NAME") = some (.int 8 t)
  i_MOST_NUMBER : ∃ t, mg (PySem.Str.ofString "MOST_NUMBER") = some (.int 1000000000 t)
  i_MOST_PAIRS : ∃ t, mg (PySem.Str.ofString "MOST_PAIRS") = some (.int 4 t)
  i_MOST_PRICE : ∃ t, mg (PySem.Str.ofString "MOST_PRICE") = some (.int 1000000 t)
  i_MOST_TESTS : ∃ t, mg (PySem.Str.ofString "MOST_TESTS") = some (.int 3 t)
  i_MOST_WIDTH : ∃ t, mg (PySem.Str.ofString "MOST_WIDTH") = some (.int 8 t)
  m_CardError : ExM K mg (PySem.Str.ofString "CardError") known (PySem.Str.ofString "CardError")
  s_ADD : ∃ t, mg (PySem.Str.ofString "ADD") = some (.str (PySem.Str.ofString "add") t)
  s_CLEAR : ∃ t, mg (PySem.Str.ofString "CLEAR") = some (.str (PySem.Str.ofString "clear") t)
  s_DEED : ∃ t, mg (PySem.Str.ofString "DEED") = some (.str (PySem.Str.ofString "deed") t)
  s_FIELD : ∃ t, mg (PySem.Str.ofString "FIELD") = some (.str (PySem.Str.ofString "field") t)
  s_KEY : ∃ t, mg (PySem.Str.ofString "KEY") = some (.str (PySem.Str.ofString "key") t)
  s_LATCH : ∃ t, mg (PySem.Str.ofString "LATCH") = some (.str (PySem.Str.ofString "latch") t)
  s_LETTERS : ∃ t, mg (PySem.Str.ofString "LETTERS") = some (.str (PySem.Str.ofString "abcdefghijklmnopqrstuvwxyz") t)
  s_LIST : ∃ t, mg (PySem.Str.ofString "LIST") = some (.str (PySem.Str.ofString "list") t)
  s_NUMBER : ∃ t, mg (PySem.Str.ofString "NUMBER") = some (.str (PySem.Str.ofString "number") t)
  s_OFF : ∃ t, mg (PySem.Str.ofString "OFF") = some (.str (PySem.Str.ofString "0") t)
  s_ON : ∃ t, mg (PySem.Str.ofString "ON") = some (.str (PySem.Str.ofString "1") t)
  s_PRINT : ∃ t, mg (PySem.Str.ofString "PRINT") = some (.str (PySem.Str.ofString "print") t)
  s_ROLL : ∃ t, mg (PySem.Str.ofString "ROLL") = some (.str (PySem.Str.ofString "roll") t)
  s_SIGN : ∃ t, mg (PySem.Str.ofString "SIGN") = some (.str (PySem.Str.ofString "sign") t)
  s_SIGNS : ∃ t, mg (PySem.Str.ofString "SIGNS") = some (.str (PySem.Str.ofString "0123456789x.") t)
  s_SUM : ∃ t, mg (PySem.Str.ofString "SUM") = some (.str (PySem.Str.ofString "sum") t)
  s_WORD : ∃ t, mg (PySem.Str.ofString "WORD") = some (.str (PySem.Str.ofString "word") t)
  x0_NoBoard : ExK0 K mg (PySem.Str.ofString "NoBoard")
  x0_NoDeck : ExK0 K mg (PySem.Str.ofString "NoDeck")
  x0_NoPrices : ExK0 K mg (PySem.Str.ofString "NoPrices")
section
variable {P : Program} {w : World} {K : PySem.W.Frag} {mg : Str → Option Value} {base : Heap}
theorem ok_is_integer {f : Addr} (E : Fct P w K mg base)  (FD : ∃ fd, FunD K (PySem.Str.ofString "is_integer") (PySem.Str.ofString "is_integer") (defArgs s_is_integer) (defBody s_is_integer) (defScope s_is_integer) [] [] f fd) (g : mg (PySem.Str.ofString "is_integer") = some (.ref f)) : FnK P w K mg base (PySem.Str.ofString "is_integer") 1 1 1 d_is_integer := by
  refine fnK_of FD g sc_is_integer rfl rfl (fun _ _ _ _ _ _ us hl => match us, hl with | [_], _ => rfl) fun cdv A outer s H E1 hr => ?_
  have hN := (sc_is_integer).nd
  exact (jss_one (js_ret (je_and (je_isi kit_int (by rfl) E.b_isinstance (by rfl) E.b_int (jb_je (je_var 0)) (by rfl)) (je_one (je_not (je_isi kit_bool (by rfl) E.b_isinstance (by rfl) E.b_bool (jb_je (je_var 0)) (by rfl)))))))
theorem ok_is_within {f : Addr} (E : Fct P w K mg base) (F_is_integer : FnK P w K mg base (PySem.Str.ofString "is_integer") 1 1 1 d_is_integer) (FD : ∃ fd, FunD K (PySem.Str.ofString "is_within") (PySem.Str.ofString "is_within") (defArgs s_is_within) (defBody s_is_within) (defScope s_is_within) [] [] f fd) (g : mg (PySem.Str.ofString "is_within") = some (.ref f)) : FnK P w K mg base (PySem.Str.ofString "is_within") 2 3 3 d_is_within := by
  refine fnK_of FD g sc_is_within rfl rfl (fun _ _ _ _ _ _ us hl => match us, hl with | [_, _, _], _ => rfl) fun cdv A outer s H E1 hr => ?_
  have hN := (sc_is_within).nd
  exact (jss_one (js_ret (je_and (je_res (jr_call F_is_integer (hr.mono (by decide)) (by rfl) (takes_of rfl rfl rfl rfl) (jl_cons (je_var 0) jl_nil))) (je_one (je_chain o_le o_le (je_var 1) (je_var 0) (jb_je (je_var 2)))))))
theorem ok_is_tuple_of {f : Addr} (E : Fct P w K mg base)  (FD : ∃ fd, FunD K (PySem.Str.ofString "is_tuple_of") (PySem.Str.ofString "is_tuple_of") (defArgs s_is_tuple_of) (defBody s_is_tuple_of) (defScope s_is_tuple_of) [] [] f fd) (g : mg (PySem.Str.ofString "is_tuple_of") = some (.ref f)) : FnK P w K mg base (PySem.Str.ofString "is_tuple_of") 1 2 2 d_is_tuple_of := by
  refine fnK_of FD g sc_is_tuple_of rfl rfl (fun _ _ _ _ _ _ us hl => match us, hl with | [_, _], _ => rfl) fun cdv A outer s H E1 hr => ?_
  have hN := (sc_is_tuple_of).nd
  exact (jss_one (js_ret (je_and (je_isi kit_tup (by rfl) E.b_isinstance (by rfl) E.b_tuple (jb_je (je_var 0)) (by rfl)) (je_one (je_cmp (o_eq hr.units) (je_len (by rfl) E.b_len (jb_je (je_var 0))) (jb_je (je_var 1)))))))
theorem ok_is_few {f : Addr} (E : Fct P w K mg base)  (FD : ∃ fd, FunD K (PySem.Str.ofString "is_few") (PySem.Str.ofString "is_few") (defArgs s_is_few) (defBody s_is_few) (defScope s_is_few) [] [] f fd) (g : mg (PySem.Str.ofString "is_few") = some (.ref f)) : FnK P w K mg base (PySem.Str.ofString "is_few") 1 2 2 d_is_few := by
  refine fnK_of FD g sc_is_few rfl rfl (fun _ _ _ _ _ _ us hl => match us, hl with | [_, _], _ => rfl) fun cdv A outer s H E1 hr => ?_
  have hN := (sc_is_few).nd
  exact (jss_one (js_ret (je_and (je_isi kit_tup (by rfl) E.b_isinstance (by rfl) E.b_tuple (jb_je (je_var 0)) (by rfl)) (je_one (je_cmp o_le (je_len (by rfl) E.b_len (jb_je (je_var 0))) (jb_je (je_var 1)))))))
theorem ok_is_sign {f : Addr} (E : Fct P w K mg base)  (FD : ∃ fd, FunD K (PySem.Str.ofString "is_sign") (PySem.Str.ofString "is_sign") (defArgs s_is_sign) (defBody s_is_sign) (defScope s_is_sign) [] [] f fd) (g : mg (PySem.Str.ofString "is_sign") = some (.ref f)) : FnK P w K mg base (PySem.Str.ofString "is_sign") 1 1 1 d_is_sign := by
  refine fnK_of FD g sc_is_sign rfl rfl (fun _ _ _ _ _ _ us hl => match us, hl with | [_], _ => rfl) fun cdv A outer s H E1 hr => ?_
  have hN := (sc_is_sign).nd
  exact (jss_one (js_ret (je_and (je_isi kit_str (by rfl) E.b_isinstance (by rfl) E.b_str (jb_je (je_var 0)) (by rfl)) (je_and (je_cmp (o_eq hr.units) (je_len (by rfl) E.b_len (jb_je (je_var 0))) (jb_je je_int)) (je_one (je_cmp (o_in (hu65 hr)) (je_var 0) (jb_je (je_gstr (by rfl) E.s_SIGNS))))))))
theorem ok_is_width {f : Addr} (E : Fct P w K mg base) (F_is_within : FnK P w K mg base (PySem.Str.ofString "is_within") 2 3 3 d_is_within) (FD : ∃ fd, FunD K (PySem.Str.ofString "is_width") (PySem.Str.ofString "is_width") (defArgs s_is_width) (defBody s_is_width) (defScope s_is_width) [] [] f fd) (g : mg (PySem.Str.ofString "is_width") = some (.ref f)) : FnK P w K mg base (PySem.Str.ofString "is_width") 3 1 1 d_is_width := by
  refine fnK_of FD g sc_is_width rfl rfl (fun _ _ _ _ _ _ us hl => match us, hl with | [_], _ => rfl) fun cdv A outer s H E1 hr => ?_
  have hN := (sc_is_width).nd
  exact (jss_one (js_ret (je_res (jr_call F_is_within (hr.mono (by decide)) (by rfl) (takes_of rfl rfl rfl rfl) (jl_cons (je_var 0) (jl_cons je_int (jl_cons (je_gint (by rfl) E.i_MOST_WIDTH) jl_nil)))))))
theorem ok_raw_is_card {f : Addr} (E : Fct P w K mg base)  (FD : ∃ fd, FunD K (PySem.Str.ofString "raw_is_card") (PySem.Str.ofString "raw_is_card") (defArgs s_raw_is_card) (defBody s_raw_is_card) (defScope s_raw_is_card) [] [] f fd) (g : mg (PySem.Str.ofString "raw_is_card") = some (.ref f)) : FnK P w K mg base (PySem.Str.ofString "raw_is_card") 1 3 2 d_raw_is_card := by
  refine fnK_of FD g sc_raw_is_card rfl rfl (fun _ _ _ _ _ _ us hl => match us, hl with | [_, _], _ => rfl) fun cdv A outer s H E1 hr => ?_
  have hN := (sc_raw_is_card).nd
  exact (jss_one (js_ret (je_and (je_isi kit_str (by rfl) E.b_isinstance (by rfl) E.b_str (jb_je (je_var 1)) (by rfl)) (je_and (je_cmp (o_eq hr.units) (je_len (by rfl) E.b_len (jb_je (je_var 1))) (jb_je (je_var 0))) (je_one (je_all rfl (by rfl) E.b_all (jb_je (je_new (jn_lc rfl hN (ji_any (je_var 1)) (blkOk_by (own := [((PySem.Str.ofString "sign"), 2)]) (show blkC N_raw_is_card (defScope s_raw_is_card) _ _ = true from by decide +kernel)) (fun b => (jg_name 2 hN)) (fun b => jts_nil) (fun b => (je_cmp (o_in (hu65 hr)) (je_var 2) (jb_je (je_gstr (by rfl) E.s_SIGNS)))))))))))))
theorem ok_raw_is_deck {f : Addr} (E : Fct P w K mg base) (F_is_few : FnK P w K mg base (PySem.Str.ofString "is_few") 1 2 2 d_is_few) (F_raw_is_card : FnK P w K mg base (PySem.Str.ofString "raw_is_card") 1 3 2 d_raw_is_card) (FD : ∃ fd, FunD K (PySem.Str.ofString "raw_is_deck") (PySem.Str.ofString "raw_is_deck") (defArgs s_raw_is_deck) (defBody s_raw_is_deck) (defScope s_raw_is_deck) [] [] f fd) (g : mg (PySem.Str.ofString "raw_is_deck") = some (.ref f)) : FnK P w K mg base (PySem.Str.ofString "raw_is_deck") 2 3 2 d_raw_is_deck := by
  refine fnK_of FD g sc_raw_is_deck rfl rfl (fun _ _ _ _ _ _ us hl => match us, hl with | [_, _], _ => rfl) fun cdv A outer s H E1 hr => ?_
  have hN := (sc_raw_is_deck).nd
  exact (jss_one (js_ret (je_and (je_res (jr_call F_is_few (hr.mono (by decide)) (by rfl) (takes_of rfl rfl rfl rfl) (jl_cons (je_var 1) (jl_cons (je_gint (by rfl) E.i_MOST_CARDS) jl_nil)))) (je_one (je_all rfl (by rfl) E.b_all (jb_je (je_new (jn_lc rfl hN (ji_any (je_var 1)) (blkOk_by (own := [((PySem.Str.ofString "card"), 2)]) (show blkC N_raw_is_deck (defScope s_raw_is_deck) _ _ = true from by decide +kernel)) (fun b => (jg_name 2 hN)) (fun b => jts_nil) (fun b => (je_res (jr_call F_raw_is_card (hr.mono (by decide)) (by rfl) takes0 (jl_cons (je_var 0) (jl_cons (je_var 2) jl_nil)))))))))))))
theorem ok_raw_is_field {f : Addr} (E : Fct P w K mg base) (F_is_within : FnK P w K mg base (PySem.Str.ofString "is_within") 2 3 3 d_is_within) (F_is_tuple_of : FnK P w K mg base (PySem.Str.ofString "is_tuple_of") 1 2 2 d_is_tuple_of) (FD : ∃ fd, FunD K (PySem.Str.ofString "raw_is_field") (PySem.Str.ofString "raw_is_field") (defArgs s_raw_is_field) (defBody s_raw_is_field) (defScope s_raw_is_field) [] [] f fd) (g : mg (PySem.Str.ofString "raw_is_field") = some (.ref f)) : FnK P w K mg base (PySem.Str.ofString "raw_is_field") 3 2 2 d_raw_is_field := by
  refine fnK_of FD g sc_raw_is_field rfl rfl (fun _ _ _ _ _ _ us hl => match us, hl with | [_, _], _ => rfl) fun cdv A outer s H E1 hr => ?_
  have hN := (sc_raw_is_field).nd
  exact (jss_cons (js_if (jt_jw (jw_or (jt_not (jt_val (je_res (jr_call F_is_tuple_of (hr.mono (by decide)) (by rfl) (takes_of rfl rfl rfl rfl) (jl_cons (je_var 1) (jl_cons je_int jl_nil)))))) (jw_or1 (jt_not (jt_val (je_res (jr_call F_is_within (hr.mono (by decide)) (by rfl) (takes_of rfl rfl rfl rfl) (jl_cons (je_ix (je_var 1) (jb_je je_int)) (jl_cons je_int (jl_cons (je_bin o_sub (je_var 0) (jb_je je_int)) jl_nil))))))))))
  (jss_one (js_ret je_bl))
  jss_nil)
  (jss_one (js_ret (je_res (jr_call F_is_within (hr.mono (by decide)) (by rfl) (takes_of rfl rfl rfl rfl) (jl_cons (je_ix (je_var 1) (jb_je je_int)) (jl_cons je_int (jl_cons (je_min2 rfl (by rfl) E.b_min (je_gint (by rfl) E.i_MOST_FIELD) (je_bin o_sub (je_var 0) (jb_je (je_ix (je_var 1) (jb_je je_int))))) jl_nil))))))))
theorem ok_is_name {f : Addr} (E : Fct P w K mg base)  (FD : ∃ fd, FunD K (PySem.Str.ofString "is_name") (PySem.Str.ofString "is_name") (defArgs s_is_name) (defBody s_is_name) (defScope s_is_name) [] [] f fd) (g : mg (PySem.Str.ofString "is_name") = some (.ref f)) : FnK P w K mg base (PySem.Str.ofString "is_name") 1 2 1 d_is_name := by
  refine fnK_of FD g sc_is_name rfl rfl (fun _ _ _ _ _ _ us hl => match us, hl with | [_], _ => rfl) fun cdv A outer s H E1 hr => ?_
  have hN := (sc_is_name).nd
  exact (jss_one (js_ret (je_and (je_isi kit_str (by rfl) E.b_isinstance (by rfl) E.b_str (jb_je (je_var 0)) (by rfl)) (je_and (je_chain o_le o_le je_int (je_len (by rfl) E.b_len (jb_je (je_var 0))) (jb_je (je_gint (by rfl) E.i_MOST_NAME))) (je_one (je_all rfl (by rfl) E.b_all (jb_je (je_new (jn_lc rfl hN (ji_any (je_var 0)) (blkOk_by (own := [((PySem.Str.ofString "sign"), 1)]) (show blkC N_is_name (defScope s_is_name) _ _ = true from by decide +kernel)) (fun b => (jg_name 1 hN)) (fun b => jts_nil) (fun b => (je_cmp (o_in (hu65 hr)) (je_var 1) (jb_je (je_gstr (by rfl) E.s_LETTERS)))))))))))))
theorem ok_is_flag {f : Addr} (E : Fct P w K mg base)  (FD : ∃ fd, FunD K (PySem.Str.ofString "is_flag") (PySem.Str.ofString "is_flag") (defArgs s_is_flag) (defBody s_is_flag) (defScope s_is_flag) [] [] f fd) (g : mg (PySem.Str.ofString "is_flag") = some (.ref f)) : FnK P w K mg base (PySem.Str.ofString "is_flag") 1 1 1 d_is_flag := by
  refine fnK_of FD g sc_is_flag rfl rfl (fun _ _ _ _ _ _ us hl => match us, hl with | [_], _ => rfl) fun cdv A outer s H E1 hr => ?_
  have hN := (sc_is_flag).nd
  exact (jss_one (js_ret (je_isi kit_bool (by rfl) E.b_isinstance (by rfl) E.b_bool (jb_je (je_var 0)) (by rfl))))
theorem ok_is_factor {f : Addr} (E : Fct P w K mg base) (F_is_within : FnK P w K mg base (PySem.Str.ofString "is_within") 2 3 3 d_is_within) (FD : ∃ fd, FunD K (PySem.Str.ofString "is_factor") (PySem.Str.ofString "is_factor") (defArgs s_is_factor) (defBody s_is_factor) (defScope s_is_factor) [] [] f fd) (g : mg (PySem.Str.ofString "is_factor") = some (.ref f)) : FnK P w K mg base (PySem.Str.ofString "is_factor") 3 1 1 d_is_factor := by
  refine fnK_of FD g sc_is_factor rfl rfl (fun _ _ _ _ _ _ us hl => match us, hl with | [_], _ => rfl) fun cdv A outer s H E1 hr => ?_
  have hN := (sc_is_factor).nd
  exact (jss_one (js_ret (je_and (je_res (jr_call F_is_within (hr.mono (by decide)) (by rfl) (takes_of rfl rfl rfl rfl) (jl_cons (je_var 0) (jl_cons (je_neg (je_gint (by rfl) E.i_MOST_FACTOR)) (jl_cons (je_gint (by rfl) E.i_MOST_FACTOR) jl_nil))))) (je_one (je_cmp (o_ne hr.units) (je_var 0) (jb_je je_int))))))
theorem ok_is_worded {f : Addr} (E : Fct P w K mg base) (F_is_tuple_of : FnK P w K mg base (PySem.Str.ofString "is_tuple_of") 1 2 2 d_is_tuple_of) (FD : ∃ fd, FunD K (PySem.Str.ofString "is_worded") (PySem.Str.ofString "is_worded") (defArgs s_is_worded) (defBody s_is_worded) (defScope s_is_worded) [] [] f fd) (g : mg (PySem.Str.ofString "is_worded") = some (.ref f)) : FnK P w K mg base (PySem.Str.ofString "is_worded") 2 3 3 d_is_worded := by
  refine fnK_of FD g sc_is_worded rfl rfl (fun _ _ _ _ _ _ us hl => match us, hl with | [_, _, _], _ => rfl) fun cdv A outer s H E1 hr => ?_
  have hN := (sc_is_worded).nd
  exact (jss_one (js_ret (je_and (je_res (jr_call F_is_tuple_of (hr.mono (by decide)) (by rfl) (takes_of rfl rfl rfl rfl) (jl_cons (je_var 0) (jl_cons (je_var 2) jl_nil)))) (je_and (je_isi kit_str (by rfl) E.b_isinstance (by rfl) E.b_str (jb_je (je_ix (je_var 0) (jb_je je_int))) (by rfl)) (je_one (je_cmp (o_eq hr.units) (je_ix (je_var 0) (jb_je je_int)) (jb_je (je_var 1))))))))
theorem ok_are_levels {f : Addr} (E : Fct P w K mg base) (F_is_within : FnK P w K mg base (PySem.Str.ofString "is_within") 2 3 3 d_is_within) (F_is_few : FnK P w K mg base (PySem.Str.ofString "is_few") 1 2 2 d_is_few) (FD : ∃ fd, FunD K (PySem.Str.ofString "are_levels") (PySem.Str.ofString "are_levels") (defArgs s_are_levels) (defBody s_are_levels) (defScope s_are_levels) [] [] f fd) (g : mg (PySem.Str.ofString "are_levels") = some (.ref f)) : FnK P w K mg base (PySem.Str.ofString "are_levels") 3 7 2 d_are_levels := by
  refine fnK_of FD g sc_are_levels rfl rfl (fun _ _ _ _ _ _ us hl => match us, hl with | [_, _], _ => rfl) fun cdv A outer s H E1 hr => ?_
  have hN := (sc_are_levels).nd
  exact (jss_cons (js_if (jt_not (jt_val (je_res (jr_call F_is_few (hr.mono (by decide)) (by rfl) (takes_of rfl rfl rfl rfl) (jl_cons (je_var 1) (jl_cons (je_gint (by rfl) E.i_MOST_LEVELS) jl_nil))))))
  (jss_one (js_ret je_bl))
  jss_nil)
  (jss_cons (js_setN 2 hN (jn_lst jl_nil))
  (jss_cons (js_for (passes_of rfl) rfl (ji_any (je_var 1)) (jg_name 3 hN)
  (jss_cons (js_if (jt_jw (jw_or (jt_not (jt_val (je_isi kit_tup (by rfl) E.b_isinstance (by rfl) E.b_tuple (jb_je (je_var 3)) (by rfl)))) (jw_or1 (jt_not (jt_chain o_le o_le je_int (je_len (by rfl) E.b_len (jb_je (je_var 3))) (jb_je (je_gint (by rfl) E.i_MOST_KEYS)))))))
  (jss_one (js_ret je_bl))
  jss_nil)
  (jss_cons (js_if (jt_not (jt_val (je_all rfl (by rfl) E.b_all (jb_je (je_new (jn_lc rfl hN (ji_any (je_var 3)) (blkOk_by (own := [((PySem.Str.ofString "column"), 4)]) (show blkC N_are_levels (defScope s_are_levels) _ _ = true from by decide +kernel)) (fun b => (jg_name 4 hN)) (fun b => jts_nil) (fun b => (je_res (jr_call F_is_within (hr.mono (by decide)) (by rfl) takes0 (jl_cons (je_var 4) (jl_cons je_int (jl_cons (je_bin o_sub (je_var 0) (jb_je je_int)) jl_nil))))))))))))
  (jss_one (js_ret je_bl))
  jss_nil)
  (jss_cons (js_if (jt_not (jt_val (je_all rfl (by rfl) E.b_all (jb_je (je_new (jn_lc rfl hN (ji_zip (by rfl) E.b_zip (je_var 3) (je_sl (je_var 3) (jp_some je_int) jp_none)) (blkOk_by (own := [((PySem.Str.ofString "one"), 5), ((PySem.Str.ofString "other"), 6)]) (show blkC N_are_levels (defScope s_are_levels) _ _ = true from by decide +kernel)) (fun b => (jg_tup rfl (jgs_cons (jg_name 5 hN) (jgs_cons (jg_name 6 hN) jgs_nil)) (bCons_len (bCons_len bNil_len)))) (fun b => jts_nil) (fun b => (je_cmp o_lt (je_var 5) (jb_je (je_var 6))))))))))
  (jss_one (js_ret je_bl))
  jss_nil)
  (jss_cons (js_ext 2 (jb_je (je_new (jn_listA rfl (by rfl) E.b_list (jb_je (je_var 3))))))
  (jss_kill [3] jss_nil))))))
  (jss_one (js_ret (je_and (je_cmp o_le (je_len (by rfl) E.b_len (jb_rd 2)) (jb_je (je_gint (by rfl) E.i_MOST_KEYS))) (je_one (je_cmp (o_eq hr.units) (je_lenSet rfl (by rfl) E.b_len (by rfl) E.b_set (jb_rd 2)) (jb_je (je_len (by rfl) E.b_len (jb_rd 2)))))))))))
theorem ok_is_latch {f : Addr} (E : Fct P w K mg base) (F_is_within : FnK P w K mg base (PySem.Str.ofString "is_within") 2 3 3 d_is_within) (F_is_tuple_of : FnK P w K mg base (PySem.Str.ofString "is_tuple_of") 1 2 2 d_is_tuple_of) (F_is_sign : FnK P w K mg base (PySem.Str.ofString "is_sign") 1 1 1 d_is_sign) (FD : ∃ fd, FunD K (PySem.Str.ofString "is_latch") (PySem.Str.ofString "is_latch") (defArgs s_is_latch) (defBody s_is_latch) (defScope s_is_latch) [] [] f fd) (g : mg (PySem.Str.ofString "is_latch") = some (.ref f)) : FnK P w K mg base (PySem.Str.ofString "is_latch") 3 3 3 d_is_latch := by
  refine fnK_of FD g sc_is_latch rfl rfl (fun _ _ _ _ _ _ us hl => match us, hl with | [_, _, _], _ => rfl) fun cdv A outer s H E1 hr => ?_
  have hN := (sc_is_latch).nd
  exact (jss_cons (js_if (jt_jw (jw_or (jt_not (jt_val (je_res (jr_call F_is_tuple_of (hr.mono (by decide)) (by rfl) (takes_of rfl rfl rfl rfl) (jl_cons (je_var 2) (jl_cons je_int jl_nil)))))) (jw_or (jt_not (jt_val (je_res (jr_call F_is_within (hr.mono (by decide)) (by rfl) (takes_of rfl rfl rfl rfl) (jl_cons (je_ix (je_var 2) (jb_je je_int)) (jl_cons je_int (jl_cons (je_bin o_sub (je_var 0) (jb_je je_int)) jl_nil))))))) (jw_or1 (jt_not (jt_val (je_res (jr_call F_is_sign (hr.mono (by decide)) (by rfl) (takes_of rfl rfl rfl rfl) (jl_cons (je_ix (je_var 2) (jb_je je_int)) jl_nil)))))))))
  (jss_one (js_ret je_bl))
  jss_nil)
  (jss_one (js_ret (je_res (jr_call F_is_within (hr.mono (by decide)) (by rfl) (takes_of rfl rfl rfl rfl) (jl_cons (je_ix (je_var 2) (jb_je je_int)) (jl_cons je_int (jl_cons (je_len (by rfl) E.b_len (jb_je (je_var 1))) jl_nil))))))))
theorem ok_is_test {f : Addr} (E : Fct P w K mg base) (F_is_within : FnK P w K mg base (PySem.Str.ofString "is_within") 2 3 3 d_is_within) (F_is_sign : FnK P w K mg base (PySem.Str.ofString "is_sign") 1 1 1 d_is_sign) (F_is_flag : FnK P w K mg base (PySem.Str.ofString "is_flag") 1 1 1 d_is_flag) (F_is_worded : FnK P w K mg base (PySem.Str.ofString "is_worded") 2 3 3 d_is_worded) (FD : ∃ fd, FunD K (PySem.Str.ofString "is_test") (PySem.Str.ofString "is_test") (defArgs s_is_test) (defBody s_is_test) (defScope s_is_test) [] [] f fd) (g : mg (PySem.Str.ofString "is_test") = some (.ref f)) : FnK P w K mg base (PySem.Str.ofString "is_test") 3 3 3 d_is_test := by
  refine fnK_of FD g sc_is_test rfl rfl (fun _ _ _ _ _ _ us hl => match us, hl with | [_, _, _], _ => rfl) fun cdv A outer s H E1 hr => ?_
  have hN := (sc_is_test).nd
  exact (jss_cons (js_if (jt_val (je_res (jr_call F_is_worded (hr.mono (by decide)) (by rfl) (takes_of rfl rfl rfl rfl) (jl_cons (je_var 1) (jl_cons (je_gstr (by rfl) E.s_LATCH) (jl_cons je_int jl_nil))))))
  (jss_one (js_ret (je_and (je_res (jr_call F_is_within (hr.mono (by decide)) (by rfl) (takes_of rfl rfl rfl rfl) (jl_cons (je_ix (je_var 1) (jb_je je_int)) (jl_cons je_int (jl_cons (je_bin o_sub (je_len (by rfl) E.b_len (jb_je (je_ix (je_var 0) (jb_je je_int)))) (jb_je je_int)) jl_nil))))) (je_one (je_res (jr_call F_is_flag (hr.mono (by decide)) (by rfl) (takes_of rfl rfl rfl rfl) (jl_cons (je_ix (je_var 1) (jb_je je_int)) jl_nil)))))))
  jss_nil)
  (jss_cons (js_if (jt_jw (jw_or (jt_not (jt_val (je_var 2))) (jw_or1 (jt_not (jt_val (je_res (jr_call F_is_worded (hr.mono (by decide)) (by rfl) (takes_of rfl rfl rfl rfl) (jl_cons (je_var 1) (jl_cons (je_gstr (by rfl) E.s_SIGN) (jl_cons je_int jl_nil))))))))))
  (jss_one (js_ret je_bl))
  jss_nil)
  (jss_one (js_ret (je_and (je_res (jr_call F_is_within (hr.mono (by decide)) (by rfl) (takes_of rfl rfl rfl rfl) (jl_cons (je_ix (je_var 1) (jb_je je_int)) (jl_cons je_int (jl_cons (je_bin o_sub (je_ix (je_var 0) (jb_je je_int)) (jb_je je_int)) jl_nil))))) (je_and (je_res (jr_call F_is_sign (hr.mono (by decide)) (by rfl) (takes_of rfl rfl rfl rfl) (jl_cons (je_ix (je_var 1) (jb_je je_int)) jl_nil))) (je_one (je_res (jr_call F_is_flag (hr.mono (by decide)) (by rfl) (takes_of rfl rfl rfl rfl) (jl_cons (je_ix (je_var 1) (jb_je je_int)) jl_nil))))))))))
theorem ok_is_when {f : Addr} (E : Fct P w K mg base) (F_is_few : FnK P w K mg base (PySem.Str.ofString "is_few") 1 2 2 d_is_few) (F_is_test : FnK P w K mg base (PySem.Str.ofString "is_test") 3 3 3 d_is_test) (FD : ∃ fd, FunD K (PySem.Str.ofString "is_when") (PySem.Str.ofString "is_when") (defArgs s_is_when) (defBody s_is_when) (defScope s_is_when) [] [] f fd) (g : mg (PySem.Str.ofString "is_when") = some (.ref f)) : FnK P w K mg base (PySem.Str.ofString "is_when") 4 4 3 d_is_when := by
  refine fnK_of FD g sc_is_when rfl rfl (fun _ _ _ _ _ _ us hl => match us, hl with | [_, _, _], _ => rfl) fun cdv A outer s H E1 hr => ?_
  have hN := (sc_is_when).nd
  exact (jss_one (js_ret (je_and (je_res (jr_call F_is_few (hr.mono (by decide)) (by rfl) (takes_of rfl rfl rfl rfl) (jl_cons (je_var 1) (jl_cons (je_gint (by rfl) E.i_MOST_TESTS) jl_nil)))) (je_one (je_all rfl (by rfl) E.b_all (jb_je (je_new (jn_lc rfl hN (ji_any (je_var 1)) (blkOk_by (own := [((PySem.Str.ofString "test"), 3)]) (show blkC N_is_when (defScope s_is_when) _ _ = true from by decide +kernel)) (fun b => (jg_name 3 hN)) (fun b => jts_nil) (fun b => (je_res (jr_call F_is_test (hr.mono (by decide)) (by rfl) takes0 (jl_cons (je_var 0) (jl_cons (je_var 3) (jl_cons (je_var 2) jl_nil))))))))))))))
theorem ok_are_pairs {f : Addr} (E : Fct P w K mg base) (F_is_within : FnK P w K mg base (PySem.Str.ofString "is_within") 2 3 3 d_is_within) (F_is_tuple_of : FnK P w K mg base (PySem.Str.ofString "is_tuple_of") 1 2 2 d_is_tuple_of) (F_is_factor : FnK P w K mg base (PySem.Str.ofString "is_factor") 3 1 1 d_is_factor) (FD : ∃ fd, FunD K (PySem.Str.ofString "are_pairs") (PySem.Str.ofString "are_pairs") (defArgs s_are_pairs) (defBody s_are_pairs) (defScope s_are_pairs) [] [] f fd) (g : mg (PySem.Str.ofString "are_pairs") = some (.ref f)) : FnK P w K mg base (PySem.Str.ofString "are_pairs") 4 5 2 d_are_pairs := by
  refine fnK_of FD g sc_are_pairs rfl rfl (fun _ _ _ _ _ _ us hl => match us, hl with | [_, _], _ => rfl) fun cdv A outer s H E1 hr => ?_
  have hN := (sc_are_pairs).nd
  exact (jss_cons (js_if (jt_jw (jw_or (jt_not (jt_val (je_isi kit_tup (by rfl) E.b_isinstance (by rfl) E.b_tuple (jb_je (je_var 1)) (by rfl)))) (jw_or1 (jt_not (jt_chain o_le o_le je_int (je_len (by rfl) E.b_len (jb_je (je_var 1))) (jb_je (je_gint (by rfl) E.i_MOST_PAIRS)))))))
  (jss_one (js_ret je_bl))
  jss_nil)
  (jss_cons (js_for (passes_of rfl) rfl (ji_any (je_var 1)) (jg_name 2 hN)
  (jss_cons (js_if (jt_jw (jw_or (jt_not (jt_val (je_res (jr_call F_is_tuple_of (hr.mono (by decide)) (by rfl) (takes_of rfl rfl rfl rfl) (jl_cons (je_var 2) (jl_cons je_int jl_nil)))))) (jw_or (jt_not (jt_val (je_res (jr_call F_is_factor (hr.mono (by decide)) (by rfl) (takes_of rfl rfl rfl rfl) (jl_cons (je_ix (je_var 2) (jb_je je_int)) jl_nil))))) (jw_or1 (jt_not (jt_val (je_res (jr_call F_is_within (hr.mono (by decide)) (by rfl) (takes_of rfl rfl rfl rfl) (jl_cons (je_ix (je_var 2) (jb_je je_int)) (jl_cons je_int (jl_cons (je_bin o_sub (je_var 0) (jb_je je_int)) jl_nil)))))))))))
  (jss_one (js_ret je_bl))
  jss_nil)
  (jss_kill [2] jss_nil)))
  (jss_one (js_ret (je_all rfl (by rfl) E.b_all (jb_je (je_new (jn_lc rfl hN (ji_zip (by rfl) E.b_zip (je_var 1) (je_sl (je_var 1) (jp_some je_int) jp_none)) (blkOk_by (own := [((PySem.Str.ofString "one"), 3), ((PySem.Str.ofString "other"), 4)]) (show blkC N_are_pairs (defScope s_are_pairs) _ _ = true from by decide +kernel)) (fun b => (jg_tup rfl (jgs_cons (jg_name 3 hN) (jgs_cons (jg_name 4 hN) jgs_nil)) (bCons_len (bCons_len bNil_len)))) (fun b => jts_nil) (fun b => (je_cmp o_lt (je_ix (je_var 3) (jb_je je_int)) (jb_je (je_ix (je_var 4) (jb_je je_int)))))))))))))
theorem ok_raw_keys {f : Addr} (E : Fct P w K mg base)  (FD : ∃ fd, FunD K (PySem.Str.ofString "raw_keys") (PySem.Str.ofString "raw_keys") (defArgs s_raw_keys) (defBody s_raw_keys) (defScope s_raw_keys) [] [] f fd) (g : mg (PySem.Str.ofString "raw_keys") = some (.ref f)) : FnK P w K mg base (PySem.Str.ofString "raw_keys") 1 3 1 d_raw_keys := by
  refine fnK_of FD g sc_raw_keys rfl rfl (fun _ _ _ _ _ _ us hl => match us, hl with | [_], _ => rfl) fun cdv A outer s H E1 hr => ?_
  have hN := (sc_raw_keys).nd
  exact (jss_cons (js_setN 1 hN (jn_lst jl_nil))
  (jss_cons (js_for (passes_of rfl) rfl (ji_any (je_ix (je_var 0) (jb_je je_int))) (jg_name 2 hN)
  (jss_cons (js_ext 1 (jb_je (je_new (jn_listA rfl (by rfl) E.b_list (jb_je (je_var 2))))))
  (jss_kill [2] jss_nil)))
  (jss_one (js_retN (jn_sortI (by rfl) E.b_sorted (jb_rd 1))))))
theorem ok_is_item {f : Addr} (E : Fct P w K mg base) (F_is_integer : FnK P w K mg base (PySem.Str.ofString "is_integer") 1 1 1 d_is_integer) (F_is_within : FnK P w K mg base (PySem.Str.ofString "is_within") 2 3 3 d_is_within) (F_raw_is_field : FnK P w K mg base (PySem.Str.ofString "raw_is_field") 3 2 2 d_raw_is_field) (F_is_name : FnK P w K mg base (PySem.Str.ofString "is_name") 1 2 1 d_is_name) (F_is_worded : FnK P w K mg base (PySem.Str.ofString "is_worded") 2 3 3 d_is_worded) (F_are_pairs : FnK P w K mg base (PySem.Str.ofString "are_pairs") 4 5 2 d_are_pairs) (F_raw_keys : FnK P w K mg base (PySem.Str.ofString "raw_keys") 1 3 1 d_raw_keys) (FD : ∃ fd, FunD K (PySem.Str.ofString "is_item") (PySem.Str.ofString "is_item") (defArgs s_is_item) (defBody s_is_item) (defScope s_is_item) [] [] f fd) (g : mg (PySem.Str.ofString "is_item") = some (.ref f)) : FnK P w K mg base (PySem.Str.ofString "is_item") 5 3 3 d_is_item := by
  refine fnK_of FD g sc_is_item rfl rfl (fun _ _ _ _ _ _ us hl => match us, hl with | [_, _, _], _ => rfl) fun cdv A outer s H E1 hr => ?_
  have hN := (sc_is_item).nd
  exact (jss_cons (js_if (jt_val (je_res (jr_call F_is_worded (hr.mono (by decide)) (by rfl) (takes_of rfl rfl rfl rfl) (jl_cons (je_var 1) (jl_cons (je_gstr (by rfl) E.s_WORD) (jl_cons je_int jl_nil))))))
  (jss_one (js_ret (je_res (jr_call F_is_name (hr.mono (by decide)) (by rfl) (takes_of rfl rfl rfl rfl) (jl_cons (je_ix (je_var 1) (jb_je je_int)) jl_nil)))))
  jss_nil)
  (jss_cons (js_if (jt_val (je_res (jr_call F_is_worded (hr.mono (by decide)) (by rfl) (takes_of rfl rfl rfl rfl) (jl_cons (je_var 1) (jl_cons (je_gstr (by rfl) E.s_KEY) (jl_cons je_int jl_nil))))))
  (jss_one (js_ret (je_and (je_res (jr_call F_is_integer (hr.mono (by decide)) (by rfl) (takes_of rfl rfl rfl rfl) (jl_cons (je_ix (je_var 1) (jb_je je_int)) jl_nil))) (je_one (je_cmp (o_in (hu65 hr)) (je_ix (je_var 1) (jb_je je_int)) (jb_je (je_res (jr_call F_raw_keys (hr.mono (by decide)) (by rfl) (takes_of rfl rfl rfl rfl) (jl_cons (je_var 0) jl_nil)))))))))
  jss_nil)
  (jss_cons (js_if (jt_val (je_res (jr_call F_is_worded (hr.mono (by decide)) (by rfl) (takes_of rfl rfl rfl rfl) (jl_cons (je_var 1) (jl_cons (je_gstr (by rfl) E.s_SUM) (jl_cons je_int jl_nil))))))
  (jss_one (js_ret (je_res (jr_call F_are_pairs (hr.mono (by decide)) (by rfl) (takes_of rfl rfl rfl rfl) (jl_cons (je_ix (je_var 0) (jb_je je_int)) (jl_cons (je_ix (je_var 1) (jb_je je_int)) jl_nil))))))
  jss_nil)
  (jss_cons (js_if (jt_val (je_res (jr_call F_is_worded (hr.mono (by decide)) (by rfl) (takes_of rfl rfl rfl rfl) (jl_cons (je_var 1) (jl_cons (je_gstr (by rfl) E.s_NUMBER) (jl_cons je_int jl_nil))))))
  (jss_one (js_ret (je_and (je_res (jr_call F_is_integer (hr.mono (by decide)) (by rfl) (takes_of rfl rfl rfl rfl) (jl_cons (je_ix (je_var 1) (jb_je je_int)) jl_nil))) (je_one (je_cmp o_lt (je_abs (by rfl) E.b_abs (jb_je (je_ix (je_var 1) (jb_je je_int)))) (jb_je (je_gint (by rfl) E.i_MOST_NUMBER)))))))
  jss_nil)
  (jss_cons (js_if (jt_jw (jw_and (jt_val (je_var 2)) (jw_and1 (jt_val (je_res (jr_call F_is_worded (hr.mono (by decide)) (by rfl) (takes_of rfl rfl rfl rfl) (jl_cons (je_var 1) (jl_cons (je_gstr (by rfl) E.s_FIELD) (jl_cons je_int jl_nil)))))))))
  (jss_one (js_ret (je_res (jr_call F_raw_is_field (hr.mono (by decide)) (by rfl) (takes_of rfl rfl rfl rfl) (jl_cons (je_ix (je_var 0) (jb_je je_int)) (jl_cons (je_ix (je_var 1) (jb_je je_int)) jl_nil))))))
  jss_nil)
  (jss_one (js_ret (je_and (je_var 2) (je_and (je_res (jr_call F_is_worded (hr.mono (by decide)) (by rfl) (takes_of rfl rfl rfl rfl) (jl_cons (je_var 1) (jl_cons (je_gstr (by rfl) E.s_SIGN) (jl_cons je_int jl_nil))))) (je_one (je_res (jr_call F_is_within (hr.mono (by decide)) (by rfl) (takes_of rfl rfl rfl rfl) (jl_cons (je_ix (je_var 1) (jb_je je_int)) (jl_cons je_int (jl_cons (je_bin o_sub (je_ix (je_var 0) (jb_je je_int)) (jb_je je_int)) jl_nil)))))))))))))))
theorem ok_are_items {f : Addr} (E : Fct P w K mg base) (F_is_few : FnK P w K mg base (PySem.Str.ofString "is_few") 1 2 2 d_is_few) (F_is_item : FnK P w K mg base (PySem.Str.ofString "is_item") 5 3 3 d_is_item) (FD : ∃ fd, FunD K (PySem.Str.ofString "are_items") (PySem.Str.ofString "are_items") (defArgs s_are_items) (defBody s_are_items) (defScope s_are_items) [] [] f fd) (g : mg (PySem.Str.ofString "are_items") = some (.ref f)) : FnK P w K mg base (PySem.Str.ofString "are_items") 6 4 3 d_are_items := by
  refine fnK_of FD g sc_are_items rfl rfl (fun _ _ _ _ _ _ us hl => match us, hl with | [_, _, _], _ => rfl) fun cdv A outer s H E1 hr => ?_
  have hN := (sc_are_items).nd
  exact (jss_one (js_ret (je_and (je_res (jr_call F_is_few (hr.mono (by decide)) (by rfl) (takes_of rfl rfl rfl rfl) (jl_cons (je_var 1) (jl_cons (je_gint (by rfl) E.i_MOST_ITEMS) jl_nil)))) (je_one (je_all rfl (by rfl) E.b_all (jb_je (je_new (jn_lc rfl hN (ji_any (je_var 1)) (blkOk_by (own := [((PySem.Str.ofString "item"), 3)]) (show blkC N_are_items (defScope s_are_items) _ _ = true from by decide +kernel)) (fun b => (jg_name 3 hN)) (fun b => jts_nil) (fun b => (je_res (jr_call F_is_item (hr.mono (by decide)) (by rfl) takes0 (jl_cons (je_var 0) (jl_cons (je_var 3) (jl_cons (je_var 2) jl_nil))))))))))))))
theorem ok_is_add {f : Addr} (E : Fct P w K mg base) (F_is_within : FnK P w K mg base (PySem.Str.ofString "is_within") 2 3 3 d_is_within) (F_is_tuple_of : FnK P w K mg base (PySem.Str.ofString "is_tuple_of") 1 2 2 d_is_tuple_of) (F_raw_is_field : FnK P w K mg base (PySem.Str.ofString "raw_is_field") 3 2 2 d_raw_is_field) (F_is_factor : FnK P w K mg base (PySem.Str.ofString "is_factor") 3 1 1 d_is_factor) (F_is_when : FnK P w K mg base (PySem.Str.ofString "is_when") 4 4 3 d_is_when) (FD : ∃ fd, FunD K (PySem.Str.ofString "is_add") (PySem.Str.ofString "is_add") (defArgs s_is_add) (defBody s_is_add) (defScope s_is_add) [] [] f fd) (g : mg (PySem.Str.ofString "is_add") = some (.ref f)) : FnK P w K mg base (PySem.Str.ofString "is_add") 5 2 2 d_is_add := by
  refine fnK_of FD g sc_is_add rfl rfl (fun _ _ _ _ _ _ us hl => match us, hl with | [_, _], _ => rfl) fun cdv A outer s H E1 hr => ?_
  have hN := (sc_is_add).nd
  exact (jss_cons (js_if (jt_jw (jw_or (jt_not (jt_val (je_res (jr_call F_is_tuple_of (hr.mono (by decide)) (by rfl) (takes_of rfl rfl rfl rfl) (jl_cons (je_var 1) (jl_cons je_int jl_nil)))))) (jw_or1 (jt_not (jt_val (je_res (jr_call F_is_when (hr.mono (by decide)) (by rfl) (takes_of rfl rfl rfl rfl) (jl_cons (je_var 0) (jl_cons (je_ix (je_var 1) (jb_je je_int)) (jl_cons je_bl jl_nil))))))))))
  (jss_one (js_ret je_bl))
  jss_nil)
  (jss_one (js_ret (je_and (je_res (jr_call F_is_within (hr.mono (by decide)) (by rfl) (takes_of rfl rfl rfl rfl) (jl_cons (je_ix (je_var 1) (jb_je je_int)) (jl_cons je_int (jl_cons (je_bin o_sub (je_ix (je_var 0) (jb_je je_int)) (jb_je je_int)) jl_nil))))) (je_and (je_res (jr_call F_is_factor (hr.mono (by decide)) (by rfl) (takes_of rfl rfl rfl rfl) (jl_cons (je_ix (je_var 1) (jb_je je_int)) jl_nil))) (je_one (je_res (jr_call F_raw_is_field (hr.mono (by decide)) (by rfl) (takes_of rfl rfl rfl rfl) (jl_cons (je_ix (je_var 0) (jb_je je_int)) (jl_cons (je_ix (je_var 1) (jb_je je_int)) jl_nil))))))))))
theorem ok_is_list {f : Addr} (E : Fct P w K mg base) (F_is_tuple_of : FnK P w K mg base (PySem.Str.ofString "is_tuple_of") 1 2 2 d_is_tuple_of) (F_is_when : FnK P w K mg base (PySem.Str.ofString "is_when") 4 4 3 d_is_when) (F_are_items : FnK P w K mg base (PySem.Str.ofString "are_items") 6 4 3 d_are_items) (FD : ∃ fd, FunD K (PySem.Str.ofString "is_list") (PySem.Str.ofString "is_list") (defArgs s_is_list) (defBody s_is_list) (defScope s_is_list) [] [] f fd) (g : mg (PySem.Str.ofString "is_list") = some (.ref f)) : FnK P w K mg base (PySem.Str.ofString "is_list") 7 2 2 d_is_list := by
  refine fnK_of FD g sc_is_list rfl rfl (fun _ _ _ _ _ _ us hl => match us, hl with | [_, _], _ => rfl) fun cdv A outer s H E1 hr => ?_
  have hN := (sc_is_list).nd
  exact (jss_one (js_ret (je_and (je_res (jr_call F_is_tuple_of (hr.mono (by decide)) (by rfl) (takes_of rfl rfl rfl rfl) (jl_cons (je_var 1) (jl_cons je_int jl_nil)))) (je_and (je_res (jr_call F_is_when (hr.mono (by decide)) (by rfl) (takes_of rfl rfl rfl rfl) (jl_cons (je_var 0) (jl_cons (je_ix (je_var 1) (jb_je je_int)) (jl_cons je_bl jl_nil))))) (je_one (je_res (jr_call F_are_items (hr.mono (by decide)) (by rfl) (takes_of rfl rfl rfl rfl) (jl_cons (je_var 0) (jl_cons (je_ix (je_var 1) (jb_je je_int)) (jl_cons je_bl jl_nil))))))))))
theorem ok_is_deed {f : Addr} (E : Fct P w K mg base) (F_is_within : FnK P w K mg base (PySem.Str.ofString "is_within") 2 3 3 d_is_within) (F_is_worded : FnK P w K mg base (PySem.Str.ofString "is_worded") 2 3 3 d_is_worded) (F_is_when : FnK P w K mg base (PySem.Str.ofString "is_when") 4 4 3 d_is_when) (F_are_items : FnK P w K mg base (PySem.Str.ofString "are_items") 6 4 3 d_are_items) (FD : ∃ fd, FunD K (PySem.Str.ofString "is_deed") (PySem.Str.ofString "is_deed") (defArgs s_is_deed) (defBody s_is_deed) (defScope s_is_deed) [] [] f fd) (g : mg (PySem.Str.ofString "is_deed") = some (.ref f)) : FnK P w K mg base (PySem.Str.ofString "is_deed") 7 2 2 d_is_deed := by
  refine fnK_of FD g sc_is_deed rfl rfl (fun _ _ _ _ _ _ us hl => match us, hl with | [_, _], _ => rfl) fun cdv A outer s H E1 hr => ?_
  have hN := (sc_is_deed).nd
  exact (jss_cons (js_if (jt_val (je_res (jr_call F_is_worded (hr.mono (by decide)) (by rfl) (takes_of rfl rfl rfl rfl) (jl_cons (je_var 1) (jl_cons (je_gstr (by rfl) E.s_PRINT) (jl_cons je_int jl_nil))))))
  (jss_one (js_ret (je_and (je_res (jr_call F_is_when (hr.mono (by decide)) (by rfl) (takes_of rfl rfl rfl rfl) (jl_cons (je_var 0) (jl_cons (je_ix (je_var 1) (jb_je je_int)) (jl_cons je_bl jl_nil))))) (je_one (je_res (jr_call F_are_items (hr.mono (by decide)) (by rfl) (takes_of rfl rfl rfl rfl) (jl_cons (je_var 0) (jl_cons (je_ix (je_var 1) (jb_je je_int)) (jl_cons je_bl jl_nil)))))))))
  jss_nil)
  (jss_cons (js_if (jt_val (je_res (jr_call F_is_worded (hr.mono (by decide)) (by rfl) (takes_of rfl rfl rfl rfl) (jl_cons (je_var 1) (jl_cons (je_gstr (by rfl) E.s_CLEAR) (jl_cons je_int jl_nil))))))
  (jss_one (js_ret (je_res (jr_call F_is_within (hr.mono (by decide)) (by rfl) (takes_of rfl rfl rfl rfl) (jl_cons (je_ix (je_var 1) (jb_je je_int)) (jl_cons je_int (jl_cons (je_bin o_sub (je_ix (je_var 0) (jb_je je_int)) (jb_je je_int)) jl_nil)))))))
  jss_nil)
  (jss_cons (js_if (jt_jw (jw_or (jt_not (jt_val (je_res (jr_call F_is_worded (hr.mono (by decide)) (by rfl) (takes_of rfl rfl rfl rfl) (jl_cons (je_var 1) (jl_cons (je_gstr (by rfl) E.s_ROLL) (jl_cons je_int jl_nil))))))) (jw_or1 (jt_not (jt_val (je_res (jr_call F_is_within (hr.mono (by decide)) (by rfl) (takes_of rfl rfl rfl rfl) (jl_cons (je_ix (je_var 1) (jb_je je_int)) (jl_cons je_int (jl_cons (je_bin o_sub (je_ix (je_var 0) (jb_je je_int)) (jb_je je_int)) jl_nil))))))))))
  (jss_one (js_ret je_bl))
  jss_nil)
  (jss_one (js_ret (je_and (je_res (jr_call F_is_within (hr.mono (by decide)) (by rfl) (takes_of rfl rfl rfl rfl) (jl_cons (je_ix (je_var 1) (jb_je je_int)) (jl_cons je_int (jl_cons (je_bin o_sub (je_ix (je_var 0) (jb_je je_int)) (jb_je je_int)) jl_nil))))) (je_one (je_cmp (o_ne hr.units) (je_ix (je_var 1) (jb_je je_int)) (jb_je (je_ix (je_var 1) (jb_je je_int)))))))))))
theorem ok_are_deeds {f : Addr} (E : Fct P w K mg base) (F_is_few : FnK P w K mg base (PySem.Str.ofString "is_few") 1 2 2 d_is_few) (F_is_deed : FnK P w K mg base (PySem.Str.ofString "is_deed") 7 2 2 d_is_deed) (FD : ∃ fd, FunD K (PySem.Str.ofString "are_deeds") (PySem.Str.ofString "are_deeds") (defArgs s_are_deeds) (defBody s_are_deeds) (defScope s_are_deeds) [] [] f fd) (g : mg (PySem.Str.ofString "are_deeds") = some (.ref f)) : FnK P w K mg base (PySem.Str.ofString "are_deeds") 8 3 2 d_are_deeds := by
  refine fnK_of FD g sc_are_deeds rfl rfl (fun _ _ _ _ _ _ us hl => match us, hl with | [_, _], _ => rfl) fun cdv A outer s H E1 hr => ?_
  have hN := (sc_are_deeds).nd
  exact (jss_one (js_ret (je_and (je_res (jr_call F_is_few (hr.mono (by decide)) (by rfl) (takes_of rfl rfl rfl rfl) (jl_cons (je_var 1) (jl_cons (je_gint (by rfl) E.i_MOST_DEEDS) jl_nil)))) (je_one (je_all rfl (by rfl) E.b_all (jb_je (je_new (jn_lc rfl hN (ji_any (je_var 1)) (blkOk_by (own := [((PySem.Str.ofString "deed"), 2)]) (show blkC N_are_deeds (defScope s_are_deeds) _ _ = true from by decide +kernel)) (fun b => (jg_name 2 hN)) (fun b => jts_nil) (fun b => (je_res (jr_call F_is_deed (hr.mono (by decide)) (by rfl) takes0 (jl_cons (je_var 0) (jl_cons (je_var 2) jl_nil)))))))))))))
theorem ok_is_board {f : Addr} (E : Fct P w K mg base) (F_is_within : FnK P w K mg base (PySem.Str.ofString "is_within") 2 3 3 d_is_within) (F_is_tuple_of : FnK P w K mg base (PySem.Str.ofString "is_tuple_of") 1 2 2 d_is_tuple_of) (F_is_few : FnK P w K mg base (PySem.Str.ofString "is_few") 1 2 2 d_is_few) (F_is_width : FnK P w K mg base (PySem.Str.ofString "is_width") 3 1 1 d_is_width) (F_are_levels : FnK P w K mg base (PySem.Str.ofString "are_levels") 3 7 2 d_are_levels) (F_is_latch : FnK P w K mg base (PySem.Str.ofString "is_latch") 3 3 3 d_is_latch) (F_is_add : FnK P w K mg base (PySem.Str.ofString "is_add") 5 2 2 d_is_add) (F_is_list : FnK P w K mg base (PySem.Str.ofString "is_list") 7 2 2 d_is_list) (F_are_deeds : FnK P w K mg base (PySem.Str.ofString "are_deeds") 8 3 2 d_are_deeds) (FD : ∃ fd, FunD K (PySem.Str.ofString "is_board") (PySem.Str.ofString "is_board") (defArgs s_is_board) (defBody s_is_board) (defScope s_is_board) [] [] f fd) (g : mg (PySem.Str.ofString "is_board") = some (.ref f)) : FnK P w K mg base (PySem.Str.ofString "is_board") 9 12 1 d_is_board := by
  refine fnK_of FD g sc_is_board rfl rfl (fun _ _ _ _ _ _ us hl => match us, hl with | [_], _ => rfl) fun cdv A outer s H E1 hr => ?_
  have hN := (sc_is_board).nd
  exact (jss_cons (js_if (jt_jw (jw_or (jt_not (jt_val (je_res (jr_call F_is_tuple_of (hr.mono (by decide)) (by rfl) (takes_of rfl rfl rfl rfl) (jl_cons (je_var 0) (jl_cons je_int jl_nil)))))) (jw_or (jt_not (jt_val (je_res (jr_call F_is_width (hr.mono (by decide)) (by rfl) (takes_of rfl rfl rfl rfl) (jl_cons (je_ix (je_var 0) (jb_je je_int)) jl_nil))))) (jw_or1 (jt_not (jt_val (je_res (jr_call F_are_levels (hr.mono (by decide)) (by rfl) (takes_of rfl rfl rfl rfl) (jl_cons (je_ix (je_var 0) (jb_je je_int)) (jl_cons (je_ix (je_var 0) (jb_je je_int)) jl_nil))))))))))
  (jss_one (js_ret je_bl))
  jss_nil)
  (jss_cons (js_asg (je_var 0) (jg_tup rfl (jgs_cons (jg_name 1 hN) (jgs_cons (jg_name 2 hN) (jgs_cons (jg_name 3 hN) (jgs_cons (jg_name 4 hN) (jgs_cons (jg_name 5 hN) (jgs_cons (jg_name 6 hN) (jgs_cons (jg_name 7 hN) jgs_nil))))))) (bCons_len (bCons_len (bCons_len (bCons_len (bCons_len (bCons_len (bCons_len bNil_len)))))))))
  (jss_cons (js_if (jt_jw (jw_or (jt_not (jt_val (je_res (jr_call F_is_few (hr.mono (by decide)) (by rfl) (takes_of rfl rfl rfl rfl) (jl_cons (je_var 3) (jl_cons (je_gint (by rfl) E.i_MOST_LATCHES) jl_nil)))))) (jw_or1 (jt_not (jt_val (je_all rfl (by rfl) E.b_all (jb_je (je_new (jn_lc rfl hN (ji_any (je_var 3)) (blkOk_by (own := [((PySem.Str.ofString "latch"), 8)]) (show blkC N_is_board (defScope s_is_board) _ _ = true from by decide +kernel)) (fun b => (jg_name 8 hN)) (fun b => jts_nil) (fun b => (je_res (jr_call F_is_latch (hr.mono (by decide)) (by rfl) takes0 (jl_cons (je_var 1) (jl_cons (je_var 2) (jl_cons (je_var 8) jl_nil)))))))))))))))
  (jss_one (js_ret je_bl))
  jss_nil)
  (jss_cons (js_if (jt_jw (jw_or (jt_not (jt_val (je_res (jr_call F_is_within (hr.mono (by decide)) (by rfl) (takes_of rfl rfl rfl rfl) (jl_cons (je_var 4) (jl_cons je_int (jl_cons (je_gint (by rfl) E.i_MOST_COUNTERS) jl_nil))))))) (jw_or (jt_not (jt_val (je_res (jr_call F_is_few (hr.mono (by decide)) (by rfl) (takes_of rfl rfl rfl rfl) (jl_cons (je_var 5) (jl_cons (je_gint (by rfl) E.i_MOST_ADDS) jl_nil)))))) (jw_or1 (jt_not (jt_val (je_res (jr_call F_is_few (hr.mono (by decide)) (by rfl) (takes_of rfl rfl rfl rfl) (jl_cons (je_var 6) (jl_cons (je_gint (by rfl) E.i_MOST_LISTS) jl_nil))))))))))
  (jss_one (js_ret je_bl))
  jss_nil)
  (jss_cons (js_if (jt_jw (jw_or (jt_not (jt_val (je_all rfl (by rfl) E.b_all (jb_je (je_new (jn_lc rfl hN (ji_any (je_var 5)) (blkOk_by (own := [((PySem.Str.ofString "add"), 9)]) (show blkC N_is_board (defScope s_is_board) _ _ = true from by decide +kernel)) (fun b => (jg_name 9 hN)) (fun b => jts_nil) (fun b => (je_res (jr_call F_is_add (hr.mono (by decide)) (by rfl) takes0 (jl_cons (je_var 0) (jl_cons (je_var 9) jl_nil))))))))))) (jw_or1 (jt_not (jt_val (je_all rfl (by rfl) E.b_all (jb_je (je_new (jn_lc rfl hN (ji_any (je_var 6)) (blkOk_by (own := [((PySem.Str.ofString "one"), 10)]) (show blkC N_is_board (defScope s_is_board) _ _ = true from by decide +kernel)) (fun b => (jg_name 10 hN)) (fun b => jts_nil) (fun b => (je_res (jr_call F_is_list (hr.mono (by decide)) (by rfl) takes0 (jl_cons (je_var 0) (jl_cons (je_var 10) jl_nil))))))))))))))
  (jss_one (js_ret je_bl))
  jss_nil)
  (jss_one (js_ret (je_and (je_res (jr_call F_is_tuple_of (hr.mono (by decide)) (by rfl) (takes_of rfl rfl rfl rfl) (jl_cons (je_var 7) (jl_cons (je_bin o_add (je_len (by rfl) E.b_len (jb_je (je_var 2))) (jb_je je_int)) jl_nil)))) (je_one (je_all rfl (by rfl) E.b_all (jb_je (je_new (jn_lc rfl hN (ji_any (je_var 7)) (blkOk_by (own := [((PySem.Str.ofString "deeds"), 11)]) (show blkC N_is_board (defScope s_is_board) _ _ = true from by decide +kernel)) (fun b => (jg_name 11 hN)) (fun b => jts_nil) (fun b => (je_res (jr_call F_are_deeds (hr.mono (by decide)) (by rfl) takes0 (jl_cons (je_var 0) (jl_cons (je_var 11) jl_nil))))))))))))))))))
theorem ok_check_board {f : Addr} (E : Fct P w K mg base) (F_is_board : FnK P w K mg base (PySem.Str.ofString "is_board") 9 12 1 d_is_board) (FD : ∃ fd, FunD K (PySem.Str.ofString "check_board") (PySem.Str.ofString "check_board") (defArgs s_check_board) (defBody s_check_board) (defScope s_check_board) [] [] f fd) (g : mg (PySem.Str.ofString "check_board") = some (.ref f)) : FnK P w K mg base (PySem.Str.ofString "check_board") 10 1 1 d_check_board := by
  refine fnK_of FD g sc_check_board rfl rfl (fun _ _ _ _ _ _ us hl => match us, hl with | [_], _ => rfl) fun cdv A outer s H E1 hr => ?_
  have hN := (sc_check_board).nd
  exact (jss_one (js_if (jt_not (jt_val (je_res (jr_call F_is_board (hr.mono (by decide)) (by rfl) (takes_of rfl rfl rfl rfl) (jl_cons (je_var 0) jl_nil)))))
  (jss_one (js_raise rfl (takes_of rfl rfl rfl rfl) (jx_own0 E.x0_NoBoard (by rfl))))
  jss_nil))
theorem ok_does_hold {f : Addr} (E : Fct P w K mg base)  (FD : ∃ fd, FunD K (PySem.Str.ofString "does_hold") (PySem.Str.ofString "does_hold") (defArgs s_does_hold) (defBody s_does_hold) (defScope s_does_hold) [] [] f fd) (g : mg (PySem.Str.ofString "does_hold") = some (.ref f)) : FnK P w K mg base (PySem.Str.ofString "does_hold") 1 4 3 d_does_hold := by
  refine fnK_of FD g sc_does_hold rfl rfl (fun _ _ _ _ _ _ us hl => match us, hl with | [_, _, _], _ => rfl) fun cdv A outer s H E1 hr => ?_
  have hN := (sc_does_hold).nd
  exact (jss_cons (js_for (passes_of rfl) rfl (ji_any (je_var 0)) (jg_name 3 hN)
  (jss_cons (js_if (jt_cmp (o_eq hr.units) (je_ix (je_var 3) (jb_je je_int)) (jb_je (je_gstr (by rfl) E.s_LATCH)))
  (jss_one (js_if (jt_cmp (o_ne hr.units) (je_cmp (o_eq hr.units) (je_ix (je_var 1) (jb_je (je_ix (je_var 3) (jb_je je_int)))) (jb_je (je_gstr (by rfl) E.s_ON))) (jb_je (je_ix (je_var 3) (jb_je je_int))))
  (jss_one (js_ret je_bl))
  jss_nil))
  (jss_one (js_if (jt_cmp (o_ne hr.units) (je_cmp (o_eq hr.units) (je_ix (je_var 2) (jb_je (je_ix (je_var 3) (jb_je je_int)))) (jb_je (je_ix (je_var 3) (jb_je je_int)))) (jb_je (je_ix (je_var 3) (jb_je je_int))))
  (jss_one (js_ret je_bl))
  jss_nil)))
  (jss_kill [3] jss_nil)))
  (jss_one (js_ret je_bl)))
theorem ok_keys_on {f : Addr} (E : Fct P w K mg base) (F_raw_keys : FnK P w K mg base (PySem.Str.ofString "raw_keys") 1 3 1 d_raw_keys) (FD : ∃ fd, FunD K (PySem.Str.ofString "keys_on") (PySem.Str.ofString "keys_on") (defArgs s_keys_on) (defBody s_keys_on) (defScope s_keys_on) [] [] f fd) (g : mg (PySem.Str.ofString "keys_on") = some (.ref f)) : FnK P w K mg base (PySem.Str.ofString "keys_on") 2 3 2 d_keys_on := by
  refine fnK_of FD g sc_keys_on rfl rfl (fun _ _ _ _ _ _ us hl => match us, hl with | [_, _], _ => rfl) fun cdv A outer s H E1 hr => ?_
  have hN := (sc_keys_on).nd
  exact (jss_one (js_ret (je_join je_str (jb_je (je_new (jn_lc rfl hN (ji_any (je_res (jr_call F_raw_keys (hr.mono (by decide)) (by rfl) (takes_of rfl rfl rfl rfl) (jl_cons (je_var 0) jl_nil)))) (blkOk_by (own := [((PySem.Str.ofString "column"), 2)]) (show blkC N_keys_on (defScope s_keys_on) _ _ = true from by decide +kernel)) (fun b => (jg_name 2 hN)) (fun b => jts_nil) (fun b => (je_ix (je_var 1) (jb_je (je_var 2))))))))))
theorem ok_raw_broken {f : Addr} (E : Fct P w K mg base) (F_raw_keys : FnK P w K mg base (PySem.Str.ofString "raw_keys") 1 3 1 d_raw_keys) (FD : ∃ fd, FunD K (PySem.Str.ofString "raw_broken") (PySem.Str.ofString "raw_broken") (defArgs s_raw_broken) (defBody s_raw_broken) (defScope s_raw_broken) [] [] f fd) (g : mg (PySem.Str.ofString "raw_broken") = some (.ref f)) : FnK P w K mg base (PySem.Str.ofString "raw_broken") 2 8 3 d_raw_broken := by
  refine fnK_of FD g sc_raw_broken rfl rfl (fun _ _ _ _ _ _ us hl => match us, hl with | [_, _, _], _ => rfl) fun cdv A outer s H E1 hr => ?_
  have hN := (sc_raw_broken).nd
  exact (jss_cons (js_asg (je_tup (jl_cons (je_res (jr_call F_raw_keys (hr.mono (by decide)) (by rfl) (takes_of rfl rfl rfl rfl) (jl_cons (je_var 0) jl_nil))) (jl_cons (je_neg je_int) jl_nil))) (jg_tup rfl (jgs_cons (jg_name 3 hN) (jgs_cons (jg_name 4 hN) jgs_nil)) (bCons_len (bCons_len bNil_len))))
  (jss_cons (js_for (passes_of rfl) rfl (ji_enum (by rfl) E.b_enumerate (je_ix (je_var 0) (jb_je je_int))) (jg_tup rfl (jgs_cons (jg_name 5 hN) (jgs_cons (jg_name 6 hN) jgs_nil)) (bCons_len (bCons_len bNil_len)))
  (jss_cons (js_if (jt_val (je_any rfl (by rfl) E.b_any (jb_je (je_new (jn_lc rfl hN (ji_any (je_var 6)) (blkOk_by (own := [((PySem.Str.ofString "column"), 7)]) (show blkC N_raw_broken (defScope s_raw_broken) _ _ = true from by decide +kernel)) (fun b => (jg_name 7 hN)) (fun b => jts_nil) (fun b => (je_cmp (o_ne hr.units) (je_ix (je_var 1) (jb_je (je_mt (mt_indexD (hu65 hr)) mk_index PySem.F.slot_list_index PySem.F.type_list_index (je_var 3) (je_var 7)))) (jb_je (je_ix (je_var 2) (jb_je (je_mt (mt_indexD (hu65 hr)) mk_index PySem.F.slot_list_index PySem.F.type_list_index (je_var 3) (je_var 7))))))))))))
  (jss_one (js_set 4 hN (je_var 5)))
  jss_nil)
  (jss_kill [5, 6] jss_nil)))
  (jss_one (js_retN (jn_listR1 rfl (by rfl) E.b_list (by rfl) E.b_range (je_bin o_add (je_var 4) (jb_je je_int)))))))
theorem ok_latches_off {f : Addr} (E : Fct P w K mg base)  (FD : ∃ fd, FunD K (PySem.Str.ofString "latches_off") (PySem.Str.ofString "latches_off") (defArgs s_latches_off) (defBody s_latches_off) (defScope s_latches_off) [] [] f fd) (g : mg (PySem.Str.ofString "latches_off") = some (.ref f)) : FnK P w K mg base (PySem.Str.ofString "latches_off") 1 5 3 d_latches_off := by
  refine fnK_of FD g sc_latches_off rfl rfl (fun _ _ _ _ _ _ us hl => match us, hl with | [_, _, _], _ => rfl) fun cdv A outer s H E1 hr => ?_
  have hN := (sc_latches_off).nd
  exact (jss_one (js_ret (je_join je_str (jb_je (je_new (jn_lc rfl hN (ji_zip (by rfl) E.b_zip (je_ix (je_var 0) (jb_je je_int)) (je_var 1)) (blkOk_by (own := [((PySem.Str.ofString "latch"), 3), ((PySem.Str.ofString "sign"), 4)]) (show blkC N_latches_off (defScope s_latches_off) _ _ = true from by decide +kernel)) (fun b => (jg_tup rfl (jgs_cons (jg_name 3 hN) (jgs_cons (jg_name 4 hN) jgs_nil)) (bCons_len (bCons_len bNil_len)))) (fun b => jts_nil) (fun b => (je_ifE (jt_cmp (o_eq hr.units) (je_ix (je_var 3) (jb_je je_int)) (jb_je (je_var 2))) (je_gstr (by rfl) E.s_OFF) (je_var 4)))))))))
theorem ok_latches_on {f : Addr} (E : Fct P w K mg base)  (FD : ∃ fd, FunD K (PySem.Str.ofString "latches_on") (PySem.Str.ofString "latches_on") (defArgs s_latches_on) (defBody s_latches_on) (defScope s_latches_on) [] [] f fd) (g : mg (PySem.Str.ofString "latches_on") = some (.ref f)) : FnK P w K mg base (PySem.Str.ofString "latches_on") 1 5 3 d_latches_on := by
  refine fnK_of FD g sc_latches_on rfl rfl (fun _ _ _ _ _ _ us hl => match us, hl with | [_, _, _], _ => rfl) fun cdv A outer s H E1 hr => ?_
  have hN := (sc_latches_on).nd
  exact (jss_one (js_ret (je_join je_str (jb_je (je_new (jn_lc rfl hN (ji_zip (by rfl) E.b_zip (je_ix (je_var 0) (jb_je je_int)) (je_var 1)) (blkOk_by (own := [((PySem.Str.ofString "latch"), 3), ((PySem.Str.ofString "sign"), 4)]) (show blkC N_latches_on (defScope s_latches_on) _ _ = true from by decide +kernel)) (fun b => (jg_tup rfl (jgs_cons (jg_name 3 hN) (jgs_cons (jg_name 4 hN) jgs_nil)) (bCons_len (bCons_len bNil_len)))) (fun b => jts_nil) (fun b => (je_ifE (jt_cmp (o_eq hr.units) (je_ix (je_var 2) (jb_je (je_ix (je_var 3) (jb_je je_int)))) (jb_je (je_ix (je_var 3) (jb_je je_int)))) (je_gstr (by rfl) E.s_ON) (je_var 4)))))))))
theorem ok_deed_events {f : Addr} (E : Fct P w K mg base) (F_does_hold : FnK P w K mg base (PySem.Str.ofString "does_hold") 1 4 3 d_does_hold) (FD : ∃ fd, FunD K (PySem.Str.ofString "deed_events") (PySem.Str.ofString "deed_events") (defArgs s_deed_events) (defBody s_deed_events) (defScope s_deed_events) [] [] f fd) (g : mg (PySem.Str.ofString "deed_events") = some (.ref f)) : FnK P w K mg base (PySem.Str.ofString "deed_events") 2 6 3 d_deed_events := by
  refine fnK_of FD g sc_deed_events rfl rfl (fun _ _ _ _ _ _ us hl => match us, hl with | [_, _, _], _ => rfl) fun cdv A outer s H E1 hr => ?_
  have hN := (sc_deed_events).nd
  exact (jss_cons (js_setN 3 hN (jn_lst jl_nil))
  (jss_cons (js_for (passes_of rfl) rfl (ji_enum (by rfl) E.b_enumerate (je_ix (je_ix (je_var 0) (jb_je je_int)) (jb_je (je_var 1)))) (jg_tup rfl (jgs_cons (jg_name 4 hN) (jgs_cons (jg_name 5 hN) jgs_nil)) (bCons_len (bCons_len bNil_len)))
  (jss_cons (js_if (jt_jw (jw_or (jt_cmp (o_ne hr.units) (je_ix (je_var 5) (jb_je je_int)) (jb_je (je_gstr (by rfl) E.s_PRINT))) (jw_or1 (jt_val (je_res (jr_call F_does_hold (hr.mono (by decide)) (by rfl) (takes_of rfl rfl rfl rfl) (jl_cons (je_ix (je_var 5) (jb_je je_int)) (jl_cons (je_var 2) (jl_cons je_non jl_nil)))))))))
  (jss_one (js_app 3 (je_tup (jl_cons (je_gstr (by rfl) E.s_DEED) (jl_cons (je_var 1) (jl_cons (je_var 4) jl_nil))))))
  jss_nil)
  (jss_kill [4, 5] jss_nil)))
  (jss_one (js_retOwn 3))))
theorem ok_raw_events {f : Addr} (E : Fct P w K mg base) (F_does_hold : FnK P w K mg base (PySem.Str.ofString "does_hold") 1 4 3 d_does_hold) (F_keys_on : FnK P w K mg base (PySem.Str.ofString "keys_on") 2 3 2 d_keys_on) (F_raw_broken : FnK P w K mg base (PySem.Str.ofString "raw_broken") 2 8 3 d_raw_broken) (F_latches_off : FnK P w K mg base (PySem.Str.ofString "latches_off") 1 5 3 d_latches_off) (F_latches_on : FnK P w K mg base (PySem.Str.ofString "latches_on") 1 5 3 d_latches_on) (F_deed_events : FnK P w K mg base (PySem.Str.ofString "deed_events") 2 6 3 d_deed_events) (FD : ∃ fd, FunD K (PySem.Str.ofString "raw_events") (PySem.Str.ofString "raw_events") (defArgs s_raw_events) (defBody s_raw_events) (defScope s_raw_events) [] [] f fd) (g : mg (PySem.Str.ofString "raw_events") = some (.ref f)) : FnK P w K mg base (PySem.Str.ofString "raw_events") 3 11 3 d_raw_events := by
  refine fnK_of FD g sc_raw_events rfl rfl (fun _ _ _ _ _ _ us hl => match us, hl with | [_, _, _], _ => rfl) fun cdv A outer s H E1 hr => ?_
  have hN := (sc_raw_events).nd
  exact (jss_cons (js_asg (je_var 1) (jg_tup rfl (jgs_cons (jg_name 3 hN) (jgs_cons (jg_name 4 hN) jgs_nil)) (bCons_len (bCons_len bNil_len))))
  (jss_cons (js_parEN 5 6 rfl hN (je_res (jr_call F_keys_on (hr.mono (by decide)) (by rfl) (takes_of rfl rfl rfl rfl) (jl_cons (je_var 0) (jl_cons (je_var 2) jl_nil)))) (jn_lst jl_nil))
  (jss_cons (js_if (jt_notN (jb_je (je_var 3)))
  (jss_kill [1] (jss_one (js_for (passes_of rfl) rfl (ji_any (je_res (jr_call F_raw_broken (hr.mono (by decide)) (by rfl) (takes_of rfl rfl rfl rfl) (jl_cons (je_var 0) (jl_cons (je_var 3) (jl_cons (je_var 5) jl_nil)))))) (jg_name 7 hN)
  (jss_cons (js_ext 6 (jb_je (je_res (jr_call F_deed_events (hr.mono (by decide)) (by rfl) (takes_of rfl rfl rfl rfl) (jl_cons (je_var 0) (jl_cons (je_var 7) (jl_cons (je_var 4) jl_nil)))))))
  (jss_cons (js_set 4 hN (je_res (jr_call F_latches_off (hr.mono (by decide)) (by rfl) (takes_of rfl rfl rfl rfl) (jl_cons (je_var 0) (jl_cons (je_var 4) (jl_cons (je_var 7) jl_nil))))))
  (jss_kill [7] jss_nil))))))
  jss_nil)
  (jss_cons (js_set 4 hN (je_res (jr_call F_latches_on (hr.mono (by decide)) (by rfl) (takes_of rfl rfl rfl rfl) (jl_cons (je_var 0) (jl_cons (je_var 4) (jl_cons (je_var 2) jl_nil))))))
  (jss_cons (js_ext 6 (jb_je (je_new (jn_lc rfl hN (ji_enum (by rfl) E.b_enumerate (je_ix (je_var 0) (jb_je je_int))) (blkOk_by (own := [((PySem.Str.ofString "at"), 8), ((PySem.Str.ofString "add"), 9)]) (show blkC N_raw_events (defScope s_raw_events) _ _ = true from by decide +kernel)) (fun b => (jg_tup rfl (jgs_cons (jg_name 8 hN) (jgs_cons (jg_name 9 hN) jgs_nil)) (bCons_len (bCons_len bNil_len)))) (fun b => (jts_one (jt_val (je_res (jr_call F_does_hold (hr.mono (by decide)) (by rfl) takes0 (jl_cons (je_ix (je_var 9) (jb_je je_int)) (jl_cons (je_var 4) (jl_cons (je_var 2) jl_nil)))))))) (fun b => (je_tup (jl_cons (je_gstr (by rfl) E.s_ADD) (jl_cons (je_var 8) jl_nil))))))))
  (jss_cons (js_ext 6 (jb_je (je_new (jn_lc rfl hN (ji_enum (by rfl) E.b_enumerate (je_ix (je_var 0) (jb_je je_int))) (blkOk_by (own := [((PySem.Str.ofString "at"), 8), ((PySem.Str.ofString "one"), 10)]) (show blkC N_raw_events (defScope s_raw_events) _ _ = true from by decide +kernel)) (fun b => (jg_tup rfl (jgs_cons (jg_name 8 hN) (jgs_cons (jg_name 10 hN) jgs_nil)) (bCons_len (bCons_len bNil_len)))) (fun b => (jts_one (jt_val (je_res (jr_call F_does_hold (hr.mono (by decide)) (by rfl) takes0 (jl_cons (je_ix (je_var 10) (jb_je je_int)) (jl_cons (je_var 4) (jl_cons (je_var 2) jl_nil)))))))) (fun b => (je_tup (jl_cons (je_gstr (by rfl) E.s_LIST) (jl_cons (je_var 8) jl_nil))))))))
  (jss_one (js_ret (je_tup (jl_cons (je_frz 6) (jl_cons (je_tup (jl_cons (je_var 5) (jl_cons (je_var 4) jl_nil))) jl_nil)))))))))))
theorem ok_raw_end_events {f : Addr} (E : Fct P w K mg base) (F_latches_off : FnK P w K mg base (PySem.Str.ofString "latches_off") 1 5 3 d_latches_off) (F_deed_events : FnK P w K mg base (PySem.Str.ofString "deed_events") 2 6 3 d_deed_events) (FD : ∃ fd, FunD K (PySem.Str.ofString "raw_end_events") (PySem.Str.ofString "raw_end_events") (defArgs s_raw_end_events) (defBody s_raw_end_events) (defScope s_raw_end_events) [] [] f fd) (g : mg (PySem.Str.ofString "raw_end_events") = some (.ref f)) : FnK P w K mg base (PySem.Str.ofString "raw_end_events") 3 6 2 d_raw_end_events := by
  refine fnK_of FD g sc_raw_end_events rfl rfl (fun _ _ _ _ _ _ us hl => match us, hl with | [_, _], _ => rfl) fun cdv A outer s H E1 hr => ?_
  have hN := (sc_raw_end_events).nd
  exact (jss_cons (js_asg (je_var 1) (jg_tup rfl (jgs_cons (jg_name 2 hN) (jgs_cons (jg_name 3 hN) jgs_nil)) (bCons_len (bCons_len bNil_len))))
  (jss_cons (js_setN 4 hN (jn_lst jl_nil))
  (jss_cons (js_if (jt_notN (jb_je (je_var 2)))
  (jss_kill [1, 2] (jss_one (js_for (passes_of rfl) rfl (ji_rng1 (by rfl) E.b_range (je_len (by rfl) E.b_len (jb_je (je_ix (je_var 0) (jb_je je_int))))) (jg_name 5 hN)
  (jss_cons (js_ext 4 (jb_je (je_res (jr_call F_deed_events (hr.mono (by decide)) (by rfl) (takes_of rfl rfl rfl rfl) (jl_cons (je_var 0) (jl_cons (je_var 5) (jl_cons (je_var 3) jl_nil)))))))
  (jss_cons (js_set 3 hN (je_res (jr_call F_latches_off (hr.mono (by decide)) (by rfl) (takes_of rfl rfl rfl rfl) (jl_cons (je_var 0) (jl_cons (je_var 3) (jl_cons (je_var 5) jl_nil))))))
  (jss_kill [5] jss_nil))))))
  jss_nil)
  (jss_one (js_retN (jn_catO 4 (jb_je (je_res (jr_call F_deed_events (hr.mono (by decide)) (by rfl) (takes_of rfl rfl rfl rfl) (jl_cons (je_var 0) (jl_cons (je_len (by rfl) E.b_len (jb_je (je_ix (je_var 0) (jb_je je_int)))) (jl_cons (je_var 3) jl_nil))))))))))))
theorem ok_raw_first_state {f : Addr} (E : Fct P w K mg base)  (FD : ∃ fd, FunD K (PySem.Str.ofString "raw_first_state") (PySem.Str.ofString "raw_first_state") (defArgs s_raw_first_state) (defBody s_raw_first_state) (defScope s_raw_first_state) [] [] f fd) (g : mg (PySem.Str.ofString "raw_first_state") = some (.ref f)) : FnK P w K mg base (PySem.Str.ofString "raw_first_state") 1 1 1 d_raw_first_state := by
  refine fnK_of FD g sc_raw_first_state rfl rfl (fun _ _ _ _ _ _ us hl => match us, hl with | [_], _ => rfl) fun cdv A outer s H E1 hr => ?_
  have hN := (sc_raw_first_state).nd
  exact (jss_one (js_ret (je_tup (jl_cons je_non (jl_cons (je_bin o_mul (je_gstr (by rfl) E.s_OFF) (jb_je (je_len (by rfl) E.b_len (jb_je (je_ix (je_var 0) (jb_je je_int)))))) jl_nil)))))
theorem ok_check_run {f : Addr} (E : Fct P w K mg base) (F_raw_is_deck : FnK P w K mg base (PySem.Str.ofString "raw_is_deck") 2 3 2 d_raw_is_deck) (F_check_board : FnK P w K mg base (PySem.Str.ofString "check_board") 10 1 1 d_check_board) (FD : ∃ fd, FunD K (PySem.Str.ofString "check_run") (PySem.Str.ofString "check_run") (defArgs s_check_run) (defBody s_check_run) (defScope s_check_run) [] [] f fd) (g : mg (PySem.Str.ofString "check_run") = some (.ref f)) : FnK P w K mg base (PySem.Str.ofString "check_run") 11 2 2 d_check_run := by
  refine fnK_of FD g sc_check_run rfl rfl (fun _ _ _ _ _ _ us hl => match us, hl with | [_, _], _ => rfl) fun cdv A outer s H E1 hr => ?_
  have hN := (sc_check_run).nd
  exact (jss_cons (js_expr (je_res (jr_call F_check_board (hr.mono (by decide)) (by rfl) (takes_of rfl rfl rfl rfl) (jl_cons (je_var 0) jl_nil))))
  (jss_one (js_if (jt_not (jt_val (je_res (jr_call F_raw_is_deck (hr.mono (by decide)) (by rfl) (takes_of rfl rfl rfl rfl) (jl_cons (je_ix (je_var 0) (jb_je je_int)) (jl_cons (je_var 1) jl_nil))))))
  (jss_one (js_raise rfl (takes_of rfl rfl rfl rfl) (jx_own0 E.x0_NoDeck (by rfl))))
  jss_nil)))
theorem ok_are_prices {f : Addr} (E : Fct P w K mg base) (F_is_within : FnK P w K mg base (PySem.Str.ofString "is_within") 2 3 3 d_is_within) (F_is_tuple_of : FnK P w K mg base (PySem.Str.ofString "is_tuple_of") 1 2 2 d_is_tuple_of) (FD : ∃ fd, FunD K (PySem.Str.ofString "are_prices") (PySem.Str.ofString "are_prices") (defArgs s_are_prices) (defBody s_are_prices) (defScope s_are_prices) [] [] f fd) (g : mg (PySem.Str.ofString "are_prices") = some (.ref f)) : FnK P w K mg base (PySem.Str.ofString "are_prices") 3 2 1 d_are_prices := by
  refine fnK_of FD g sc_are_prices rfl rfl (fun _ _ _ _ _ _ us hl => match us, hl with | [_], _ => rfl) fun cdv A outer s H E1 hr => ?_
  have hN := (sc_are_prices).nd
  exact (jss_one (js_ret (je_and (je_res (jr_call F_is_tuple_of (hr.mono (by decide)) (by rfl) (takes_of rfl rfl rfl rfl) (jl_cons (je_var 0) (jl_cons (je_gint (by rfl) E.i_KINDS) jl_nil)))) (je_one (je_all rfl (by rfl) E.b_all (jb_je (je_new (jn_lc rfl hN (ji_any (je_var 0)) (blkOk_by (own := [((PySem.Str.ofString "one"), 1)]) (show blkC N_are_prices (defScope s_are_prices) _ _ = true from by decide +kernel)) (fun b => (jg_name 1 hN)) (fun b => jts_nil) (fun b => (je_res (jr_call F_is_within (hr.mono (by decide)) (by rfl) takes0 (jl_cons (je_var 1) (jl_cons je_int (jl_cons (je_gint (by rfl) E.i_MOST_PRICE) jl_nil))))))))))))))
theorem ok_check_prices {f : Addr} (E : Fct P w K mg base) (F_check_board : FnK P w K mg base (PySem.Str.ofString "check_board") 10 1 1 d_check_board) (F_are_prices : FnK P w K mg base (PySem.Str.ofString "are_prices") 3 2 1 d_are_prices) (FD : ∃ fd, FunD K (PySem.Str.ofString "check_prices") (PySem.Str.ofString "check_prices") (defArgs s_check_prices) (defBody s_check_prices) (defScope s_check_prices) [] [] f fd) (g : mg (PySem.Str.ofString "check_prices") = some (.ref f)) : FnK P w K mg base (PySem.Str.ofString "check_prices") 11 2 2 d_check_prices := by
  refine fnK_of FD g sc_check_prices rfl rfl (fun _ _ _ _ _ _ us hl => match us, hl with | [_, _], _ => rfl) fun cdv A outer s H E1 hr => ?_
  have hN := (sc_check_prices).nd
  exact (jss_cons (js_expr (je_res (jr_call F_check_board (hr.mono (by decide)) (by rfl) (takes_of rfl rfl rfl rfl) (jl_cons (je_var 0) jl_nil))))
  (jss_one (js_if (jt_not (jt_val (je_res (jr_call F_are_prices (hr.mono (by decide)) (by rfl) (takes_of rfl rfl rfl rfl) (jl_cons (je_var 1) jl_nil)))))
  (jss_one (js_raise rfl (takes_of rfl rfl rfl rfl) (jx_own0 E.x0_NoPrices (by rfl))))
  jss_nil)))
theorem ok_event_price {f : Addr} (E : Fct P w K mg base)  (FD : ∃ fd, FunD K (PySem.Str.ofString "event_price") (PySem.Str.ofString "event_price") (defArgs s_event_price) (defBody s_event_price) (defScope s_event_price) [] [] f fd) (g : mg (PySem.Str.ofString "event_price") = some (.ref f)) : FnK P w K mg base (PySem.Str.ofString "event_price") 1 3 3 d_event_price := by
  refine fnK_of FD g sc_event_price rfl rfl (fun _ _ _ _ _ _ us hl => match us, hl with | [_, _, _], _ => rfl) fun cdv A outer s H E1 hr => ?_
  have hN := (sc_event_price).nd
  exact (jss_cons (js_if (jt_cmp (o_eq hr.units) (je_ix (je_var 1) (jb_je je_int)) (jb_je (je_gstr (by rfl) E.s_ADD)))
  (jss_one (js_ret (je_ix (je_var 2) (jb_je je_int))))
  jss_nil)
  (jss_cons (js_if (jt_jw (jw_and (jt_cmp (o_eq hr.units) (je_ix (je_var 1) (jb_je je_int)) (jb_je (je_gstr (by rfl) E.s_DEED))) (jw_and1 (jt_cmp (o_ne hr.units) (je_ix (je_ix (je_ix (je_ix (je_var 0) (jb_je je_int)) (jb_je (je_ix (je_var 1) (jb_je je_int)))) (jb_je (je_ix (je_var 1) (jb_je je_int)))) (jb_je je_int)) (jb_je (je_gstr (by rfl) E.s_PRINT))))))
  (jss_one (js_ret (je_ix (je_var 2) (jb_je je_int))))
  jss_nil)
  (jss_one (js_ret (je_ix (je_var 2) (jb_je je_int))))))
theorem ok_events_price {f : Addr} (E : Fct P w K mg base) (F_event_price : FnK P w K mg base (PySem.Str.ofString "event_price") 1 3 3 d_event_price) (FD : ∃ fd, FunD K (PySem.Str.ofString "events_price") (PySem.Str.ofString "events_price") (defArgs s_events_price) (defBody s_events_price) (defScope s_events_price) [] [] f fd) (g : mg (PySem.Str.ofString "events_price") = some (.ref f)) : FnK P w K mg base (PySem.Str.ofString "events_price") 2 4 3 d_events_price := by
  refine fnK_of FD g sc_events_price rfl rfl (fun _ _ _ _ _ _ us hl => match us, hl with | [_, _, _], _ => rfl) fun cdv A outer s H E1 hr => ?_
  have hN := (sc_events_price).nd
  exact (jss_one (js_ret (je_sum rfl (by rfl) E.b_sum (jb_je (je_new (jn_lc rfl hN (ji_any (je_var 1)) (blkOk_by (own := [((PySem.Str.ofString "event"), 3)]) (show blkC N_events_price (defScope s_events_price) _ _ = true from by decide +kernel)) (fun b => (jg_name 3 hN)) (fun b => jts_nil) (fun b => (je_res (jr_call F_event_price (hr.mono (by decide)) (by rfl) takes0 (jl_cons (je_var 0) (jl_cons (je_var 3) (jl_cons (je_var 2) jl_nil))))))))))))
theorem ok_card_costs {f : Addr} (E : Fct P w K mg base) (F_raw_events : FnK P w K mg base (PySem.Str.ofString "raw_events") 3 11 3 d_raw_events) (F_raw_end_events : FnK P w K mg base (PySem.Str.ofString "raw_end_events") 3 6 2 d_raw_end_events) (F_raw_first_state : FnK P w K mg base (PySem.Str.ofString "raw_first_state") 1 1 1 d_raw_first_state) (F_events_price : FnK P w K mg base (PySem.Str.ofString "events_price") 2 4 3 d_events_price) (FD : ∃ fd, FunD K (PySem.Str.ofString "card_costs") (PySem.Str.ofString "card_costs") (defArgs s_card_costs) (defBody s_card_costs) (defScope s_card_costs) [] [] f fd) (g : mg (PySem.Str.ofString "card_costs") = some (.ref f)) : FnK P w K mg base (PySem.Str.ofString "card_costs") 4 7 3 d_card_costs := by
  refine fnK_of FD g sc_card_costs rfl rfl (fun _ _ _ _ _ _ us hl => match us, hl with | [_, _, _], _ => rfl) fun cdv A outer s H E1 hr => ?_
  have hN := (sc_card_costs).nd
  exact (jss_cons (js_parEN 3 4 rfl hN (je_res (jr_call F_raw_first_state (hr.mono (by decide)) (by rfl) (takes_of rfl rfl rfl rfl) (jl_cons (je_var 0) jl_nil))) (jn_lst jl_nil))
  (jss_cons (js_for (passes_of rfl) rfl (ji_any (je_var 1)) (jg_name 5 hN)
  (jss_cons (js_asg (je_res (jr_call F_raw_events (hr.mono (by decide)) (by rfl) (takes_of rfl rfl rfl rfl) (jl_cons (je_var 0) (jl_cons (je_var 3) (jl_cons (je_var 5) jl_nil))))) (jg_tup rfl (jgs_cons (jg_name 6 hN) (jgs_cons (jg_name 3 hN) jgs_nil)) (bCons_len (bCons_len bNil_len))))
  (jss_cons (js_app 4 (je_bin o_add (je_ix (je_var 2) (jb_je je_int)) (jb_je (je_res (jr_call F_events_price (hr.mono (by decide)) (by rfl) (takes_of rfl rfl rfl rfl) (jl_cons (je_var 0) (jl_cons (je_var 6) (jl_cons (je_var 2) jl_nil))))))))
  (jss_kill [5, 6] jss_nil))))
  (jss_one (js_retN (jn_catO 4 (jb_je (je_new (jn_lst (jl_cons (je_res (jr_call F_events_price (hr.mono (by decide)) (by rfl) (takes_of rfl rfl rfl rfl) (jl_cons (je_var 0) (jl_cons (je_res (jr_call F_raw_end_events (hr.mono (by decide)) (by rfl) (takes_of rfl rfl rfl rfl) (jl_cons (je_var 0) (jl_cons (je_var 3) jl_nil)))) (jl_cons (je_var 2) jl_nil))))) jl_nil)))))))))
theorem ok_costs_of {f : Addr} (E : Fct P w K mg base) (F_check_run : FnK P w K mg base (PySem.Str.ofString "check_run") 11 2 2 d_check_run) (F_check_prices : FnK P w K mg base (PySem.Str.ofString "check_prices") 11 2 2 d_check_prices) (F_card_costs : FnK P w K mg base (PySem.Str.ofString "card_costs") 4 7 3 d_card_costs) (FD : ∃ fd, FunD K (PySem.Str.ofString "costs_of") (PySem.Str.ofString "costs_of") (defArgs s_costs_of) (defBody s_costs_of) (defScope s_costs_of) [] [] f fd) (g : mg (PySem.Str.ofString "costs_of") = some (.ref f)) : FnK P w K mg base (PySem.Str.ofString "costs_of") 12 3 3 d_costs_of := by
  refine fnK_of FD g sc_costs_of rfl rfl (fun _ _ _ _ _ _ us hl => match us, hl with | [_, _, _], _ => rfl) fun cdv A outer s H E1 hr => ?_
  have hN := (sc_costs_of).nd
  exact (jss_cons (js_expr (je_res (jr_call F_check_run (hr.mono (by decide)) (by rfl) (takes_of rfl rfl rfl rfl) (jl_cons (je_var 0) (jl_cons (je_var 1) jl_nil)))))
  (jss_cons (js_expr (je_res (jr_call F_check_prices (hr.mono (by decide)) (by rfl) (takes_of rfl rfl rfl rfl) (jl_cons (je_var 0) (jl_cons (je_var 2) jl_nil)))))
  (jss_one (js_ret (je_tuple (by rfl) E.b_tuple (jb_je (je_res (jr_call F_card_costs (hr.mono (by decide)) (by rfl) (takes_of rfl rfl rfl rfl) (jl_cons (je_var 0) (jl_cons (je_var 1) (jl_cons (je_var 2) jl_nil)))))))))))
theorem ok_cost_of {f : Addr} (E : Fct P w K mg base) (F_check_run : FnK P w K mg base (PySem.Str.ofString "check_run") 11 2 2 d_check_run) (F_check_prices : FnK P w K mg base (PySem.Str.ofString "check_prices") 11 2 2 d_check_prices) (F_card_costs : FnK P w K mg base (PySem.Str.ofString "card_costs") 4 7 3 d_card_costs) (FD : ∃ fd, FunD K (PySem.Str.ofString "cost_of") (PySem.Str.ofString "cost_of") (defArgs s_cost_of) (defBody s_cost_of) (defScope s_cost_of) [] [] f fd) (g : mg (PySem.Str.ofString "cost_of") = some (.ref f)) : FnK P w K mg base (PySem.Str.ofString "cost_of") 12 3 3 d_cost_of := by
  refine fnK_of FD g sc_cost_of rfl rfl (fun _ _ _ _ _ _ us hl => match us, hl with | [_, _, _], _ => rfl) fun cdv A outer s H E1 hr => ?_
  have hN := (sc_cost_of).nd
  exact (jss_cons (js_expr (je_res (jr_call F_check_run (hr.mono (by decide)) (by rfl) (takes_of rfl rfl rfl rfl) (jl_cons (je_var 0) (jl_cons (je_var 1) jl_nil)))))
  (jss_cons (js_expr (je_res (jr_call F_check_prices (hr.mono (by decide)) (by rfl) (takes_of rfl rfl rfl rfl) (jl_cons (je_var 0) (jl_cons (je_var 2) jl_nil)))))
  (jss_one (js_ret (je_sum rfl (by rfl) E.b_sum (jb_je (je_res (jr_call F_card_costs (hr.mono (by decide)) (by rfl) (takes_of rfl rfl rfl rfl) (jl_cons (je_var 0) (jl_cons (je_var 1) (jl_cons (je_var 2) jl_nil)))))))))))
theorem ok_all_events {f : Addr} (E : Fct P w K mg base) (F_raw_events : FnK P w K mg base (PySem.Str.ofString "raw_events") 3 11 3 d_raw_events) (F_raw_end_events : FnK P w K mg base (PySem.Str.ofString "raw_end_events") 3 6 2 d_raw_end_events) (F_raw_first_state : FnK P w K mg base (PySem.Str.ofString "raw_first_state") 1 1 1 d_raw_first_state) (FD : ∃ fd, FunD K (PySem.Str.ofString "all_events") (PySem.Str.ofString "all_events") (defArgs s_all_events) (defBody s_all_events) (defScope s_all_events) [] [] f fd) (g : mg (PySem.Str.ofString "all_events") = some (.ref f)) : FnK P w K mg base (PySem.Str.ofString "all_events") 4 7 2 d_all_events := by
  refine fnK_of FD g sc_all_events rfl rfl (fun _ _ _ _ _ _ us hl => match us, hl with | [_, _], _ => rfl) fun cdv A outer s H E1 hr => ?_
  have hN := (sc_all_events).nd
  exact (jss_cons (js_parEN 2 3 rfl hN (je_res (jr_call F_raw_first_state (hr.mono (by decide)) (by rfl) (takes_of rfl rfl rfl rfl) (jl_cons (je_var 0) jl_nil))) (jn_lst jl_nil))
  (jss_cons (js_for (passes_of rfl) rfl (ji_any (je_var 1)) (jg_name 4 hN)
  (jss_cons (js_asg (je_res (jr_call F_raw_events (hr.mono (by decide)) (by rfl) (takes_of rfl rfl rfl rfl) (jl_cons (je_var 0) (jl_cons (je_var 2) (jl_cons (je_var 4) jl_nil))))) (jg_tup rfl (jgs_cons (jg_name 5 hN) (jgs_cons (jg_name 2 hN) jgs_nil)) (bCons_len (bCons_len bNil_len))))
  (jss_cons (js_ext 3 (jb_je (je_new (jn_lc rfl hN (ji_any (je_var 5)) (blkOk_by (own := [((PySem.Str.ofString "event"), 6)]) (show blkC N_all_events (defScope s_all_events) _ _ = true from by decide +kernel)) (fun b => (jg_name 6 hN)) (fun b => jts_nil) (fun b => (je_tup (jl_cons (je_var 6) (jl_cons (je_var 4) jl_nil))))))))
  (jss_kill [4, 5] jss_nil))))
  (jss_cons (js_ext 3 (jb_je (je_new (jn_lc rfl hN (ji_any (je_res (jr_call F_raw_end_events (hr.mono (by decide)) (by rfl) (takes_of rfl rfl rfl rfl) (jl_cons (je_var 0) (jl_cons (je_var 2) jl_nil))))) (blkOk_by (own := [((PySem.Str.ofString "event"), 6)]) (show blkC N_all_events (defScope s_all_events) _ _ = true from by decide +kernel)) (fun b => (jg_name 6 hN)) (fun b => jts_nil) (fun b => (je_tup (jl_cons (je_var 6) (jl_cons je_non jl_nil))))))))
  (jss_one (js_retOwn 3)))))
theorem ok_told_counts {f : Addr} (E : Fct P w K mg base) (F_all_events : FnK P w K mg base (PySem.Str.ofString "all_events") 4 7 2 d_all_events) (FD : ∃ fd, FunD K (PySem.Str.ofString "told_counts") (PySem.Str.ofString "told_counts") (defArgs s_told_counts) (defBody s_told_counts) (defScope s_told_counts) [] [] f fd) (g : mg (PySem.Str.ofString "told_counts") = some (.ref f)) : FnK P w K mg base (PySem.Str.ofString "told_counts") 5 8 4 d_told_counts := by
  refine fnK_of FD g sc_told_counts rfl rfl (fun _ _ _ _ _ _ us hl => match us, hl with | [_, _, _, _], _ => rfl) fun cdv A outer s H E1 hr => ?_
  have hN := (sc_told_counts).nd
  exact (jss_cons (js_set 4 hN (je_new (jn_lc rfl hN (ji_any (je_res (jr_call F_all_events (hr.mono (by decide)) (by rfl) (takes_of rfl rfl rfl rfl) (jl_cons (je_var 0) (jl_cons (je_var 1) jl_nil))))) (blkOk_by (own := [((PySem.Str.ofString "event"), 5), ((PySem.Str.ofString "card"), 6)]) (show blkC N_told_counts (defScope s_told_counts) _ _ = true from by decide +kernel)) (fun b => (jg_tup rfl (jgs_cons (jg_name 5 hN) (jgs_cons (jg_name 6 hN) jgs_nil)) (bCons_len (bCons_len bNil_len)))) (fun b => (jts_one (jt_cmp (o_eq hr.units) (je_ix (je_var 5) (jb_je je_int)) (jb_je (je_var 2))))) (fun b => (je_ix (je_var 5) (jb_je je_int))))))
  (jss_one (js_ret (je_tuple (by rfl) E.b_tuple (jb_je (je_new (jn_lc rfl hN (ji_rng1 (by rfl) E.b_range (je_var 3)) (blkOk_by (own := [((PySem.Str.ofString "at"), 7)]) (show blkC N_told_counts (defScope s_told_counts) _ _ = true from by decide +kernel)) (fun b => (jg_name 7 hN)) (fun b => jts_nil) (fun b => (je_mt (mt_countD (hu65 hr)) mk_count PySem.F.slot_list_count PySem.F.type_list_count (je_var 4) (je_var 7))))))))))
theorem ok_adds_done {f : Addr} (E : Fct P w K mg base) (F_check_run : FnK P w K mg base (PySem.Str.ofString "check_run") 11 2 2 d_check_run) (F_told_counts : FnK P w K mg base (PySem.Str.ofString "told_counts") 5 8 4 d_told_counts) (FD : ∃ fd, FunD K (PySem.Str.ofString "adds_done") (PySem.Str.ofString "adds_done") (defArgs s_adds_done) (defBody s_adds_done) (defScope s_adds_done) [] [] f fd) (g : mg (PySem.Str.ofString "adds_done") = some (.ref f)) : FnK P w K mg base (PySem.Str.ofString "adds_done") 12 2 2 d_adds_done := by
  refine fnK_of FD g sc_adds_done rfl rfl (fun _ _ _ _ _ _ us hl => match us, hl with | [_, _], _ => rfl) fun cdv A outer s H E1 hr => ?_
  have hN := (sc_adds_done).nd
  exact (jss_cons (js_expr (je_res (jr_call F_check_run (hr.mono (by decide)) (by rfl) (takes_of rfl rfl rfl rfl) (jl_cons (je_var 0) (jl_cons (je_var 1) jl_nil)))))
  (jss_one (js_ret (je_res (jr_call F_told_counts (hr.mono (by decide)) (by rfl) (takes_of rfl rfl rfl rfl) (jl_cons (je_var 0) (jl_cons (je_var 1) (jl_cons (je_gstr (by rfl) E.s_ADD) (jl_cons (je_len (by rfl) E.b_len (jb_je (je_ix (je_var 0) (jb_je je_int)))) jl_nil)))))))))
theorem ok_lists_done {f : Addr} (E : Fct P w K mg base) (F_check_run : FnK P w K mg base (PySem.Str.ofString "check_run") 11 2 2 d_check_run) (F_told_counts : FnK P w K mg base (PySem.Str.ofString "told_counts") 5 8 4 d_told_counts) (FD : ∃ fd, FunD K (PySem.Str.ofString "lists_done") (PySem.Str.ofString "lists_done") (defArgs s_lists_done) (defBody s_lists_done) (defScope s_lists_done) [] [] f fd) (g : mg (PySem.Str.ofString "lists_done") = some (.ref f)) : FnK P w K mg base (PySem.Str.ofString "lists_done") 12 2 2 d_lists_done := by
  refine fnK_of FD g sc_lists_done rfl rfl (fun _ _ _ _ _ _ us hl => match us, hl with | [_, _], _ => rfl) fun cdv A outer s H E1 hr => ?_
  have hN := (sc_lists_done).nd
  exact (jss_cons (js_expr (je_res (jr_call F_check_run (hr.mono (by decide)) (by rfl) (takes_of rfl rfl rfl rfl) (jl_cons (je_var 0) (jl_cons (je_var 1) jl_nil)))))
  (jss_one (js_ret (je_res (jr_call F_told_counts (hr.mono (by decide)) (by rfl) (takes_of rfl rfl rfl rfl) (jl_cons (je_var 0) (jl_cons (je_var 1) (jl_cons (je_gstr (by rfl) E.s_LIST) (jl_cons (je_len (by rfl) E.b_len (jb_je (je_ix (je_var 0) (jb_je je_int)))) jl_nil)))))))))
theorem ok_deeds_done {f : Addr} (E : Fct P w K mg base) (F_check_run : FnK P w K mg base (PySem.Str.ofString "check_run") 11 2 2 d_check_run) (F_all_events : FnK P w K mg base (PySem.Str.ofString "all_events") 4 7 2 d_all_events) (FD : ∃ fd, FunD K (PySem.Str.ofString "deeds_done") (PySem.Str.ofString "deeds_done") (defArgs s_deeds_done) (defBody s_deeds_done) (defScope s_deeds_done) [] [] f fd) (g : mg (PySem.Str.ofString "deeds_done") = some (.ref f)) : FnK P w K mg base (PySem.Str.ofString "deeds_done") 12 9 2 d_deeds_done := by
  refine fnK_of FD g sc_deeds_done rfl rfl (fun _ _ _ _ _ _ us hl => match us, hl with | [_, _], _ => rfl) fun cdv A outer s H E1 hr => ?_
  have hN := (sc_deeds_done).nd
  exact (jss_cons (js_expr (je_res (jr_call F_check_run (hr.mono (by decide)) (by rfl) (takes_of rfl rfl rfl rfl) (jl_cons (je_var 0) (jl_cons (je_var 1) jl_nil)))))
  (jss_cons (js_set 2 hN (je_new (jn_lc rfl hN (ji_any (je_res (jr_call F_all_events (hr.mono (by decide)) (by rfl) (takes_of rfl rfl rfl rfl) (jl_cons (je_var 0) (jl_cons (je_var 1) jl_nil))))) (blkOk_by (own := [((PySem.Str.ofString "event"), 6), ((PySem.Str.ofString "card"), 7)]) (show blkC N_deeds_done (defScope s_deeds_done) _ _ = true from by decide +kernel)) (fun b => (jg_tup rfl (jgs_cons (jg_name 6 hN) (jgs_cons (jg_name 7 hN) jgs_nil)) (bCons_len (bCons_len bNil_len)))) (fun b => (jts_one (jt_cmp (o_eq hr.units) (je_ix (je_var 6) (jb_je je_int)) (jb_je (je_gstr (by rfl) E.s_DEED))))) (fun b => (je_var 6)))))
  (jss_cons (js_setN 3 hN (jn_lst jl_nil))
  (jss_kill [1] (jss_cons (js_for (passes_of rfl) rfl (ji_enum (by rfl) E.b_enumerate (je_ix (je_var 0) (jb_je je_int))) (jg_tup rfl (jgs_cons (jg_name 4 hN) (jgs_cons (jg_name 5 hN) jgs_nil)) (bCons_len (bCons_len bNil_len)))
  (jss_cons (js_app 3 (je_tuple (by rfl) E.b_tuple (jb_je (je_new (jn_lc rfl hN (ji_rng1 (by rfl) E.b_range (je_len (by rfl) E.b_len (jb_je (je_var 5)))) (blkOk_by (own := [((PySem.Str.ofString "at"), 8)]) (show blkC N_deeds_done (defScope s_deeds_done) _ _ = true from by decide +kernel)) (fun b => (jg_name 8 hN)) (fun b => jts_nil) (fun b => (je_mt (mt_countD (hu65 hr)) mk_count PySem.F.slot_list_count PySem.F.type_list_count (je_var 2) (je_tup (jl_cons (je_gstr (by rfl) E.s_DEED) (jl_cons (je_var 4) (jl_cons (je_var 8) jl_nil)))))))))))
  (jss_kill [4, 5] jss_nil)))
  (jss_one (js_ret (je_tuple (by rfl) E.b_tuple (jb_rd 3)))))))))
theorem ok__law_hand {f : Addr} (E : Fct P w K mg base)  (FD : ∃ fd, FunD K (PySem.Str.ofString "_law_hand") (PySem.Str.ofString "_law_hand") (defArgs s__law_hand) (defBody s__law_hand) (defScope s__law_hand) [] [] f fd) (g : mg (PySem.Str.ofString "_law_hand") = some (.ref f)) : FnK P w K mg base (PySem.Str.ofString "_law_hand") 1 3 1 d__law_hand := by
  refine fnK_of FD g sc__law_hand rfl rfl (fun _ _ _ _ _ _ us hl => match us, hl with | [_], _ => rfl) fun cdv A outer s H E1 hr => ?_
  have hN := (sc__law_hand).nd
  exact (jss_cons (js_setLc 1 rfl hN (ji_any (je_scr 0)) (blkOk_by (own := [((PySem.Str.ofString "cell"), 2)]) (show blkC N__law_hand (defScope s__law_hand) _ _ = true from by decide +kernel)) (fun b => (jg_name 2 hN)) (fun b => jts_nil) (fun b => (je_abs (by rfl) E.b_abs (jb_je (je_int1 (by rfl) E.b_int (jb_je (je_var 2)))))))
  (jss_one (js_retN (jn_lst (jl_cons (je_frz 1) (jl_cons je_int (jl_cons je_int (jl_cons (je_bin o_add je_int (jb_je (je_bin o_mul je_int (jb_je (je_len (by rfl) E.b_len (jb_rd 1)))))) (jl_cons je_int jl_nil)))))))))
theorem ok__law_draw {f : Addr} (E : Fct P w K mg base)  (FD : ∃ fd, FunD K (PySem.Str.ofString "_law_draw") (PySem.Str.ofString "_law_draw") (defArgs s__law_draw) (defBody s__law_draw) (defScope s__law_draw) [] [] f fd) (g : mg (PySem.Str.ofString "_law_draw") = some (.ref f)) : FnK P w K mg base (PySem.Str.ofString "_law_draw") 1 5 2 d__law_draw := by
  refine fnK_of FD g sc__law_draw rfl rfl (fun _ _ _ _ _ _ us hl => match us, hl with | [_, _], _ => rfl) fun cdv A outer s H E1 hr => ?_
  have hN := (sc__law_draw).nd
  exact (jss_cons (js_if (jt_jw (jw_and (jt_cmp (o_eq hr.units) (je_ixR 0 (jb_je je_int)) (jb_je je_int)) (jw_and1 (jt_cmp o_lt (je_ixR 0 (jb_je je_int)) (jb_je (je_len (by rfl) E.b_len (jb_je (je_ixR 0 (jb_je je_int)))))))))
  (jss_cons (js_set 2 hN (je_ix (je_ixR 0 (jb_je je_int)) (jb_je (je_ixR 0 (jb_je je_int)))))
  (jss_cons (js_put 0 (je_bin o_add (je_ixR 0 (jb_je je_int)) (jb_je je_int)) je_int)
  (jss_cons (js_put 0 (je_bin o_mod (je_int1 (by rfl) E.b_int (jb_je (je_bin o_add (je_bin o_add (je_bin o_mul (je_ixR 0 (jb_je je_int)) (jb_je je_int)) (jb_je (je_bin o_mul (je_var 2) (jb_je je_int)))) (jb_je je_int)))) (jb_je je_int)) je_int)
  (jss_one (js_if (jt_cmp o_ge (je_var 2) (jb_je (je_bin o_pow je_int (jb_je je_int))))
  (jss_one (js_put 0 (je_var 2) je_int))
  jss_nil)))))
  jss_nil)
  (jss_cons (js_if (jt_cmp o_gt (je_ixR 0 (jb_je je_int)) (jb_je je_int))
  (jss_cons (js_set 3 hN (je_bin o_mod (je_int1 (by rfl) E.b_int (jb_je (je_ixR 0 (jb_je je_int)))) (jb_je (je_var 1))))
  (jss_cons (js_put 0 (je_bin o_fdiv (je_ixR 0 (jb_je je_int)) (jb_je (je_var 1))) je_int)
  (jss_one (js_ret (je_var 3)))))
  jss_nil)
  (jss_cons (js_put 0 (je_bin o_add (je_ixR 0 (jb_je je_int)) (jb_je je_int)) je_int)
  (jss_cons (js_set 4 hN (je_bin o_mod (je_int1 (by rfl) E.b_int (jb_je (je_bin o_mul (je_int1 (by rfl) E.b_int (jb_je (je_bin o_add (je_ixR 0 (jb_je je_int)) (jb_je (je_bin o_mul je_int (jb_je (je_ixR 0 (jb_je je_int)))))))) (jb_je je_int)))) (jb_je je_int)))
  (jss_cons (js_set 4 hN (je_bin o_mod (je_int1 (by rfl) E.b_int (jb_je (je_bin o_mul (je_var 4) (jb_je (je_bin o_add (je_bin o_fdiv (je_var 4) (jb_je je_int)) (jb_je je_int)))))) (jb_je je_int)))
  (jss_cons (js_set 4 hN (je_bin o_mod (je_int1 (by rfl) E.b_int (jb_je (je_bin o_mul (je_var 4) (jb_je (je_bin o_add (je_bin o_fdiv (je_var 4) (jb_je je_int)) (jb_je je_int)))))) (jb_je je_int)))
  (jss_one (js_ret (je_bin o_mod (je_int1 (by rfl) E.b_int (jb_je (je_bin o_fdiv (je_var 4) (jb_je je_int)))) (jb_je (je_var 1)))))))))))
theorem ok__law_any {f : Addr} (E : Fct P w K mg base) (F__law_draw : FnK P w K mg base (PySem.Str.ofString "_law_draw") 1 5 2 d__law_draw) (FD : ∃ fd, FunD K (PySem.Str.ofString "_law_any") (PySem.Str.ofString "_law_any") (defArgs s__law_any) (defBody s__law_any) (defScope s__law_any) [] [] f fd) (g : mg (PySem.Str.ofString "_law_any") = some (.ref f)) : FnK P w K mg base (PySem.Str.ofString "_law_any") 2 2 2 d__law_any := by
  refine fnK_of FD g sc__law_any rfl rfl (fun _ _ _ _ _ _ us hl => match us, hl with | [_, _], _ => rfl) fun cdv A outer s H E1 hr => ?_
  have hN := (sc__law_any).nd
  exact (jss_one (js_ret (je_ix (je_var 1) (jb_je (je_res (jr_callH 0 F__law_draw (hr.mono (by decide)) (by rfl) (takes_of rfl rfl rfl rfl) (jl_cons (je_len (by rfl) E.b_len (jb_je (je_var 1))) jl_nil)))))))
theorem ok__law_holds {f : Addr} (E : Fct P w K mg base)  (FD : ∃ fd, FunD K (PySem.Str.ofString "_law_holds") (PySem.Str.ofString "_law_holds") (defArgs s__law_holds) (defBody s__law_holds) (defScope s__law_holds) [] [] f fd) (g : mg (PySem.Str.ofString "_law_holds") = some (.ref f)) : FnK P w K mg base (PySem.Str.ofString "_law_holds") 1 4 3 d__law_holds := by
  refine fnK_of FD g sc__law_holds rfl rfl (fun _ _ _ _ _ _ us hl => match us, hl with | [_, _, _], _ => rfl) fun cdv A outer s H E1 hr => ?_
  have hN := (sc__law_holds).nd
  exact (jss_cons (js_for (passes_of rfl) rfl (ji_any (je_var 0)) (jg_name 3 hN)
  (jss_cons (js_if (jt_jw (jw_and (jt_cmp (o_eq hr.units) (je_ix (je_var 3) (jb_je je_int)) (jb_je je_str)) (jw_and1 (jt_cmp (o_ne hr.units) (je_cmp (o_eq hr.units) (je_ix (je_var 1) (jb_je (je_ix (je_var 3) (jb_je je_int)))) (jb_je (je_ix (je_var 3) (jb_je je_int)))) (jb_je (je_ix (je_var 3) (jb_je je_int)))))))
  (jss_one (js_ret je_bl))
  jss_nil)
  (jss_cons (js_if (jt_jw (jw_and (jt_cmp (o_eq hr.units) (je_ix (je_var 3) (jb_je je_int)) (jb_je je_str)) (jw_and1 (jt_cmp (o_ne hr.units) (je_ix (je_var 2) (jb_je (je_ix (je_var 3) (jb_je je_int)))) (jb_je (je_ix (je_var 3) (jb_je je_int)))))))
  (jss_one (js_ret je_bl))
  jss_nil)
  (jss_kill [3] jss_nil))))
  (jss_one (js_ret je_bl)))
theorem ok__law_when {f : Addr} (E : Fct P w K mg base) (F__law_draw : FnK P w K mg base (PySem.Str.ofString "_law_draw") 1 5 2 d__law_draw) (F__law_any : FnK P w K mg base (PySem.Str.ofString "_law_any") 2 2 2 d__law_any) (FD : ∃ fd, FunD K (PySem.Str.ofString "_law_when") (PySem.Str.ofString "_law_when") (defArgs s__law_when) (defBody s__law_when) (defScope s__law_when) [] [] f fd) (g : mg (PySem.Str.ofString "_law_when") = some (.ref f)) : FnK P w K mg base (PySem.Str.ofString "_law_when") 3 4 4 d__law_when := by
  refine fnK_of FD g sc__law_when rfl rfl (fun _ _ _ _ _ _ us hl => match us, hl with | [_, _, _, _], _ => rfl) fun cdv A outer s H E1 hr => ?_
  have hN := (sc__law_when).nd
  exact (jss_cons (js_if (jt_cmp (o_eq hr.units) (je_res (jr_callH 0 F__law_draw (hr.mono (by decide)) (by rfl) (takes_of rfl rfl rfl rfl) (jl_cons je_int jl_nil))) (jb_je je_int))
  (jss_one (js_ret (je_tup jl_nil)))
  jss_nil)
  (jss_cons (js_if (jt_jw (jw_and (jt_cmp (o_ne hr.units) (je_var 2) (jb_je (je_tup jl_nil))) (jw_and1 (jt_jw (jw_or (jt_val (je_var 3)) (jw_or1 (jt_cmp (o_eq hr.units) (je_res (jr_callH 0 F__law_draw (hr.mono (by decide)) (by rfl) (takes_of rfl rfl rfl rfl) (jl_cons je_int jl_nil))) (jb_je je_int))))))))
  (jss_one (js_ret (je_tup (jl_cons (je_tup (jl_cons je_str (jl_cons je_int (jl_cons (je_cmp (o_eq hr.units) (je_res (jr_callH 0 F__law_draw (hr.mono (by decide)) (by rfl) (takes_of rfl rfl rfl rfl) (jl_cons je_int jl_nil))) (jb_je je_int)) jl_nil)))) jl_nil))))
  jss_nil)
  (jss_cons (js_if (jt_val (je_var 3))
  (jss_one (js_ret (je_tup jl_nil)))
  jss_nil)
  (jss_one (js_ret (je_tup (jl_cons (je_tup (jl_cons je_str (jl_cons (je_res (jr_callH 0 F__law_draw (hr.mono (by decide)) (by rfl) (takes_of rfl rfl rfl rfl) (jl_cons (je_var 1) jl_nil))) (jl_cons (je_res (jr_callH 0 F__law_any (hr.mono (by decide)) (by rfl) (takes_of rfl rfl rfl rfl) (jl_cons (je_new (jn_lst (jl_cons je_str (jl_cons je_str (jl_cons je_str jl_nil))))) jl_nil))) (jl_cons (je_cmp (o_eq hr.units) (je_res (jr_callH 0 F__law_draw (hr.mono (by decide)) (by rfl) (takes_of rfl rfl rfl rfl) (jl_cons je_int jl_nil))) (jb_je je_int)) jl_nil))))) jl_nil)))))))
theorem ok__law_field {f : Addr} (E : Fct P w K mg base) (F__law_draw : FnK P w K mg base (PySem.Str.ofString "_law_draw") 1 5 2 d__law_draw) (FD : ∃ fd, FunD K (PySem.Str.ofString "_law_field") (PySem.Str.ofString "_law_field") (defArgs s__law_field) (defBody s__law_field) (defScope s__law_field) [] [] f fd) (g : mg (PySem.Str.ofString "_law_field") = some (.ref f)) : FnK P w K mg base (PySem.Str.ofString "_law_field") 2 3 2 d__law_field := by
  refine fnK_of FD g sc__law_field rfl rfl (fun _ _ _ _ _ _ us hl => match us, hl with | [_, _], _ => rfl) fun cdv A outer s H E1 hr => ?_
  have hN := (sc__law_field).nd
  exact (jss_cons (js_set 2 hN (je_res (jr_callH 0 F__law_draw (hr.mono (by decide)) (by rfl) (takes_of rfl rfl rfl rfl) (jl_cons (je_var 1) jl_nil))))
  (jss_one (js_ret (je_tup (jl_cons (je_var 2) (jl_cons (je_bin o_add je_int (jb_je (je_res (jr_callH 0 F__law_draw (hr.mono (by decide)) (by rfl) (takes_of rfl rfl rfl rfl) (jl_cons (je_min2 rfl (by rfl) E.b_min je_int (je_bin o_sub (je_var 1) (jb_je (je_var 2)))) jl_nil))))) jl_nil))))))
theorem ok__law_sum {f : Addr} (E : Fct P w K mg base) (F__law_draw : FnK P w K mg base (PySem.Str.ofString "_law_draw") 1 5 2 d__law_draw) (F__law_any : FnK P w K mg base (PySem.Str.ofString "_law_any") 2 2 2 d__law_any) (FD : ∃ fd, FunD K (PySem.Str.ofString "_law_sum") (PySem.Str.ofString "_law_sum") (defArgs s__law_sum) (defBody s__law_sum) (defScope s__law_sum) [] [] f fd) (g : mg (PySem.Str.ofString "_law_sum") = some (.ref f)) : FnK P w K mg base (PySem.Str.ofString "_law_sum") 3 4 2 d__law_sum := by
  refine fnK_of FD g sc__law_sum rfl rfl (fun _ _ _ _ _ _ us hl => match us, hl with | [_, _], _ => rfl) fun cdv A outer s H E1 hr => ?_
  have hN := (sc__law_sum).nd
  exact (jss_cons (js_set 2 hN (je_res (jr_callH 0 F__law_draw (hr.mono (by decide)) (by rfl) (takes_of rfl rfl rfl rfl) (jl_cons (je_var 1) jl_nil))))
  (jss_cons (js_set 3 hN (je_tup (jl_cons (je_tup (jl_cons (je_res (jr_callH 0 F__law_any (hr.mono (by decide)) (by rfl) (takes_of rfl rfl rfl rfl) (jl_cons (je_new (jn_lst (jl_cons je_int (jl_cons (je_neg je_int) (jl_cons je_int jl_nil))))) jl_nil))) (jl_cons (je_var 2) jl_nil))) jl_nil)))
  (jss_one (js_ret (je_tup (jl_cons je_str (jl_cons (je_ifE (jt_jw (jw_and (jt_cmp o_lt (je_bin o_add (je_var 2) (jb_je je_int)) (jb_je (je_var 1))) (jw_and1 (jt_cmp (o_eq hr.units) (je_res (jr_callH 0 F__law_draw (hr.mono (by decide)) (by rfl) (takes_of rfl rfl rfl rfl) (jl_cons je_int jl_nil))) (jb_je je_int))))) (je_bin o_add (je_var 3) (jb_je (je_tup (jl_cons (je_tup (jl_cons (je_res (jr_callH 0 F__law_any (hr.mono (by decide)) (by rfl) (takes_of rfl rfl rfl rfl) (jl_cons (je_new (jn_lst (jl_cons je_int (jl_cons (je_neg je_int) jl_nil)))) jl_nil))) (jl_cons (je_bin o_add (je_var 2) (jb_je je_int)) jl_nil))) jl_nil)))) (je_var 3)) jl_nil)))))))
theorem ok__law_add {f : Addr} (E : Fct P w K mg base) (F__law_draw : FnK P w K mg base (PySem.Str.ofString "_law_draw") 1 5 2 d__law_draw) (F__law_any : FnK P w K mg base (PySem.Str.ofString "_law_any") 2 2 2 d__law_any) (F__law_when : FnK P w K mg base (PySem.Str.ofString "_law_when") 3 4 4 d__law_when) (F__law_field : FnK P w K mg base (PySem.Str.ofString "_law_field") 2 3 2 d__law_field) (FD : ∃ fd, FunD K (PySem.Str.ofString "_law_add") (PySem.Str.ofString "_law_add") (defArgs s__law_add) (defBody s__law_add) (defScope s__law_add) [] [] f fd) (g : mg (PySem.Str.ofString "_law_add") = some (.ref f)) : FnK P w K mg base (PySem.Str.ofString "_law_add") 4 5 4 d__law_add := by
  refine fnK_of FD g sc__law_add rfl rfl (fun _ _ _ _ _ _ us hl => match us, hl with | [_, _, _, _], _ => rfl) fun cdv A outer s H E1 hr => ?_
  have hN := (sc__law_add).nd
  exact (jss_cons (js_set 4 hN (je_res (jr_callH 0 F__law_any (hr.mono (by decide)) (by rfl) (takes_of rfl rfl rfl rfl) (jl_cons (je_new (jn_lst (jl_cons je_int (jl_cons je_int (jl_cons (je_neg je_int) (jl_cons je_int (jl_cons (je_neg je_int) jl_nil))))))) jl_nil))))
  (jss_one (js_ret (je_tup (jl_cons (je_res (jr_callH 0 F__law_when (hr.mono (by decide)) (by rfl) (takes_of rfl rfl rfl rfl) (jl_cons (je_var 1) (jl_cons (je_var 2) (jl_cons je_bl jl_nil))))) (jl_cons (je_res (jr_callH 0 F__law_draw (hr.mono (by decide)) (by rfl) (takes_of rfl rfl rfl rfl) (jl_cons (je_var 3) jl_nil))) (jl_cons (je_var 4) (jl_cons (je_res (jr_callH 0 F__law_field (hr.mono (by decide)) (by rfl) (takes_of rfl rfl rfl rfl) (jl_cons (je_var 1) jl_nil))) jl_nil))))))))
theorem ok__law_list {f : Addr} (E : Fct P w K mg base) (F__law_draw : FnK P w K mg base (PySem.Str.ofString "_law_draw") 1 5 2 d__law_draw) (F__law_any : FnK P w K mg base (PySem.Str.ofString "_law_any") 2 2 2 d__law_any) (F__law_when : FnK P w K mg base (PySem.Str.ofString "_law_when") 3 4 4 d__law_when) (F__law_field : FnK P w K mg base (PySem.Str.ofString "_law_field") 2 3 2 d__law_field) (F__law_sum : FnK P w K mg base (PySem.Str.ofString "_law_sum") 3 4 2 d__law_sum) (FD : ∃ fd, FunD K (PySem.Str.ofString "_law_list") (PySem.Str.ofString "_law_list") (defArgs s__law_list) (defBody s__law_list) (defScope s__law_list) [] [] f fd) (g : mg (PySem.Str.ofString "_law_list") = some (.ref f)) : FnK P w K mg base (PySem.Str.ofString "_law_list") 4 6 5 d__law_list := by
  refine fnK_of FD g sc__law_list rfl rfl (fun _ _ _ _ _ _ us hl => match us, hl with | [_, _, _, _, _], _ => rfl) fun cdv A outer s H E1 hr => ?_
  have hN := (sc__law_list).nd
  exact (jss_cons (js_setN 5 hN (jn_lst (jl_cons (je_res (jr_callH 0 F__law_any (hr.mono (by decide)) (by rfl) (takes_of rfl rfl rfl rfl) (jl_cons (je_new (jn_lst (jl_cons (je_tup (jl_cons je_str (jl_cons je_int jl_nil))) (jl_cons (je_tup (jl_cons je_str (jl_cons (je_res (jr_callH 0 F__law_field (hr.mono (by decide)) (by rfl) (takes_of rfl rfl rfl rfl) (jl_cons (je_var 1) jl_nil))) jl_nil))) (jl_cons (je_tup (jl_cons je_str (jl_cons je_str jl_nil))) (jl_cons (je_res (jr_callH 0 F__law_sum (hr.mono (by decide)) (by rfl) (takes_of rfl rfl rfl rfl) (jl_cons (je_var 4) jl_nil))) jl_nil)))))) jl_nil))) jl_nil)))
  (jss_cons (js_if (jt_jw (jw_and (jt_cmp (o_ne hr.units) (je_var 2) (jb_je (je_tup jl_nil))) (jw_and1 (jt_cmp (o_eq hr.units) (je_res (jr_callH 0 F__law_draw (hr.mono (by decide)) (by rfl) (takes_of rfl rfl rfl rfl) (jl_cons je_int jl_nil))) (jb_je je_int)))))
  (jss_one (js_app 5 (je_tup (jl_cons je_str (jl_cons (je_ix (je_ix (je_var 2) (jb_je je_int)) (jb_je je_int)) jl_nil)))))
  jss_nil)
  (jss_one (js_ret (je_tup (jl_cons (je_res (jr_callH 0 F__law_when (hr.mono (by decide)) (by rfl) (takes_of rfl rfl rfl rfl) (jl_cons (je_var 1) (jl_cons (je_var 3) (jl_cons je_bl jl_nil))))) (jl_cons (je_tuple (by rfl) E.b_tuple (jb_rd 5)) jl_nil)))))))
theorem ok__law_one_deed {f : Addr} (E : Fct P w K mg base) (F__law_draw : FnK P w K mg base (PySem.Str.ofString "_law_draw") 1 5 2 d__law_draw) (F__law_any : FnK P w K mg base (PySem.Str.ofString "_law_any") 2 2 2 d__law_any) (F__law_when : FnK P w K mg base (PySem.Str.ofString "_law_when") 3 4 4 d__law_when) (F__law_sum : FnK P w K mg base (PySem.Str.ofString "_law_sum") 3 4 2 d__law_sum) (FD : ∃ fd, FunD K (PySem.Str.ofString "_law_one_deed") (PySem.Str.ofString "_law_one_deed") (defArgs s__law_one_deed) (defBody s__law_one_deed) (defScope s__law_one_deed) [] [] f fd) (g : mg (PySem.Str.ofString "_law_one_deed") = some (.ref f)) : FnK P w K mg base (PySem.Str.ofString "_law_one_deed") 4 7 4 d__law_one_deed := by
  refine fnK_of FD g sc__law_one_deed rfl rfl (fun _ _ _ _ _ _ us hl => match us, hl with | [_, _, _, _], _ => rfl) fun cdv A outer s H E1 hr => ?_
  have hN := (sc__law_one_deed).nd
  exact (jss_cons (js_set 4 hN (je_res (jr_callH 0 F__law_any (hr.mono (by decide)) (by rfl) (takes_of rfl rfl rfl rfl) (jl_cons (je_new (jn_lst (jl_cons je_str (jl_cons je_str (jl_cons je_str (jl_cons je_str jl_nil)))))) jl_nil))))
  (jss_cons (js_if (jt_cmp (o_eq hr.units) (je_var 4) (jb_je je_str))
  (jss_one (js_ret (je_tup (jl_cons (je_var 4) (jl_cons (je_res (jr_callH 0 F__law_draw (hr.mono (by decide)) (by rfl) (takes_of rfl rfl rfl rfl) (jl_cons (je_var 3) jl_nil))) jl_nil)))))
  jss_nil)
  (jss_cons (js_if (jt_jw (jw_and (jt_cmp (o_eq hr.units) (je_var 4) (jb_je je_str)) (jw_and1 (jt_cmp o_gt (je_var 3) (jb_je je_int)))))
  (jss_cons (js_set 5 hN (je_res (jr_callH 0 F__law_draw (hr.mono (by decide)) (by rfl) (takes_of rfl rfl rfl rfl) (jl_cons (je_var 3) jl_nil))))
  (jss_one (js_ret (je_tup (jl_cons (je_var 4) (jl_cons (je_var 5) (jl_cons (je_bin o_mod (je_int1 (by rfl) E.b_int (jb_je (je_bin o_add (je_var 5) (jb_je je_int)))) (jb_je (je_var 3))) jl_nil)))))))
  jss_nil)
  (jss_cons (js_set 6 hN (je_new (jn_cat (je_new (jn_lst (jl_cons (je_res (jr_callH 0 F__law_sum (hr.mono (by decide)) (by rfl) (takes_of rfl rfl rfl rfl) (jl_cons (je_var 3) jl_nil))) jl_nil))) (jb_je (je_res (jr_callH 0 F__law_any (hr.mono (by decide)) (by rfl) (takes_of rfl rfl rfl rfl) (jl_cons (je_new (jn_lst (jl_cons (je_new (jn_lst jl_nil)) (jl_cons (je_new (jn_lst (jl_cons (je_tup (jl_cons je_str (jl_cons je_str jl_nil))) jl_nil))) (jl_cons (je_new (jn_lst (jl_cons (je_tup (jl_cons je_str (jl_cons je_int jl_nil))) jl_nil))) jl_nil))))) jl_nil)))))))
  (jss_cons (js_set 6 hN (je_new (jn_cat (je_var 6) (jb_je (je_new (jn_ifE (jt_jw (jw_and (jt_cmp (o_ne hr.units) (je_var 1) (jb_je (je_tup jl_nil))) (jw_and1 (jt_cmp (o_eq hr.units) (je_res (jr_callH 0 F__law_draw (hr.mono (by decide)) (by rfl) (takes_of rfl rfl rfl rfl) (jl_cons je_int jl_nil))) (jb_je je_int))))) (jn_lst (jl_cons (je_tup (jl_cons je_str (jl_cons (je_ix (je_ix (je_var 1) (jb_je je_int)) (jb_je je_int)) jl_nil))) jl_nil)) (jn_lst jl_nil)))))))
  (jss_one (js_ret (je_tup (jl_cons je_str (jl_cons (je_res (jr_callH 0 F__law_when (hr.mono (by decide)) (by rfl) (takes_of rfl rfl rfl rfl) (jl_cons je_int (jl_cons (je_var 2) (jl_cons je_bl jl_nil))))) (jl_cons (je_tuple (by rfl) E.b_tuple (jb_je (je_var 6))) jl_nil)))))))))))
theorem ok__law_board {f : Addr} (E : Fct P w K mg base) (F__law_draw : FnK P w K mg base (PySem.Str.ofString "_law_draw") 1 5 2 d__law_draw) (F__law_any : FnK P w K mg base (PySem.Str.ofString "_law_any") 2 2 2 d__law_any) (F__law_add : FnK P w K mg base (PySem.Str.ofString "_law_add") 4 5 4 d__law_add) (F__law_list : FnK P w K mg base (PySem.Str.ofString "_law_list") 4 6 5 d__law_list) (F__law_one_deed : FnK P w K mg base (PySem.Str.ofString "_law_one_deed") 4 7 4 d__law_one_deed) (FD : ∃ fd, FunD K (PySem.Str.ofString "_law_board") (PySem.Str.ofString "_law_board") (defArgs s__law_board) (defBody s__law_board) (defScope s__law_board) [] [] f fd) (g : mg (PySem.Str.ofString "_law_board") = some (.ref f)) : FnK P w K mg base (PySem.Str.ofString "_law_board") 5 11 2 d__law_board := by
  refine fnK_of FD g sc__law_board rfl rfl (fun _ _ _ _ _ _ us hl => match us, hl with | [_, _], _ => rfl) fun cdv A outer s H E1 hr => ?_
  have hN := (sc__law_board).nd
  exact (jss_cons (js_asg (je_tup (jl_cons (je_bin o_add je_int (jb_je (je_res (jr_callH 0 F__law_draw (hr.mono (by decide)) (by rfl) (takes_of rfl rfl rfl rfl) (jl_cons je_int jl_nil))))) (jl_cons (je_bin o_add je_int (jb_je (je_res (jr_callH 0 F__law_draw (hr.mono (by decide)) (by rfl) (takes_of rfl rfl rfl rfl) (jl_cons je_int jl_nil))))) jl_nil))) (jg_tup rfl (jgs_cons (jg_name 2 hN) (jgs_cons (jg_name 3 hN) jgs_nil)) (bCons_len (bCons_len bNil_len))))
  (jss_cons (js_set 4 hN (je_ifE (jt_cmp (o_eq hr.units) (je_res (jr_callH 0 F__law_draw (hr.mono (by decide)) (by rfl) (takes_of rfl rfl rfl rfl) (jl_cons je_int jl_nil))) (jb_je je_int)) (je_tup (jl_cons (je_tup (jl_cons (je_res (jr_callH 0 F__law_draw (hr.mono (by decide)) (by rfl) (takes_of rfl rfl rfl rfl) (jl_cons (je_var 2) jl_nil))) jl_nil)) jl_nil)) (je_tup jl_nil)))
  (jss_cons (js_set 5 hN (je_tup jl_nil))
  (jss_cons (js_if (jt_cmp (o_eq hr.units) (je_res (jr_callH 0 F__law_draw (hr.mono (by decide)) (by rfl) (takes_of rfl rfl rfl rfl) (jl_cons je_int jl_nil))) (jb_je je_int))
  (jss_one (js_set 5 hN (je_tup (jl_cons (je_tup (jl_cons (je_res (jr_callH 0 F__law_draw (hr.mono (by decide)) (by rfl) (takes_of rfl rfl rfl rfl) (jl_cons (je_var 2) jl_nil))) (jl_cons (je_res (jr_callH 0 F__law_any (hr.mono (by decide)) (by rfl) (takes_of rfl rfl rfl rfl) (jl_cons (je_new (jn_lst (jl_cons je_str (jl_cons je_str jl_nil)))) jl_nil))) (jl_cons (je_res (jr_callH 0 F__law_draw (hr.mono (by decide)) (by rfl) (takes_of rfl rfl rfl rfl) (jl_cons (je_bin o_add (je_len (by rfl) E.b_len (jb_je (je_var 4))) (jb_je je_int)) jl_nil))) jl_nil)))) jl_nil))))
  jss_nil)
  (jss_cons (js_set 6 hN (je_tuple (by rfl) E.b_tuple (jb_je (je_new (jn_lc rfl hN (ji_rng1 (by rfl) E.b_range (je_bin o_add je_int (jb_je (je_res (jr_callH 0 F__law_draw (hr.mono (by decide)) (by rfl) (takes_of rfl rfl rfl rfl) (jl_cons (je_var 1) jl_nil)))))) (blkOk_by (own := [((PySem.Str.ofString "step"), 10)]) (show blkC N__law_board (defScope s__law_board) _ _ = true from by decide +kernel)) (fun b => (jg_name 10 hN)) (fun b => jts_nil) (fun b => (je_res (jr_callH 0 F__law_add (hr.mono (by decide)) (by rfl) takes0 (jl_cons (je_var 2) (jl_cons (je_var 5) (jl_cons (je_var 3) jl_nil)))))))))))
  (jss_cons (js_set 7 hN (je_tuple (by rfl) E.b_tuple (jb_je (je_new (jn_lc rfl hN (ji_rng1 (by rfl) E.b_range (je_res (jr_callH 0 F__law_draw (hr.mono (by decide)) (by rfl) (takes_of rfl rfl rfl rfl) (jl_cons je_int jl_nil)))) (blkOk_by (own := [((PySem.Str.ofString "step"), 10)]) (show blkC N__law_board (defScope s__law_board) _ _ = true from by decide +kernel)) (fun b => (jg_name 10 hN)) (fun b => jts_nil) (fun b => (je_res (jr_callH 0 F__law_list (hr.mono (by decide)) (by rfl) takes0 (jl_cons (je_var 2) (jl_cons (je_var 4) (jl_cons (je_var 5) (jl_cons (je_var 3) jl_nil))))))))))))
  (jss_cons (js_setN 8 hN (jn_lst jl_nil))
  (jss_cons (js_for (passes_of rfl) rfl (ji_rng1 (by rfl) E.b_range (je_bin o_add (je_len (by rfl) E.b_len (jb_je (je_var 4))) (jb_je je_int))) (jg_name 9 hN)
  (jss_cons (js_app 8 (je_tuple (by rfl) E.b_tuple (jb_je (je_new (jn_lc rfl hN (ji_rng1 (by rfl) E.b_range (je_bin o_add je_int (jb_je (je_res (jr_callH 0 F__law_draw (hr.mono (by decide)) (by rfl) (takes_of rfl rfl rfl rfl) (jl_cons (je_var 1) jl_nil)))))) (blkOk_by (own := [((PySem.Str.ofString "step"), 10)]) (show blkC N__law_board (defScope s__law_board) _ _ = true from by decide +kernel)) (fun b => (jg_name 10 hN)) (fun b => jts_nil) (fun b => (je_res (jr_callH 0 F__law_one_deed (hr.mono (by decide)) (by rfl) takes0 (jl_cons (je_var 4) (jl_cons (je_var 5) (jl_cons (je_var 3) jl_nil)))))))))))
  (jss_kill [9] jss_nil)))
  (jss_one (js_ret (je_tup (jl_cons (je_var 2) (jl_cons (je_var 4) (jl_cons (je_var 5) (jl_cons (je_var 3) (jl_cons (je_var 6) (jl_cons (je_var 7) (jl_cons (je_tuple (by rfl) E.b_tuple (jb_rd 8)) jl_nil))))))))))))))))))
theorem ok__law_deck {f : Addr} (E : Fct P w K mg base) (F__law_draw : FnK P w K mg base (PySem.Str.ofString "_law_draw") 1 5 2 d__law_draw) (F__law_any : FnK P w K mg base (PySem.Str.ofString "_law_any") 2 2 2 d__law_any) (FD : ∃ fd, FunD K (PySem.Str.ofString "_law_deck") (PySem.Str.ofString "_law_deck") (defArgs s__law_deck) (defBody s__law_deck) (defScope s__law_deck) [] [] f fd) (g : mg (PySem.Str.ofString "_law_deck") = some (.ref f)) : FnK P w K mg base (PySem.Str.ofString "_law_deck") 3 8 3 d__law_deck := by
  refine fnK_of FD g sc__law_deck rfl rfl (fun _ _ _ _ _ _ us hl => match us, hl with | [_, _, _], _ => rfl) fun cdv A outer s H E1 hr => ?_
  have hN := (sc__law_deck).nd
  exact (jss_cons (js_set 3 hN (je_res (jr_callH 0 F__law_any (hr.mono (by decide)) (by rfl) (takes_of rfl rfl rfl rfl) (jl_cons (je_new (jn_lst (jl_cons je_str (jl_cons je_str (jl_cons je_str (jl_cons je_str jl_nil)))))) jl_nil))))
  (jss_cons (js_setN 4 hN (jn_lst jl_nil))
  (jss_cons (js_for (passes_of rfl) rfl (ji_rng1 (by rfl) E.b_range (je_res (jr_callH 0 F__law_draw (hr.mono (by decide)) (by rfl) (takes_of rfl rfl rfl rfl) (jl_cons (je_bin o_add (je_var 2) (jb_je je_int)) jl_nil)))) (jg_name 5 hN)
  (jss_cons (js_set 6 hN (je_join je_str (jb_je (je_new (jn_lc rfl hN (ji_rng1 (by rfl) E.b_range (je_var 1)) (blkOk_by (own := [((PySem.Str.ofString "column"), 7)]) (show blkC N__law_deck (defScope s__law_deck) _ _ = true from by decide +kernel)) (fun b => (jg_name 7 hN)) (fun b => jts_nil) (fun b => (je_res (jr_callH 0 F__law_any (hr.mono (by decide)) (by rfl) takes0 (jl_cons (je_new (jn_listA rfl (by rfl) E.b_list (jb_je (je_var 3)))) jl_nil)))))))))
  (jss_cons (js_app 4 (je_ifE (jt_jw (jw_and (jt_cmpR 4 (o_ne hr.units) (jb_je (je_new (jn_lst jl_nil)))) (jw_and1 (jt_cmp (o_eq hr.units) (je_res (jr_callH 0 F__law_draw (hr.mono (by decide)) (by rfl) (takes_of rfl rfl rfl rfl) (jl_cons je_int jl_nil))) (jb_je je_int))))) (je_bin o_add (je_sl (je_ixR 4 (jb_je (je_neg je_int))) jp_none (jp_some je_int)) (jb_je (je_sl (je_var 6) (jp_some je_int) jp_none))) (je_var 6)))
  (jss_kill [5, 6] jss_nil))))
  (jss_one (js_ret (je_tuple (by rfl) E.b_tuple (jb_rd 4)))))))
theorem ok__law_first {f : Addr} (E : Fct P w K mg base)  (FD : ∃ fd, FunD K (PySem.Str.ofString "_law_first") (PySem.Str.ofString "_law_first") (defArgs s__law_first) (defBody s__law_first) (defScope s__law_first) [] [] f fd) (g : mg (PySem.Str.ofString "_law_first") = some (.ref f)) : FnK P w K mg base (PySem.Str.ofString "_law_first") 1 1 1 d__law_first := by
  refine fnK_of FD g sc__law_first rfl rfl (fun _ _ _ _ _ _ us hl => match us, hl with | [_], _ => rfl) fun cdv A outer s H E1 hr => ?_
  have hN := (sc__law_first).nd
  exact (jss_one (js_ret (je_tup (jl_cons je_non (jl_cons (je_bin o_mul (je_tup (jl_cons je_bl jl_nil)) (jb_je (je_len (by rfl) E.b_len (jb_je (je_ix (je_var 0) (jb_je je_int)))))) jl_nil)))))
theorem ok__law_deeds_cost {f : Addr} (E : Fct P w K mg base) (F__law_holds : FnK P w K mg base (PySem.Str.ofString "_law_holds") 1 4 3 d__law_holds) (FD : ∃ fd, FunD K (PySem.Str.ofString "_law_deeds_cost") (PySem.Str.ofString "_law_deeds_cost") (defArgs s__law_deeds_cost) (defBody s__law_deeds_cost) (defScope s__law_deeds_cost) [] [] f fd) (g : mg (PySem.Str.ofString "_law_deeds_cost") = some (.ref f)) : FnK P w K mg base (PySem.Str.ofString "_law_deeds_cost") 2 5 3 d__law_deeds_cost := by
  refine fnK_of FD g sc__law_deeds_cost rfl rfl (fun _ _ _ _ _ _ us hl => match us, hl with | [_, _, _], _ => rfl) fun cdv A outer s H E1 hr => ?_
  have hN := (sc__law_deeds_cost).nd
  exact (jss_cons (js_set 3 hN je_int)
  (jss_cons (js_for (passes_of rfl) rfl (ji_any (je_var 0)) (jg_name 4 hN)
  (jss_cons (js_if (jt_cmp (o_ne hr.units) (je_ix (je_var 4) (jb_je je_int)) (jb_je je_str))
  (jss_one (js_set 3 hN (je_bin o_add (je_var 3) (jb_je (je_ix (je_var 2) (jb_je je_int))))))
  (jss_one (js_if (jt_val (je_res (jr_call F__law_holds (hr.mono (by decide)) (by rfl) (takes_of rfl rfl rfl rfl) (jl_cons (je_ix (je_var 4) (jb_je je_int)) (jl_cons je_str (jl_cons (je_var 1) jl_nil))))))
  (jss_one (js_set 3 hN (je_bin o_add (je_var 3) (jb_je (je_ix (je_var 2) (jb_je je_int))))))
  jss_nil)))
  (jss_kill [4] jss_nil)))
  (jss_one (js_ret (je_var 3)))))
theorem ok__law_breaks {f : Addr} (E : Fct P w K mg base) (F__law_deeds_cost : FnK P w K mg base (PySem.Str.ofString "_law_deeds_cost") 2 5 3 d__law_deeds_cost) (FD : ∃ fd, FunD K (PySem.Str.ofString "_law_breaks") (PySem.Str.ofString "_law_breaks") (defArgs s__law_breaks) (defBody s__law_breaks) (defScope s__law_breaks) [] [] f fd) (g : mg (PySem.Str.ofString "_law_breaks") = some (.ref f)) : FnK P w K mg base (PySem.Str.ofString "_law_breaks") 3 14 4 d__law_breaks := by
  refine fnK_of FD g sc__law_breaks rfl rfl (fun _ _ _ _ _ _ us hl => match us, hl with | [_, _, _, _], _ => rfl) fun cdv A outer s H E1 hr => ?_
  have hN := (sc__law_breaks).nd
  exact (jss_cons (js_asg (je_var 1) (jg_tup rfl (jgs_cons (jg_name 4 hN) (jgs_cons (jg_name 5 hN) jgs_nil)) (bCons_len (bCons_len bNil_len))))
  (jss_cons (js_par3 6 7 8 rfl hN (ja_e (je_ix (je_var 0) (jb_je je_int)) (ja_e (je_ix (je_var 0) (jb_je je_int)) (ja_e (je_ix (je_var 0) (jb_je je_int)) ja_nil))))
  (jss_cons (js_set 9 hN je_int)
  (jss_kill [0, 1] (jss_cons (js_for (passes_of rfl) rfl (ji_rng1 (by rfl) E.b_range (je_ifE (jt_notN (jb_je (je_var 4))) (je_len (by rfl) E.b_len (jb_je (je_var 6))) je_int)) (jg_name 10 hN)
  (jss_cons (js_if (jt_jw (jw_or (jt_isN (jb_je (je_var 2))) (jw_or1 (jt_val (je_any rfl (by rfl) E.b_any (jb_je (je_new (jn_lc rfl hN (ji_any (je_sumT rfl (by rfl) E.b_sum (je_sl (je_var 6) (jp_some (je_var 10)) jp_none) (je_tup jl_nil))) (blkOk_by (own := [((PySem.Str.ofString "at"), 11)]) (show blkC N__law_breaks (defScope s__law_breaks) _ _ = true from by decide +kernel)) (fun b => (jg_name 11 hN)) (fun b => jts_nil) (fun b => (je_cmp (o_ne hr.units) (je_ix (je_var 4) (jb_je (je_var 11))) (jb_je (je_ix (je_var 2) (jb_je (je_var 11))))))))))))))
  (jss_cons (js_set 9 hN (je_bin o_add (je_var 9) (jb_je (je_res (jr_call F__law_deeds_cost (hr.mono (by decide)) (by rfl) (takes_of rfl rfl rfl rfl) (jl_cons (je_ix (je_var 8) (jb_je (je_var 10))) (jl_cons (je_var 5) (jl_cons (je_var 3) jl_nil))))))))
  (jss_one (js_set 5 hN (je_tuple (by rfl) E.b_tuple (jb_je (je_new (jn_lc rfl hN (ji_zip (by rfl) E.b_zip (je_var 5) (je_var 7)) (blkOk_by (own := [((PySem.Str.ofString "flag"), 12), ((PySem.Str.ofString "latch"), 13)]) (show blkC N__law_breaks (defScope s__law_breaks) _ _ = true from by decide +kernel)) (fun b => (jg_tup rfl (jgs_cons (jg_name 12 hN) (jgs_cons (jg_name 13 hN) jgs_nil)) (bCons_len (bCons_len bNil_len)))) (fun b => jts_nil) (fun b => (je_and (je_var 12) (je_one (je_cmp (o_ne hr.units) (je_ix (je_var 13) (jb_je je_int)) (jb_je (je_var 10)))))))))))))
  jss_nil)
  (jss_kill [10] jss_nil)))
  (jss_one (js_ret (je_tup (jl_cons (je_var 9) (jl_cons (je_var 5) jl_nil))))))))))
theorem ok__law_card_cost {f : Addr} (E : Fct P w K mg base) (F__law_holds : FnK P w K mg base (PySem.Str.ofString "_law_holds") 1 4 3 d__law_holds) (F__law_breaks : FnK P w K mg base (PySem.Str.ofString "_law_breaks") 3 14 4 d__law_breaks) (FD : ∃ fd, FunD K (PySem.Str.ofString "_law_card_cost") (PySem.Str.ofString "_law_card_cost") (defArgs s__law_card_cost) (defBody s__law_card_cost) (defScope s__law_card_cost) [] [] f fd) (g : mg (PySem.Str.ofString "_law_card_cost") = some (.ref f)) : FnK P w K mg base (PySem.Str.ofString "_law_card_cost") 4 11 4 d__law_card_cost := by
  refine fnK_of FD g sc__law_card_cost rfl rfl (fun _ _ _ _ _ _ us hl => match us, hl with | [_, _, _, _], _ => rfl) fun cdv A outer s H E1 hr => ?_
  have hN := (sc__law_card_cost).nd
  exact (jss_cons (js_asg (je_res (jr_call F__law_breaks (hr.mono (by decide)) (by rfl) (takes_of rfl rfl rfl rfl) (jl_cons (je_var 0) (jl_cons (je_var 1) (jl_cons (je_var 2) (jl_cons (je_var 3) jl_nil)))))) (jg_tup rfl (jgs_cons (jg_name 4 hN) (jgs_cons (jg_name 5 hN) jgs_nil)) (bCons_len (bCons_len bNil_len))))
  (jss_cons (js_set 5 hN (je_tuple (by rfl) E.b_tuple (jb_je (je_new (jn_lc rfl hN (ji_zip (by rfl) E.b_zip (je_var 5) (je_ix (je_var 0) (jb_je je_int))) (blkOk_by (own := [((PySem.Str.ofString "flag"), 6), ((PySem.Str.ofString "latch"), 7)]) (show blkC N__law_card_cost (defScope s__law_card_cost) _ _ = true from by decide +kernel)) (fun b => (jg_tup rfl (jgs_cons (jg_name 6 hN) (jgs_cons (jg_name 7 hN) jgs_nil)) (bCons_len (bCons_len bNil_len)))) (fun b => jts_nil) (fun b => (je_or (je_var 6) (je_one (je_cmp (o_eq hr.units) (je_ix (je_var 2) (jb_je (je_ix (je_var 7) (jb_je je_int)))) (jb_je (je_ix (je_var 7) (jb_je je_int))))))))))))
  (jss_cons (js_set 4 hN (je_bin o_add (je_bin o_add (je_var 4) (jb_je (je_ix (je_var 3) (jb_je je_int)))) (jb_je (je_bin o_mul (je_ix (je_var 3) (jb_je je_int)) (jb_je (je_len (by rfl) E.b_len (jb_je (je_new (jn_lc rfl hN (ji_any (je_ix (je_var 0) (jb_je je_int))) (blkOk_by (own := [((PySem.Str.ofString "add"), 8)]) (show blkC N__law_card_cost (defScope s__law_card_cost) _ _ = true from by decide +kernel)) (fun b => (jg_name 8 hN)) (fun b => (jts_one (jt_val (je_res (jr_call F__law_holds (hr.mono (by decide)) (by rfl) takes0 (jl_cons (je_ix (je_var 8) (jb_je je_int)) (jl_cons (je_var 2) (jl_cons (je_var 5) jl_nil)))))))) (fun b => je_int))))))))))
  (jss_cons (js_set 4 hN (je_bin o_add (je_var 4) (jb_je (je_bin o_mul (je_ix (je_var 3) (jb_je je_int)) (jb_je (je_len (by rfl) E.b_len (jb_je (je_new (jn_lc rfl hN (ji_any (je_ix (je_var 0) (jb_je je_int))) (blkOk_by (own := [((PySem.Str.ofString "when"), 9), ((PySem.Str.ofString "items"), 10)]) (show blkC N__law_card_cost (defScope s__law_card_cost) _ _ = true from by decide +kernel)) (fun b => (jg_tup rfl (jgs_cons (jg_name 9 hN) (jgs_cons (jg_name 10 hN) jgs_nil)) (bCons_len (bCons_len bNil_len)))) (fun b => (jts_one (jt_val (je_res (jr_call F__law_holds (hr.mono (by decide)) (by rfl) takes0 (jl_cons (je_var 9) (jl_cons (je_var 2) (jl_cons (je_var 5) jl_nil)))))))) (fun b => je_int))))))))))
  (jss_one (js_ret (je_tup (jl_cons (je_var 4) (jl_cons (je_tup (jl_cons (je_var 2) (jl_cons (je_var 5) jl_nil))) jl_nil)))))))))
theorem ok__law_end_cost {f : Addr} (E : Fct P w K mg base) (F__law_deeds_cost : FnK P w K mg base (PySem.Str.ofString "_law_deeds_cost") 2 5 3 d__law_deeds_cost) (F__law_breaks : FnK P w K mg base (PySem.Str.ofString "_law_breaks") 3 14 4 d__law_breaks) (FD : ∃ fd, FunD K (PySem.Str.ofString "_law_end_cost") (PySem.Str.ofString "_law_end_cost") (defArgs s__law_end_cost) (defBody s__law_end_cost) (defScope s__law_end_cost) [] [] f fd) (g : mg (PySem.Str.ofString "_law_end_cost") = some (.ref f)) : FnK P w K mg base (PySem.Str.ofString "_law_end_cost") 4 5 3 d__law_end_cost := by
  refine fnK_of FD g sc__law_end_cost rfl rfl (fun _ _ _ _ _ _ us hl => match us, hl with | [_, _, _], _ => rfl) fun cdv A outer s H E1 hr => ?_
  have hN := (sc__law_end_cost).nd
  exact (jss_cons (js_asg (je_res (jr_call F__law_breaks (hr.mono (by decide)) (by rfl) (takes_of rfl rfl rfl rfl) (jl_cons (je_var 0) (jl_cons (je_var 1) (jl_cons je_non (jl_cons (je_var 2) jl_nil)))))) (jg_tup rfl (jgs_cons (jg_name 3 hN) (jgs_cons (jg_name 4 hN) jgs_nil)) (bCons_len (bCons_len bNil_len))))
  (jss_one (js_ret (je_bin o_add (je_var 3) (jb_je (je_res (jr_call F__law_deeds_cost (hr.mono (by decide)) (by rfl) (takes_of rfl rfl rfl rfl) (jl_cons (je_ix (je_ix (je_var 0) (jb_je je_int)) (jb_je (je_len (by rfl) E.b_len (jb_je (je_ix (je_var 0) (jb_je je_int)))))) (jl_cons (je_var 4) (jl_cons (je_var 2) jl_nil))))))))))
theorem ok__law_costs {f : Addr} (E : Fct P w K mg base) (F__law_first : FnK P w K mg base (PySem.Str.ofString "_law_first") 1 1 1 d__law_first) (F__law_card_cost : FnK P w K mg base (PySem.Str.ofString "_law_card_cost") 4 11 4 d__law_card_cost) (F__law_end_cost : FnK P w K mg base (PySem.Str.ofString "_law_end_cost") 4 5 3 d__law_end_cost) (FD : ∃ fd, FunD K (PySem.Str.ofString "_law_costs") (PySem.Str.ofString "_law_costs") (defArgs s__law_costs) (defBody s__law_costs) (defScope s__law_costs) [] [] f fd) (g : mg (PySem.Str.ofString "_law_costs") = some (.ref f)) : FnK P w K mg base (PySem.Str.ofString "_law_costs") 5 7 3 d__law_costs := by
  refine fnK_of FD g sc__law_costs rfl rfl (fun _ _ _ _ _ _ us hl => match us, hl with | [_, _, _], _ => rfl) fun cdv A outer s H E1 hr => ?_
  have hN := (sc__law_costs).nd
  exact (jss_cons (js_parEN 3 4 rfl hN (je_res (jr_call F__law_first (hr.mono (by decide)) (by rfl) (takes_of rfl rfl rfl rfl) (jl_cons (je_var 0) jl_nil))) (jn_lst jl_nil))
  (jss_cons (js_for (passes_of rfl) rfl (ji_any (je_var 1)) (jg_name 5 hN)
  (jss_cons (js_asg (je_res (jr_call F__law_card_cost (hr.mono (by decide)) (by rfl) (takes_of rfl rfl rfl rfl) (jl_cons (je_var 0) (jl_cons (je_var 3) (jl_cons (je_var 5) (jl_cons (je_var 2) jl_nil)))))) (jg_tup rfl (jgs_cons (jg_name 6 hN) (jgs_cons (jg_name 3 hN) jgs_nil)) (bCons_len (bCons_len bNil_len))))
  (jss_cons (js_app 4 (je_var 6))
  (jss_kill [5, 6] jss_nil))))
  (jss_one (js_ret (je_bin o_add (je_tuple (by rfl) E.b_tuple (jb_rd 4)) (jb_je (je_tup (jl_cons (je_res (jr_call F__law_end_cost (hr.mono (by decide)) (by rfl) (takes_of rfl rfl rfl rfl) (jl_cons (je_var 0) (jl_cons (je_var 3) (jl_cons (je_var 2) jl_nil))))) jl_nil))))))))
theorem ok__law_prices {f : Addr} (E : Fct P w K mg base) (F__law_draw : FnK P w K mg base (PySem.Str.ofString "_law_draw") 1 5 2 d__law_draw) (F__law_any : FnK P w K mg base (PySem.Str.ofString "_law_any") 2 2 2 d__law_any) (FD : ∃ fd, FunD K (PySem.Str.ofString "_law_prices") (PySem.Str.ofString "_law_prices") (defArgs s__law_prices) (defBody s__law_prices) (defScope s__law_prices) [] [] f fd) (g : mg (PySem.Str.ofString "_law_prices") = some (.ref f)) : FnK P w K mg base (PySem.Str.ofString "_law_prices") 3 2 1 d__law_prices := by
  refine fnK_of FD g sc__law_prices rfl rfl (fun _ _ _ _ _ _ us hl => match us, hl with | [_], _ => rfl) fun cdv A outer s H E1 hr => ?_
  have hN := (sc__law_prices).nd
  exact (jss_one (js_ret (je_tuple (by rfl) E.b_tuple (jb_je (je_new (jn_lc rfl hN (ji_rng1 (by rfl) E.b_range je_int) (blkOk_by (own := [((PySem.Str.ofString "kind"), 1)]) (show blkC N__law_prices (defScope s__law_prices) _ _ = true from by decide +kernel)) (fun b => (jg_name 1 hN)) (fun b => jts_nil) (fun b => (je_res (jr_callH 0 F__law_any (hr.mono (by decide)) (by rfl) takes0 (jl_cons (je_new (jn_lst (jl_cons je_int (jl_cons je_int (jl_cons je_int (jl_cons (je_res (jr_callH 0 F__law_draw (hr.mono (by decide)) (by rfl) takes0 (jl_cons je_int jl_nil))) (jl_cons (je_bin o_pow je_int (jb_je je_int)) jl_nil))))))) jl_nil))))))))))
theorem ok__law_by_counts {f : Addr} (E : Fct P w K mg base) (F_adds_done : FnK P w K mg base (PySem.Str.ofString "adds_done") 12 2 2 d_adds_done) (F_lists_done : FnK P w K mg base (PySem.Str.ofString "lists_done") 12 2 2 d_lists_done) (F_deeds_done : FnK P w K mg base (PySem.Str.ofString "deeds_done") 12 9 2 d_deeds_done) (FD : ∃ fd, FunD K (PySem.Str.ofString "_law_by_counts") (PySem.Str.ofString "_law_by_counts") (defArgs s__law_by_counts) (defBody s__law_by_counts) (defScope s__law_by_counts) [] [] f fd) (g : mg (PySem.Str.ofString "_law_by_counts") = some (.ref f)) : FnK P w K mg base (PySem.Str.ofString "_law_by_counts") 13 8 3 d__law_by_counts := by
  refine fnK_of FD g sc__law_by_counts rfl rfl (fun _ _ _ _ _ _ us hl => match us, hl with | [_, _, _], _ => rfl) fun cdv A outer s H E1 hr => ?_
  have hN := (sc__law_by_counts).nd
  exact (jss_cons (js_set 3 hN (je_bin o_add (je_bin o_add (je_bin o_mul (je_ix (je_var 2) (jb_je je_int)) (jb_je (je_len (by rfl) E.b_len (jb_je (je_var 1))))) (jb_je (je_bin o_mul (je_ix (je_var 2) (jb_je je_int)) (jb_je (je_sum rfl (by rfl) E.b_sum (jb_je (je_res (jr_call F_adds_done (hr.mono (by decide)) (by rfl) (takes_of rfl rfl rfl rfl) (jl_cons (je_var 0) (jl_cons (je_var 1) jl_nil)))))))))) (jb_je (je_bin o_mul (je_ix (je_var 2) (jb_je je_int)) (jb_je (je_sum rfl (by rfl) E.b_sum (jb_je (je_res (jr_call F_lists_done (hr.mono (by decide)) (by rfl) (takes_of rfl rfl rfl rfl) (jl_cons (je_var 0) (jl_cons (je_var 1) jl_nil)))))))))))
  (jss_cons (js_for (passes_of rfl) rfl (ji_zip (by rfl) E.b_zip (je_ix (je_var 0) (jb_je je_int)) (je_res (jr_call F_deeds_done (hr.mono (by decide)) (by rfl) (takes_of rfl rfl rfl rfl) (jl_cons (je_var 0) (jl_cons (je_var 1) jl_nil))))) (jg_tup rfl (jgs_cons (jg_name 4 hN) (jgs_cons (jg_name 5 hN) jgs_nil)) (bCons_len (bCons_len bNil_len)))
  (jss_kill [0, 1] (jss_cons (js_for (passes_of rfl) rfl (ji_zip (by rfl) E.b_zip (je_var 4) (je_var 5)) (jg_tup rfl (jgs_cons (jg_name 6 hN) (jgs_cons (jg_name 7 hN) jgs_nil)) (bCons_len (bCons_len bNil_len)))
  (jss_cons (js_set 3 hN (je_bin o_add (je_var 3) (jb_je (je_bin o_mul (je_var 7) (jb_je (je_ifE (jt_cmp (o_eq hr.units) (je_ix (je_var 6) (jb_je je_int)) (jb_je je_str)) (je_ix (je_var 2) (jb_je je_int)) (je_ix (je_var 2) (jb_je je_int))))))))
  (jss_kill [6, 7] jss_nil)))
  (jss_kill [4, 5] jss_nil))))
  (jss_one (js_ret (je_var 3)))))
theorem wf__law_word {f : Addr} (E : Fct P w K mg base) (FD : ∃ fd, FunD K (PySem.Str.ofString "_law_word") (PySem.Str.ofString "_law_word") (defArgs s__law_word) (defBody s__law_word) (defScope s__law_word) [] [] f fd) (g : mg (PySem.Str.ofString "_law_word") = some (.ref f)) : WordK P w K mg base (PySem.Str.ofString "_law_word") 4 1 (PySem.Str.ofString "CardError") known cl__law_word (PySem.Str.ofString "let") := by
  obtain ⟨fd, F⟩ := FD
  have hN := (sc__law_word).nd
  refine ⟨⟨s__law_word, f, fd, N__law_word, (PySem.Str.ofString "call"), fun_of F, g, F.bindsN (ps := [(PySem.Str.ofString "call")]) (fun _ _ _ _ _ _ us hl => match us, hl with | [_], _ => rfl), sc__law_word, rfl, Or.inl rfl, by decide, by decide, fun X q cdg hr0 h1 h2 h3 h4 h5 => ?_⟩⟩
  subst h1 h2 h3 h4 h5
  exact word_gives hN rfl (by decide) rfl (by decide) rfl (by decide) (by decide) (fun s H => (.cons E.m_CardError rfl (by rfl) (by decide) ⟨rfl, rfl⟩ (jssu_cons (jsu_setN 3 hN (jenu_lst (jlq_cons (jeq_is E.a_NoBoard (by rfl) E.b_isinstance (by rfl)) (jlq_cons (jeq_is E.a_NoDeck (by rfl) E.b_isinstance (by rfl)) (jlq_cons (jeq_is E.a_NoPrices (by rfl) E.b_isinstance (by rfl)) jlq_nil))) (hl := (fCons_len (fCons_len (fCons_len fNil_len)))))) fun c hc => (jss_one (js_set 1 hN (je_ifE (jt_cmp (o_eq (by have z := hr0.un; show X.A.units + 3 + 64 < _; omega)) (je_mtO 3 (mt_countD (by have z := hr0.un; show X.A.units + 3 + 65 < _; omega)) mk_count PySem.F.slot_list_count PySem.F.type_list_count je_bl) (jb_je je_int)) (je_ix (je_new (jn_lst (jl_cons je_str (jl_cons je_str (jl_cons je_str jl_nil))))) (jb_je (je_mtO 3 (mt_indexD (by have z := hr0.un; show X.A.units + 3 + 65 < _; omega)) mk_index PySem.F.slot_list_index PySem.F.type_list_index je_bl))) je_str)))) .nil)) (fun s H => rfl)
theorem ok_law {f c P0 : Addr} {T : List (Addr × Str)} (E : Fct P w K mg base) (F_are_prices : FnK P w K mg base (PySem.Str.ofString "are_prices") 3 2 1 d_are_prices) (F_costs_of : FnK P w K mg base (PySem.Str.ofString "costs_of") 12 3 3 d_costs_of) (F_cost_of : FnK P w K mg base (PySem.Str.ofString "cost_of") 12 3 3 d_cost_of) (F__law_hand : FnK P w K mg base (PySem.Str.ofString "_law_hand") 1 3 1 d__law_hand) (F__law_any : FnK P w K mg base (PySem.Str.ofString "_law_any") 2 2 2 d__law_any) (F__law_board : FnK P w K mg base (PySem.Str.ofString "_law_board") 5 11 2 d__law_board) (F__law_deck : FnK P w K mg base (PySem.Str.ofString "_law_deck") 3 8 3 d__law_deck) (F__law_costs : FnK P w K mg base (PySem.Str.ofString "_law_costs") 5 7 3 d__law_costs) (F__law_prices : FnK P w K mg base (PySem.Str.ofString "_law_prices") 3 2 1 d__law_prices) (F__law_by_counts : FnK P w K mg base (PySem.Str.ofString "_law_by_counts") 13 8 3 d__law_by_counts) (WF__law_word : WordK P w K mg base (PySem.Str.ofString "_law_word") 4 1 (PySem.Str.ofString "CardError") known cl__law_word (PySem.Str.ofString "let")) (TB : LamX.TabB base mg c P0) (hT : T = [(P0, qLam (PySem.Str.ofString "law"))]) (A : Around) (outer : List Env) (s : Shared) (H : Hp) (E1 : XK) (hr : Room 14 (A.deeper (envOfC (PySem.Str.ofString "law") (defScope s_law) s.heap.objs.size f (.ref c)))) :
    JSs (cxOf (L2.CX P w) P w K mg base N_law (PySem.Str.ofString "law") (defScope s_law) f (.ref c) A outer s H E1) (fun cls d _ H1 => E1 cls d H1) (defBody s_law) (d_law T) := by
  have hN := (sc_law).nd
  have hcode : (Value.ref c) = Value.ref c := rfl
  have hmT : (P0, qLam (PySem.Str.ofString "law")) ∈ T := by rw [hT]; exact List.mem_cons_self
  have hu : ∀ p ∈ T, p.1 = P0 → p.2 = qLam (PySem.Str.ofString "law") := fun p hp _ => by rw [hT] at hp; rw [List.mem_singleton.mp hp]
  exact (jss_cons (js_setN 1 hN (jn_res (jr_callScr 0 F__law_hand (hr.mono (by decide)) (by rfl) (takes_of rfl rfl rfl rfl))))
  (jss_cons (js_for (passes_of rfl) rfl (ji_rng1 (by rfl) E.b_range je_int) (jg_name 2 hN)
  (jss_cons (js_asg (je_tup (jl_cons (je_res (jr_callH 1 F__law_board (hr.mono (by decide)) (by rfl) (takes_of rfl rfl rfl rfl) (jl_cons je_int jl_nil))) (jl_cons (je_res (jr_callH 1 F__law_prices (hr.mono (by decide)) (by rfl) (takes_of rfl rfl rfl rfl) jl_nil)) jl_nil))) (jg_tup rfl (jgs_cons (jg_name 3 hN) (jgs_cons (jg_name 4 hN) jgs_nil)) (bCons_len (bCons_len bNil_len))))
  (jss_cons (js_set 5 hN (je_res (jr_callH 1 F__law_deck (hr.mono (by decide)) (by rfl) (takes_of rfl rfl rfl rfl) (jl_cons (je_ix (je_var 3) (jb_je je_int)) (jl_cons je_int jl_nil)))))
  (jss_cons (js_set 6 hN (je_res (jr_call F__law_costs (hr.mono (by decide)) (by rfl) (takes_of rfl rfl rfl rfl) (jl_cons (je_var 3) (jl_cons (je_var 5) (jl_cons (je_var 4) jl_nil))))))
  (jss_cons (js_if (jt_jw (jw_or (jt_cmp (o_ne hr.units) (je_res (jr_call F_costs_of (hr.mono (by decide)) (by rfl) (takes_of rfl rfl rfl rfl) (jl_cons (je_var 3) (jl_cons (je_var 5) (jl_cons (je_var 4) jl_nil))))) (jb_je (je_var 6))) (jw_or1 (jt_cmp (o_ne hr.units) (je_res (jr_call F_cost_of (hr.mono (by decide)) (by rfl) (takes_of rfl rfl rfl rfl) (jl_cons (je_var 3) (jl_cons (je_var 5) (jl_cons (je_var 4) jl_nil))))) (jb_je (je_sum rfl (by rfl) E.b_sum (jb_je (je_var 6))))))))
  (jss_one (js_ret je_bl))
  jss_nil)
  (jss_cons (js_if (jt_jw (jw_or (jt_cmp (o_ne hr.units) (je_res (jr_call F__law_by_counts (hr.mono (by decide)) (by rfl) (takes_of rfl rfl rfl rfl) (jl_cons (je_var 3) (jl_cons (je_var 5) (jl_cons (je_var 4) jl_nil))))) (jb_je (je_sum rfl (by rfl) E.b_sum (jb_je (je_var 6))))) (jw_or1 (jt_cmp o_isNot (je_res (jr_call F_are_prices (hr.mono (by decide)) (by rfl) (takes_of rfl rfl rfl rfl) (jl_cons (je_var 4) jl_nil))) (jb_je je_bl)))))
  (jss_one (js_ret je_bl))
  jss_nil)
  (jss_cons (js_set 7 hN (je_new (jn_lst (jl_cons je_non (jl_cons (je_sl (je_var 4) jp_none (jp_some je_int)) (jl_cons (je_new (jn_listA rfl (by rfl) E.b_list (jb_je (je_var 4)))) (jl_cons (je_bin o_add (je_var 4) (jb_je (je_tup (jl_cons je_int jl_nil)))) (jl_cons (je_bin o_add (je_tup (jl_cons (je_neg je_int) jl_nil)) (jb_je (je_sl (je_var 4) (jp_some je_int) jp_none))) (jl_cons (je_bin o_add (je_tup (jl_cons je_bl jl_nil)) (jb_je (je_sl (je_var 4) (jp_some je_int) jp_none))) (jl_cons je_int jl_nil))))))))))
  (jss_cons (js_set 8 hN (je_res (jr_callH 1 F__law_any (hr.mono (by decide)) (by rfl) (takes_of rfl rfl rfl rfl) (jl_cons (je_var 7) jl_nil))))
  (jss_cons (js_set 9 hN (je_res (jr_callH 1 F__law_any (hr.mono (by decide)) (by rfl) (takes_of rfl rfl rfl rfl) (jl_cons (je_new (jn_lst (jl_cons (je_var 8) (jl_cons (je_bin o_add (je_sl (je_var 4) jp_none (jp_some je_int)) (jb_je (je_tup (jl_cons (je_bin o_add (je_bin o_pow je_int (jb_je je_int)) (jb_je je_int)) jl_nil)))) jl_nil)))) jl_nil))))
  (jss_cons (js_if (jt_jw (jw_or (jt_cmp o_isNot (je_res (jr_call F_are_prices (hr.mono (by decide)) (by rfl) (takes_of rfl rfl rfl rfl) (jl_cons (je_var 8) jl_nil))) (jb_je je_bl)) (jw_or1 (jt_cmp o_isNot (je_res (jr_call F_are_prices (hr.mono (by decide)) (by rfl) (takes_of rfl rfl rfl rfl) (jl_cons (je_var 9) jl_nil))) (jb_je je_bl)))))
  (jss_one (js_ret je_bl))
  jss_nil)
  (jss_cons (js_set 10 hN (je_res (jr_callH 1 F__law_any (hr.mono (by decide)) (by rfl) (takes_of rfl rfl rfl rfl) (jl_cons (je_new (jn_lst (jl_cons je_non (jl_cons (je_sl (je_var 3) jp_none (jp_some je_int)) (jl_cons (je_new (jn_listA rfl (by rfl) E.b_list (jb_je (je_var 3)))) (jl_cons (je_bin o_add (je_tup (jl_cons je_int jl_nil)) (jb_je (je_sl (je_var 3) (jp_some je_int) jp_none))) jl_nil)))))) jl_nil))))
  (jss_cons (js_set 11 hN (je_res (jr_callH 1 F__law_any (hr.mono (by decide)) (by rfl) (takes_of rfl rfl rfl rfl) (jl_cons (je_new (jn_lst (jl_cons je_non (jl_cons (je_new (jn_listA rfl (by rfl) E.b_list (jb_je (je_var 5)))) (jl_cons (je_bin o_add (je_var 5) (jb_je (je_tup (jl_cons je_str jl_nil)))) (jl_cons (je_bin o_add (je_var 5) (jb_je (je_tup (jl_cons je_int jl_nil)))) (jl_cons je_str jl_nil))))))) jl_nil))))
  (jss_cons (js_setN 12 hN (jn_lst (jl_cons (je_word (k := 12) WF__law_word (by rfl) TB hcode hmT hu (hr.mono (by decide)) (LamX.lamS_by (show LamX.lamSB (defScope s_law) _ = true from by decide +kernel)) (by rfl) (by intros; rfl) (fun A outer s H E1 f c1 hrl => (je_res (jr_call F_costs_of (hrl.mono (by decide)) (by rfl) (takes_of rfl rfl rfl rfl) (jl_cons (je_var 10) (jl_cons je_non (jl_cons je_non jl_nil))))))) jl_nil)))
  (jss_cons (js_app 12 (je_word (k := 12) WF__law_word (by rfl) TB hcode hmT hu (hr.mono (by decide)) (LamX.lamS_by (show LamX.lamSB (defScope s_law) _ = true from by decide +kernel)) (by rfl) (by intros; rfl) (fun A outer s H E1 f c1 hrl => (je_res (jr_call F_cost_of (hrl.mono (by decide)) (by rfl) (takes_of rfl rfl rfl rfl) (jl_cons (je_var 3) (jl_cons (je_var 11) (jl_cons je_non jl_nil))))))))
  (jss_cons (js_app 12 (je_word (k := 12) WF__law_word (by rfl) TB hcode hmT hu (hr.mono (by decide)) (LamX.lamS_by (show LamX.lamSB (defScope s_law) _ = true from by decide +kernel)) (by rfl) (by intros; rfl) (fun A outer s H E1 f c1 hrl => (je_res (jr_call F_costs_of (hrl.mono (by decide)) (by rfl) (takes_of rfl rfl rfl rfl) (jl_cons (je_var 3) (jl_cons (je_var 5) (jl_cons (je_var 9) jl_nil))))))))
  (jss_cons (js_if (jt_cmpR 12 (o_ne hr.units) (jb_je (je_new (jn_lst (jl_cons je_str (jl_cons je_str (jl_cons je_str jl_nil)))))))
  (jss_one (js_ret je_bl))
  jss_nil)
  (jss_kill [2, 3, 4, 5, 6, 7, 8, 9, 10, 11, 12] jss_nil)))))))))))))))))
  (jss_one (js_ret je_bl))))
end
--HEAD
/-- what the end of the top is asked, of all its objects -/
theorem fct_of {P : Program} {w : World} {K : PySem.W.Frag} {mg : Str → Option Value} {base h : Heap} (KX : K.In h) (G : h.Ns mainGlobals mg) (c : He.SaysX fa fn [] [((PySem.Str.ofString "law"), none)] ex w h K) : Fct P w K mg base := by
  have xs : ex K = true := c.more
  unfold ex at xs
  obtain ⟨x0, xs⟩ := He.ba xs
  obtain ⟨x1, xs⟩ := He.ba xs
  obtain ⟨x2, xs⟩ := He.ba xs
  have x3 := xs
  have gk : ∀ x ∈ known, mg x = some (.ref (He.ga K x)) := fun x hx => by
    simp only [known, List.mem_cons, List.not_mem_nil, or_false] at hx
    rcases hx with rfl | rfl | rfl
    · exact He.glo_ok KX G (c.t.d.fact 0 rfl)
    · exact He.glo_ok KX G (c.t.d.fact 1 rfl)
    · exact He.glo_ok KX G (c.t.d.fact 2 rfl)
  exact {
    a_NoBoard := exA_of x0 gk (He.glo_ok KX G (c.t.d.fact 0 rfl))
    a_NoDeck := exA_of x1 gk (He.glo_ok KX G (c.t.d.fact 1 rfl))
    a_NoPrices := exA_of x2 gk (He.glo_ok KX G (c.t.d.fact 2 rfl))
    b_abs := He.free_ok KX G (c.t.d.fact 3 rfl)
    b_all := He.free_ok KX G (c.t.d.fact 4 rfl)
    b_any := He.free_ok KX G (c.t.d.fact 5 rfl)
    b_bool := He.free_ok KX G (c.t.d.fact 6 rfl)
    b_enumerate := He.free_ok KX G (c.t.d.fact 7 rfl)
    b_int := He.free_ok KX G (c.t.d.fact 8 rfl)
    b_isinstance := He.free_ok KX G (c.t.d.fact 9 rfl)
    b_len := He.free_ok KX G (c.t.d.fact 10 rfl)
    b_list := He.free_ok KX G (c.t.d.fact 11 rfl)
    b_min := He.free_ok KX G (c.t.d.fact 12 rfl)
    b_range := He.free_ok KX G (c.t.d.fact 13 rfl)
    b_set := He.free_ok KX G (c.t.d.fact 14 rfl)
    b_sorted := He.free_ok KX G (c.t.d.fact 15 rfl)
    b_str := He.free_ok KX G (c.t.d.fact 16 rfl)
    b_sum := He.free_ok KX G (c.t.d.fact 17 rfl)
    b_tuple := He.free_ok KX G (c.t.d.fact 18 rfl)
    b_zip := He.free_ok KX G (c.t.d.fact 19 rfl)
    i_KINDS := He.int_ok KX G (c.t.d.fact 20 rfl)
    i_MOST_ADDS := He.int_ok KX G (c.t.d.fact 21 rfl)
    i_MOST_CARDS := He.int_ok KX G (c.t.d.fact 22 rfl)
    i_MOST_COUNTERS := He.int_ok KX G (c.t.d.fact 23 rfl)
    i_MOST_DEEDS := He.int_ok KX G (c.t.d.fact 24 rfl)
    i_MOST_FACTOR := He.int_ok KX G (c.t.d.fact 25 rfl)
    i_MOST_FIELD := He.int_ok KX G (c.t.d.fact 26 rfl)
    i_MOST_ITEMS := He.int_ok KX G (c.t.d.fact 27 rfl)
    i_MOST_KEYS := He.int_ok KX G (c.t.d.fact 28 rfl)
    i_MOST_LATCHES := He.int_ok KX G (c.t.d.fact 29 rfl)
    i_MOST_LEVELS := He.int_ok KX G (c.t.d.fact 30 rfl)
    i_MOST_LISTS := He.int_ok KX G (c.t.d.fact 31 rfl)
    i_MOST_NAME := He.int_ok KX G (c.t.d.fact 32 rfl)
    i_MOST_NUMBER := He.int_ok KX G (c.t.d.fact 33 rfl)
    i_MOST_PAIRS := He.int_ok KX G (c.t.d.fact 34 rfl)
    i_MOST_PRICE := He.int_ok KX G (c.t.d.fact 35 rfl)
    i_MOST_TESTS := He.int_ok KX G (c.t.d.fact 36 rfl)
    i_MOST_WIDTH := He.int_ok KX G (c.t.d.fact 37 rfl)
    m_CardError := exM_of x3 gk (He.glo_ok KX G (c.t.d.fact 38 rfl))
    s_ADD := He.str_ok KX G (c.t.d.fact 39 rfl)
    s_CLEAR := He.str_ok KX G (c.t.d.fact 40 rfl)
    s_DEED := He.str_ok KX G (c.t.d.fact 41 rfl)
    s_FIELD := He.str_ok KX G (c.t.d.fact 42 rfl)
    s_KEY := He.str_ok KX G (c.t.d.fact 43 rfl)
    s_LATCH := He.str_ok KX G (c.t.d.fact 44 rfl)
    s_LETTERS := He.str_ok KX G (c.t.d.fact 45 rfl)
    s_LIST := He.str_ok KX G (c.t.d.fact 46 rfl)
    s_NUMBER := He.str_ok KX G (c.t.d.fact 47 rfl)
    s_OFF := He.str_ok KX G (c.t.d.fact 48 rfl)
    s_ON := He.str_ok KX G (c.t.d.fact 49 rfl)
    s_PRINT := He.str_ok KX G (c.t.d.fact 50 rfl)
    s_ROLL := He.str_ok KX G (c.t.d.fact 51 rfl)
    s_SIGN := He.str_ok KX G (c.t.d.fact 52 rfl)
    s_SIGNS := He.str_ok KX G (c.t.d.fact 53 rfl)
    s_SUM := He.str_ok KX G (c.t.d.fact 54 rfl)
    s_WORD := He.str_ok KX G (c.t.d.fact 55 rfl)
    x0_NoBoard := exK0_of (c.t.d.fact 56 rfl) (He.glo_ok KX G (c.t.d.fact 0 rfl))
    x0_NoDeck := exK0_of (c.t.d.fact 57 rfl) (He.glo_ok KX G (c.t.d.fact 1 rfl))
    x0_NoPrices := exK0_of (c.t.d.fact 58 rfl) (He.glo_ok KX G (c.t.d.fact 2 rfl)) }
theorem facts_law {w : World} {K : PySem.W.Frag} {mg : Str → Option Value} {h : Heap} (KX : K.In h) (G : h.Ns mainGlobals mg) (c : He.SaysX fa fn [] [((PySem.Str.ofString "law"), none)] ex w h K)
    (plain : ∀ (ns : List Int) (T : List (Addr × Str)), ns.length ≤ 63 → (∀ z ∈ ns, Builtin.Int.intBits z ≤ 1048576) → T ≠ [] → ∃ ρ1, d_law T (.scr ns T :: List.replicate (13 - 1) .undef) = .ret (.bool true) ρ1) :
    LamX.LawAtS PySem.Challenge.rw_cardroom_k86_whole_costs_of_runs w K (L2.CX PySem.Challenge.rw_cardroom_k86_whole_costs_of_runs.prog w) (14 + 1) 63 (PySem.Str.ofString "script") mg (He.fAd K ((PySem.Str.ofString "law"), none)) h := by
  refine lawAt (N := N_law) (st := s_law) (n := 13) KX G c (c.t.d.def_ 70 rfl) sc_law rfl (by decide) (fun _ _ _ _ _ _ us hl => match us, hl with | [_], _ => rfl) (fun base T c0 P0 KB GB TB hT A outer s H E1 hr => ?_) plain
  have E : Fct PySem.Challenge.rw_cardroom_k86_whole_costs_of_runs.prog w K mg base := fct_of KX G c
  have F_is_integer := ok_is_integer E  (c.t.d.def_ 0 rfl) (He.glo_ok KX G (c.t.d.fact 59 rfl))
  have F_is_within := ok_is_within E F_is_integer (c.t.d.def_ 1 rfl) (He.glo_ok KX G (c.t.d.fact 60 rfl))
  have F_is_tuple_of := ok_is_tuple_of E  (c.t.d.def_ 2 rfl) (He.glo_ok KX G (c.t.d.fact 61 rfl))
  have F_is_few := ok_is_few E  (c.t.d.def_ 3 rfl) (He.glo_ok KX G (c.t.d.fact 62 rfl))
  have F_is_sign := ok_is_sign E  (c.t.d.def_ 4 rfl) (He.glo_ok KX G (c.t.d.fact 63 rfl))
  have F_is_width := ok_is_width E F_is_within (c.t.d.def_ 5 rfl) (He.glo_ok KX G (c.t.d.fact 64 rfl))
  have F_raw_is_card := ok_raw_is_card E  (c.t.d.def_ 6 rfl) (He.glo_ok KX G (c.t.d.fact 65 rfl))
  have F_raw_is_deck := ok_raw_is_deck E F_is_few F_raw_is_card (c.t.d.def_ 7 rfl) (He.glo_ok KX G (c.t.d.fact 66 rfl))
  have F_raw_is_field := ok_raw_is_field E F_is_within F_is_tuple_of (c.t.d.def_ 8 rfl) (He.glo_ok KX G (c.t.d.fact 67 rfl))
  have F_is_name := ok_is_name E  (c.t.d.def_ 9 rfl) (He.glo_ok KX G (c.t.d.fact 68 rfl))
  have F_is_flag := ok_is_flag E  (c.t.d.def_ 10 rfl) (He.glo_ok KX G (c.t.d.fact 69 rfl))
  have F_is_factor := ok_is_factor E F_is_within (c.t.d.def_ 11 rfl) (He.glo_ok KX G (c.t.d.fact 70 rfl))
  have F_is_worded := ok_is_worded E F_is_tuple_of (c.t.d.def_ 12 rfl) (He.glo_ok KX G (c.t.d.fact 71 rfl))
  have F_are_levels := ok_are_levels E F_is_within F_is_few (c.t.d.def_ 13 rfl) (He.glo_ok KX G (c.t.d.fact 72 rfl))
  have F_is_latch := ok_is_latch E F_is_within F_is_tuple_of F_is_sign (c.t.d.def_ 14 rfl) (He.glo_ok KX G (c.t.d.fact 73 rfl))
  have F_is_test := ok_is_test E F_is_within F_is_sign F_is_flag F_is_worded (c.t.d.def_ 15 rfl) (He.glo_ok KX G (c.t.d.fact 74 rfl))
  have F_is_when := ok_is_when E F_is_few F_is_test (c.t.d.def_ 16 rfl) (He.glo_ok KX G (c.t.d.fact 75 rfl))
  have F_are_pairs := ok_are_pairs E F_is_within F_is_tuple_of F_is_factor (c.t.d.def_ 17 rfl) (He.glo_ok KX G (c.t.d.fact 76 rfl))
  have F_raw_keys := ok_raw_keys E  (c.t.d.def_ 18 rfl) (He.glo_ok KX G (c.t.d.fact 77 rfl))
  have F_is_item := ok_is_item E F_is_integer F_is_within F_raw_is_field F_is_name F_is_worded F_are_pairs F_raw_keys (c.t.d.def_ 19 rfl) (He.glo_ok KX G (c.t.d.fact 78 rfl))
  have F_are_items := ok_are_items E F_is_few F_is_item (c.t.d.def_ 20 rfl) (He.glo_ok KX G (c.t.d.fact 79 rfl))
  have F_is_add := ok_is_add E F_is_within F_is_tuple_of F_raw_is_field F_is_factor F_is_when (c.t.d.def_ 21 rfl) (He.glo_ok KX G (c.t.d.fact 80 rfl))
  have F_is_list := ok_is_list E F_is_tuple_of F_is_when F_are_items (c.t.d.def_ 22 rfl) (He.glo_ok KX G (c.t.d.fact 81 rfl))
  have F_is_deed := ok_is_deed E F_is_within F_is_worded F_is_when F_are_items (c.t.d.def_ 23 rfl) (He.glo_ok KX G (c.t.d.fact 82 rfl))
  have F_are_deeds := ok_are_deeds E F_is_few F_is_deed (c.t.d.def_ 24 rfl) (He.glo_ok KX G (c.t.d.fact 83 rfl))
  have F_is_board := ok_is_board E F_is_within F_is_tuple_of F_is_few F_is_width F_are_levels F_is_latch F_is_add F_is_list F_are_deeds (c.t.d.def_ 25 rfl) (He.glo_ok KX G (c.t.d.fact 84 rfl))
  have F_check_board := ok_check_board E F_is_board (c.t.d.def_ 26 rfl) (He.glo_ok KX G (c.t.d.fact 85 rfl))
  have F_does_hold := ok_does_hold E  (c.t.d.def_ 27 rfl) (He.glo_ok KX G (c.t.d.fact 86 rfl))
  have F_keys_on := ok_keys_on E F_raw_keys (c.t.d.def_ 28 rfl) (He.glo_ok KX G (c.t.d.fact 87 rfl))
  have F_raw_broken := ok_raw_broken E F_raw_keys (c.t.d.def_ 29 rfl) (He.glo_ok KX G (c.t.d.fact 88 rfl))
  have F_latches_off := ok_latches_off E  (c.t.d.def_ 30 rfl) (He.glo_ok KX G (c.t.d.fact 89 rfl))
  have F_latches_on := ok_latches_on E  (c.t.d.def_ 31 rfl) (He.glo_ok KX G (c.t.d.fact 90 rfl))
  have F_deed_events := ok_deed_events E F_does_hold (c.t.d.def_ 32 rfl) (He.glo_ok KX G (c.t.d.fact 91 rfl))
  have F_raw_events := ok_raw_events E F_does_hold F_keys_on F_raw_broken F_latches_off F_latches_on F_deed_events (c.t.d.def_ 33 rfl) (He.glo_ok KX G (c.t.d.fact 92 rfl))
  have F_raw_end_events := ok_raw_end_events E F_latches_off F_deed_events (c.t.d.def_ 34 rfl) (He.glo_ok KX G (c.t.d.fact 93 rfl))
  have F_raw_first_state := ok_raw_first_state E  (c.t.d.def_ 35 rfl) (He.glo_ok KX G (c.t.d.fact 94 rfl))
  have F_check_run := ok_check_run E F_raw_is_deck F_check_board (c.t.d.def_ 36 rfl) (He.glo_ok KX G (c.t.d.fact 95 rfl))
  have F_are_prices := ok_are_prices E F_is_within F_is_tuple_of (c.t.d.def_ 37 rfl) (He.glo_ok KX G (c.t.d.fact 96 rfl))
  have F_check_prices := ok_check_prices E F_check_board F_are_prices (c.t.d.def_ 38 rfl) (He.glo_ok KX G (c.t.d.fact 97 rfl))
  have F_event_price := ok_event_price E  (c.t.d.def_ 39 rfl) (He.glo_ok KX G (c.t.d.fact 98 rfl))
  have F_events_price := ok_events_price E F_event_price (c.t.d.def_ 40 rfl) (He.glo_ok KX G (c.t.d.fact 99 rfl))
  have F_card_costs := ok_card_costs E F_raw_events F_raw_end_events F_raw_first_state F_events_price (c.t.d.def_ 41 rfl) (He.glo_ok KX G (c.t.d.fact 100 rfl))
  have F_costs_of := ok_costs_of E F_check_run F_check_prices F_card_costs (c.t.d.def_ 42 rfl) (He.glo_ok KX G (c.t.d.fact 101 rfl))
  have F_cost_of := ok_cost_of E F_check_run F_check_prices F_card_costs (c.t.d.def_ 43 rfl) (He.glo_ok KX G (c.t.d.fact 102 rfl))
  have F_all_events := ok_all_events E F_raw_events F_raw_end_events F_raw_first_state (c.t.d.def_ 44 rfl) (He.glo_ok KX G (c.t.d.fact 103 rfl))
  have F_told_counts := ok_told_counts E F_all_events (c.t.d.def_ 45 rfl) (He.glo_ok KX G (c.t.d.fact 104 rfl))
  have F_adds_done := ok_adds_done E F_check_run F_told_counts (c.t.d.def_ 46 rfl) (He.glo_ok KX G (c.t.d.fact 105 rfl))
  have F_lists_done := ok_lists_done E F_check_run F_told_counts (c.t.d.def_ 47 rfl) (He.glo_ok KX G (c.t.d.fact 106 rfl))
  have F_deeds_done := ok_deeds_done E F_check_run F_all_events (c.t.d.def_ 48 rfl) (He.glo_ok KX G (c.t.d.fact 107 rfl))
  have F__law_hand := ok__law_hand E  (c.t.d.def_ 49 rfl) (He.glo_ok KX G (c.t.d.fact 108 rfl))
  have F__law_draw := ok__law_draw E  (c.t.d.def_ 50 rfl) (He.glo_ok KX G (c.t.d.fact 109 rfl))
  have F__law_any := ok__law_any E F__law_draw (c.t.d.def_ 51 rfl) (He.glo_ok KX G (c.t.d.fact 110 rfl))
  have F__law_holds := ok__law_holds E  (c.t.d.def_ 52 rfl) (He.glo_ok KX G (c.t.d.fact 111 rfl))
  have F__law_when := ok__law_when E F__law_draw F__law_any (c.t.d.def_ 53 rfl) (He.glo_ok KX G (c.t.d.fact 112 rfl))
  have F__law_field := ok__law_field E F__law_draw (c.t.d.def_ 54 rfl) (He.glo_ok KX G (c.t.d.fact 113 rfl))
  have F__law_sum := ok__law_sum E F__law_draw F__law_any (c.t.d.def_ 55 rfl) (He.glo_ok KX G (c.t.d.fact 114 rfl))
  have F__law_add := ok__law_add E F__law_draw F__law_any F__law_when F__law_field (c.t.d.def_ 56 rfl) (He.glo_ok KX G (c.t.d.fact 115 rfl))
  have F__law_list := ok__law_list E F__law_draw F__law_any F__law_when F__law_field F__law_sum (c.t.d.def_ 57 rfl) (He.glo_ok KX G (c.t.d.fact 116 rfl))
  have F__law_one_deed := ok__law_one_deed E F__law_draw F__law_any F__law_when F__law_sum (c.t.d.def_ 58 rfl) (He.glo_ok KX G (c.t.d.fact 117 rfl))
  have F__law_board := ok__law_board E F__law_draw F__law_any F__law_add F__law_list F__law_one_deed (c.t.d.def_ 59 rfl) (He.glo_ok KX G (c.t.d.fact 118 rfl))
  have F__law_deck := ok__law_deck E F__law_draw F__law_any (c.t.d.def_ 60 rfl) (He.glo_ok KX G (c.t.d.fact 119 rfl))
  have F__law_first := ok__law_first E  (c.t.d.def_ 61 rfl) (He.glo_ok KX G (c.t.d.fact 120 rfl))
  have F__law_deeds_cost := ok__law_deeds_cost E F__law_holds (c.t.d.def_ 62 rfl) (He.glo_ok KX G (c.t.d.fact 121 rfl))
  have F__law_breaks := ok__law_breaks E F__law_deeds_cost (c.t.d.def_ 63 rfl) (He.glo_ok KX G (c.t.d.fact 122 rfl))
  have F__law_card_cost := ok__law_card_cost E F__law_holds F__law_breaks (c.t.d.def_ 64 rfl) (He.glo_ok KX G (c.t.d.fact 123 rfl))
  have F__law_end_cost := ok__law_end_cost E F__law_deeds_cost F__law_breaks (c.t.d.def_ 65 rfl) (He.glo_ok KX G (c.t.d.fact 124 rfl))
  have F__law_costs := ok__law_costs E F__law_first F__law_card_cost F__law_end_cost (c.t.d.def_ 66 rfl) (He.glo_ok KX G (c.t.d.fact 125 rfl))
  have F__law_prices := ok__law_prices E F__law_draw F__law_any (c.t.d.def_ 67 rfl) (He.glo_ok KX G (c.t.d.fact 126 rfl))
  have F__law_by_counts := ok__law_by_counts E F_adds_done F_lists_done F_deeds_done (c.t.d.def_ 68 rfl) (He.glo_ok KX G (c.t.d.fact 127 rfl))
  have WF__law_word := wf__law_word E (c.t.d.def_ 69 rfl) (He.glo_ok KX G (c.t.d.fact 128 rfl))
  exact ok_law E F_are_prices F_costs_of F_cost_of F__law_hand F__law_any F__law_board F__law_deck F__law_costs F__law_prices F__law_by_counts WF__law_word TB hT A outer s H E1 hr
end Pf
/-! Pf23: plain laws: what the denotations answer, by rewriting. -/
namespace Pf
open PySem PySem.Spec PyProof.Rows L2

/-! ### texts as lists of signs -/
def mk (l : List Nat) : Str := ⟨l.toArray⟩
theorem str_mk (s : Str) : s = mk s.cps.toList := by cases s; rfl
@[simp] theorem mk_cps (l : List Nat) : (mk l).cps.toList = l := by simp [mk]
@[simp] theorem mk_len (l : List Nat) : (mk l).length = l.length := by simp [mk, Str.length]
@[simp] theorem mk_inj (a b : List Nat) : (mk a = mk b) = (a = b) := by simp [mk]
@[simp] theorem mk_app (a b : List Nat) : mk a ++ mk b = mk (a ++ b) := by
  show Str.append _ _ = _
  simp [Str.append, mk]
@[simp] theorem mk_cut (l : List Nat) (lo hi : Option Int) : cutS (mk l) lo hi = mk (cutD l lo hi) := by
  simp [cutS, cutD, mk, Str.length]
@[simp] theorem mk_one (c : Nat) : (⟨#[c]⟩ : Str) = mk [c] := rfl
@[simp] theorem mk_get (l : List Nat) (i : Nat) : (mk l).cps[i]? = l[i]? := by simp [mk]
theorem mk_join (ls : List (List Nat)) : Txt.join (mk []) (ls.map mk) = mk ls.flatten := by
  rw [TL.join_eq]
  induction ls with
  | nil => rfl
  | cons a r ih =>
    cases r with
    | nil => simp [Str.join]
    | cons b r =>
      have e : Str.join (mk []) ((a :: b :: r).map mk) = mk a ++ mk [] ++ Str.join (mk []) ((b :: r).map mk) := rfl
      rw [e, ih]; simp
abbrev sD (l : List Nat) : D := .str (mk l)

/-! ### rewriting a run -/
section
variable {α β : Type}
@[simp] theorem bind_ok (a : α) (ρ : Rho) (f : α → Rho → R β) : (R.ok a ρ).bind f = f a ρ := rfl
@[simp] theorem bind_err (x : Ex) (ρ : Rho) (f : α → Rho → R β) : (R.err x ρ).bind f = .err x ρ := rfl
@[simp] theorem out_ok (a : α) (ρ : Rho) (f : α → Rho → Out) : (R.ok a ρ).out f = f a ρ := rfl
@[simp] theorem out_err (x : Ex) (ρ : Rho) (f : α → Rho → Out) : (R.err (α := α) x ρ).out f = .err x ρ := rfl
@[simp] theorem lift_some (a : α) (ρ : Rho) : lift (some a) ρ = .ok a ρ := rfl
end
@[simp] theorem dImm_e (i : Nat) (ρ : Rho) : dImm i ρ = (
  match ρ[i]? with
  | some (.imm d) => .ok d ρ
  | _ => .bad) := rfl
@[simp] theorem dFrz_e (i : Nat) (ρ : Rho) : dFrz i ρ = (
  match ρ[i]? with
  | some (.own ds) => .ok (.list ds) (ρ.set i (.imm (.list ds)))
  | some (.imm d) => .ok d ρ
  | _ => .bad) := rfl
@[simp] theorem dC_e (d : D) (ρ : Rho) : dC d ρ = ( .ok d ρ) := rfl
@[simp] theorem dLst_e (den : Rho → R (List D)) (ρ : Rho) : dLst den ρ = ( (den ρ).bind fun ds ρ' => .ok (.list ds) ρ') := rfl
@[simp] theorem dSeq_e (a b : Rho → Out) (ρ : Rho) : dSeq a b ρ = (
  match a ρ with
  | .next ρ' => b ρ'
  | o => o) := rfl
@[simp] theorem dNext_e (ρ : Rho) : dNext ρ = ( .next ρ) := rfl
@[simp] theorem dIf_e (c : Rho → R Bool) (a b : Rho → Out) (ρ : Rho) : dIf c a b ρ = ( (c ρ).out fun k ρ' => if k = true then a ρ' else b ρ') := rfl
@[simp] theorem dRet_e (e : Rho → R D) (ρ : Rho) : dRet e ρ = ( (e ρ).out fun d ρ' => .ret d ρ') := rfl
@[simp] theorem dRetN_e (e : Rho → R (List D)) (ρ : Rho) : dRetN e ρ = ( (e ρ).out fun d ρ' => .retN d ρ') := rfl
@[simp] theorem dRetOwn_e (i : Nat) (ρ : Rho) : dRetOwn i ρ = (
  match ρ[i]? with
  | some (.own ds) => .retN ds ρ
  | _ => .bad) := rfl
@[simp] theorem dDrop_e (e : Rho → R D) (ρ : Rho) : dDrop e ρ = ( (e ρ).out fun _ ρ' => .next ρ') := rfl
@[simp] theorem dNever_e (ρ : Rho) : dNever ρ = ( .bad) := rfl
@[simp] theorem dBrk_e (ρ : Rho) : dBrk ρ = ( .brk ρ) := rfl
@[simp] theorem dCont_e (ρ : Rho) : dCont ρ = ( .cont ρ) := rfl
@[simp] theorem dOp_e (f : D → D → Option D) (a b : Rho → R D) (ρ : Rho) : dOp f a b ρ = ( (a ρ).bind fun x ρ1 => (b ρ1).bind fun y ρ2 => lift (f x y) ρ2) := rfl
@[simp] theorem dBool_e (a : Rho → R D) (ρ : Rho) : dBool a ρ = ( (a ρ).bind fun d ρ' =>
  match d with
  | .bool b => .ok b ρ'
  | _ => .bad) := rfl
@[simp] theorem dChain_e (f f' : D → D → Option D) (a b c : Rho → R D) (ρ : Rho) : dChain f f' a b c ρ = ( (a ρ).bind fun x ρ1 => (b ρ1).bind fun y ρ2 =>
  match f x y with
  | some (.bool true) => (c ρ2).bind fun z ρ3 => lift (f' y z) ρ3
  | some (.bool false) => .ok (.bool false) ρ2
  | _ => .bad) := rfl
@[simp] theorem dAnd_e (a b : Rho → R Bool) (ρ : Rho) : dAnd a b ρ = ( (a ρ).bind fun k ρ' => if k = true then b ρ' else .ok false ρ') := rfl
@[simp] theorem dOr_e (a b : Rho → R Bool) (ρ : Rho) : dOr a b ρ = ( (a ρ).bind fun k ρ' => if k = true then .ok true ρ' else b ρ') := rfl
@[simp] theorem dNot_e (a : Rho → R Bool) (ρ : Rho) : dNot a ρ = ( (a ρ).bind fun k ρ' => .ok (!k) ρ') := rfl
@[simp] theorem dAndV_e (a b : Rho → R D) (ρ : Rho) : dAndV a b ρ = ( (dBool a ρ).bind fun k ρ' => if k = true then b ρ' else .ok (.bool false) ρ') := rfl
@[simp] theorem dOrV_e (a b : Rho → R D) (ρ : Rho) : dOrV a b ρ = ( (dBool a ρ).bind fun k ρ' => if k = true then .ok (.bool true) ρ' else b ρ') := rfl
@[simp] theorem dNotV_e (a : Rho → R D) (ρ : Rho) : dNotV a ρ = ( (dBool a ρ).bind fun k ρ' => .ok (.bool (!k)) ρ') := rfl
@[simp] theorem dIfE_e {α : Type} (c : Rho → R Bool) (a b : Rho → R α) (ρ : Rho) : dIfE c a b ρ = ( (c ρ).bind fun k ρ' => if k = true then a ρ' else b ρ') := rfl
@[simp] theorem dNil_e (ρ : Rho) : dNil ρ = ( .ok [] ρ) := rfl
@[simp] theorem dCons_e (a : Rho → R D) (b : Rho → R (List D)) (ρ : Rho) : dCons a b ρ = ( (a ρ).bind fun x ρ1 => (b ρ1).bind fun xs ρ2 => .ok (x :: xs) ρ2) := rfl
@[simp] theorem dTup_e (a : Rho → R (List D)) (ρ : Rho) : dTup a ρ = ( (a ρ).bind fun xs ρ' => .ok (.tuple xs) ρ') := rfl
@[simp] theorem d1_e (f : D → Option D) (a : Rho → R D) (ρ : Rho) : d1 f a ρ = ( (a ρ).bind fun x ρ1 => lift (f x) ρ1) := rfl
@[simp] theorem dNo_e (ρ : Rho) : dNo ρ = ( .ok none ρ) := rfl
@[simp] theorem dSm_e (e : Rho → R D) (ρ : Rho) : dSm e ρ = ( (e ρ).bind fun d ρ1 => lift (asInt d) ρ1) := rfl
@[simp] theorem dSl_e (a : Rho → R D) (lo hi : Rho → R (Option Int)) (ρ : Rho) : dSl a lo hi ρ = ( (a ρ).bind fun x ρ1 => (lo ρ1).bind fun l ρ2 => (hi ρ2).bind fun h ρ3 => lift (dCut x l h) ρ3) := rfl
@[simp] theorem dScr_e (i : Nat) (k : Int) (ρ : Rho) : dScr i k ρ = (
  match ρ[i]? with
  | some (.scr ns _) => .ok (.list ((cutD ns none (some k)).map .int)) ρ
  | _ => .bad) := rfl
@[simp] theorem dIsi_e (f : D → Bool) (a : Rho → R D) (ρ : Rho) : dIsi f a ρ = ( (a ρ).bind fun x ρ1 => .ok (.bool (f x)) ρ1) := rfl
@[simp] theorem d2_e (f : D → D → Option D) (a b : Rho → R D) (ρ : Rho) : d2 f a b ρ = ( (a ρ).bind fun x ρ1 => (b ρ1).bind fun y ρ2 => lift (f x y) ρ2) := rfl
@[simp] theorem dJn_e (a b : Rho → R D) (ρ : Rho) : dJn a b ρ = ( (a ρ).bind fun x ρ1 =>
  match x with
  | .str z => (b ρ1).bind fun y ρ2 => lift (dJoin (.str z) y) ρ2
  | _ => .bad) := rfl
@[simp] theorem dApp_e (i : Nat) (e : Rho → R D) (ρ : Rho) : dApp i e ρ = (
  match ρ.lst? i with
  | none => .bad
  | some _ => (e ρ).out fun d ρ1 =>
    match ρ1.lst? i with
    | some ds => if ds.length < sizeLine then .next (ρ1.put i (ds ++ [d])) else .bad
    | none => .bad) := rfl
@[simp] theorem dExt_e (i : Nat) (e : Rho → R D) (ρ : Rho) : dExt i e ρ = (
  match ρ.lst? i with
  | none => .bad
  | some _ => (e ρ).out fun d ρ1 =>
    match ρ1.lst? i, d with
    | some ds, .list es => if ds.length + es.length ≤ sizeLine then .next (ρ1.put i (ds ++ es)) else .bad
    | _, _ => .bad) := rfl
@[simp] theorem dPop_e (i : Nat) (ρ : Rho) : dPop i ρ = (
  match ρ.lst? i with
  | some ds => match ds[ds.length - 1]? with
    | some d => .ok d (ρ.put i ds.dropLast)
    | none => .bad
  | none => .bad) := rfl
@[simp] theorem dPut_e (i : Nat) (k e : Rho → R D) (ρ : Rho) : dPut i k e ρ = ( (e ρ).out fun d ρ1 =>
  match ρ1.lst? i with
  | none => .bad
  | some _ => (k ρ1).out fun j ρ2 =>
    match ρ2.lst? i, j with
    | some ds, .int j => match ixN ds.length j with
      | some n => .next (ρ2.put i (ds.set n d))
      | none => .bad
    | _, _ => .bad) := rfl
@[simp] theorem dF_e (f : D → Bool) (a : Rho → R D) (ρ : Rho) : dF f a ρ = ( (a ρ).bind fun d ρ1 => .ok (.bool (f d)) ρ1) := rfl
@[simp] theorem dOpL_e (f : D → D → Option D) (a b : Rho → R D) (ρ : Rho) : dOpL f a b ρ = ( (a ρ).bind fun x ρ1 =>
  match x with
  | .list ds => (b ρ1).bind fun y ρ2 => lift (f (.list ds) y) ρ2
  | _ => .bad) := rfl
@[simp] theorem dOpLO_e (f : D → D → Option D) (i : Nat) (b : Rho → R D) (ρ : Rho) : dOpLO f i b ρ = (
  match ρ.lst? i with
  | none => .bad
  | some _ => (b ρ).bind fun y ρ2 =>
    match ρ2.lst? i with
    | some ds => lift (f (.list ds) y) ρ2
    | none => .bad) := rfl
@[simp] theorem dOpS_e (f : D → D → Option D) (a b : Rho → R D) (ρ : Rho) : dOpS f a b ρ = ( (a ρ).bind fun x ρ1 =>
  match x with
  | .str z => (b ρ1).bind fun y ρ2 => lift (f (.str z) y) ρ2
  | _ => .bad) := rfl
@[simp] theorem bTup_e (b : List D → Rho → Option Rho) (d : D) (ρ : Rho) : bTup b d ρ = (
  match d with
  | .tuple ds => b ds ρ
  | _ => none) := rfl
@[simp] theorem dSrc_e (a : Rho → R D) (ρ : Rho) : dSrc a ρ = ( (a ρ).bind fun d ρ1 => lift (seqD d) ρ1) := rfl
@[simp] theorem dSrcE_e (a : Rho → R D) (ρ : Rho) : dSrcE a ρ = ( (a ρ).bind fun d ρ1 =>
  match seqD d with
  | some ds => .ok (numD 0 ds) ρ1
  | none => .bad) := rfl
@[simp] theorem dFor_e (it : Rho → R (List D)) (bind : Bd) (body : Rho → Out) (ρ : Rho) : dFor it bind body ρ = ( (it ρ).out fun ds ρ1 => dLoop bind body ds ρ1) := rfl
@[simp] theorem dYes_e (ρ : Rho) : dYes ρ = ( .ok true ρ) := rfl
@[simp] theorem dVal_e (r : Rho → R Res) (ρ : Rho) : dVal r ρ = ( (r ρ).bind fun x ρ1 =>
  match x with
  | .v d => .ok d ρ1
  | .n ds => .ok (.list ds) ρ1) := rfl
@[simp] theorem dNew_e (r : Rho → R Res) (ρ : Rho) : dNew r ρ = ( (r ρ).bind fun x ρ1 =>
  match x with
  | .v _ => .bad
  | .n ds => .ok ds ρ1) := rfl
@[simp] theorem dCallV_e (n : Nat) (body : Rho → Out) (dl : Rho → R (List D)) (ρ : Rho) : dCallV n body dl ρ = ( (dl ρ).bind fun ds ρ1 => callD n body none ds ρ1) := rfl
@[simp] theorem dCallH_e (n : Nat) (body : Rho → Out) (i : Nat) (dl : Rho → R (List D)) (ρ : Rho) : dCallH n body i dl ρ = (
  match ρ.lst? i with
  | none => .bad
  | some _ => (dl ρ).bind fun ds ρ1 => callD n body (some i) ds ρ1) := rfl
@[simp] theorem dCall0_e (n : Nat) (body : Rho → Out) (ρ : Rho) : dCall0 n body ρ = ( callD n body none [] ρ) := rfl
@[simp] theorem dRaise_e (e : Rho → R Ex) (ρ : Rho) : dRaise e ρ = ( (e ρ).out fun x ρ1 => .err x ρ1) := rfl
@[simp] theorem dExc0_e (x : Str) (ρ : Rho) : dExc0 x ρ = ( .ok ⟨x, []⟩ ρ) := rfl
@[simp] theorem dExc1_e (x f : Str) (e : Rho → R D) (ρ : Rho) : dExc1 x f e ρ = ( (e ρ).bind fun d ρ1 => .ok ⟨x, [(f, d)]⟩ ρ1) := rfl
@[simp] theorem dAsg_e (b : Bd) (e : Rho → R D) (ρ : Rho) : dAsg b e ρ = ( (e ρ).out fun d ρ1 => match b d ρ1 with
  | some ρ2 => .next ρ2
  | none => .bad) := rfl
@[simp] theorem dCatN_e (a b : Rho → R D) (ρ : Rho) : dCatN a b ρ = ( (a ρ).bind fun x ρ1 => (b ρ1).bind fun y ρ2 =>
  match x, y with
  | .list xs, .list ys => if xs.length + ys.length ≤ sizeLine then .ok (xs ++ ys) ρ2 else .bad
  | _, _ => .bad) := rfl
@[simp] theorem dCatNO_e (i : Nat) (b : Rho → R D) (ρ : Rho) : dCatNO i b ρ = (
  match ρ.lst? i with
  | none => .bad
  | some _ => (b ρ).bind fun y ρ2 =>
    match ρ2.lst? i, y with
    | some xs, .list ys => if xs.length + ys.length ≤ sizeLine then .ok (xs ++ ys) ρ2 else .bad
    | _, _ => .bad) := rfl
@[simp] theorem dListN_e (a : Rho → R D) (ρ : Rho) : dListN a ρ = ( (a ρ).bind fun x ρ1 =>
  match x with
  | .list xs => .ok xs ρ1
  | .tuple xs => .ok xs ρ1
  | _ => .bad) := rfl
@[simp] theorem dRd_e (i : Nat) (ρ : Rho) : dRd i ρ = ( lift (ρ.rd i) ρ) := rfl
@[simp] theorem dOpR_e (f : D → D → Option D) (i : Nat) (b : Rho → R D) (ρ : Rho) : dOpR f i b ρ = (
  match ρ.rd i with
  | none => .bad
  | some _ => (b ρ).bind fun y ρ2 => lift ((ρ2.rd i).bind fun x => f x y) ρ2) := rfl
@[simp] theorem dSlR_e (i : Nat) (lo hi : Rho → R (Option Int)) (ρ : Rho) : dSlR i lo hi ρ = (
  match ρ.rd i with
  | none => .bad
  | some _ => (lo ρ).bind fun l ρ2 => (hi ρ2).bind fun h ρ3 => lift ((ρ3.rd i).bind fun x => dCut x l h) ρ3) := rfl
@[simp] theorem dXf_e (cn f : Str) (x : Ex) (ρ : Rho) : dXf cn f x ρ = ( if x.cls = cn then lift (x.fs.lookup f) ρ else .bad) := rfl
@[simp] theorem dXt_e (m cn f : Str) (x : Ex) (ρ : Rho) : dXt m cn f x ρ = ( (dXf cn f x ρ).bind fun d ρ1 => .ok (.tuple [.str m, d]) ρ1) := rfl
@[simp] theorem dQ_e (f : Ex → Option (List D)) (x : Ex) (ρ : Rho) : dQ f x ρ = ( lift (f x) ρ) := rfl

def fr : Slot → Bool
  | .io _ => false
  | _ => true
@[simp] theorem fr_undef : fr .undef = true := rfl
@[simp] theorem fr_imm (d : D) : fr (.imm d) = true := rfl
@[simp] theorem fr_own (d : List D) : fr (.own d) = true := rfl
def frAt (ρ : Rho) (i : Nat) : Bool := match ρ[i]? with
  | some s => fr s
  | none => true
@[simp] theorem frAt_0 (s : Slot) (r : List Slot) : frAt (s :: r) 0 = fr s := rfl
@[simp] theorem frAt_succ (s : Slot) (r : List Slot) (i : Nat) : frAt (s :: r) (i + 1) = frAt r i := rfl
theorem io_split {α : Type} (ρ : Rho) (i : Nat) (a b : α) : (match ρ[i]? with | some (.io _) => a | _ => b) = if frAt ρ i = true then b else a := by
  unfold frAt
  split
  · rename_i h; rw [h]; rfl
  · rename_i h
    cases e : ρ[i]? with
    | none => rfl
    | some s => cases s <;> first | rfl | exact absurd e (h _)
theorem isIo_fr (ρ : Rho) (i : Nat) : isIo ρ i = !frAt ρ i := by
  unfold isIo frAt
  cases e : ρ[i]? with
  | none => rfl
  | some s => cases s <;> rfl
@[simp] theorem dSet_e (i : Nat) (e : Rho → R D) (ρ : Rho) : dSet i e ρ = (e ρ).out fun d ρ' => if frAt ρ' i = true then .next (ρ'.set i (.imm d)) else .bad := by
  unfold dSet
  congr 1; funext d ρ'; exact io_split ρ' i _ _
@[simp] theorem dSetN_e (i : Nat) (e : Rho → R (List D)) (ρ : Rho) : dSetN i e ρ = (e ρ).out fun d ρ' => if frAt ρ' i = true then .next (ρ'.set i (.own d)) else .bad := by
  unfold dSetN
  congr 1; funext d ρ'; exact io_split ρ' i _ _
@[simp] theorem bName_e (i : Nat) (d : D) (ρ : Rho) : bName i d ρ = if frAt ρ i = true then some (ρ.set i (.imm d)) else none := io_split ρ i _ _
@[simp] theorem dAug_e (f : D → D → Option D) (i : Nat) (e : Rho → R D) (ρ : Rho) : dAug f i e ρ = (match ρ[i]? with
    | some (.imm x) => (e ρ).out fun y ρ1 => (match f x y with
      | some d => if frAt ρ1 i = true then .next (ρ1.set i (.imm d)) else .bad
      | none => .bad)
    | _ => .bad) := by
  unfold dAug
  cases h : ρ[i]? with
  | none => rfl
  | some s =>
    cases s with
    | imm x =>
      show R.out _ _ = R.out _ _
      congr 1; funext y ρ1
      cases h2 : f x y with
      | none => rfl
      | some d => exact io_split ρ1 i _ _
    | undef => rfl
    | own _ => rfl
    | io _ => rfl
    | scr _ _ => rfl
    | exc _ _ _ => rfl
@[simp] theorem dParEE_e (i j : Nat) (a b : Rho → R D) (ρ : Rho) : dParEE i j a b ρ = (a ρ).out fun x ρ1 => (b ρ1).out fun y ρ2 => if frAt ρ2 i = true ∧ frAt ρ2 j = true then .next ((ρ2.set i (.imm x)).set j (.imm y)) else .bad := by
  unfold dParEE
  congr 1; funext x ρ1; congr 1; funext y ρ2
  rw [isIo_fr, isIo_fr]
  cases frAt ρ2 i <;> cases frAt ρ2 j <;> rfl
@[simp] theorem dParEN_e (i j : Nat) (a : Rho → R D) (b : Rho → R (List D)) (ρ : Rho) : dParEN i j a b ρ = (a ρ).out fun x ρ1 => (b ρ1).out fun y ρ2 => if frAt ρ2 i = true ∧ frAt ρ2 j = true then .next ((ρ2.set i (.imm x)).set j (.own y)) else .bad := by
  unfold dParEN
  congr 1; funext x ρ1; congr 1; funext y ρ2
  rw [isIo_fr, isIo_fr]
  cases frAt ρ2 i <;> cases frAt ρ2 j <;> rfl
@[simp] theorem dParNE_e (i j : Nat) (a : Rho → R (List D)) (b : Rho → R D) (ρ : Rho) : dParNE i j a b ρ = (a ρ).out fun x ρ1 => (b ρ1).out fun y ρ2 => if frAt ρ2 i = true ∧ frAt ρ2 j = true then .next ((ρ2.set i (.own x)).set j (.imm y)) else .bad := by
  unfold dParNE
  congr 1; funext x ρ1; congr 1; funext y ρ2
  rw [isIo_fr, isIo_fr]
  cases frAt ρ2 i <;> cases frAt ρ2 j <;> rfl
@[simp] theorem dParNN_e (i j : Nat) (a : Rho → R (List D)) (b : Rho → R (List D)) (ρ : Rho) : dParNN i j a b ρ = (a ρ).out fun x ρ1 => (b ρ1).out fun y ρ2 => if frAt ρ2 i = true ∧ frAt ρ2 j = true then .next ((ρ2.set i (.own x)).set j (.own y)) else .bad := by
  unfold dParNN
  congr 1; funext x ρ1; congr 1; funext y ρ2
  rw [isIo_fr, isIo_fr]
  cases frAt ρ2 i <;> cases frAt ρ2 j <;> rfl
@[simp] theorem rd_imm (d : D) (r : List Slot) : Rho.rd (.imm d :: r) 0 = some d := rfl
@[simp] theorem rd_own (ds : List D) (r : List Slot) : Rho.rd (.own ds :: r) 0 = some (.list ds) := rfl
@[simp] theorem rd_io (ds : List D) (r : List Slot) : Rho.rd (.io ds :: r) 0 = some (.list ds) := rfl
@[simp] theorem rd_succ (s : Slot) (r : List Slot) (i : Nat) : Rho.rd (s :: r) (i + 1) = Rho.rd r i := rfl
@[simp] theorem rl_own (ds : List D) (r : List Slot) : Rho.lst? (.own ds :: r) 0 = some ds := rfl
@[simp] theorem rl_io (ds : List D) (r : List Slot) : Rho.lst? (.io ds :: r) 0 = some ds := rfl
@[simp] theorem rl_succ (s : Slot) (r : List Slot) (i : Nat) : Rho.lst? (s :: r) (i + 1) = Rho.lst? r i := rfl
@[simp] theorem rp_own (ds es : List D) (r : List Slot) : Rho.put (.own ds :: r) 0 es = .own es :: r := rfl
@[simp] theorem rp_io (ds es : List D) (r : List Slot) : Rho.put (.io ds :: r) 0 es = .io es :: r := rfl
@[simp] theorem rp_succ (s : Slot) (r : List Slot) (i : Nat) (es : List D) : Rho.put (s :: r) (i + 1) es = s :: Rho.put r i es := by
  unfold Rho.put
  simp only [List.getElem?_cons_succ]
  split
  · rename_i h; simp [h]
  · rename_i h; simp [h]
  · rfl
@[simp] theorem szl : sizeLine = 16777216 := rfl
section
variable {i j : Int} {a b : List Nat} {xs ys : List D} {p q : Bool}
@[simp] theorem dAdd_ii : dAdd (.int i) (.int j) = some (.int (i + j)) := rfl
@[simp] theorem dAdd_ss : dAdd (.str (mk a)) (.str (mk b)) = if a.length + b.length ≤ 16777216 then some (.str (mk (a ++ b))) else none := by simp [dAdd]
@[simp] theorem dAdd_tt : dAdd (.tuple xs) (.tuple ys) = if xs.length + ys.length ≤ 16777216 then some (.tuple (xs ++ ys)) else none := rfl
@[simp] theorem dAdd_ll : dAdd (.list xs) (.list ys) = if xs.length + ys.length ≤ 16777216 then some (.list (xs ++ ys)) else none := rfl
@[simp] theorem dIadd_ii : dIadd (.int i) (.int j) = some (.int (i + j)) := rfl
@[simp] theorem dIadd_ss : dIadd (.str (mk a)) (.str (mk b)) = if a.length + b.length ≤ 16777216 then some (.str (mk (a ++ b))) else none := by simp [dIadd]
@[simp] theorem dSub_ii : dSub (.int i) (.int j) = some (.int (i - j)) := rfl
@[simp] theorem dMul_ii : dMul (.int i) (.int j) = if CMul i j then some (.int (i * j)) else none := rfl
theorem cmul_l {i j : Int} (h : -(2 ^ 64) < i) (h' : i < 2 ^ 64) : CMul i j := .inl ⟨h, h'⟩
theorem cmul_r {i j : Int} (h : -(2 ^ 64) < j) (h' : j < 2 ^ 64) : CMul i j := .inr ⟨h, h'⟩
@[simp] theorem CDiv_iff : CDiv i j ↔ (0 < j ∧ j < 1073741824) := Iff.rfl
@[simp] theorem CPow_iff : CPow i j ↔ (0 ≤ j ∧ j ≤ 1000000 ∧ i.natAbs < 2 ^ 64) := Iff.rfl
@[simp] theorem RepS_iff {n : Nat} : RepS i n ↔ (i ≤ 1000000 ∧ -1000000 ≤ i ∧ n ≤ 10) := Iff.rfl
@[simp] theorem RepL_iff {n : Nat} : RepL i n ↔ (-1000 ≤ i ∧ i ≤ 1000 ∧ n ≤ 1000) := Iff.rfl
@[simp] theorem RepT_iff {n : Nat} : RepT i n ↔ (0 ≤ i ∧ i ≤ 1000 ∧ n ≤ 1000) := Iff.rfl
@[simp] theorem Mil_iff : Mil i ↔ (-1000000 ≤ i ∧ i ≤ 1000000) := Iff.rfl
@[simp] theorem dFdiv_ii : dFdiv (.int i) (.int j) = if CDiv i j then some (.int (i / j)) else none := rfl
@[simp] theorem dMod_ii : dMod (.int i) (.int j) = if 0 < j then some (.int (i % j)) else none := rfl
@[simp] theorem dPow_ii : dPow (.int i) (.int j) = if CPow i j then some (.int (i ^ j.toNat)) else none := rfl
@[simp] theorem dNeg_i : dNeg (.int i) = some (.int (-i)) := rfl
@[simp] theorem dEq_ii : dEq (.int i) (.int j) = some (.bool (decide (i = j))) := by
  show some (PyData.bool (i == j)) = _
  rw [Bool.beq_eq_decide_eq]
@[simp] theorem dEq_ss {a b : Str} : dEq (.str a) (.str b) = some (.bool (decide (a = b))) := by
  have e : PyData.eqv (.str a) (.str b) = decide (a = b) := by simp [PyData.eqv, Bool.beq_eq_decide_eq]
  unfold dEq
  split
  · rw [e]
  · rfl
@[simp] theorem dNe_ii : dNe (.int i) (.int j) = some (.bool (!decide (i = j))) := by
  show some (PyData.bool (!(i == j))) = _
  rw [Bool.beq_eq_decide_eq]
@[simp] theorem dNe_ss {a b : Str} : dNe (.str a) (.str b) = some (.bool (!decide (a = b))) := by
  have e : PyData.eqv (.str a) (.str b) = decide (a = b) := by simp [PyData.eqv, Bool.beq_eq_decide_eq]
  unfold dNe
  split
  · rw [e]
  · rfl
@[simp] theorem dCmp_ii {f : Int → Int → Bool} : dCmp f (.int i) (.int j) = some (.bool (f i j)) := rfl
@[simp] theorem dIn_s {c : Nat} : dIn (.str (mk [c])) (.str (mk b)) = some (.bool (decide (c ∈ b))) := by simp [dIn]
@[simp] theorem dLen_s : dLen (.str (mk a)) = if a.length ≤ 16777216 then some (.int a.length) else none := by simp [dLen]
@[simp] theorem dLen_l : dLen (.list xs) = some (.int xs.length) := rfl
@[simp] theorem dLen_t : dLen (.tuple xs) = some (.int xs.length) := rfl
@[simp] theorem dOrd_s {c : Nat} : dOrd (.str (mk [c])) = some (.int (c : Nat)) := by simp [dOrd]
@[simp] theorem dInt_i : dInt (.int i) = some (.int i) := rfl
@[simp] theorem dAbs_i : dAbs (.int i) = some (.int (if i < 0 then -i else i)) := rfl
@[simp] theorem dTuple_l : dTuple (.list xs) = some (.tuple xs) := rfl
@[simp] theorem dTuple_t : dTuple (.tuple xs) = some (.tuple xs) := rfl
@[simp] theorem dIx_l : dIx (.list xs) (.int i) = atI xs i := rfl
@[simp] theorem dIx_t : dIx (.tuple xs) (.int i) = atI xs i := rfl
@[simp] theorem dIx_s : dIx (.str (mk a)) (.int i) = if a.length ≤ 16777216 then (atI a i).map fun c => .str (mk [c]) else none := by simp [dIx]
@[simp] theorem dCut_l {lo hi : Option Int} : dCut (.list xs) lo hi = some (.list (cutD xs lo hi)) := rfl
@[simp] theorem dCut_t {lo hi : Option Int} : dCut (.tuple xs) lo hi = some (.tuple (cutD xs lo hi)) := rfl
@[simp] theorem dCut_s {lo hi : Option Int} : dCut (.str (mk a)) lo hi = if a.length ≤ 16777216 then some (.str (mk (cutD a lo hi))) else none := by simp [dCut]
theorem dStr_i : dStr (.int i) = if i.natAbs.log2 < 1920 then some (.str (toString i)) else none := rfl
theorem repS_mk (a : List Nat) (j : Int) : repS (mk a) j = mk (List.replicate j.toNat a).flatten := by
  unfold repS
  split
  · have : j.toNat = 0 := by omega
    rw [this]
    rfl
  · simp [mk]
@[simp] theorem dMul_si : dMul (.str (mk a)) (.int j) = if RepS j a.length then some (.str (mk (List.replicate j.toNat a).flatten)) else none := by
  have e : dMul (.str (mk a)) (.int j) = if RepS j (mk a).length then some (.str (repS (mk a) j)) else none := rfl
  rw [e, repS_mk]
  simp only [mk_len]
@[simp] theorem dMul_ti : dMul (.tuple xs) (.int j) = if RepT j xs.length ∧ xs ≠ [] then some (.tuple (List.replicate j.toNat xs).flatten) else none := rfl
@[simp] theorem dMul_li : dMul (.list xs) (.int j) = if RepL j xs.length then some (.list (List.replicate j.toNat xs).flatten) else none := rfl
theorem joinL_nil : ∀ ls : List (List Nat), TL.joinL [] ls = ls.flatten
  | [] => rfl
  | [p] => by simp [TL.joinL]
  | p :: q :: r => by
    have := joinL_nil (q :: r)
    simp [TL.joinL] at this ⊢
    exact this
theorem join_mk (g : List Nat) (ls : List (List Nat)) : Txt.join (mk g) (ls.map mk) = mk (TL.joinL g ls) := by
  have e := TL.tl_join (mk g) (ls.map mk)
  have e1 : (ls.map mk).map TL.tl = ls := by
    rw [List.map_map]
    have : TL.tl ∘ mk = id := by funext l; exact mk_cps l
    rw [this, List.map_id]
  rw [e1] at e
  rw [TL.join_eq, str_mk (Str.join _ _)]
  have e2 : TL.tl (mk g) = g := mk_cps g
  rw [e2] at e
  exact congrArg mk e
theorem lens_mk (ls : List (List Nat)) : (ls.map mk).map (·.length) = ls.map (·.length) := by
  rw [List.map_map]
  exact List.map_congr_left fun l _ => mk_len l
theorem dJoin_l (ls : List (List Nat)) : dJoin (.str (mk a)) (.list (ls.map fun l => .str (mk l))) = if (ls.map (·.length)).sum + ls.length * a.length ≤ 16777216 then some (.str (mk (TL.joinL a ls))) else none := by
  have e : (ls.map fun l => PyData.str (mk l)) = (ls.map mk).map .str := by simp
  have e2 : dJoin (.str (mk a)) (.list ((ls.map mk).map .str)) = (strsOf ((ls.map mk).map .str)).bind fun ys => if (ys.map (·.length)).sum + ys.length * (mk a).length ≤ 16777216 then some (.str (Txt.join (mk a) ys)) else none := rfl
  rw [e, e2, strsOf_map]
  simp only [Option.bind_some]
  rw [lens_mk, join_mk, mk_len, List.length_map]
theorem dJoin_t (ls : List (List Nat)) : dJoin (.str (mk a)) (.tuple (ls.map fun l => .str (mk l))) = if (ls.map (·.length)).sum + ls.length * a.length ≤ 16777216 then some (.str (mk (TL.joinL a ls))) else none := dJoin_l ls
@[simp] theorem asInt_i : asInt (.int i) = some (some i) := rfl
@[simp] theorem dAll_b {l : List Bool} : dAll (.list (l.map .bool)) = some (.bool (l.all id)) := by simp [dAll, boolsOf_map]
@[simp] theorem dAny_b {l : List Bool} : dAny (.list (l.map .bool)) = some (.bool (l.any id)) := by simp [dAny, boolsOf_map]
@[simp] theorem dSum_it {l : List Int} : dSum (.tuple (l.map .int)) = some (.int l.sum) := by simp [dSum, intsOf_map]
@[simp] theorem dSum_i {l : List Int} : dSum (.list (l.map .int)) = some (.int l.sum) := by simp [dSum, intsOf_map]
theorem dAll_map {α : Type} (l : List α) (p : α → Bool) : dAll (.list (l.map fun c => .bool (p c))) = some (.bool (l.all p)) := by
  have e : (l.map fun c => PyData.bool (p c)) = (l.map p).map .bool := by simp
  rw [e, dAll_b]
  simp
theorem dAny_map {α : Type} (l : List α) (p : α → Bool) : dAny (.list (l.map fun c => .bool (p c))) = some (.bool (l.any p)) := by
  have e : (l.map fun c => PyData.bool (p c)) = (l.map p).map .bool := by simp
  rw [e, dAny_b]
  simp
theorem dSum_map {α : Type} (l : List α) (p : α → Int) : dSum (.list (l.map fun c => .int (p c))) = some (.int (l.map p).sum) := by
  have e : (l.map fun c => PyData.int (p c)) = (l.map p).map .int := by simp
  rw [e, dSum_i]
@[simp] theorem dIsB_b : dIsB (.bool p) (.bool q) = some (.bool (decide (p = q))) := rfl
@[simp] theorem dIsNotB_b : dIsNotB (.bool p) (.bool q) = some (.bool (!decide (p = q))) := rfl
@[simp] theorem seqD_l : seqD (.list xs) = some xs := rfl
@[simp] theorem seqD_t : seqD (.tuple xs) = some xs := rfl
@[simp] theorem seqD_s : seqD (.str (mk a)) = some (a.map fun c => .str (mk [c])) := by simp [seqD]
@[simp] theorem isNon_n : isNon .none = true := rfl
@[simp] theorem isNon_i : isNon (.int i) = false := rfl
@[simp] theorem isNon_s {x : Str} : isNon (.str x) = false := rfl
@[simp] theorem isNon_t : isNon (.tuple xs) = false := rfl
@[simp] theorem isNon_l : isNon (.list xs) = false := rfl
theorem atI_nat {α : Type} (xs : List α) (n : Nat) : atI xs (n : Int) = xs[n]? := by
  unfold atI ixN
  by_cases h : n < xs.length
  · simp [h]
  · simp [h]
theorem ixN_nat (n k : Nat) : ixN n (k : Int) = if k < n then some k else none := by
  unfold ixN
  simp
theorem atI_last {α : Type} (xs : List α) (n : Nat) (h0 : 0 < n) (h : n ≤ xs.length) : atI xs (-(n : Int)) = xs[xs.length - n]? := by
  unfold atI ixN
  rw [if_neg (by omega), if_pos (by omega)]
  show xs[(-(n : Int) + (xs.length : Int)).toNat]? = _
  congr 1
  omega
theorem cutD_nn {α : Type} (xs : List α) (i j : Nat) : cutD xs (some (i : Int)) (some (j : Int)) = (xs.drop i).take (j - i) := by
  unfold cutD
  rw [HT.sIx_nat, HT.sIx_nat]
  rcases Nat.le_total i xs.length with h | h
  · rw [Nat.min_eq_left h]
    rcases Nat.le_total j xs.length with h2 | h2
    · rw [Nat.min_eq_left h2]
    · rw [Nat.min_eq_right h2, List.take_of_length_le (by simp), List.take_of_length_le (by simp; omega)]
  · rw [Nat.min_eq_right h, List.drop_of_length_le (Nat.le_refl _), List.drop_of_length_le h]
    simp
theorem cutD_0n {α : Type} (xs : List α) (j : Nat) : cutD xs none (some (j : Int)) = xs.take j := by
  have := cutD_nn xs 0 j
  unfold cutD at this ⊢
  rw [HT.sIx_nat xs.length 0 0] at this
  simpa [HT.sIx_none] using this
theorem cutD_n0 {α : Type} (xs : List α) (i : Nat) : cutD xs (some (i : Int)) none = xs.drop i := by
  unfold cutD
  rw [HT.sIx_nat, HT.sIx_none]
  rcases Nat.le_total i xs.length with h | h
  · rw [Nat.min_eq_left h, List.take_of_length_le (by simp)]
  · rw [Nat.min_eq_right h, List.drop_of_length_le (Nat.le_refl _), List.drop_of_length_le h]
    simp
end
theorem dRng1_v {a : Rho → R D} {ρ ρ1 : Rho} {j : Int} (ha : a ρ = .ok (.int j) ρ1) (h0 : -1000000000 < j) (h1 : j < 1000000000) : dRng1 a ρ = .ok (rgD 0 1 j.toNat) ρ1 := by
  have h : Rg1 j := by unfold Rg1; omega
  unfold dRng1
  rw [ha]
  exact if_pos h
theorem dRng2_v {a b : Rho → R D} {ρ ρ1 ρ2 : Rho} {i j : Int} (ha : a ρ = .ok (.int i) ρ1) (hb : b ρ1 = .ok (.int j) ρ2) (h0 : -1000000000 < j) (h1 : j < 1000000000) (h2 : -1000000000 < i) (h3 : i < 1000000000) : dRng2 a b ρ = .ok (rgD i 1 (j - i).toNat) ρ2 := by
  have h : Rg2 i j := by unfold Rg2; omega
  unfold dRng2
  rw [ha]
  show R.bind (b ρ1) _ = _
  rw [hb]
  exact if_pos h
theorem dRng3_v {a b c : Rho → R D} {ρ ρ1 ρ2 ρ3 : Rho} {i j k : Int} (ha : a ρ = .ok (.int i) ρ1) (hb : b ρ1 = .ok (.int j) ρ2) (hc : c ρ2 = .ok (.int k) ρ3) (h0 : 0 < k) (hk : k < 1000000000) (hs : Builtin.Range.small i j k = true) :
    dRng3 a b c ρ = .ok (rgD i k (Builtin.Range.rangeSize i j k).toNat) ρ3 := by
  have h : k ≠ 0 ∧ k.natAbs < 1073741824 ∧ Builtin.Range.small i j k = true := ⟨by omega, by omega, hs⟩
  unfold dRng3
  rw [ha]
  show R.bind (b ρ1) _ = _
  rw [hb]
  show R.bind (c ρ2) _ = _
  rw [hc]
  exact if_pos h
/-! ### loops -/
theorem dLoop_inv {bind : Bd} {body : Rho → Out} (P : Nat → Rho → Prop) : ∀ (ds : List D) (k : Nat) (ρ : Rho), P k ρ → (∀ i d ρ, ds[i]? = some d → P (k + i) ρ → ∃ ρ1 ρ2, bind d ρ = some ρ1 ∧ body ρ1 = .next ρ2 ∧ P (k + i + 1) ρ2) →
    ∃ ρ', dLoop bind body ds ρ = .next ρ' ∧ P (k + ds.length) ρ'
  | [], k, ρ, h0, _ => ⟨ρ, rfl, h0⟩
  | d :: ds, k, ρ, h0, hs => by
    obtain ⟨ρ1, ρ2, e1, e2, p⟩ := hs 0 d ρ rfl h0
    obtain ⟨ρ', e3, p'⟩ := dLoop_inv P ds (k + 1) ρ2 p fun i d ρ hi hp => by
      have := hs (i + 1) d ρ hi (by rw [show k + (i + 1) = k + 1 + i by omega]; exact hp)
      rw [show k + (i + 1) + 1 = k + 1 + i + 1 by omega] at this
      exact this
    refine ⟨ρ', ?_, by rw [show k + (d :: ds).length = k + 1 + ds.length by simp; omega]; exact p'⟩
    unfold dLoop
    rw [e1]
    simp only
    rw [e2]
    exact e3
/-- a comprehension over one name, its element a plain function of the item -/
theorem dLcGo_pure {v : Nat} {elt : Rho → R D} {α : Type} {g f : α → D} {ρ : Rho} {s : Slot} (hs : ρ[v]? = some s) : ∀ (ds : List α) (acc : List D), acc.length + ds.length ≤ 16777216 → (∀ d ∈ ds, elt (ρ.set v (.imm (g d))) = .ok (f d) (ρ.set v (.imm (g d)))) →
    dLcGo [v] (bName v) dYes elt (ds.map g) ρ acc = .ok (acc ++ ds.map f) ρ
  | [], acc, _, _ => by simp [dLcGo]
  | d :: ds, acc, hl, he => by
    have hv : v < ρ.length := by
      rcases Nat.lt_or_ge v ρ.length with h | h
      · exact h
      · rw [List.getElem?_eq_none h] at hs; cases hs
    have ew : wipeR ρ [v] = ρ.set v .undef := rfl
    have eg : (ρ.set v Slot.undef)[v]? = some .undef := by simp [hv]
    have eb : backR ρ (ρ.set v (.imm (g d))) [v] = ρ := by
      show (match ρ[v]? with | some s => ((ρ.set v (.imm (g d))).set v s) | none => ρ.set v (.imm (g d))) = ρ
      rw [hs]
      simp only
      rw [List.set_set]
      apply List.ext_getElem?
      intro j
      rw [List.getElem?_set]
      split
      · rename_i h; subst h; rw [hs]
      · rfl
    rw [List.map_cons]
    unfold dLcGo
    rw [ew]
    have e1 : bName v (g d) (ρ.set v Slot.undef) = some (ρ.set v (.imm (g d))) := by
      show (match (ρ.set v Slot.undef)[v]? with | some (.io _) => none | _ => some ((ρ.set v Slot.undef).set v (.imm (g d)))) = _
      rw [eg]
      simp
    rw [e1]
    simp only [dYes]
    rw [he d (List.mem_cons_self ..)]
    simp only
    rw [if_pos (by simp at hl ⊢; omega), eb, dLcGo_pure hs ds (acc ++ [f d]) (by simp at hl ⊢; omega) fun d' h => he d' (List.mem_cons_of_mem _ h)]
    simp
theorem dLc_pure {v : Nat} {elt : Rho → R D} {α : Type} {g : α → D} (f : α → D) {ρ ρ0 : Rho} {s : Slot} {it : Rho → R (List D)} {ds : List α} (hi : it ρ0 = .ok (ds.map g) ρ) (hs : ρ[v]? = some s) (hc : calmS ρ [v] = true) (hl : ds.length ≤ 16777216) (he : ∀ d ∈ ds, elt (ρ.set v (.imm (g d))) = .ok (f d) (ρ.set v (.imm (g d)))) :
    dLc [v] it (bName v) dYes elt ρ0 = .ok (ds.map f) ρ := by
  unfold dLc
  rw [hi]
  simp only [bind_ok]
  rw [if_pos hc, dLcGo_pure hs ds [] (by simpa using hl) he]
  rfl
/-! ### calls -/
theorem call_v {n : Nat} {body : Rho → Out} {ds : List D} {d : D} (h : ∃ ρ', body (ds.map .imm ++ List.replicate (n - ds.length) .undef) = .ret d ρ') (ρ : Rho) : callD n body none ds ρ = .ok (.v d) ρ := by
  obtain ⟨ρ', h⟩ := h
  simp [callD, headS, h, endsC, backH]
theorem call_err {n : Nat} {body : Rho → Out} {ds : List D} {x : Ex} (h : ∃ ρ', body (ds.map .imm ++ List.replicate (n - ds.length) .undef) = .err x ρ') (ρ : Rho) : callD n body none ds ρ = .err x ρ := by
  obtain ⟨ρ', h⟩ := h
  simp [callD, headS, h, endsC, backH]
theorem call_none {n : Nat} {body : Rho → Out} {ds : List D} (h : ∃ ρ', body (ds.map .imm ++ List.replicate (n - ds.length) .undef) = .next ρ') (ρ : Rho) : callD n body none ds ρ = .ok (.v .none) ρ := by
  obtain ⟨ρ', h⟩ := h
  simp [callD, headS, h, endsC, backH]
/-- a call whose first argument is a list that may change -/
theorem call_h {n : Nat} {body : Rho → Out} {ds ds0 ds' : List D} {d : D} {i : Nat} {ρ : Rho} (hi : ρ.lst? i = some ds0) (h : ∃ ρ', body (.io ds0 :: (ds.map .imm ++ List.replicate (n - (1 + ds.length)) .undef)) = .ret d (.io ds' :: ρ')) :
    callD n body (some i) ds ρ = .ok (.v d) (ρ.put i ds') := by
  obtain ⟨ρ', h⟩ := h
  simp only [callD, headS, hi, Option.map_some, List.length_cons, List.length_nil, List.cons_append, List.nil_append]
  rw [Nat.zero_add, h]
  simp [endsC, backH]
theorem call_hn {n : Nat} {body : Rho → Out} {ds ds0 ds' : List D} {d : List D} {i : Nat} {ρ : Rho} (hi : ρ.lst? i = some ds0) (h : ∃ ρ', body (.io ds0 :: (ds.map .imm ++ List.replicate (n - (1 + ds.length)) .undef)) = .retN d (.io ds' :: ρ')) :
    callD n body (some i) ds ρ = .ok (.n d) (ρ.put i ds') := by
  obtain ⟨ρ', h⟩ := h
  simp only [callD, headS, hi, Option.map_some, List.length_cons, List.length_nil, List.cons_append, List.nil_append]
  rw [Nat.zero_add, h]
  simp [endsC, backH]
end Pf

/-! Pf30: plain laws, further: loops and comprehensions over encoded states. -/
namespace Pf
open PySem PySem.Spec PyProof.Rows L2
@[simp] theorem dSrcZ_e (a b : Rho → R D) (ρ : Rho) : dSrcZ a b ρ = ((a ρ).bind fun d ρ1 => (b ρ1).bind fun e ρ2 =>
  match seqD d, seqD e with
  | some xs, some ys => .ok (xs.zipWith (fun x y => .tuple [x, y]) ys) ρ2
  | _, _ => .bad) := rfl
@[simp] theorem dListR1_e (a : Rho → R D) (ρ : Rho) : dListR1 a ρ = ((a ρ).bind fun x ρ1 =>
  match x with
  | .int i => dRgL 0 i ρ1
  | _ => .bad) := rfl
@[simp] theorem dListR2_e (a b : Rho → R D) (ρ : Rho) : dListR2 a b ρ = ((a ρ).bind fun x ρ1 => (b ρ1).bind fun y ρ2 =>
  match x, y with
  | .int i, .int j => dRgL i j ρ2
  | _, _ => .bad) := rfl
@[simp] theorem dSortN_e (a : Rho → R D) (ρ : Rho) : dSortN a ρ = ((a ρ).bind fun x ρ1 =>
  match x with
  | .list xs => match intsOf xs with
    | some ns => .ok ((sortI ns).map .int) ρ1
    | none => .bad
  | _ => .bad) := rfl
@[simp] theorem dRepN_e (a : Rho → R (List D)) (b : Rho → R D) (ρ : Rho) : dRepN a b ρ = ((a ρ).bind fun xs ρ1 => (b ρ1).bind fun y ρ2 =>
  match y with
  | .int k => if Mil k ∧ xs.length * k.toNat ≤ 16777216 then .ok (List.replicate k.toNat xs).flatten ρ2 else .bad
  | _ => .bad) := rfl
@[simp] theorem dListA_e (a : Rho → R D) (ρ : Rho) : dListA a ρ = ((a ρ).bind fun x ρ1 =>
  match x with
  | .list xs => .ok xs ρ1
  | .tuple xs => .ok xs ρ1
  | .str s => if s.length ≤ 16777216 then .ok (s.cps.toList.map fun c => .str ⟨#[c]⟩) ρ1 else .bad
  | _ => .bad) := rfl
@[simp] theorem aNil_e (ρ : Rho) : aNil ρ = .ok [] ρ := rfl
@[simp] theorem aE_e (a : Rho → R D) (b : Rho → R (List Nv)) (ρ : Rho) : aE a b ρ = ((a ρ).bind fun x ρ1 => (b ρ1).bind fun xs ρ2 => .ok (.e x :: xs) ρ2) := rfl
@[simp] theorem aN_e (a : Rho → R (List D)) (b : Rho → R (List Nv)) (ρ : Rho) : aN a b ρ = ((a ρ).bind fun x ρ1 => (b ρ1).bind fun xs ρ2 => .ok (.n x :: xs) ρ2) := rfl
@[simp] theorem dPar_e (ix : List Nat) (a : Rho → R (List Nv)) (ρ : Rho) : dPar ix a ρ = ((a ρ).out fun ns ρ1 => if ns.length = ix.length ∧ anyIo ρ1 ix = false then .next (putR ρ1 ix ns) else .bad) := rfl
@[simp] theorem anyIo_nil (ρ : Rho) : anyIo ρ [] = false := rfl
@[simp] theorem anyIo_cons (ρ : Rho) (i : Nat) (ix : List Nat) : anyIo ρ (i :: ix) = (!frAt ρ i || anyIo ρ ix) := by
  unfold anyIo
  rw [List.any_cons, isIo_fr]
@[simp] theorem putR_nil (ρ : Rho) (ns : List Nv) : putR ρ [] ns = ρ := by cases ns <;> rfl
@[simp] theorem putR_e (ρ : Rho) (i : Nat) (ix : List Nat) (d : D) (ns : List Nv) : putR ρ (i :: ix) (.e d :: ns) = putR (ρ.set i (.imm d)) ix ns := rfl
@[simp] theorem putR_n (ρ : Rho) (i : Nat) (ix : List Nat) (d : List D) (ns : List Nv) : putR ρ (i :: ix) (.n d :: ns) = putR (ρ.set i (.own d)) ix ns := rfl
@[simp] theorem dKill_e (vs : List Nat) (d : Rho → Out) (ρ : Rho) : dKill vs d ρ = d (wipeR ρ vs) := rfl
@[simp] theorem wipeR_nil (ρ : Rho) : wipeR ρ [] = ρ := rfl
@[simp] theorem wipeR_cons (ρ : Rho) (v : Nat) (vs : List Nat) : wipeR ρ (v :: vs) = (wipeR ρ vs).set v .undef := rfl
@[simp] theorem backR_nil (ρ ρ' : Rho) : backR ρ ρ' [] = ρ' := rfl
@[simp] theorem backR_cons (ρ ρ' : Rho) (v : Nat) (vs : List Nat) : backR ρ ρ' (v :: vs) = (match ρ[v]? with
  | some s => (backR ρ ρ' vs).set v s
  | none => backR ρ ρ' vs) := rfl
@[simp] theorem calmS_nil (ρ : Rho) : calmS ρ [] = true := rfl
@[simp] theorem calmS_cons (ρ : Rho) (v : Nat) (vs : List Nat) : calmS ρ (v :: vs) = ((match ρ[v]? with
  | some .undef => true
  | some (.imm _) => true
  | none => true
  | _ => false) && calmS ρ vs) := rfl
@[simp] theorem intsOf_m (ns : List Int) : intsOf (ns.map .int) = some ns := intsOf_map ns
@[simp] theorem intsOf_nil : intsOf [] = some [] := rfl
@[simp] theorem intsOf_cons (i : Int) (r : List D) : intsOf (.int i :: r) = (intsOf r).map (i :: ·) := rfl
theorem intsOf_mn (ns : List Nat) : intsOf (ns.map fun n : Nat => PyData.int (n : Int)) = some (ns.map fun n : Nat => (n : Int)) := by
  have e : (ns.map fun n : Nat => PyData.int (n : Int)) = (ns.map fun n : Nat => (n : Int)).map .int := by rw [List.map_map]; rfl
  rw [e, intsOf_map]
theorem rgD_range (n : Nat) : rgD 0 1 n = (List.range n).map fun i : Nat => .int (i : Int) := by
  unfold rgD
  apply List.map_congr_left
  intro i _
  simp
theorem rgD_from (k n : Nat) : rgD (k : Int) 1 n = (List.range n).map fun i : Nat => .int ((k + i : Nat) : Int) := by
  unfold rgD
  apply List.map_congr_left
  intro i _
  simp
theorem zipD_map {α β : Type} (g : α → D) (h : β → D) : ∀ (l : List α) (m : List β), (l.map g).zipWith (fun x y => PyData.tuple [x, y]) (m.map h) = (l.zip m).map fun p => .tuple [g p.1, h p.2]
  | [], _ => by simp
  | _ :: _, [] => by simp
  | a :: l, b :: m => by simp [zipD_map g h l m]
theorem numD_map {α : Type} (g : α → D) : ∀ (l : List α) (k : Nat), numD k (l.map g) = (l.zipIdx k).map fun p => .tuple [.int (p.2 : Int), g p.1]
  | [], _ => rfl
  | a :: l, k => by
    rw [List.map_cons, List.zipIdx_cons, List.map_cons, ← numD_map g l (k + 1)]
    rfl
@[simp] theorem atI_zero {α : Type} (xs : List α) : atI xs 0 = xs[0]? := atI_nat xs 0
@[simp] theorem atI_one {α : Type} (xs : List α) : atI xs 1 = xs[1]? := atI_nat xs 1
@[simp] theorem atI_lit {α : Type} (xs : List α) (n : Nat) : atI xs (no_index (OfNat.ofNat n : Int)) = xs[(OfNat.ofNat n : Nat)]? := atI_nat xs n
@[simp] theorem atI_cast {α : Type} (xs : List α) (n : Nat) : atI xs (n : Int) = xs[n]? := atI_nat xs n
@[simp] theorem atI_m1 {α : Type} (xs : List α) : atI xs (-1) = xs.getLast? := by
  cases xs with
  | nil => rfl
  | cons x r =>
    have := atI_last (x :: r) 1 (by omega) (by simp)
    rw [List.getLast?_eq_getElem?]
    exact this
@[simp] theorem cutD_lit0 {α : Type} (xs : List α) (n : Nat) : cutD xs (some (no_index (OfNat.ofNat n : Int))) none = xs.drop n := cutD_n0 xs n
@[simp] theorem cutD_one0 {α : Type} (xs : List α) : cutD xs (some 1) none = xs.drop 1 := cutD_n0 xs 1
@[simp] theorem cutD_0lit {α : Type} (xs : List α) (n : Nat) : cutD xs none (some (no_index (OfNat.ofNat n : Int))) = xs.take n := cutD_0n xs n
@[simp] theorem cutD_0one {α : Type} (xs : List α) : cutD xs none (some 1) = xs.take 1 := cutD_0n xs 1
@[simp] theorem cutD_cast0 {α : Type} (xs : List α) (n : Nat) : cutD xs (some (n : Int)) none = xs.drop n := cutD_n0 xs n
@[simp] theorem cutD_0cast {α : Type} (xs : List α) (n : Nat) : cutD xs none (some (n : Int)) = xs.take n := cutD_0n xs n
@[simp] theorem isTup_t (xs : List D) : isTup (.tuple xs) = true := rfl
@[simp] theorem isTup_l (xs : List D) : isTup (.list xs) = false := rfl
@[simp] theorem isTup_s (x : Str) : isTup (.str x) = false := rfl
@[simp] theorem isTup_i (x : Int) : isTup (.int x) = false := rfl
@[simp] theorem isTup_b (x : Bool) : isTup (.bool x) = false := rfl
@[simp] theorem isTup_n : isTup .none = false := rfl
@[simp] theorem isStr_t (xs : List D) : isStr (.tuple xs) = false := rfl
@[simp] theorem isStr_l (xs : List D) : isStr (.list xs) = false := rfl
@[simp] theorem isStr_s (x : Str) : isStr (.str x) = true := rfl
@[simp] theorem isStr_i (x : Int) : isStr (.int x) = false := rfl
@[simp] theorem isStr_b (x : Bool) : isStr (.bool x) = false := rfl
@[simp] theorem isStr_n : isStr .none = false := rfl
@[simp] theorem isBool_b (k : Bool) : isBool (.bool k) = true := rfl
@[simp] theorem isBool_i (k : Int) : isBool (.int k) = false := rfl
@[simp] theorem isBool_s (k : Str) : isBool (.str k) = false := rfl
@[simp] theorem isBool_t (k : List D) : isBool (.tuple k) = false := rfl
@[simp] theorem isBool_n : isBool .none = false := rfl
@[simp] theorem isBool_l (k : List D) : isBool (.list k) = false := rfl
@[simp] theorem isTup_d (x : List (D × D)) : isTup (.dict x) = false := rfl
@[simp] theorem isStr_d (x : List (D × D)) : isStr (.dict x) = false := rfl
@[simp] theorem isBool_d (x : List (D × D)) : isBool (.dict x) = false := rfl
theorem call_n {n : Nat} {body : Rho → Out} {ds : List D} {d : List D} (h : ∃ ρ', body (ds.map .imm ++ List.replicate (n - ds.length) .undef) = .retN d ρ') (ρ : Rho) : callD n body none ds ρ = .ok (.n d) ρ := by
  obtain ⟨ρ', h⟩ := h
  simp [callD, headS, h, endsC, backH]
/-! ### loops -/
theorem seq_next {a b : Rho → Out} {ρ ρ1 : Rho} (h : a ρ = .next ρ1) : dSeq a b ρ = b ρ1 := by
  show (match a ρ with | .next ρ' => b ρ' | o => o) = _
  rw [h]
theorem seq_ret {a b : Rho → Out} {ρ ρ1 : Rho} {d : D} (h : a ρ = .ret d ρ1) : dSeq a b ρ = .ret d ρ1 := by
  show (match a ρ with | .next ρ' => b ρ' | o => o) = _
  rw [h]
theorem seq_err {a b : Rho → Out} {ρ ρ1 : Rho} {x : Ex} (h : a ρ = .err x ρ1) : dSeq a b ρ = .err x ρ1 := by
  show (match a ρ with | .next ρ' => b ρ' | o => o) = _
  rw [h]
theorem exq {f : Rho → Out} {a b : Out} (h : a = b) (k : ∃ ρ', b = f ρ') : ∃ ρ', a = f ρ' := by rw [h]; exact k
theorem dApp_v {i : Nat} {e : Rho → R D} {ρ ρ1 : Rho} {ds ds1 : List D} {d : D} (h0 : ρ.lst? i = some ds) (he : e ρ = .ok d ρ1) (h1 : ρ1.lst? i = some ds1) (hl : ds1.length < 16777216) : dApp i e ρ = .next (ρ1.put i (ds1 ++ [d])) := by
  have hl' : ds1.length < sizeLine := hl
  unfold dApp
  rw [h0]
  simp only [he, out_ok, h1]
  rw [if_pos hl']
theorem dLoop_nil (bind : Bd) (body : Rho → Out) (ρ : Rho) : dLoop bind body [] ρ = .next ρ := rfl
theorem dLoop_next {bind : Bd} {body : Rho → Out} {d : D} {ds : List D} {ρ ρ1 ρ2 : Rho} (h : bind d ρ = some ρ1) (hb : body ρ1 = .next ρ2) : dLoop bind body (d :: ds) ρ = dLoop bind body ds ρ2 := by
  show (match bind d ρ with | none => Out.bad | some ρ1 => match body ρ1 with | .next ρ2 => dLoop bind body ds ρ2 | .cont ρ2 => dLoop bind body ds ρ2 | .brk ρ2 => .next ρ2 | o => o) = _
  rw [h]
  simp only
  rw [hb]
theorem dLoop_ret {bind : Bd} {body : Rho → Out} {d v : D} {ds : List D} {ρ ρ1 ρ2 : Rho} (h : bind d ρ = some ρ1) (hb : body ρ1 = .ret v ρ2) : dLoop bind body (d :: ds) ρ = .ret v ρ2 := by
  show (match bind d ρ with | none => Out.bad | some ρ1 => match body ρ1 with | .next ρ2 => dLoop bind body ds ρ2 | .cont ρ2 => dLoop bind body ds ρ2 | .brk ρ2 => .next ρ2 | o => o) = _
  rw [h]
  simp only
  rw [hb]
theorem dLoop_err {bind : Bd} {body : Rho → Out} {d : D} {x : Ex} {ds : List D} {ρ ρ1 ρ2 : Rho} (h : bind d ρ = some ρ1) (hb : body ρ1 = .err x ρ2) : dLoop bind body (d :: ds) ρ = .err x ρ2 := by
  show (match bind d ρ with | none => Out.bad | some ρ1 => match body ρ1 with | .next ρ2 => dLoop bind body ds ρ2 | .cont ρ2 => dLoop bind body ds ρ2 | .brk ρ2 => .next ρ2 | o => o) = _
  rw [h]
  simp only
  rw [hb]
/-- a loop that carries a state -/
theorem dLoop_fold {α σ : Type} {bind : Bd} {body : Rho → Out} (g : α → D) (enc : σ → Rho) (f : σ → α → σ) (P : σ → Prop) : ∀ (l : List α) (s : σ), P s → (∀ s a, a ∈ l → P s → P (f s a) ∧ ∃ ρ1, bind (g a) (enc s) = some ρ1 ∧ body ρ1 = .next (enc (f s a))) →
    dLoop bind body (l.map g) (enc s) = .next (enc (l.foldl f s)) ∧ P (l.foldl f s)
  | [], s, p, _ => ⟨rfl, p⟩
  | a :: l, s, p, h => by
    obtain ⟨p1, ρ1, e1, e2⟩ := h s a (List.mem_cons_self ..) p
    rw [List.map_cons, dLoop_next e1 e2]
    exact dLoop_fold g enc f P l (f s a) p1 fun s' a' ha => h s' a' (List.mem_cons_of_mem _ ha)
/-- .. by what has been gone through -/
theorem dLoop_foldp {α σ : Type} {bind : Bd} {body : Rho → Out} (g : α → D) (enc : σ → Rho) (f : σ → α → σ) (s0 : σ) (l : List α) (h : ∀ pre a post, l = pre ++ a :: post → ∃ ρ1, bind (g a) (enc (pre.foldl f s0)) = some ρ1 ∧ body ρ1 = .next (enc (f (pre.foldl f s0) a))) :
    dLoop bind body (l.map g) (enc s0) = .next (enc (l.foldl f s0)) := by
  have key : ∀ (post pre : List α), l = pre ++ post → dLoop bind body (post.map g) (enc (pre.foldl f s0)) = .next (enc (l.foldl f s0)) := by
    intro post
    induction post with
    | nil => intro pre e; rw [e]; simp [dLoop_nil]
    | cons a post ih =>
      intro pre e
      obtain ⟨ρ1, e1, e2⟩ := h pre a post e
      rw [List.map_cons, dLoop_next e1 e2]
      have := ih (pre ++ [a]) (by rw [e]; simp)
      rw [List.foldl_append] at this
      exact this
  exact key l [] rfl
theorem zipmap {α β γ : Type} (f : α × β → γ) : ∀ (l : List α) (m : List β), (l.zip m).map f = List.zipWith (fun a b => f (a, b)) l m
  | [], _ => by simp
  | _ :: _, [] => by simp
  | a :: l, b :: m => by simp [zipmap f l m]
/-- a loop that leaves the state and may return -/
theorem dLoop_find {α : Type} {bind : Bd} {body : Rho → Out} (g : α → D) (ρ : Rho) (q : α → Option D) : ∀ (l : List α), (∀ a, a ∈ l → ∃ ρ1, bind (g a) ρ = some ρ1 ∧ (q a = none → body ρ1 = .next ρ) ∧ (∀ v, q a = some v → ∃ ρ', body ρ1 = .ret v ρ')) →
    (l.findSome? q = none → dLoop bind body (l.map g) ρ = .next ρ) ∧ (∀ v, l.findSome? q = some v → ∃ ρ', dLoop bind body (l.map g) ρ = .ret v ρ')
  | [], _ => ⟨fun _ => rfl, fun v e => by cases e⟩
  | a :: l, h => by
    obtain ⟨ρ1, e1, e2, e3⟩ := h a (List.mem_cons_self ..)
    rw [List.map_cons, List.findSome?_cons]
    cases hq : q a with
    | none =>
      simp only
      rw [dLoop_next e1 (e2 hq)]
      exact dLoop_find g ρ q l fun a' ha => h a' (List.mem_cons_of_mem _ ha)
    | some v =>
      simp only
      refine ⟨fun e => (by cases e), fun w e => ?_⟩
      cases e
      obtain ⟨ρ', e4⟩ := e3 v hq
      exact ⟨ρ', dLoop_ret e1 e4⟩
/-- .. returns False at the first item that is not so -/
theorem dLoop_all {α : Type} {bind : Bd} {body : Rho → Out} (g : α → D) (ρ : Rho) (p : α → Bool) (v : D) (l : List α) (h : ∀ a, a ∈ l → ∃ ρ1, bind (g a) ρ = some ρ1 ∧ (p a = true → body ρ1 = .next ρ) ∧ (p a = false → ∃ ρ', body ρ1 = .ret v ρ')) :
    (l.all p = true → dLoop bind body (l.map g) ρ = .next ρ) ∧ (l.all p = false → ∃ ρ', dLoop bind body (l.map g) ρ = .ret v ρ') := by
  induction l with
  | nil => exact ⟨fun _ => rfl, fun e => (by simp at e)⟩
  | cons a l ih =>
    obtain ⟨ρ1, e1, e2, e3⟩ := h a (List.mem_cons_self ..)
    obtain ⟨i1, i2⟩ := ih fun a' ha => h a' (List.mem_cons_of_mem _ ha)
    rw [List.map_cons, List.all_cons]
    cases hp : p a with
    | true =>
      rw [dLoop_next e1 (e2 hp)]
      rw [Bool.true_and]
      exact ⟨i1, i2⟩
    | false =>
      refine ⟨fun e => (by simp at e), fun _ => ?_⟩
      obtain ⟨ρ', e4⟩ := e3 hp
      exact ⟨ρ', dLoop_ret e1 e4⟩
/-! ### comprehensions -/
theorem dLcGo_gen {α : Type} {vs : List Nat} {bind : Bd} {cond : Rho → R Bool} {elt : Rho → R D} (g : α → D) (c : α → Bool) (f : α → D) {ρ : Rho} : ∀ (l : List α) (acc : List D), acc.length + l.length ≤ 16777216 →
    (∀ a, a ∈ l → ∃ ρ1, bind (g a) (wipeR ρ vs) = some ρ1 ∧ cond ρ1 = .ok (c a) ρ1 ∧ (c a = true → elt ρ1 = .ok (f a) ρ1) ∧ backR ρ ρ1 vs = ρ) → dLcGo vs bind cond elt (l.map g) ρ acc = .ok (acc ++ (l.filter c).map f) ρ
  | [], acc, _, _ => by simp [dLcGo]
  | a :: l, acc, hl, h => by
    obtain ⟨ρ1, e1, e2, e3, e4⟩ := h a (List.mem_cons_self ..)
    have ih := fun acc hl => dLcGo_gen (vs := vs) (bind := bind) (cond := cond) (elt := elt) g c f l acc hl fun a' ha => h a' (List.mem_cons_of_mem _ ha)
    rw [List.map_cons]
    unfold dLcGo
    rw [e1]
    simp only
    rw [e2]
    cases hc : c a with
    | true =>
      simp only
      rw [e3 hc]
      simp only
      rw [if_pos (by simp at hl ⊢; omega), e4, ih _ (by simp at hl ⊢; omega)]
      simp [hc]
    | false =>
      simp only
      rw [e4, ih _ (by simp at hl ⊢; omega)]
      simp [hc]
theorem dLc_gen {α : Type} {vs : List Nat} {it : Rho → R (List D)} {bind : Bd} {cond : Rho → R Bool} {elt : Rho → R D} (g : α → D) (c : α → Bool) (f : α → D) {ρ ρ0 : Rho} {l : List α} (hi : it ρ0 = .ok (l.map g) ρ) (hc : calmS ρ vs = true) (hl : l.length ≤ 16777216)
    (h : ∀ a, a ∈ l → ∃ ρ1, bind (g a) (wipeR ρ vs) = some ρ1 ∧ cond ρ1 = .ok (c a) ρ1 ∧ (c a = true → elt ρ1 = .ok (f a) ρ1) ∧ backR ρ ρ1 vs = ρ) : dLc vs it bind cond elt ρ0 = .ok ((l.filter c).map f) ρ := by
  unfold dLc
  rw [hi]
  simp only [bind_ok]
  rw [if_pos hc, dLcGo_gen g c f l [] (by simpa using hl) h]
  rfl
/-- every item is taken -/
theorem dLc_all {α : Type} {vs : List Nat} {it : Rho → R (List D)} {bind : Bd} {elt : Rho → R D} (g : α → D) (f : α → D) {ρ ρ0 : Rho} {l : List α} (hi : it ρ0 = .ok (l.map g) ρ) (hc : calmS ρ vs = true) (hl : l.length ≤ 16777216)
    (h : ∀ a, a ∈ l → ∃ ρ1, bind (g a) (wipeR ρ vs) = some ρ1 ∧ elt ρ1 = .ok (f a) ρ1 ∧ backR ρ ρ1 vs = ρ) : dLc vs it bind dYes elt ρ0 = .ok (l.map f) ρ := by
  have := dLc_gen (vs := vs) (bind := bind) (cond := dYes) (elt := elt) g (fun _ => true) f hi hc hl fun a ha => by
    obtain ⟨ρ1, e1, e2, e3⟩ := h a ha
    exact ⟨ρ1, e1, rfl, fun _ => e2, e3⟩
  rw [this, List.filter_eq_self.mpr fun _ _ => rfl]
/-- its element changes the state -/
theorem dLcGo_inv {vs : List Nat} {bind : Bd} {elt : Rho → R D} (P : Nat → List D → Rho → Prop) : ∀ (ds : List D) (k : Nat) (acc : List D) (ρ : Rho), acc.length + ds.length ≤ 16777216 → P k acc ρ →
    (∀ i d acc ρ, ds[i]? = some d → P (k + i) acc ρ → ∃ ρ1 ρ2 x, bind d (wipeR ρ vs) = some ρ1 ∧ elt ρ1 = .ok x ρ2 ∧ P (k + i + 1) (acc ++ [x]) (backR ρ ρ2 vs)) → ∃ out ρ', dLcGo vs bind dYes elt ds ρ acc = .ok out ρ' ∧ P (k + ds.length) out ρ'
  | [], k, acc, ρ, _, p, _ => ⟨acc, ρ, rfl, p⟩
  | d :: ds, k, acc, ρ, hl, p, h => by
    obtain ⟨ρ1, ρ2, x, e1, e2, p1⟩ := h 0 d acc ρ rfl p
    obtain ⟨out, ρ', e3, p2⟩ := dLcGo_inv (vs := vs) (bind := bind) (elt := elt) P ds (k + 1) (acc ++ [x]) (backR ρ ρ2 vs) (by simp at hl ⊢; omega) p1 fun i d acc ρ hi hp => by
      have := h (i + 1) d acc ρ hi (by rw [show k + (i + 1) = k + 1 + i by omega]; exact hp)
      rw [show k + (i + 1) + 1 = k + 1 + i + 1 by omega] at this
      exact this
    refine ⟨out, ρ', ?_, by rw [show k + (d :: ds).length = k + 1 + ds.length by simp; omega]; exact p2⟩
    unfold dLcGo
    rw [e1]
    simp only [dYes]
    rw [e2]
    simp only
    rw [if_pos (by simp at hl ⊢; omega), e3]
theorem dLc_inv {vs : List Nat} {it : Rho → R (List D)} {bind : Bd} {elt : Rho → R D} (P : Nat → List D → Rho → Prop) {ρ ρ0 : Rho} {ds : List D} (hi : it ρ0 = .ok ds ρ) (hc : calmS ρ vs = true) (hl : ds.length ≤ 16777216) (p : P 0 [] ρ)
    (h : ∀ i d acc ρ, ds[i]? = some d → P i acc ρ → ∃ ρ1 ρ2 x, bind d (wipeR ρ vs) = some ρ1 ∧ elt ρ1 = .ok x ρ2 ∧ P (i + 1) (acc ++ [x]) (backR ρ ρ2 vs)) : ∃ out ρ', dLc vs it bind dYes elt ρ0 = .ok out ρ' ∧ P ds.length out ρ' := by
  obtain ⟨out, ρ', e, q⟩ := dLcGo_inv (vs := vs) (bind := bind) (elt := elt) P ds 0 [] ρ (by simpa using hl) p fun i d acc ρ hi hp => by
    have := h i d acc ρ hi (by simpa using hp)
    simpa using this
  refine ⟨out, ρ', ?_, by simpa using q⟩
  unfold dLc
  rw [hi]
  simp only [bind_ok]
  rw [if_pos hc, e]
end Pf

/-! Pf31: data compared. -/
namespace Pf
open PySem PySem.Spec PyProof.Rows L2
/-- data that may be compared, so deep -/
def Ly (n : Nat) (d : D) : Prop := d.canLay0 = true ∧ d.depth ≤ n
theorem Ly.mono {n m : Nat} {d : D} (h : Ly n d) (k : n ≤ m) : Ly m d := ⟨h.1, Nat.le_trans h.2 k⟩
theorem ly_all {n : Nat} : ∀ {ds : List D}, (∀ x ∈ ds, Ly n x) → PyData.canLayAll0 ds = true ∧ PyData.depthAll ds ≤ n
  | [], _ => by simp [PyData.canLayAll0, PyData.depthAll]
  | x :: r, h => by
    have h1 := h x (List.mem_cons_self ..)
    have h2 := ly_all fun y hy => h y (List.mem_cons_of_mem _ hy)
    simp only [PyData.canLayAll0, PyData.depthAll, h1.1, h2.1, Bool.and_self, true_and]
    have := h1.2
    have := h2.2
    omega
theorem ly_t {n : Nat} {ds : List D} (h : ∀ x ∈ ds, Ly n x) : Ly (n + 1) (.tuple ds) := by
  have := ly_all h
  exact ⟨by simp [PyData.canLay0, this.1], by simp [PyData.depth]; exact this.2⟩
theorem ly_l {n : Nat} {ds : List D} (h : ∀ x ∈ ds, Ly n x) : Ly (n + 1) (.list ds) := by
  have := ly_all h
  exact ⟨by simp [PyData.canLay0, this.1], by simp [PyData.depth]; exact this.2⟩
theorem ly_i {n : Nat} (i : Int) : Ly n (.int i) := ⟨by simp [PyData.canLay0], by simp [PyData.depth]⟩
theorem ly_b {n : Nat} (i : Bool) : Ly n (.bool i) := ⟨by simp [PyData.canLay0], by simp [PyData.depth]⟩
theorem ly_n {n : Nat} : Ly n .none := ⟨by simp [PyData.canLay0], by simp [PyData.depth]⟩
theorem ly_s {n : Nat} {l : List Nat} (h : ∀ c ∈ l, c < 1114112) : Ly n (.str (mk l)) := ⟨by simp [PyData.canLay0, PyData.strOk, mk]; exact h, by simp [PyData.depth]⟩
theorem ly_tm {n : Nat} {α : Type} {l : List α} {f : α → D} (h : ∀ x ∈ l, Ly n (f x)) : Ly (n + 1) (.tuple (l.map f)) := ly_t fun x hx => by
  obtain ⟨a, ha, rfl⟩ := List.mem_map.mp hx
  exact h a ha
theorem ly_lm {n : Nat} {α : Type} {l : List α} {f : α → D} (h : ∀ x ∈ l, Ly n (f x)) : Ly (n + 1) (.list (l.map f)) := ly_l fun x hx => by
  obtain ⟨a, ha, rfl⟩ := List.mem_map.mp hx
  exact h a ha
theorem Ly.shaped {n : Nat} {d : D} (h : Ly n d) (k : n ≤ 64 := by decide) : SeqAt.shaped d = true := by
  unfold SeqAt.shaped
  rw [h.1, Bool.true_and, decide_eq_true_eq]
  exact Nat.le_trans h.2 k
mutual
theorem eqv_refl : ∀ d : D, d.canLay0 = true → PyData.eqv d d = true
  | .none, _ => by simp [PyData.eqv]
  | .bool b, _ => by simp [PyData.eqv]
  | .int b, _ => by simp [PyData.eqv]
  | .str b, _ => by simp [PyData.eqv]
  | .list ds, h => by
    have h' : PyData.canLayAll0 ds = true := by simpa [PyData.canLay0] using h
    simp only [PyData.eqv]
    exact eqvs_refl ds h'
  | .tuple ds, h => by
    have h' : PyData.canLayAll0 ds = true := by simpa [PyData.canLay0] using h
    simp only [PyData.eqv]
    exact eqvs_refl ds h'
  | .dict _, h => by simp [PyData.canLay0] at h
theorem eqvs_refl : ∀ ds : List D, PyData.canLayAll0 ds = true → PyData.eqvAll ds ds = true
  | [], _ => by simp [PyData.eqvAll]
  | d :: ds, h => by
    have h' : d.canLay0 = true ∧ PyData.canLayAll0 ds = true := by simpa [PyData.canLayAll0] using h
    simp only [PyData.eqvAll, eqv_refl d h'.1, eqvs_refl ds h'.2, Bool.and_self]
end
theorem dEq_same {n : Nat} {d : D} (h : Ly n d) (k : n ≤ 64 := by decide) : dEq d d = some (.bool true) := by
  unfold dEq
  rw [h.shaped k, eqv_refl d h.1]
  rfl
theorem dNe_same {n : Nat} {d : D} (h : Ly n d) (k : n ≤ 64 := by decide) : dNe d d = some (.bool false) := by
  unfold dNe
  rw [h.shaped k, eqv_refl d h.1]
  rfl
theorem dEq_ly {n : Nat} {d e : D} (h : Ly n d) (h2 : Ly n e) (k : n ≤ 64 := by decide) : dEq d e = some (.bool (PyData.eqv d e)) := by
  unfold dEq
  rw [h.shaped k, h2.shaped k]
  rfl
theorem dNe_ly {n : Nat} {d e : D} (h : Ly n d) (h2 : Ly n e) (k : n ≤ 64 := by decide) : dNe d e = some (.bool (!PyData.eqv d e)) := by
  unfold dNe
  rw [h.shaped k, h2.shaped k]
  rfl
theorem dIn_ints (c : Int) (ns : List Int) : dIn (.int c) (.list (ns.map .int)) = some (.bool (decide (c ∈ ns))) := by
  have h1 : SeqAt.shaped (.int c) = true := (ly_i (n := 0) c).shaped
  have h2 : SeqAt.shaped (.list (ns.map PyData.int)) = true := (ly_lm (n := 0) fun x _ => ly_i x).shaped
  have e : dIn (.int c) (.list (ns.map .int)) = if (SeqAt.shaped (.int c) && SeqAt.shaped (.list (ns.map PyData.int))) = true then some (.bool ((ns.map PyData.int).any fun y => PyData.eqv y (.int c))) else none := rfl
  rw [e, h1, h2]
  simp only [Bool.and_self, if_true, List.any_map]
  congr 2
  rw [Bool.eq_iff_iff, List.any_eq_true, decide_eq_true_eq]
  constructor
  · rintro ⟨x, h, e⟩
    simp [PyData.eqv] at e
    rw [← e]; exact h
  · intro h
    exact ⟨c, h, by simp [PyData.eqv]⟩
@[simp] theorem dEq_bb (p q : Bool) : dEq (.bool p) (.bool q) = some (.bool (decide (p = q))) := by
  rw [dEq_ly (n := 0) (ly_b p) (ly_b q)]
  simp [PyData.eqv, Bool.beq_eq_decide_eq]
@[simp] theorem dNe_bb (p q : Bool) : dNe (.bool p) (.bool q) = some (.bool (!decide (p = q))) := by
  rw [dNe_ly (n := 0) (ly_b p) (ly_b q)]
  simp [PyData.eqv, Bool.beq_eq_decide_eq]
theorem dIdx_one (c : Int) : dIdx (.list [.int c]) (.int c) = some (.int 0) := by
  have h1 : SeqAt.shaped (.int c) = true := (ly_i (n := 0) c).shaped
  have h2 : SeqAt.shaped (.list [PyData.int c]) = true := (ly_l (n := 0) fun x hx => by rw [List.mem_singleton.mp hx]; exact ly_i c).shaped
  have e : dIdx (.list [.int c]) (.int c) = if (SeqAt.shaped (.list [PyData.int c]) && SeqAt.shaped (.int c)) = true then
      (if [PyData.int c].findIdx (fun z => PyData.eqv z (.int c)) < [PyData.int c].length then some (.int ([PyData.int c].findIdx fun z => PyData.eqv z (.int c))) else none) else none := rfl
  rw [e, h1, h2]
  simp [List.findIdx_cons, PyData.eqv]
end Pf

namespace Pf
open PySem PySem.Spec PyProof.Rows L2
@[simp] theorem st_0 : PySem.Str.ofString "NoBoard" = mk [78, 111, 66, 111, 97, 114, 100] := by decide +kernel
@[simp] theorem st_1 : PySem.Str.ofString "NoDeck" = mk [78, 111, 68, 101, 99, 107] := by decide +kernel
@[simp] theorem st_2 : PySem.Str.ofString "NoPrices" = mk [78, 111, 80, 114, 105, 99, 101, 115] := by decide +kernel
@[simp] theorem st_3 : PySem.Str.ofString "0123456789x." = mk [48, 49, 50, 51, 52, 53, 54, 55, 56, 57, 120, 46] := by decide +kernel
@[simp] theorem st_4 : PySem.Str.ofString "abcdefghijklmnopqrstuvwxyz" = mk [97, 98, 99, 100, 101, 102, 103, 104, 105, 106, 107, 108, 109, 110, 111, 112, 113, 114, 115, 116, 117, 118, 119, 120, 121, 122] := by decide +kernel
@[simp] theorem st_5 : PySem.Str.ofString "latch" = mk [108, 97, 116, 99, 104] := by decide +kernel
@[simp] theorem st_6 : PySem.Str.ofString "sign" = mk [115, 105, 103, 110] := by decide +kernel
@[simp] theorem st_7 : PySem.Str.ofString "word" = mk [119, 111, 114, 100] := by decide +kernel
@[simp] theorem st_8 : PySem.Str.ofString "key" = mk [107, 101, 121] := by decide +kernel
@[simp] theorem st_9 : PySem.Str.ofString "sum" = mk [115, 117, 109] := by decide +kernel
@[simp] theorem st_10 : PySem.Str.ofString "number" = mk [110, 117, 109, 98, 101, 114] := by decide +kernel
@[simp] theorem st_11 : PySem.Str.ofString "field" = mk [102, 105, 101, 108, 100] := by decide +kernel
@[simp] theorem st_12 : PySem.Str.ofString "print" = mk [112, 114, 105, 110, 116] := by decide +kernel
@[simp] theorem st_13 : PySem.Str.ofString "clear" = mk [99, 108, 101, 97, 114] := by decide +kernel
@[simp] theorem st_14 : PySem.Str.ofString "roll" = mk [114, 111, 108, 108] := by decide +kernel
@[simp] theorem st_15 : PySem.Str.ofString "1" = mk [49] := by decide +kernel
@[simp] theorem st_16 : PySem.Str.ofString "" = mk [] := by decide +kernel
@[simp] theorem st_17 : PySem.Str.ofString "0" = mk [48] := by decide +kernel
@[simp] theorem st_18 : PySem.Str.ofString "deed" = mk [100, 101, 101, 100] := by decide +kernel
@[simp] theorem st_19 : PySem.Str.ofString "add" = mk [97, 100, 100] := by decide +kernel
@[simp] theorem st_20 : PySem.Str.ofString "list" = mk [108, 105, 115, 116] := by decide +kernel
@[simp] theorem st_21 : PySem.Str.ofString "x" = mk [120] := by decide +kernel
@[simp] theorem st_22 : PySem.Str.ofString "." = mk [46] := by decide +kernel
@[simp] theorem st_23 : PySem.Str.ofString "card" = mk [99, 97, 114, 100] := by decide +kernel
@[simp] theorem st_24 : PySem.Str.ofString "2" = mk [50] := by decide +kernel
@[simp] theorem st_25 : PySem.Str.ofString "12x." = mk [49, 50, 120, 46] := by decide +kernel
@[simp] theorem st_26 : PySem.Str.ofString "01x" = mk [48, 49, 120] := by decide +kernel
@[simp] theorem st_27 : PySem.Str.ofString "129x." = mk [49, 50, 57, 120, 46] := by decide +kernel
@[simp] theorem st_28 : PySem.Str.ofString "CardError" = mk [67, 97, 114, 100, 69, 114, 114, 111, 114] := by decide +kernel
@[simp] theorem st_29 : PySem.Str.ofString "board" = mk [98, 111, 97, 114, 100] := by decide +kernel
@[simp] theorem st_30 : PySem.Str.ofString "deck" = mk [100, 101, 99, 107] := by decide +kernel
@[simp] theorem st_31 : PySem.Str.ofString "prices" = mk [112, 114, 105, 99, 101, 115] := by decide +kernel
@[simp] theorem st_32 : PySem.Str.ofString "other" = mk [111, 116, 104, 101, 114] := by decide +kernel
@[simp] theorem st_33 : PySem.Str.ofString "let" = mk [108, 101, 116] := by decide +kernel
@[simp] theorem st_34 : PySem.Str.ofString "12" = mk [49, 50] := by decide +kernel
/-! ### boards as plain data -/
def SG : List Nat := [48, 49, 50, 51, 52, 53, 54, 55, 56, 57, 120, 46]
def AZ : List Nat := [97, 98, 99, 100, 101, 102, 103, 104, 105, 106, 107, 108, 109, 110, 111, 112, 113, 114, 115, 116, 117, 118, 119, 120, 121, 122]
inductive Tst where
  | sg (c s : Nat) (f : Bool)
  | lt (n : Nat) (f : Bool)
deriving DecidableEq
inductive Itm where
  | word (w : List Nat)
  | field (a m : Nat)
  | sign (c : Nat)
  | key (c : Nat)
  | sum (ps : List (Int × Nat))
  | num (n : Int)
deriving DecidableEq
structure Add where
  w : List Tst
  c : Nat
  k : Int
  f : Nat
  m : Nat
deriving DecidableEq
inductive Ded where
  | pr (w : List Tst) (is : List Itm)
  | roll (a b : Nat)
  | clear (a : Nat)
deriving DecidableEq
structure Brd where
  wd : Nat
  lv : List (List Nat)
  la : List (Nat × Nat × Nat)
  mn : Nat
  ad : List Add
  ls : List (List Tst × List Itm)
  to : List (List Ded)
deriving DecidableEq
def tstD : Tst → D
  | .sg c s f => .tuple [.str (mk [115, 105, 103, 110]), .int (c : Int), .str (mk [s]), .bool f]
  | .lt n f => .tuple [.str (mk [108, 97, 116, 99, 104]), .int (n : Int), .bool f]
def whenD (w : List Tst) : D := .tuple (w.map tstD)
def prD (p : Int × Nat) : D := .tuple [.int p.1, .int (p.2 : Int)]
def fldD (a m : Nat) : D := .tuple [.int (a : Int), .int (m : Int)]
def itmD : Itm → D
  | .word w => .tuple [.str (mk [119, 111, 114, 100]), .str (mk w)]
  | .field a m => .tuple [.str (mk [102, 105, 101, 108, 100]), fldD a m]
  | .sign c => .tuple [.str (mk [115, 105, 103, 110]), .int (c : Int)]
  | .key c => .tuple [.str (mk [107, 101, 121]), .int (c : Int)]
  | .sum ps => .tuple [.str (mk [115, 117, 109]), .tuple (ps.map prD)]
  | .num n => .tuple [.str (mk [110, 117, 109, 98, 101, 114]), .int n]
def itmsD (is : List Itm) : D := .tuple (is.map itmD)
def addD (a : Add) : D := .tuple [whenD a.w, .int (a.c : Int), .int a.k, fldD a.f a.m]
def lsD (l : List Tst × List Itm) : D := .tuple [whenD l.1, itmsD l.2]
def dedD : Ded → D
  | .pr w is => .tuple [.str (mk [112, 114, 105, 110, 116]), whenD w, itmsD is]
  | .roll a b => .tuple [.str (mk [114, 111, 108, 108]), .int (a : Int), .int (b : Int)]
  | .clear a => .tuple [.str (mk [99, 108, 101, 97, 114]), .int (a : Int)]
def dedsD (ds : List Ded) : D := .tuple (ds.map dedD)
def lotD (l : List Nat) : D := .tuple (l.map fun n : Nat => .int (n : Int))
def lvD (l : List (List Nat)) : D := .tuple (l.map lotD)
def laD (l : Nat × Nat × Nat) : D := .tuple [.int (l.1 : Int), .str (mk [l.2.1]), .int (l.2.2 : Int)]
def brdL (b : Brd) : List D := [.int (b.wd : Int), lvD b.lv, .tuple (b.la.map laD), .int (b.mn : Int), .tuple (b.ad.map addD), .tuple (b.ls.map lsD), .tuple (b.to.map dedsD)]
def brdD (b : Brd) : D := .tuple (brdL b)
/-! ### what a board is -/
def okTst (b : Brd) (on : Bool) : Tst → Bool
  | .sg c s _ => on && (decide (c < b.wd) && decide (s ∈ SG))
  | .lt n _ => decide (n < b.la.length)
def okWhen (b : Brd) (on : Bool) (w : List Tst) : Bool := decide (w.length ≤ 3) && w.all (okTst b on)
def okNm (l : List Nat) : Bool := decide (1 ≤ l.length) && decide (l.length ≤ 8) && l.all fun c => decide (c ∈ AZ)
def okFac (k : Int) : Bool := decide (-99 ≤ k) && decide (k ≤ 99) && decide (k ≠ 0)
def okFld (w a m : Nat) : Bool := decide (a < w) && (decide (1 ≤ m) && decide (m ≤ 6) && decide (a + m ≤ w))
def ascP : List (Int × Nat) → Bool
  | [] => true
  | [_] => true
  | p :: q :: r => decide (p.2 < q.2) && ascP (q :: r)
def ascN : List Nat → Bool
  | [] => true
  | [_] => true
  | p :: q :: r => decide (p < q) && ascN (q :: r)
def okPrs (many : Nat) (ps : List (Int × Nat)) : Bool := decide (1 ≤ ps.length) && decide (ps.length ≤ 4) && (ps.all (fun p => okFac p.1 && decide (p.2 < many)) && ascP ps)
def okItm (b : Brd) (on : Bool) : Itm → Bool
  | .word w => okNm w
  | .field a m => on && okFld b.wd a m
  | .sign c => on && decide (c < b.wd)
  | .key c => decide (c ∈ b.lv.flatten)
  | .sum ps => okPrs b.mn ps
  | .num n => decide (n.natAbs < 1000000000)
def okItms (b : Brd) (on : Bool) (is : List Itm) : Bool := decide (is.length ≤ 6) && is.all (okItm b on)
def okAdd (b : Brd) (a : Add) : Bool := okWhen b true a.w && (decide (a.c < b.mn) && (okFac a.k && okFld b.wd a.f a.m))
def okLs (b : Brd) (l : List Tst × List Itm) : Bool := okWhen b true l.1 && okItms b true l.2
def okDed (b : Brd) : Ded → Bool
  | .pr w is => okWhen b false w && okItms b false is
  | .roll x y => decide (x < b.mn) && (decide (y < b.mn) && decide (x ≠ y))
  | .clear x => decide (x < b.mn)
def okDeds (b : Brd) (ds : List Ded) : Bool := decide (ds.length ≤ 12) && ds.all (okDed b)
def okLa (b : Brd) (l : Nat × Nat × Nat) : Bool := decide (l.1 < b.wd) && (decide (l.2.1 ∈ SG) && decide (l.2.2 ≤ b.lv.length))
/-- the levels are so: no column twice -/
def okLv (w : Nat) (lv : List (List Nat)) : Prop := lv.length ≤ 2 ∧ (∀ l ∈ lv, 1 ≤ l.length ∧ l.length ≤ 2 ∧ (∀ c ∈ l, c < w) ∧ ascN l = true) ∧ lv.flatten.length ≤ 2 ∧ lv.flatten.Nodup
/-- all but the levels and the width -/
def okB (b : Brd) : Bool := decide (b.la.length ≤ 3) && b.la.all (okLa b) && (decide (b.mn ≤ 6) && decide (b.ad.length ≤ 12) && decide (b.ls.length ≤ 4)) && (b.ad.all (okAdd b) && b.ls.all (okLs b)) && (decide (b.to.length = b.lv.length + 1) && b.to.all (okDeds b))
structure GoodB (b : Brd) : Prop where
  w1 : 1 ≤ b.wd
  w8 : b.wd ≤ 8
  lv : okLv b.wd b.lv
  ok : okB b = true
@[simp] theorem brd_0 (b : Brd) : dIx (brdD b) (.int 0) = some (.int (b.wd : Int)) := by simp [brdD, brdL]
@[simp] theorem brd_1 (b : Brd) : dIx (brdD b) (.int 1) = some (lvD b.lv) := by simp [brdD, brdL]
@[simp] theorem brd_2 (b : Brd) : dIx (brdD b) (.int 2) = some (.tuple (b.la.map laD)) := by simp [brdD, brdL]
@[simp] theorem brd_3 (b : Brd) : dIx (brdD b) (.int 3) = some (.int (b.mn : Int)) := by simp [brdD, brdL]
@[simp] theorem brd_4 (b : Brd) : dIx (brdD b) (.int 4) = some (.tuple (b.ad.map addD)) := by simp [brdD, brdL]
@[simp] theorem brd_5 (b : Brd) : dIx (brdD b) (.int 5) = some (.tuple (b.ls.map lsD)) := by simp [brdD, brdL]
@[simp] theorem brd_6 (b : Brd) : dIx (brdD b) (.int 6) = some (.tuple (b.to.map dedsD)) := by simp [brdD, brdL]
@[simp] theorem seqD_when (w : List Tst) : seqD (whenD w) = some (w.map tstD) := rfl
@[simp] theorem seqD_itms (w : List Itm) : seqD (itmsD w) = some (w.map itmD) := rfl
@[simp] theorem seqD_deds (w : List Ded) : seqD (dedsD w) = some (w.map dedD) := rfl
@[simp] theorem seqD_lv (w : List (List Nat)) : seqD (lvD w) = some (w.map lotD) := rfl
@[simp] theorem seqD_lot (w : List Nat) : seqD (lotD w) = some (w.map fun n : Nat => .int (n : Int)) := rfl
/-! ### what things are -/
def isI : D → Bool
  | .int _ => true
  | _ => false
def withinB (d : D) (lo hi : Int) : Bool := match d with
  | .int i => decide (lo ≤ i) && decide (i ≤ hi)
  | _ => false
def tupB (d : D) (k : Int) : Bool := match d with
  | .tuple ds => decide ((ds.length : Int) = k)
  | _ => false
def fewB (d : D) (k : Int) : Bool := match d with
  | .tuple ds => decide ((ds.length : Int) ≤ k)
  | _ => false
def wordB (d : D) (w : Str) (k : Int) : Bool := match d with
  | .tuple (.str a :: r) => decide ((r.length : Int) + 1 = k) && decide (a = w)
  | _ => false
@[simp] theorem withinB_i (i lo hi : Int) : withinB (.int i) lo hi = (decide (lo ≤ i) && decide (i ≤ hi)) := rfl
@[simp] theorem tupB_t (ds : List D) (k : Int) : tupB (.tuple ds) k = decide ((ds.length : Int) = k) := rfl
@[simp] theorem fewB_t (ds : List D) (k : Int) : fewB (.tuple ds) k = decide ((ds.length : Int) ≤ k) := rfl
@[simp] theorem wordB_s (a w : Str) (r : List D) (k : Int) : wordB (.tuple (.str a :: r)) w k = (decide ((r.length : Int) + 1 = k) && decide (a = w)) := rfl
theorem is_integer_v (d : D) (ρ : Rho) : callD 1 d_is_integer none [d] ρ = .ok (.v (.bool (isI d))) ρ := by
  refine call_v ?_ ρ
  cases d <;> simp [d_is_integer, isInt, isBool, isI]
theorem is_within_v (d : D) (lo hi : Int) (ρ : Rho) : callD 3 d_is_within none [d, .int lo, .int hi] ρ = .ok (.v (.bool (withinB d lo hi))) ρ := by
  refine call_v ?_ ρ
  cases d with
  | int i => by_cases h : lo ≤ i <;> simp [d_is_within, is_integer_v, isI, dChain, h]
  | _ => simp [d_is_within, is_integer_v, isI, withinB]
theorem is_tuple_of_v (d : D) (k : Int) (ρ : Rho) : callD 2 d_is_tuple_of none [d, .int k] ρ = .ok (.v (.bool (tupB d k))) ρ := by
  refine call_v ?_ ρ
  cases d <;> simp [d_is_tuple_of, tupB]
theorem is_few_v (d : D) (k : Int) (ρ : Rho) : callD 2 d_is_few none [d, .int k] ρ = .ok (.v (.bool (fewB d k))) ρ := by
  refine call_v ?_ ρ
  cases d <;> simp [d_is_few, fewB]
theorem is_worded_v (d : D) (w : Str) (k : Int) (hk : 1 ≤ k) (ρ : Rho) : callD 3 d_is_worded none [d, .str w, .int k] ρ = .ok (.v (.bool (wordB d w k))) ρ := by
  refine call_v ?_ ρ
  have hk0 : ¬ (0 = k) := by omega
  cases d with
  | tuple ds =>
    cases ds with
    | nil => simp [d_is_worded, is_tuple_of_v, wordB, hk0]
    | cons x r =>
      by_cases h : (r.length : Int) + 1 = k
      · cases x <;> simp [d_is_worded, is_tuple_of_v, wordB, h]
      · cases x <;> simp [d_is_worded, is_tuple_of_v, wordB, h]
  | _ => simp [d_is_worded, is_tuple_of_v, wordB, tupB]
theorem is_flag_v (d : D) (ρ : Rho) : callD 1 d_is_flag none [d] ρ = .ok (.v (.bool (isBool d))) ρ := by
  refine call_v ?_ ρ
  simp [d_is_flag]
theorem is_width_v (d : D) (ρ : Rho) : callD 1 d_is_width none [d] ρ = .ok (.v (.bool (withinB d 1 8))) ρ := by
  refine call_v ?_ ρ
  simp [d_is_width, is_within_v]
def facB (d : D) : Bool := match d with
  | .int i => okFac i
  | _ => false
@[simp] theorem facB_i (i : Int) : facB (.int i) = okFac i := rfl
theorem is_factor_v (d : D) (ρ : Rho) : callD 1 d_is_factor none [d] ρ = .ok (.v (.bool (facB d))) ρ := by
  refine call_v ?_ ρ
  cases d with
  | int i =>
    by_cases h : -99 ≤ i
    · by_cases h2 : i ≤ 99 <;> simp [d_is_factor, is_within_v, okFac, h, h2]
    · simp [d_is_factor, is_within_v, okFac, h]
  | _ => simp [d_is_factor, is_within_v, withinB, facB]
def sgB (d : D) : Bool := match d with
  | .str s => match s.cps.toList with
    | [c] => decide (c ∈ SG)
    | _ => false
  | _ => false
def SmD (d : D) : Prop := ∀ s, d = .str s → s.length ≤ 16777216
theorem SmD.mk {l : List Nat} (h : l.length ≤ 16777216) : SmD (.str (mk l)) := fun s e => by cases e; simpa using h
theorem is_sign_v (d : D) (h : SmD d) (ρ : Rho) : callD 1 d_is_sign none [d] ρ = .ok (.v (.bool (sgB d))) ρ := by
  refine call_v ?_ ρ
  cases d with
  | str s =>
    have hs := h s rfl
    rw [str_mk s] at hs ⊢
    generalize s.cps.toList = l at hs ⊢
    have hl : l.length ≤ 16777216 := by simpa using hs
    match l, hl with
    | [], _ => simp [d_is_sign, sgB]
    | [c], _ => simp [d_is_sign, sgB, SG]
    | a :: b :: r, hl =>
      have : ¬ ((r.length : Int) + 1 + 1 = 1) := by omega
      have h2 : r.length + 1 + 1 ≤ 16777216 := by simpa using hl
      simp [d_is_sign, sgB, this, h2]
  | _ => simp [d_is_sign, sgB]
@[simp] theorem sgB_s (c : Nat) : sgB (.str (mk [c])) = decide (c ∈ SG) := by simp [sgB]
def cardW (w : Int) (d : D) : Bool := match d with
  | .str s => decide ((s.length : Int) = w) && s.cps.toList.all fun c => decide (c ∈ SG)
  | _ => false
theorem raw_is_card_v (w : Int) (d : D) (h : SmD d) (ρ : Rho) : callD 3 d_raw_is_card none [.int w, d] ρ = .ok (.v (.bool (cardW w d))) ρ := by
  refine call_v ?_ ρ
  cases d with
  | str s =>
    have hs := h s rfl
    rw [str_mk s] at hs ⊢
    generalize s.cps.toList = l at hs ⊢
    have hl : l.length ≤ 16777216 := by simpa using hs
    by_cases hw : (l.length : Int) = w
    · have e : c_raw_is_card_1 [.imm (.int w), .imm (.str (mk l)), .undef] = .ok (l.map fun c => .bool (decide (c ∈ SG))) [.imm (.int w), .imm (.str (mk l)), .undef] := by
        unfold c_raw_is_card_1
        exact dLc_all (fun c => .str (mk [c])) (fun c => .bool (decide (c ∈ SG))) (by simp) rfl (by omega) fun c _ => ⟨[.imm (.int w), .imm (.str (mk l)), .imm (.str (mk [c]))], by simp, by simp [SG], by simp⟩
      subst hw
      simp [d_raw_is_card, hl, cardW, e, dAll_map]
    · simp [d_raw_is_card, hl, cardW, hw]
  | _ => simp [d_raw_is_card, cardW]
def deckW (w : Int) (d : D) : Bool := match d with
  | .tuple ds => decide (ds.length ≤ 400) && ds.all (cardW w)
  | _ => false
theorem raw_is_deck_v (w : Int) (d : D) (h : ∀ ds, d = .tuple ds → ∀ x ∈ ds, SmD x) (ρ : Rho) : callD 3 d_raw_is_deck none [.int w, d] ρ = .ok (.v (.bool (deckW w d))) ρ := by
  refine call_v ?_ ρ
  cases d with
  | tuple ds =>
    have hs := h ds rfl
    by_cases hl : ds.length ≤ 400
    · have hl' : (ds.length : Int) ≤ 400 := by omega
      have e : c_raw_is_deck_1 [.imm (.int w), .imm (.tuple ds), .undef] = .ok (ds.map fun d => .bool (cardW w d)) [.imm (.int w), .imm (.tuple ds), .undef] := by
        unfold c_raw_is_deck_1
        exact dLc_all id (fun d => .bool (cardW w d)) (by simp) rfl (by omega) fun d hd => ⟨[.imm (.int w), .imm (.tuple ds), .imm d], by simp, by simp [raw_is_card_v w d (hs d hd)], by simp⟩
      simp [d_raw_is_deck, is_few_v, deckW, hl, hl', e, dAll_map]
    · have hl' : ¬ (ds.length : Int) ≤ 400 := by omega
      simp [d_raw_is_deck, is_few_v, deckW, hl, hl']
  | _ => simp [d_raw_is_deck, is_few_v, deckW, fewB]
/-! ### what a board is, by the program -/
@[simp] theorem few_when (w : List Tst) (k : Int) : fewB (whenD w) k = decide ((w.length : Int) ≤ k) := by simp [whenD]
@[simp] theorem few_itms (w : List Itm) (k : Int) : fewB (itmsD w) k = decide ((w.length : Int) ≤ k) := by simp [itmsD]
@[simp] theorem few_deds (w : List Ded) (k : Int) : fewB (dedsD w) k = decide ((w.length : Int) ≤ k) := by simp [dedsD]
theorem dec_lt (a b : Nat) : decide ((a : Int) ≤ (b : Int) - 1) = decide (a < b) := by rw [decide_eq_decide]; omega
theorem dec_le (a b : Nat) : decide ((a : Int) ≤ (b : Int)) = decide (a ≤ b) := by rw [decide_eq_decide]; omega
theorem dec_lt' (a b : Nat) : decide ((a : Int) < (b : Int)) = decide (a < b) := by rw [decide_eq_decide]; omega
theorem dec_le3 (a : Nat) : decide ((a : Int) ≤ 3) = decide (a ≤ 3) := by rw [decide_eq_decide]; omega
theorem within_n (a b : Nat) : withinB (.int (a : Int)) 0 ((b : Int) - 1) = decide (a < b) := by
  rw [withinB_i, dec_lt, decide_eq_true (by omega), Bool.true_and]
theorem is_test_v (b : Brd) (on : Bool) (t : Tst) (ρ : Rho) : callD 3 d_is_test none [brdD b, tstD t, .bool on] ρ = .ok (.v (.bool (okTst b on t))) ρ := by
  refine call_v ?_ ρ
  cases t with
  | sg c s f =>
    cases on with
    | false => simp [d_is_test, tstD, is_worded_v, okTst]
    | true =>
      by_cases h : c < b.wd <;> by_cases h2 : s ∈ SG <;> simp [d_is_test, tstD, is_worded_v, okTst, is_within_v, within_n, -withinB_i, is_sign_v _ (SmD.mk (l := [s]) (by simp)), is_flag_v, h, h2]
  | lt n f => by_cases h : n < b.la.length <;> simp [d_is_test, tstD, is_worded_v, okTst, is_within_v, within_n, -withinB_i, is_flag_v, h]
theorem is_when_v (b : Brd) (on : Bool) (w : List Tst) (ρ : Rho) : callD 4 d_is_when none [brdD b, whenD w, .bool on] ρ = .ok (.v (.bool (okWhen b on w))) ρ := by
  refine call_v ?_ ρ
  by_cases hl : w.length ≤ 3
  · have hl' : (w.length : Int) ≤ 3 := by omega
    have e : c_is_when_1 [.imm (brdD b), .imm (whenD w), .imm (.bool on), .undef] = .ok (w.map fun t => .bool (okTst b on t)) [.imm (brdD b), .imm (whenD w), .imm (.bool on), .undef] := by
      unfold c_is_when_1
      exact dLc_all tstD (fun t => .bool (okTst b on t)) (by simp) rfl (by omega) fun t _ => ⟨[.imm (brdD b), .imm (whenD w), .imm (.bool on), .imm (tstD t)], by simp, by simp [is_test_v], by simp⟩
    simp [d_is_when, is_few_v, hl, hl', e, dAll_map, okWhen]
  · have hl' : ¬ (w.length : Int) ≤ 3 := by omega
    simp [d_is_when, is_few_v, hl, hl', okWhen]
def fieldB (w : Int) (d : D) : Bool := match d with
  | .tuple [.int f, y] => (decide (0 ≤ f) && decide (f ≤ w - 1)) && withinB y 1 (if 6 > w - f then w - f else 6)
  | _ => false
theorem raw_is_field_v (w a m : Nat) (ρ : Rho) : callD 2 d_raw_is_field none [.int (w : Int), fldD a m] ρ = .ok (.v (.bool (okFld w a m))) ρ := by
  refine call_v ?_ ρ
  by_cases h : a < w
  · have e : withinB (.int (m : Int)) 1 (if (w : Int) - (a : Int) < 6 then (w : Int) - (a : Int) else 6) = (decide (1 ≤ m) && decide (m ≤ 6) && decide (a + m ≤ w)) := by
      rw [withinB_i]
      have e1 : decide ((1 : Int) ≤ (m : Int)) = decide (1 ≤ m) := by rw [decide_eq_decide]; omega
      rw [e1, Bool.and_assoc]
      congr 1
      split
      · rw [← Bool.decide_and, decide_eq_decide]; omega
      · rw [← Bool.decide_and, decide_eq_decide]; omega
    simp [d_raw_is_field, fldD, is_tuple_of_v, is_within_v, within_n, -withinB_i, h, dMin2, e, okFld]
  · simp [d_raw_is_field, fldD, is_tuple_of_v, is_within_v, within_n, -withinB_i, h, okFld]
theorem is_name_v (l : List Nat) (hl : l.length ≤ 16777216) (ρ : Rho) : callD 2 d_is_name none [.str (mk l)] ρ = .ok (.v (.bool (okNm l))) ρ := by
  refine call_v ?_ ρ
  have e : c_is_name_1 [.imm (.str (mk l)), .undef] = .ok (l.map fun c => .bool (decide (c ∈ AZ))) [.imm (.str (mk l)), .undef] := by
    unfold c_is_name_1
    exact dLc_all (fun c => .str (mk [c])) (fun c => .bool (decide (c ∈ AZ))) (by simp) rfl (by omega) fun c _ => ⟨[.imm (.str (mk l)), .imm (.str (mk [c]))], by simp, by simp [AZ], by simp⟩
  by_cases h1 : 1 ≤ l.length
  · have h1' : (1 : Int) ≤ (l.length : Int) := by omega
    by_cases h8 : l.length ≤ 8
    · have h8' : (l.length : Int) ≤ 8 := by omega
      simp [d_is_name, hl, h1, h1', h8, h8', e, dAll_map, okNm, dChain]
    · have h8' : ¬ (l.length : Int) ≤ 8 := by omega
      simp [d_is_name, hl, h1, h1', h8, h8', okNm, dChain]
  · have h1' : ¬ (1 : Int) ≤ (l.length : Int) := by omega
    simp [d_is_name, hl, h1, h1', okNm, dChain]
theorem asc_zip : ∀ ps : List (Int × Nat), ((ps.zip ps.tail).all fun p => decide (p.1.2 < p.2.2)) = ascP ps
  | [] => rfl
  | [_] => rfl
  | p :: q :: r => by
    have := asc_zip (q :: r)
    simp only [List.tail_cons] at this ⊢
    rw [List.zip_cons_cons, List.all_cons, this]
    rfl
theorem are_pairs_v (many : Nat) (ps : List (Int × Nat)) (ρ : Rho) : callD 5 d_are_pairs none [.int (many : Int), .tuple (ps.map prD)] ρ = .ok (.v (.bool (okPrs many ps))) ρ := by
  refine call_v ?_ ρ
  by_cases h1 : 1 ≤ ps.length
  · have h1' : (1 : Int) ≤ (ps.length : Int) := by omega
    by_cases h4 : ps.length ≤ 4
    · have h4' : (ps.length : Int) ≤ 4 := by omega
      have L := dLoop_all (bind := bName 2) (body := b_are_pairs_1) prD [.imm (.int (many : Int)), .imm (.tuple (ps.map prD)), .undef, .undef, .undef] (fun p => okFac p.1 && decide (p.2 < many)) (.bool false) ps fun p _ =>
        ⟨[.imm (.int (many : Int)), .imm (.tuple (ps.map prD)), .imm (prD p), .undef, .undef], by simp, fun hp => by
          rw [Bool.and_eq_true] at hp
          simp [b_are_pairs_1, prD, is_tuple_of_v, is_factor_v, is_within_v, within_n, -withinB_i, hp.1, hp.2], fun hp => by
          cases hf : okFac p.1 with
          | false => simp [b_are_pairs_1, prD, is_tuple_of_v, is_factor_v, is_within_v, within_n, -withinB_i, hf]
          | true =>
            rw [hf, Bool.true_and] at hp
            have hp := of_decide_eq_false hp
            simp [b_are_pairs_1, prD, is_tuple_of_v, is_factor_v, is_within_v, within_n, -withinB_i, hf, hp]⟩
      have e : c_are_pairs_1 [.imm (.int (many : Int)), .imm (.tuple (ps.map prD)), .undef, .undef, .undef] = .ok ((ps.zip ps.tail).map fun p => .bool (decide (p.1.2 < p.2.2))) [.imm (.int (many : Int)), .imm (.tuple (ps.map prD)), .undef, .undef, .undef] := by
        unfold c_are_pairs_1
        exact dLc_all (fun p : (Int × Nat) × (Int × Nat) => .tuple [prD p.1, prD p.2]) (fun p => .bool (decide (p.1.2 < p.2.2))) (by simp [← List.map_tail, zipmap]) rfl (by simp; omega) fun p _ => ⟨[.imm (.int (many : Int)), .imm (.tuple (ps.map prD)), .undef, .imm (prD p.1), .imm (prD p.2)], by simp [bCons, bNil], by simp [prD, dec_lt'], by simp⟩
      cases ha : ps.all (fun p => okFac p.1 && decide (p.2 < many)) with
      | true =>
        have L1 := L.1 ha
        simp [d_are_pairs, f_are_pairs_1, h1, h1', h4, h4', dChain, L1, e, dAll_map, asc_zip, okPrs, ha, -List.all_eq_true]
      | false =>
        obtain ⟨ρ', L2⟩ := L.2 ha
        simp [d_are_pairs, f_are_pairs_1, h1, h1', h4, h4', dChain, L2, okPrs, ha, -List.all_eq_true, -List.all_eq_false]
    · have h4' : ¬ (ps.length : Int) ≤ 4 := by omega
      simp [d_are_pairs, h1, h1', h4, h4', dChain, okPrs]
  · have h1' : ¬ (1 : Int) ≤ (ps.length : Int) := by omega
    simp [d_are_pairs, h1, h1', dChain, okPrs]
theorem asc_zipN : ∀ ps : List Nat, ((ps.zip ps.tail).all fun p => decide (p.1 < p.2)) = ascN ps
  | [] => rfl
  | [_] => rfl
  | p :: q :: r => by
    have := asc_zipN (q :: r)
    simp only [List.tail_cons] at this ⊢
    rw [List.zip_cons_cons, List.all_cons, this]
    rfl
theorem flat_snoc (l : List (List Nat)) (x : List Nat) : (l ++ [x]).flatten = l.flatten ++ x := by simp
theorem nodup_ints (l : List Nat) (h : l.Nodup) : (l.map fun n : Nat => (n : Int)).Nodup := by
  unfold List.Nodup at h ⊢
  rw [List.pairwise_map]
  exact h.imp fun {a b} hab e => hab (by omega)
theorem foldl_flat (lv : List (List Nat)) : ∀ acc : List Nat, lv.foldl (fun acc l => acc ++ l) acc = acc ++ lv.flatten := by
  induction lv with
  | nil => intro acc; simp
  | cons a r ih => intro acc; rw [List.foldl_cons, ih]; simp
theorem dLenSet_n (l : List Nat) (h : l.Nodup) (h2 : l.length ≤ 4000) : dLenSet (.list (l.map fun n : Nat => .int (n : Int))) = some (.int (l.length : Int)) := by
  have e : dLenSet (.list (l.map fun n : Nat => .int (n : Int))) = (match intsOf (l.map fun n : Nat => .int (n : Int)) with
    | some ns => if ns.Nodup ∧ ns.length ≤ 4000 then some (.int (ns.length : Nat)) else none
    | none => none) := rfl
  rw [e, intsOf_mn]
  simp only [List.length_map]
  rw [if_pos ⟨nodup_ints _ h, h2⟩]
theorem flat_le {lv : List (List Nat)} {l : List Nat} (h : l ∈ lv) : l.length ≤ lv.flatten.length := (List.sublist_flatten_of_mem h).length_le
theorem are_levels_v (w : Nat) (lv : List (List Nat)) (h : okLv w lv) (ρ : Rho) : callD 7 d_are_levels none [.int (w : Int), lvD lv] ρ = .ok (.v (.bool true)) ρ := by
  obtain ⟨h2, hl, hf, hn⟩ := h
  refine call_v ?_ ρ
  have h2' : (lv.length : Int) ≤ 2 := by omega
  let enc : List Nat → Rho := fun acc => [.imm (.int (w : Int)), .imm (lvD lv), .own (acc.map fun n : Nat => .int (n : Int)), .undef, .undef, .undef, .undef]
  have L1 := dLoop_foldp (bind := bName 3) (body := b_are_levels_1) lotD enc (fun acc l => acc ++ l) [] lv fun pre l post hpl => by
    rw [foldl_flat, List.nil_append]
    have hm : l ∈ lv := by rw [hpl]; simp
    have hsz : pre.flatten.length + l.length ≤ 2 := by rw [hpl] at hf; simp at hf; simp; omega
    generalize pre.flatten = acc at hsz
    obtain ⟨l1, l2, lc, la⟩ := hl l hm
    have l1' : (1 : Int) ≤ (l.length : Int) := by omega
    have l2' : (l.length : Int) ≤ 2 := by omega
    have la1 := asc_zipN l
    rw [la] at la1
    have e1 : ∀ (a0 : Slot), c_are_levels_1 [.imm (.int (w : Int)), .imm (lvD lv), a0, .imm (lotD l), .undef, .undef, .undef] = .ok (l.map fun c : Nat => .bool (decide (c < w))) [.imm (.int (w : Int)), .imm (lvD lv), a0, .imm (lotD l), .undef, .undef, .undef] := fun a0 => by
      unfold c_are_levels_1
      exact dLc_all (fun n : Nat => .int (n : Int)) (fun c : Nat => .bool (decide (c < w))) (by simp) rfl (by omega) fun c _ => ⟨[.imm (.int (w : Int)), .imm (lvD lv), a0, .imm (lotD l), .imm (.int (c : Int)), .undef, .undef], by simp, by simp [is_within_v, within_n, -withinB_i], by simp⟩
    have e2 : ∀ (a0 : Slot), c_are_levels_2 [.imm (.int (w : Int)), .imm (lvD lv), a0, .imm (lotD l), .undef, .undef, .undef] = .ok ((l.zip l.tail).map fun p => .bool (decide (p.1 < p.2))) [.imm (.int (w : Int)), .imm (lvD lv), a0, .imm (lotD l), .undef, .undef, .undef] := fun a0 => by
      unfold c_are_levels_2
      exact dLc_all (fun p : Nat × Nat => .tuple [.int (p.1 : Int), .int (p.2 : Int)]) (fun p => .bool (decide (p.1 < p.2))) (by simp [lotD, ← List.map_tail, zipmap]) rfl (by simp; omega) fun p _ => ⟨[.imm (.int (w : Int)), .imm (lvD lv), a0, .imm (lotD l), .undef, .imm (.int (p.1 : Int)), .imm (.int (p.2 : Int))], by simp [bCons, bNil], by simp [dec_lt'], by simp⟩
    have a1 : (l.all fun c => decide (c < w)) = true := List.all_eq_true.mpr fun c hc => decide_eq_true (lc c hc)
    have hz : acc.length + l.length ≤ 16777216 := by omega
    have ht : isTup (lotD l) = true := rfl
    have hlen : dLen (lotD l) = some (.int (l.length : Int)) := by simp [lotD]
    refine ⟨[.imm (.int (w : Int)), .imm (lvD lv), .own (acc.map fun n : Nat => .int (n : Int)), .imm (lotD l), .undef, .undef, .undef], by simp [enc], ?_⟩
    have hd : dListA (dImm 3) [.imm (.int (w : Int)), .imm (lvD lv), .own (acc.map fun n : Nat => .int (n : Int)), .imm (lotD l), .undef, .undef, .undef] = .ok (l.map fun n : Nat => .int (n : Int)) [.imm (.int (w : Int)), .imm (lvD lv), .own (acc.map fun n : Nat => .int (n : Int)), .imm (lotD l), .undef, .undef, .undef] := rfl
    simp [b_are_levels_1, ht, hlen, dChain, l1', l2', e1, e2, dAll_map, a1, la1, hd, -dListA_e, hz, enc, -List.all_eq_true]
  rw [foldl_flat, List.nil_append] at L1
  have L2 : f_are_levels_1 (enc []) = .next (enc lv.flatten) := by
    unfold f_are_levels_1
    rw [dFor_e]
    exact L1
  have few : fewB (lvD lv) 2 = true := by simp [lvD]; omega
  clear L1
  generalize lv.flatten = fl at hf hn L2
  have hf2 : (fl.length : Int) ≤ 2 := by omega
  simp only [enc, List.map_nil] at L2
  simp [d_are_levels, is_few_v, few, L2, dLenSet_n fl hn (by omega), hf2]
theorem is_latch_v (b : Brd) (l : Nat × Nat × Nat) (ρ : Rho) : callD 3 d_is_latch none [.int (b.wd : Int), lvD b.lv, laD l] ρ = .ok (.v (.bool (okLa b l))) ρ := by
  refine call_v ?_ ρ
  have hw : withinB (.int (l.2.2 : Int)) 0 (b.lv.length : Int) = decide (l.2.2 ≤ b.lv.length) := by rw [withinB_i, dec_le, decide_eq_true (by omega), Bool.true_and]
  have hlen : dLen (lvD b.lv) = some (.int (b.lv.length : Int)) := by simp [lvD]
  by_cases h : l.1 < b.wd
  · by_cases h2 : l.2.1 ∈ SG <;> simp [d_is_latch, laD, is_tuple_of_v, is_within_v, within_n, -withinB_i, is_sign_v _ (SmD.mk (l := [l.2.1]) (by simp)), okLa, h, h2, hlen, hw]
  · simp [d_is_latch, laD, is_tuple_of_v, is_within_v, within_n, -withinB_i, okLa, h]
def srtN (l : List Nat) : List Int := sortI (l.map fun n : Nat => (n : Int))
theorem raw_keys_n (b : Brd) (hf : b.lv.flatten.length ≤ 1000) (ρ : Rho) : callD 3 d_raw_keys none [brdD b] ρ = .ok (.n ((srtN b.lv.flatten).map .int)) ρ := by
  let enc : List Nat → Rho := fun acc => [.imm (brdD b), .own (acc.map fun n : Nat => .int (n : Int)), .undef]
  have L1 := dLoop_foldp (bind := bName 2) (body := b_raw_keys_1) lotD enc (fun acc l => acc ++ l) [] b.lv fun pre l post hpl => by
    rw [foldl_flat, List.nil_append]
    have hsz : pre.flatten.length + l.length ≤ 1000 := by rw [hpl] at hf; simp at hf; simp; omega
    generalize pre.flatten = acc at hsz
    have hz : acc.length + l.length ≤ 16777216 := by omega
    refine ⟨[.imm (brdD b), .own (acc.map fun n : Nat => .int (n : Int)), .imm (lotD l)], by simp [enc], ?_⟩
    have hd : dListA (dImm 2) [.imm (brdD b), .own (acc.map fun n : Nat => .int (n : Int)), .imm (lotD l)] = .ok (l.map fun n : Nat => .int (n : Int)) [.imm (brdD b), .own (acc.map fun n : Nat => .int (n : Int)), .imm (lotD l)] := rfl
    simp [b_raw_keys_1, hd, -dListA_e, hz, enc]
  rw [foldl_flat, List.nil_append] at L1
  refine call_n ?_ ρ
  unfold srtN
  generalize b.lv.flatten = fl at L1 hf
  simp only [enc, List.map_nil] at L1
  simp [d_raw_keys, f_raw_keys_1, L1, intsOf_mn]
theorem mem_srtN (l : List Nat) (c : Nat) : ((c : Int) ∈ srtN l) = (c ∈ l) := by
  unfold srtN
  rw [(sortI_perm _).mem_iff, List.mem_map, eq_iff_iff]
  exact ⟨fun ⟨n, h, e⟩ => by rw [← (by omega : n = c)]; exact h, fun h => ⟨c, h, rfl⟩⟩
/-- its texts are short -/
def smItm : Itm → Prop
  | .word w => w.length ≤ 1000
  | _ => True
theorem is_item_v (b : Brd) (hf : b.lv.flatten.length ≤ 1000) (on : Bool) (t : Itm) (ht : smItm t) (ρ : Rho) : callD 3 d_is_item none [brdD b, itmD t, .bool on] ρ = .ok (.v (.bool (okItm b on t))) ρ := by
  refine call_v ?_ ρ
  cases t with
  | word w =>
    have hw : w.length ≤ 16777216 := by have : w.length ≤ 1000 := ht; omega
    simp [d_is_item, itmD, is_worded_v, is_name_v w hw, okItm]
  | field a m => cases on <;> simp [d_is_item, itmD, is_worded_v, raw_is_field_v, okItm]
  | sign c => cases on <;> simp [d_is_item, itmD, is_worded_v, is_within_v, within_n, -withinB_i, okItm]
  | key c => simp [d_is_item, itmD, is_worded_v, is_integer_v, isI, raw_keys_n b hf, dIn_ints, mem_srtN, okItm]
  | sum ps => simp [d_is_item, itmD, is_worded_v, are_pairs_v, okItm]
  | num n =>
    have e : decide ((if n < 0 then -n else n) < 1000000000) = decide (n.natAbs < 1000000000) := by rw [decide_eq_decide]; split <;> omega
    simp [d_is_item, itmD, is_worded_v, is_integer_v, isI, okItm, e]
theorem are_items_v (b : Brd) (hf : b.lv.flatten.length ≤ 1000) (on : Bool) (w : List Itm) (hw : ∀ t ∈ w, smItm t) (ρ : Rho) : callD 4 d_are_items none [brdD b, itmsD w, .bool on] ρ = .ok (.v (.bool (okItms b on w))) ρ := by
  refine call_v ?_ ρ
  by_cases hl : w.length ≤ 6
  · have hl' : (w.length : Int) ≤ 6 := by omega
    have e : c_are_items_1 [.imm (brdD b), .imm (itmsD w), .imm (.bool on), .undef] = .ok (w.map fun t => .bool (okItm b on t)) [.imm (brdD b), .imm (itmsD w), .imm (.bool on), .undef] := by
      unfold c_are_items_1
      exact dLc_all itmD (fun t => .bool (okItm b on t)) (by simp) rfl (by omega) fun t ht => ⟨[.imm (brdD b), .imm (itmsD w), .imm (.bool on), .imm (itmD t)], by simp, by simp [is_item_v b hf on t (hw t ht)], by simp⟩
    simp [d_are_items, is_few_v, hl, hl', e, dAll_map, okItms]
  · have hl' : ¬ (w.length : Int) ≤ 6 := by omega
    simp [d_are_items, is_few_v, hl, hl', okItms]
theorem is_add_v (b : Brd) (a : Add) (ρ : Rho) : callD 2 d_is_add none [brdD b, addD a] ρ = .ok (.v (.bool (okAdd b a))) ρ := by
  refine call_v ?_ ρ
  cases h1 : okWhen b true a.w with
  | false => simp [d_is_add, addD, is_tuple_of_v, is_when_v, h1, okAdd]
  | true =>
    cases h3 : okFac a.k with
    | true => by_cases h2 : a.c < b.mn <;> simp [d_is_add, addD, is_tuple_of_v, is_when_v, h1, okAdd, is_within_v, within_n, -withinB_i, h2, is_factor_v, h3, raw_is_field_v]
    | false => by_cases h2 : a.c < b.mn <;> simp [d_is_add, addD, is_tuple_of_v, is_when_v, h1, okAdd, is_within_v, within_n, -withinB_i, h2, is_factor_v, h3]
theorem is_list_v (b : Brd) (hf : b.lv.flatten.length ≤ 1000) (l : List Tst × List Itm) (hw : ∀ t ∈ l.2, smItm t) (ρ : Rho) : callD 2 d_is_list none [brdD b, lsD l] ρ = .ok (.v (.bool (okLs b l))) ρ := by
  refine call_v ?_ ρ
  cases h1 : okWhen b true l.1 <;> simp [d_is_list, lsD, is_tuple_of_v, is_when_v, h1, okLs, are_items_v b hf true l.2 hw]
def smDed : Ded → Prop
  | .pr _ is => ∀ t ∈ is, smItm t
  | _ => True
theorem is_deed_v (b : Brd) (hf : b.lv.flatten.length ≤ 1000) (t : Ded) (ht : smDed t) (ρ : Rho) : callD 2 d_is_deed none [brdD b, dedD t] ρ = .ok (.v (.bool (okDed b t))) ρ := by
  refine call_v ?_ ρ
  cases t with
  | pr w is => cases h1 : okWhen b false w <;> simp [d_is_deed, dedD, is_worded_v, is_when_v, h1, okDed, are_items_v b hf false is ht]
  | roll x y =>
    have e : decide ((x : Int) = (y : Int)) = decide (x = y) := by rw [decide_eq_decide]; omega
    by_cases h1 : x < b.mn
    · by_cases h2 : y < b.mn <;> simp [d_is_deed, dedD, is_worded_v, is_within_v, within_n, -withinB_i, h1, h2, okDed, e]
    · simp [d_is_deed, dedD, is_worded_v, is_within_v, within_n, -withinB_i, h1, okDed]
  | clear x => simp [d_is_deed, dedD, is_worded_v, is_within_v, within_n, -withinB_i, okDed]
theorem are_deeds_v (b : Brd) (hf : b.lv.flatten.length ≤ 1000) (w : List Ded) (hw : ∀ t ∈ w, smDed t) (ρ : Rho) : callD 3 d_are_deeds none [brdD b, dedsD w] ρ = .ok (.v (.bool (okDeds b w))) ρ := by
  refine call_v ?_ ρ
  by_cases hl : w.length ≤ 12
  · have hl' : (w.length : Int) ≤ 12 := by omega
    have e : c_are_deeds_1 [.imm (brdD b), .imm (dedsD w), .undef] = .ok (w.map fun t => .bool (okDed b t)) [.imm (brdD b), .imm (dedsD w), .undef] := by
      unfold c_are_deeds_1
      exact dLc_all dedD (fun t => .bool (okDed b t)) (by simp) rfl (by omega) fun t ht => ⟨[.imm (brdD b), .imm (dedsD w), .imm (dedD t)], by simp, by simp [is_deed_v b hf t (hw t ht)], by simp⟩
    simp [d_are_deeds, is_few_v, hl, hl', e, dAll_map, okDeds]
  · have hl' : ¬ (w.length : Int) ≤ 12 := by omega
    simp [d_are_deeds, is_few_v, hl, hl', okDeds]
structure SmB (b : Brd) : Prop where
  w1 : 1 ≤ b.wd
  w8 : b.wd ≤ 8
  lv : okLv b.wd b.lv
  la : b.la.length ≤ 16777216
  ad : b.ad.length ≤ 16777216
  ls : b.ls.length ≤ 16777216
  to : b.to.length ≤ 16777216
  i1 : ∀ l ∈ b.ls, ∀ t ∈ l.2, smItm t
  i2 : ∀ ds ∈ b.to, ∀ t ∈ ds, smDed t
theorem is_board_v (b : Brd) (h : SmB b) (ρ : Rho) : callD 12 d_is_board none [brdD b] ρ = .ok (.v (.bool (okB b))) ρ := by
  have hf : b.lv.flatten.length ≤ 1000 := by have := h.lv.2.2.1; omega
  refine call_v ?_ ρ
  let R : Slot → Slot → Slot → Slot → Rho := fun s8 s9 s10 s11 => [.imm (brdD b), .imm (.int (b.wd : Int)), .imm (lvD b.lv), .imm (.tuple (b.la.map laD)), .imm (.int (b.mn : Int)), .imm (.tuple (b.ad.map addD)), .imm (.tuple (b.ls.map lsD)), .imm (.tuple (b.to.map dedsD)), s8, s9, s10, s11]
  have e1 : c_is_board_1 (R .undef .undef .undef .undef) = .ok (b.la.map fun t => .bool (okLa b t)) (R .undef .undef .undef .undef) := by
    unfold c_is_board_1
    exact dLc_all laD (fun t => .bool (okLa b t)) (by simp [R]) rfl h.la fun t _ => ⟨R (.imm (laD t)) .undef .undef .undef, by simp [R], by simp [R, is_latch_v], by simp [R]⟩
  have e3 : c_is_board_3 (R .undef .undef .undef .undef) = .ok (b.ad.map fun t => .bool (okAdd b t)) (R .undef .undef .undef .undef) := by
    unfold c_is_board_3
    exact dLc_all addD (fun t => .bool (okAdd b t)) (by simp [R]) rfl h.ad fun t _ => ⟨R .undef (.imm (addD t)) .undef .undef, by simp [R], by simp [R, is_add_v], by simp [R]⟩
  have e2 : c_is_board_2 (R .undef .undef .undef .undef) = .ok (b.ls.map fun t => .bool (okLs b t)) (R .undef .undef .undef .undef) := by
    unfold c_is_board_2
    exact dLc_all lsD (fun t => .bool (okLs b t)) (by simp [R]) rfl h.ls fun t ht => ⟨R .undef .undef (.imm (lsD t)) .undef, by simp [R], by simp [R, is_list_v b hf t (h.i1 t ht)], by simp [R]⟩
  have e4 : c_is_board_4 (R .undef .undef .undef .undef) = .ok (b.to.map fun t => .bool (okDeds b t)) (R .undef .undef .undef .undef) := by
    unfold c_is_board_4
    exact dLc_all dedsD (fun t => .bool (okDeds b t)) (by simp [R]) rfl h.to fun t ht => ⟨R .undef .undef .undef (.imm (dedsD t)), by simp [R], by simp [R, are_deeds_v b hf t (h.i2 t ht)], by simp [R]⟩
  have hw : withinB (.int (b.wd : Int)) 1 8 = true := by have := h.w1; have := h.w8; simp; omega
  have htb : tupB (brdD b) 7 = true := rfl
  have hlen : dLen (lvD b.lv) = some (.int (b.lv.length : Int)) := by simp [lvD]
  have hbd : brdD b = .tuple [.int (b.wd : Int), lvD b.lv, .tuple (b.la.map laD), .int (b.mn : Int), .tuple (b.ad.map addD), .tuple (b.ls.map lsD), .tuple (b.to.map dedsD)] := rfl
  have hbind : bTup (bCons (bName 1) (bCons (bName 2) (bCons (bName 3) (bCons (bName 4) (bCons (bName 5) (bCons (bName 6) (bCons (bName 7) (bNil)))))))) (brdD b) [.imm (brdD b), .undef, .undef, .undef, .undef, .undef, .undef, .undef, .undef, .undef, .undef, .undef] = some (R .undef .undef .undef .undef) := by
    conv => lhs; arg 2; rw [hbd]
    simp [bCons, bNil, R]
  have d3 : ((b.la.length : Int) ≤ 3) = (b.la.length ≤ 3) := by rw [eq_iff_iff]; omega
  have d6 : withinB (.int (b.mn : Int)) 0 6 = decide (b.mn ≤ 6) := by rw [withinB_i, decide_eq_true (by omega), Bool.true_and, decide_eq_decide]; omega
  have d12 : ((b.ad.length : Int) ≤ 12) = (b.ad.length ≤ 12) := by rw [eq_iff_iff]; omega
  have d4 : ((b.ls.length : Int) ≤ 4) = (b.ls.length ≤ 4) := by rw [eq_iff_iff]; omega
  have d1 : ((b.to.length : Int) = (b.lv.length : Int) + 1) = (b.to.length = b.lv.length + 1) := by rw [eq_iff_iff]; omega
  simp only [R] at e1 e2 e3 e4 hbind
  by_cases c1 : b.la.length ≤ 3
  · cases c2 : b.la.all (okLa b) with
    | true =>
      by_cases c3 : b.mn ≤ 6
      · by_cases c4 : b.ad.length ≤ 12
        · by_cases c5 : b.ls.length ≤ 4
          · cases c6 : b.ad.all (okAdd b) with
            | true =>
              cases c7 : b.ls.all (okLs b) with
              | true =>
                by_cases c8 : b.to.length = b.lv.length + 1
                · simp [d_is_board, is_tuple_of_v, is_width_v, is_within_v, are_levels_v _ _ h.lv, htb, hw, hbind, -bTup_e, is_few_v, d3, c1, e1, dAll_map, c2, d6, -withinB_i, c3, d12, c4, d4, c5, e3, e2, c6, c7, hlen, d1, c8, e4, okB, -List.all_eq_true]
                · simp [d_is_board, is_tuple_of_v, is_width_v, is_within_v, are_levels_v _ _ h.lv, htb, hw, hbind, -bTup_e, is_few_v, d3, c1, e1, dAll_map, c2, d6, -withinB_i, c3, d12, c4, d4, c5, e3, e2, c6, c7, hlen, d1, c8, okB, -List.all_eq_true]
              | false => simp [d_is_board, is_tuple_of_v, is_width_v, is_within_v, are_levels_v _ _ h.lv, htb, hw, hbind, -bTup_e, is_few_v, d3, c1, e1, dAll_map, c2, d6, -withinB_i, c3, d12, c4, d4, c5, e3, e2, c6, c7, okB, -List.all_eq_true, -List.all_eq_false]
            | false => simp [d_is_board, is_tuple_of_v, is_width_v, is_within_v, are_levels_v _ _ h.lv, htb, hw, hbind, -bTup_e, is_few_v, d3, c1, e1, dAll_map, c2, d6, -withinB_i, c3, d12, c4, d4, c5, e3, c6, okB, -List.all_eq_true, -List.all_eq_false]
          · simp [d_is_board, is_tuple_of_v, is_width_v, is_within_v, are_levels_v _ _ h.lv, htb, hw, hbind, -bTup_e, is_few_v, d3, c1, e1, dAll_map, c2, d6, -withinB_i, c3, d12, c4, d4, c5, okB, -List.all_eq_true]
        · simp [d_is_board, is_tuple_of_v, is_width_v, is_within_v, are_levels_v _ _ h.lv, htb, hw, hbind, -bTup_e, is_few_v, d3, c1, e1, dAll_map, c2, d6, -withinB_i, c3, d12, c4, okB, -List.all_eq_true]
      · simp [d_is_board, is_tuple_of_v, is_width_v, is_within_v, are_levels_v _ _ h.lv, htb, hw, hbind, -bTup_e, is_few_v, d3, c1, e1, dAll_map, c2, d6, -withinB_i, c3, okB, -List.all_eq_true]
    | false => simp [d_is_board, is_tuple_of_v, is_width_v, is_within_v, are_levels_v _ _ h.lv, htb, hw, hbind, -bTup_e, is_few_v, d3, c1, e1, dAll_map, c2, okB, -List.all_eq_true, -List.all_eq_false]
  · simp [d_is_board, is_tuple_of_v, is_width_v, is_within_v, are_levels_v _ _ h.lv, htb, hw, hbind, -bTup_e, is_few_v, d3, c1, okB]
/-- the hand of a law: its cells, the place, what is left of a great cell, the state, the count -/
def hand (cs : List Int) (p : Nat) (q r s : Int) : List D := [.list (cs.map .int), .int p, .int q, .int r, .int s]
@[simp] theorem cmul_a (x y : Int) : CMul (x % 2147483647) y := .inl (by omega)
@[simp] theorem cmul_b (y : Int) : CMul 7919 y := .inl (by decide)
@[simp] theorem cmul_c (y : Int) : CMul y 48271 := .inr (by decide)
@[simp] theorem cmul_d (y : Int) : CMul y 40692 := .inr (by decide)
@[simp] theorem cmul_e (y : Int) : CMul y 69621 := .inr (by decide)
@[simp] theorem cmul_f (y : Int) : CMul 7 y := .inl (by decide)
theorem draw_body (cs : List Int) (p : Nat) (q r s many : Int) (hc : ∀ c ∈ cs, 0 ≤ c) (h0 : 0 < many) (h1 : many < 1073741824) (hq : 0 ≤ q) :
    ∃ (v : Int) (p' : Nat) (q' r' s' : Int) (ρ' : Rho), d__law_draw [.io (hand cs p q r s), .imm (.int many), .undef, .undef, .undef] = .ret (.int v) (.io (hand cs p' q' r' s') :: ρ') ∧ 0 ≤ v ∧ v < many ∧ 0 ≤ q' := by
  have hm : ∀ x : Int, 0 ≤ x % many ∧ x % many < many := fun x => ⟨Int.emod_nonneg _ (by omega), Int.emod_lt_of_pos _ h0⟩
  have hd : ∀ x : Int, 0 ≤ x → 0 ≤ x / many := fun x hx => Int.ediv_nonneg hx (by omega)
  generalize ho : d__law_draw [.io (hand cs p q r s), .imm (.int many), .undef, .undef, .undef] = o
  unfold d__law_draw hand at ho
  by_cases hh : q = 0 ∧ p < cs.length
  · obtain ⟨e, hp⟩ := hh
    have hp' : (p : Int) < (cs.length : Int) := by omega
    by_cases hb : (10 : Int) ^ 18 ≤ cs[p]
    · have hb' : 0 < cs[p] := by omega
      have hb2 : 1000000000000000000 ≤ cs[p] := by simpa using hb
      simp [atI, ixN, hp, hp', h0, h1, hb2, hb', e] at ho
      subst ho
      exact ⟨cs[p] % many, p + 1, cs[p] / many, _, s, _, rfl, (hm _).1, (hm _).2, hd _ (by omega)⟩
    · have hb2 : ¬ 1000000000000000000 ≤ cs[p] := by simpa using hb
      simp [atI, ixN, hp, hp', h0, h1, hb2, e] at ho
      subst ho
      exact ⟨_, p + 1, 0, _, s + 1, _, rfl, (hm _).1, (hm _).2, Int.le_refl _⟩
  · by_cases hq0 : 0 < q
    · simp [atI, ixN, Int.ne_of_gt hq0, hq0, h0, h1] at ho
      subst ho
      exact ⟨q % many, p, q / many, r, s, _, rfl, (hm _).1, (hm _).2, hd _ hq⟩
    · have : q = 0 := by omega
      subst this
      have hp : ¬ p < cs.length := fun h => hh ⟨rfl, h⟩
      have hp' : ¬ ((p : Int) < (cs.length : Int)) := by omega
      simp [atI, ixN, hp, hp', h0, h1] at ho
      subst ho
      exact ⟨_, p, 0, r, s + 1, _, rfl, (hm _).1, (hm _).2, Int.le_refl _⟩

def Hd (ds : List D) : Prop := ∃ (cs : List Int) (p : Nat) (q r s : Int), ds = hand cs p q r s ∧ (∀ c ∈ cs, 0 ≤ c) ∧ 0 ≤ q
/-- one draw -/
theorem draw {ds : List D} (h : Hd ds) (many : Nat) (h0 : 0 < many) (h1 : many < 1073741824) :
    ∃ (v : Nat) (ds' : List D), v < many ∧ Hd ds' ∧ ∀ (ρ : Rho) (i : Nat), ρ.lst? i = some ds → callD 5 d__law_draw (some i) [.int (many : Int)] ρ = .ok (.v (.int (v : Int))) (ρ.put i ds') := by
  obtain ⟨cs, p, q, r, s, rfl, hc, hq⟩ := h
  obtain ⟨v, p', q', r', s', ρ', e, v0, v1, hq'⟩ := draw_body cs p q r s many hc (by omega) (by omega) hq
  refine ⟨v.toNat, hand cs p' q' r' s', by omega, ⟨cs, p', q', r', s', rfl, hc, hq'⟩, fun ρ i hi => call_h hi ⟨ρ', ?_⟩⟩
  have ev : ((v.toNat : Nat) : Int) = v := by omega
  rw [ev]
  exact e
theorem any_ {ds : List D} (h : Hd ds) (xs : List D) (h0 : xs ≠ []) (h1 : xs.length < 1073741824) :
    ∃ (x : D) (ds' : List D), x ∈ xs ∧ Hd ds' ∧ ∀ (ρ : Rho) (i : Nat), ρ.lst? i = some ds → callD 2 d__law_any (some i) [.list xs] ρ = .ok (.v x) (ρ.put i ds') := by
  have hl : 0 < xs.length := List.length_pos_iff.mpr h0
  obtain ⟨v, ds', hv, hd, e⟩ := draw h xs.length hl h1
  refine ⟨xs[v], ds', List.getElem_mem hv, hd, fun ρ i hi => ?_⟩
  have hx : xs[v]? = some xs[v] := List.getElem?_eq_getElem hv
  refine call_h hi ?_
  have e0 := e [.io ds, .imm (.list xs)] 0 rfl
  simp [d__law_any, e0, atI_nat, hx]
theorem anyT {ds : List D} (h : Hd ds) (xs : List D) (h0 : xs ≠ []) (h1 : xs.length < 1073741824) :
    ∃ (x : D) (ds' : List D), x ∈ xs ∧ Hd ds' ∧ ∀ (ρ : Rho) (i : Nat), ρ.lst? i = some ds → callD 2 d__law_any (some i) [.tuple xs] ρ = .ok (.v x) (ρ.put i ds') := by
  have hl : 0 < xs.length := List.length_pos_iff.mpr h0
  obtain ⟨v, ds', hv, hd, e⟩ := draw h xs.length hl h1
  refine ⟨xs[v], ds', List.getElem_mem hv, hd, fun ρ i hi => ?_⟩
  have hx : xs[v]? = some xs[v] := List.getElem?_eq_getElem hv
  refine call_h hi ?_
  have e0 := e [.io ds, .imm (.tuple xs)] 0 rfl
  simp [d__law_any, e0, atI_nat, hx]
theorem hand_start (ns : List Int) (hl : ns.length ≤ 63) : ∃ ds ρ', d__law_hand [.scr ns [], .undef, .undef] = .retN ds ρ' ∧ Hd ds := by
  have ec : ns.take 63 = ns := List.take_of_length_le hl
  have e1 : c__law_hand_1 [.scr ns [], .undef, .undef] = .ok (ns.map fun i => .int (if i < 0 then -i else i)) [.scr ns [], .undef, .undef] := by
    unfold c__law_hand_1
    refine dLc_pure (g := .int) (ds := ns) (s := .undef) _ ?_ rfl rfl (by omega) fun n hn => ?_
    · have := cutD_0n ns 63
      simp only [Int.cast_ofNat_Int] at this
      simp [this, ec]
    · simp
  generalize ho : d__law_hand [.scr ns [], .undef, .undef] = o
  unfold d__law_hand at ho
  simp [e1] at ho
  subst ho
  refine ⟨_, _, rfl, ns.map fun i => if i < 0 then -i else i, 0, 0, 83 + 7 * (ns.length : Int), 0, ?_, ?_, by omega⟩
  · unfold hand
    simp
  · intro c h
    obtain ⟨n, _, rfl⟩ := List.mem_map.mp h
    split <;> omega
/-! ### draws -/
/-- a def that draws gives x with P -/
def Drw {α : Type} (n : Nat) (body : Rho → Out) (args : List D) (g : α → Res) (P : α → Prop) (ds : List D) : Prop :=
  ∃ (x : α) (ds' : List D), P x ∧ Hd ds' ∧ (∀ (r : List Slot), callD n body (some 0) args (.io ds :: r) = .ok (g x) (.io ds' :: r)) ∧ ∀ (s : Slot) (r : List Slot), callD n body (some 1) args (s :: .own ds :: r) = .ok (g x) (s :: .own ds' :: r)
theorem Drw.of {α : Type} {n : Nat} {body : Rho → Out} {args : List D} {g : α → Res} {P : α → Prop} {ds ds' : List D} {x : α} (p : P x) (h : Hd ds') (e : ∀ (ρ : Rho) (i : Nat), ρ.lst? i = some ds → callD n body (some i) args ρ = .ok (g x) (ρ.put i ds')) : Drw n body args g P ds :=
  ⟨x, ds', p, h, fun r => by rw [e (.io ds :: r) 0 rfl]; rfl, fun s r => by rw [e (s :: .own ds :: r) 1 rfl]; rfl⟩
theorem Drw.v {α : Type} {n : Nat} {body : Rho → Out} {args : List D} {g : α → D} {P : α → Prop} {ds ds' : List D} {x : α} (p : P x) (h : Hd ds') (e : ∃ ρ', body (.io ds :: (args.map .imm ++ List.replicate (n - (1 + args.length)) .undef)) = .ret (g x) (.io ds' :: ρ')) : Drw n body args (fun x => .v (g x)) P ds :=
  Drw.of p h fun ρ i hi => call_h hi e
theorem Drw.n {α : Type} {n : Nat} {body : Rho → Out} {args : List D} {g : α → List D} {P : α → Prop} {ds ds' : List D} {x : α} (p : P x) (h : Hd ds') (e : ∃ ρ', body (.io ds :: (args.map .imm ++ List.replicate (n - (1 + args.length)) .undef)) = .retN (g x) (.io ds' :: ρ')) : Drw n body args (fun x => .n (g x)) P ds :=
  Drw.of p h fun ρ i hi => call_hn hi e
theorem drw {ds : List D} (h : Hd ds) (m : Int) (h0 : 0 < m) (h1 : m < 1073741824) : Drw 5 d__law_draw [.int m] (fun v : Nat => .v (.int (v : Int))) (fun v => (v : Int) < m) ds := by
  obtain ⟨v, ds', hv, hd, e⟩ := draw h m.toNat (by omega) (by omega)
  rw [show ((m.toNat : Nat) : Int) = m by omega] at e
  exact Drw.of (by show (v : Int) < m; omega) hd e
theorem dany {ds : List D} (h : Hd ds) (xs : List D) (h0 : xs ≠ []) (h1 : xs.length < 1073741824) : Drw 2 d__law_any [.list xs] (fun x : D => .v x) (fun x => x ∈ xs) ds := by
  obtain ⟨x, ds', hx, hd, e⟩ := any_ h xs h0 h1
  exact Drw.of hx hd e
theorem danyT {ds : List D} (h : Hd ds) (xs : List D) (h0 : xs ≠ []) (h1 : xs.length < 1073741824) : Drw 2 d__law_any [.tuple xs] (fun x : D => .v x) (fun x => x ∈ xs) ds := by
  obtain ⟨x, ds', hx, hd, e⟩ := anyT h xs h0 h1
  exact Drw.of hx hd e
def dTst (wd nla : Nat) (tot : Bool) : Tst → Prop
  | .sg c s _ => tot = false ∧ c < wd ∧ s ∈ [120, 49, 46]
  | .lt n _ => n = 0 ∧ nla = 1
def dWhen (wd nla : Nat) (tot : Bool) (w : List Tst) : Prop := w = [] ∨ ∃ t, w = [t] ∧ dTst wd nla tot t
def dFld (wd a m : Nat) : Prop := a < wd ∧ 1 ≤ m ∧ m ≤ 2 ∧ a + m ≤ wd
def dPrs (mn : Nat) (ps : List (Int × Nat)) : Prop := (∃ k a, k ∈ [(1 : Int), -1, 2] ∧ a < mn ∧ ps = [(k, a)]) ∨ ∃ k a k2, k ∈ [(1 : Int), -1, 2] ∧ a + 1 < mn ∧ k2 ∈ [(1 : Int), -1] ∧ ps = [(k, a), (k2, a + 1)]
def dAddP (wd nla mn : Nat) (a : Add) : Prop := dWhen wd nla false a.w ∧ a.c < mn ∧ a.k ∈ [(1 : Int), -1, 2, -3] ∧ dFld wd a.f a.m
def dItm (wd mn : Nat) : Itm → Prop
  | .sign c => c = 0
  | .field a m => dFld wd a m
  | .word w => w = [99, 97, 114, 100]
  | .sum ps => dPrs mn ps
  | _ => False
def dKey (lv : List (List Nat)) (y : List Itm) : Prop := y = [] ∨ ∃ c, lv = [[c]] ∧ y = [.key c]
def dLs (wd : Nat) (lv : List (List Nat)) (nla mn : Nat) (l : List Tst × List Itm) : Prop := dWhen wd nla false l.1 ∧ ∃ i y, dItm wd mn i ∧ dKey lv y ∧ l.2 = i :: y
def dDed (lv : List (List Nat)) (nla mn : Nat) : Ded → Prop
  | .clear a => a < mn
  | .roll a b => 1 < mn ∧ a < mn ∧ b = (a + 1) % mn
  | .pr w is => dWhen 0 nla true w ∧ ∃ ps x y, dPrs mn ps ∧ x ∈ [[], [Itm.word [115, 117, 109]], [Itm.num 7]] ∧ dKey lv y ∧ is = .sum ps :: (x ++ y)
/-- one latch or none -/
def dLa (la : List (Nat × Nat × Nat)) : Prop := la = [] ∨ ∃ l, la = [l] ∧ l.2.1 < 1114112
def dLv (lv : List (List Nat)) : Prop := lv = [] ∨ ∃ c, lv = [[c]]
theorem ly_la (l : Nat × Nat × Nat) (h : l.2.1 < 1114112) : Ly 1 (laD l) := ly_t fun x hx => by
  simp only [List.mem_cons, List.not_mem_nil, or_false] at hx
  rcases hx with rfl | rfl | rfl
  · exact ly_i _
  · exact ly_s (by simpa using h)
  · exact ly_i _
theorem ly_nil {n : Nat} : Ly (n + 1) (.tuple []) := ly_t fun x hx => by simp at hx
theorem ne_la {la : List (Nat × Nat × Nat)} (h : dLa la) : dNe (.tuple (la.map laD)) (.tuple []) = some (.bool (!decide (la = []))) := by
  rcases h with rfl | ⟨l, rfl, hl⟩
  · exact dNe_same (n := 1) ly_nil
  · rw [dNe_ly (n := 2) (ly_tm (n := 1) fun x hx => by simp at hx; subst hx; exact ly_la _ hl) (ly_nil (n := 1))]
    simp [PyData.eqv, PyData.eqvAll]
theorem ly_lot (l : List Nat) : Ly 1 (lotD l) := ly_tm fun x _ => ly_i _
theorem ne_lv {lv : List (List Nat)} (h : dLv lv) : dNe (lvD lv) (.tuple []) = some (.bool (!decide (lv = []))) := by
  rcases h with rfl | ⟨l, rfl⟩
  · exact dNe_same (n := 1) ly_nil
  · rw [lvD, dNe_ly (n := 2) (ly_tm (n := 1) fun x _ => ly_lot x) (ly_nil (n := 1))]
    simp [PyData.eqv, PyData.eqvAll]
theorem lwhen {ds : List D} (h : Hd ds) (w : Nat) (la : List (Nat × Nat × Nat)) (tot : Bool) (hl : dLa la) (hw : tot = false → 0 < w ∧ w ≤ 100) :
    Drw 4 d__law_when [.int (w : Int), .tuple (la.map laD), .bool tot] (fun t => .v (whenD t)) (dWhen w la.length tot) ds := by
  have nla := ne_la hl
  obtain ⟨v1, ds1, l1, h1, e1, _⟩ := drw h 2 (by decide) (by decide)
  by_cases z1 : v1 = 0
  · subst z1
    exact Drw.v (x := []) (.inl rfl) h1 (by simp [d__law_when, e1, whenD])
  · have z1' : ¬ (v1 : Int) = 0 := by omega
    obtain ⟨v2, ds2, l2, h2, e2, _⟩ := drw h1 2 (by decide) (by decide)
    obtain ⟨v3, ds3, l3, h3, e3, _⟩ := drw h2 2 (by decide) (by decide)
    have lt : la ≠ [] → la.length = 1 := fun hn => by rcases hl with rfl | ⟨l, rfl, _⟩; exact absurd rfl hn; rfl
    cases tot with
    | true =>
      by_cases hn : la = []
      · subst hn
        simp at nla
        exact Drw.v (x := []) (.inl rfl) h1 (by simp [d__law_when, e1, z1, nla, whenD])
      · simp [hn] at nla
        exact Drw.v (x := [.lt 0 (decide (v2 = 0))]) (.inr ⟨_, rfl, rfl, lt hn⟩) h2 (by simp [d__law_when, e1, z1, nla, e2, whenD, tstD])
    | false =>
      obtain ⟨w0, w1⟩ := hw rfl
      have sgc : ∀ {dsa : List D} (ha : Hd dsa), ∃ (c s : Nat) (dsb dsc dsd : List D) (v5 : Nat), c < w ∧ s ∈ [120, 49, 46] ∧ Hd dsd ∧ (∀ (r : List Slot), callD 5 d__law_draw (some 0) [.int (w : Int)] (.io dsa :: r) = .ok (.v (.int (c : Int))) (.io dsb :: r)) ∧
          (∀ (r : List Slot), callD 2 d__law_any (some 0) [.list [.str (mk [120]), .str (mk [49]), .str (mk [46])]] (.io dsb :: r) = .ok (.v (.str (mk [s]))) (.io dsc :: r)) ∧
          (∀ (r : List Slot), callD 5 d__law_draw (some 0) [.int 2] (.io dsc :: r) = .ok (.v (.int (v5 : Int))) (.io dsd :: r)) := fun {dsa} ha => by
        obtain ⟨c, dsb, lc, hb, ec, _⟩ := drw ha (w : Int) (by omega) (by omega)
        obtain ⟨x, dsc, mx, hc, ex, _⟩ := dany hb [.str (mk [120]), .str (mk [49]), .str (mk [46])] (by simp) (by simp)
        obtain ⟨v5, dsd, l5, hd, e5, _⟩ := drw hc 2 (by decide) (by decide)
        simp only [List.mem_cons, List.not_mem_nil, or_false] at mx
        rcases mx with rfl | rfl | rfl
        · exact ⟨c, 120, dsb, dsc, dsd, v5, by omega, by simp, hd, ec, ex, e5⟩
        · exact ⟨c, 49, dsb, dsc, dsd, v5, by omega, by simp, hd, ec, ex, e5⟩
        · exact ⟨c, 46, dsb, dsc, dsd, v5, by omega, by simp, hd, ec, ex, e5⟩
      by_cases hn : la = []
      · subst hn
        obtain ⟨c, s, dsb, dsc, dsd, v5, k1, k2, k3, ec, ex, e5⟩ := sgc h1
        simp at nla
        exact Drw.v (x := [.sg c s (decide (v5 = 0))]) (.inr ⟨_, rfl, rfl, k1, k2⟩) k3 (by simp [d__law_when, e1, z1, nla, ec, ex, e5, whenD, tstD])
      · simp [hn] at nla
        by_cases z2 : v2 = 0
        · subst z2
          exact Drw.v (x := [.lt 0 (decide (v3 = 0))]) (.inr ⟨_, rfl, rfl, lt hn⟩) h3 (by simp [d__law_when, e1, z1, nla, e2, e3, whenD, tstD])
        · have z2' : ¬ (v2 : Int) = 0 := by omega
          obtain ⟨c, s, dsb, dsc, dsd, v5, k1, k2, k3, ec, ex, e5⟩ := sgc h2
          exact Drw.v (x := [.sg c s (decide (v5 = 0))]) (.inr ⟨_, rfl, rfl, k1, k2⟩) k3 (by simp [d__law_when, e1, z1, nla, e2, z2, ec, ex, e5, whenD, tstD])
theorem lfield {ds : List D} (h : Hd ds) (w : Nat) (h0 : 0 < w) (h1 : w ≤ 100) : Drw 3 d__law_field [.int (w : Int)] (fun p : Nat × Nat => .v (fldD p.1 p.2)) (fun p => dFld w p.1 p.2) ds := by
  obtain ⟨a, ds1, l1, h1, e1, _⟩ := drw h (w : Int) (by omega) (by omega)
  obtain ⟨m, ds2, l2, h2, e2, _⟩ := drw h1 (if (w : Int) - (a : Int) < 2 then (w : Int) - (a : Int) else 2) (by split <;> omega) (by split <;> omega)
  refine Drw.v (x := (a, 1 + m)) (g := fun p : Nat × Nat => fldD p.1 p.2) ⟨by show a < w; omega, by show 1 ≤ 1 + m; omega, ?_, ?_⟩ h2 ?_
  · show 1 + m ≤ 2; split at l2 <;> omega
  · show a + (1 + m) ≤ w; split at l2 <;> omega
  · simp [d__law_field, e1, dMin2, e2, fldD]
theorem lsum {ds : List D} (h : Hd ds) (mn : Nat) (h0 : 0 < mn) (h1 : mn ≤ 100) : Drw 4 d__law_sum [.int (mn : Int)] (fun ps => .v (itmD (.sum ps))) (dPrs mn) ds := by
  obtain ⟨a, ds1, l1, h1, e1, _⟩ := drw h (mn : Int) (by omega) (by omega)
  obtain ⟨x, ds2, l2, h2, e2, _⟩ := dany h1 [.int 1, .int (-1), .int 2] (by simp) (by simp)
  obtain ⟨k, hk, rfl⟩ : ∃ k : Int, k ∈ [(1 : Int), -1, 2] ∧ x = .int k := by
    simp only [List.mem_cons, List.not_mem_nil, or_false] at l2
    rcases l2 with rfl | rfl | rfl <;> exact ⟨_, by simp, rfl⟩
  have al : a < mn := by omega
  by_cases c1 : a + 1 < mn
  · have c1' : (a : Int) + 1 < (mn : Int) := by omega
    obtain ⟨v, ds3, l3, h3, e3, _⟩ := drw h2 2 (by decide) (by decide)
    by_cases z : v = 0
    · obtain ⟨y, ds4, l4, h4, e4, _⟩ := dany h3 [.int 1, .int (-1)] (by simp) (by simp)
      obtain ⟨k2, hk2, rfl⟩ : ∃ k : Int, k ∈ [(1 : Int), -1] ∧ y = .int k := by
        simp only [List.mem_cons, List.not_mem_nil, or_false] at l4
        rcases l4 with rfl | rfl <;> exact ⟨_, by simp, rfl⟩
      exact Drw.v (x := [(k, a), (k2, a + 1)]) (.inr ⟨k, a, k2, hk, c1, hk2, rfl⟩) h4 (by simp [d__law_sum, e1, e2, c1', e3, z, e4, itmD, prD])
    · exact Drw.v (x := [(k, a)]) (.inl ⟨k, a, hk, al, rfl⟩) h3 (by simp [d__law_sum, e1, e2, c1', e3, z, itmD, prD])
  · have c1' : ¬ (a : Int) + 1 < (mn : Int) := by omega
    exact Drw.v (x := [(k, a)]) (.inl ⟨k, a, hk, al, rfl⟩) h2 (by simp [d__law_sum, e1, e2, c1', itmD, prD])
theorem ladd {ds : List D} (h : Hd ds) (w : Nat) (la : List (Nat × Nat × Nat)) (mn : Nat) (hl : dLa la) (w0 : 0 < w) (w1 : w ≤ 100) (h0 : 0 < mn) (h1 : mn ≤ 100) :
    Drw 5 d__law_add [.int (w : Int), .tuple (la.map laD), .int (mn : Int)] (fun a => .v (addD a)) (dAddP w la.length mn) ds := by
  obtain ⟨x, ds1, l1, h1, e1, _⟩ := dany h [.int 1, .int 1, .int (-1), .int 2, .int (-3)] (by simp) (by simp)
  obtain ⟨k, hk, rfl⟩ : ∃ k : Int, k ∈ [(1 : Int), -1, 2, -3] ∧ x = .int k := by
    simp only [List.mem_cons, List.not_mem_nil, or_false] at l1
    rcases l1 with rfl | rfl | rfl | rfl | rfl <;> exact ⟨_, by simp, rfl⟩
  obtain ⟨t, ds2, l2, h2, e2, _⟩ := lwhen h1 w la false hl fun _ => ⟨w0, w1⟩
  obtain ⟨c, ds3, l3, h3, e3, _⟩ := drw h2 (mn : Int) (by omega) (by omega)
  obtain ⟨⟨f, m⟩, ds4, l4, h4, e4, _⟩ := lfield h3 w w0 w1
  exact Drw.v (x := ⟨t, c, k, f, m⟩) ⟨l2, by show c < mn; omega, hk, l4⟩ h4 (by simp [d__law_add, e1, e2, e3, e4, addD])
theorem llist {ds : List D} (h : Hd ds) (w : Nat) (lv : List (List Nat)) (la : List (Nat × Nat × Nat)) (mn : Nat) (hv : dLv lv) (hl : dLa la) (w0 : 0 < w) (w1 : w ≤ 100) (h0 : 0 < mn) (h1 : mn ≤ 100) :
    Drw 6 d__law_list [.int (w : Int), lvD lv, .tuple (la.map laD), .int (mn : Int)] (fun l => .v (lsD l)) (dLs w lv la.length mn) ds := by
  obtain ⟨⟨f, m⟩, ds1, l1, h1, e1, _⟩ := lfield h w w0 w1
  obtain ⟨ps, ds2, l2, h2, e2, _⟩ := lsum h1 mn (by omega) (by omega)
  obtain ⟨x, ds3, l3, h3, e3, _⟩ := dany h2 [itmD (.sign 0), .tuple [.str (mk [102, 105, 101, 108, 100]), fldD f m], itmD (.word [99, 97, 114, 100]), itmD (.sum ps)] (by simp) (by simp)
  obtain ⟨i, hi, rfl⟩ : ∃ i : Itm, dItm w mn i ∧ x = itmD i := by
    simp only [List.mem_cons, List.not_mem_nil, or_false] at l3
    rcases l3 with rfl | rfl | rfl | rfl
    · exact ⟨.sign 0, rfl, rfl⟩
    · exact ⟨.field f m, l1, rfl⟩
    · exact ⟨.word _, rfl, rfl⟩
    · exact ⟨.sum ps, l2, rfl⟩
  have e3' : ∀ (r : List Slot), callD 2 d__law_any (some 0) [.list [.tuple [.str (mk [115, 105, 103, 110]), .int 0], .tuple [.str (mk [102, 105, 101, 108, 100]), fldD f m], .tuple [.str (mk [119, 111, 114, 100]), .str (mk [99, 97, 114, 100])], itmD (.sum ps)]] (.io ds2 :: r) = .ok (.v (itmD i)) (.io ds3 :: r) := e3
  have nlv := ne_lv hv
  rcases hv with rfl | ⟨c, rfl⟩
  · obtain ⟨t, ds4, l4, h4, e4, _⟩ := lwhen h3 w la false hl fun _ => ⟨w0, w1⟩
    simp only [lvD, List.map_nil] at nlv ⊢
    exact Drw.v (x := (t, [i])) ⟨l4, i, [], hi, .inl rfl, rfl⟩ h4 (by simp [d__law_list, e1, e2, e3', nlv, e4, lsD, itmsD])
  · obtain ⟨v, ds5, l5, h5, e5, _⟩ := drw h3 3 (by decide) (by decide)
    obtain ⟨t, ds4, l4, h4, e4, _⟩ := lwhen h5 w la false hl fun _ => ⟨w0, w1⟩
    have i1 : dIx (lvD [[c]]) (.int 0) = some (lotD [c]) := by simp [lvD]
    have i2 : dIx (lotD [c]) (.int 0) = some (.int (c : Int)) := by simp [lotD]
    by_cases z : v = 0
    · exact Drw.v (x := (t, [i, .key c])) ⟨l4, i, [.key c], hi, .inr ⟨c, rfl, rfl⟩, rfl⟩ h4 (by simp [d__law_list, e1, e2, e3', nlv, e5, z, e4, lsD, itmsD, i1, i2, show itmD (.key c) = .tuple [.str (mk [107, 101, 121]), .int (c : Int)] from rfl])
    · exact Drw.v (x := (t, [i])) ⟨l4, i, [], hi, .inl rfl, rfl⟩ h4 (by simp [d__law_list, e1, e2, e3', nlv, e5, z, e4, lsD, itmsD])
theorem ldeed {ds : List D} (h : Hd ds) (lv : List (List Nat)) (la : List (Nat × Nat × Nat)) (mn : Nat) (hv : dLv lv) (hl : dLa la) (h0 : 0 < mn) (h1 : mn ≤ 100) :
    Drw 7 d__law_one_deed [lvD lv, .tuple (la.map laD), .int (mn : Int)] (fun l => .v (dedD l)) (dDed lv la.length mn) ds := by
  obtain ⟨x, ds1, l1, h1, e1, _⟩ := dany h [.str (mk [112, 114, 105, 110, 116]), .str (mk [112, 114, 105, 110, 116]), .str (mk [99, 108, 101, 97, 114]), .str (mk [114, 111, 108, 108])] (by simp) (by simp)
  obtain ⟨a, ds2, l2, h2, e2, _⟩ := drw h1 (mn : Int) (by omega) (by omega)
  have am : a < mn := by omega
  have hpos : (0 : Int) < (mn : Int) := by omega
  have hmod : ((a : Int) + 1) % (mn : Int) = (((a + 1) % mn : Nat) : Int) := by rw [Int.natCast_emod]; simp
  have pr : ∀ (x : List Nat), (x = [112, 114, 105, 110, 116] ∨ (x = [114, 111, 108, 108] ∧ ¬ 1 < mn)) → (∀ (r : List Slot), callD 2 d__law_any (some 0) [.list [.str (mk [112, 114, 105, 110, 116]), .str (mk [112, 114, 105, 110, 116]), .str (mk [99, 108, 101, 97, 114]), .str (mk [114, 111, 108, 108])]] (.io ds :: r) = .ok (.v (.str (mk x))) (.io ds1 :: r)) → Drw 7 d__law_one_deed [lvD lv, .tuple (la.map laD), .int (mn : Int)] (fun l => .v (dedD l)) (dDed lv la.length mn) ds := fun x hx e1 => by
    have t1 : ¬ x = [99, 108, 101, 97, 114] := by rcases hx with rfl | ⟨rfl, _⟩ <;> decide
    have t2 : x = [114, 111, 108, 108] → ¬ (1 : Int) < (mn : Int) := by
      rcases hx with rfl | ⟨rfl, h⟩
      · intro h; exact absurd h (by decide)
      · intro _; omega
    obtain ⟨ps, ds3, l3, h3, e3, _⟩ := lsum h1 mn (by omega) (by omega)
    obtain ⟨y, ds4, l4, h4, e4, _⟩ := dany h3 [.list [], .list [itmD (.word [115, 117, 109])], .list [itmD (.num 7)]] (by simp) (by simp)
    obtain ⟨xs, hxs, rfl⟩ : ∃ xs : List Itm, xs ∈ [[], [Itm.word [115, 117, 109]], [Itm.num 7]] ∧ y = .list (xs.map itmD) := by
      simp only [List.mem_cons, List.not_mem_nil, or_false] at l4
      rcases l4 with rfl | rfl | rfl
      · exact ⟨[], by simp, rfl⟩
      · exact ⟨[.word [115, 117, 109]], by simp, rfl⟩
      · exact ⟨[.num 7], by simp, rfl⟩
    have e4' : ∀ (r : List Slot), callD 2 d__law_any (some 0) [.list [.list [], .list [.tuple [.str (mk [119, 111, 114, 100]), .str (mk [115, 117, 109])]], .list [.tuple [.str (mk [110, 117, 109, 98, 101, 114]), .int 7]]]] (.io ds3 :: r) = .ok (.v (.list (xs.map itmD))) (.io ds4 :: r) := e4
    have xl : xs.length ≤ 1 := by
      simp only [List.mem_cons, List.not_mem_nil, or_false] at hxs
      rcases hxs with rfl | rfl | rfl <;> decide
    have nlv := ne_lv hv
    rcases hv with rfl | ⟨c, rfl⟩
    · obtain ⟨t, ds5, l5, h5, e5, _⟩ := lwhen h4 0 la true hl fun h => by cases h
      replace e5 : ∀ (r : List Slot), callD 4 d__law_when (some 0) [.int 0, .tuple (la.map laD), .bool true] (.io ds4 :: r) = .ok (.v (whenD t)) (.io ds5 :: r) := e5
      simp only [lvD, List.map_nil] at nlv ⊢
      have b1 : xs.length + 1 ≤ 16777216 := by omega
      have b0 : 1 + xs.length ≤ 16777216 := by omega
      by_cases c4 : x = [114, 111, 108, 108]
      · have := t2 c4
        exact Drw.v (x := .pr t (.sum ps :: (xs ++ []))) ⟨l5, ps, xs, [], l3, hxs, .inl rfl, rfl⟩ h5 (by simp [d__law_one_deed, e1, t1, c4, this, e3, e4', b0, b1, nlv, e5, dedD, itmsD])
      · exact Drw.v (x := .pr t (.sum ps :: (xs ++ []))) ⟨l5, ps, xs, [], l3, hxs, .inl rfl, rfl⟩ h5 (by simp [d__law_one_deed, e1, t1, c4, e3, e4', b0, b1, nlv, e5, dedD, itmsD])
    · obtain ⟨v, ds6, l6, h6, e6, _⟩ := drw h4 2 (by decide) (by decide)
      obtain ⟨t, ds5, l5, h5, e5, _⟩ := lwhen h6 0 la true hl fun h => by cases h
      replace e5 : ∀ (r : List Slot), callD 4 d__law_when (some 0) [.int 0, .tuple (la.map laD), .bool true] (.io ds6 :: r) = .ok (.v (whenD t)) (.io ds5 :: r) := e5
      have i1 : dIx (lvD [[c]]) (.int 0) = some (lotD [c]) := by simp [lvD]
      have i2 : dIx (lotD [c]) (.int 0) = some (.int (c : Int)) := by simp [lotD]
      have b1 : xs.length + 1 ≤ 16777216 := by omega
      have b0 : 1 + xs.length ≤ 16777216 := by omega
      have b2 : xs.length + 1 + 1 ≤ 16777216 := by omega
      by_cases z : v = 0
      · by_cases c4 : x = [114, 111, 108, 108]
        · have := t2 c4
          exact Drw.v (x := .pr t (.sum ps :: (xs ++ [.key c]))) ⟨l5, ps, xs, [.key c], l3, hxs, .inr ⟨c, rfl, rfl⟩, rfl⟩ h5 (by simp [d__law_one_deed, e1, t1, c4, this, e3, e4', b0, b1, b2, nlv, e6, z, e5, dedD, itmsD, i1, i2, itmD])
        · exact Drw.v (x := .pr t (.sum ps :: (xs ++ [.key c]))) ⟨l5, ps, xs, [.key c], l3, hxs, .inr ⟨c, rfl, rfl⟩, rfl⟩ h5 (by simp [d__law_one_deed, e1, t1, c4, e3, e4', b0, b1, b2, nlv, e6, z, e5, dedD, itmsD, i1, i2, itmD])
      · by_cases c4 : x = [114, 111, 108, 108]
        · have := t2 c4
          exact Drw.v (x := .pr t (.sum ps :: (xs ++ []))) ⟨l5, ps, xs, [], l3, hxs, .inl rfl, rfl⟩ h5 (by simp [d__law_one_deed, e1, t1, c4, this, e3, e4', b0, b1, b2, nlv, e6, z, e5, dedD, itmsD])
        · exact Drw.v (x := .pr t (.sum ps :: (xs ++ []))) ⟨l5, ps, xs, [], l3, hxs, .inl rfl, rfl⟩ h5 (by simp [d__law_one_deed, e1, t1, c4, e3, e4', b0, b1, b2, nlv, e6, z, e5, dedD, itmsD])
  simp only [List.mem_cons, List.not_mem_nil, or_false] at l1
  rcases l1 with rfl | rfl | rfl | rfl
  · exact pr _ (.inl rfl) e1
  · exact pr _ (.inl rfl) e1
  · exact Drw.v (x := .clear a) am h2 (by simp [d__law_one_deed, e1, e2, dedD])
  · by_cases c1 : 1 < mn
    · have c1' : (1 : Int) < (mn : Int) := by omega
      have hm : dMod (.int ((a : Int) + 1)) (.int (mn : Int)) = some (.int (((a + 1) % mn : Nat) : Int)) := by rw [dMod_ii, if_pos hpos, hmod]
      exact Drw.v (x := .roll a ((a + 1) % mn)) ⟨c1, am, rfl⟩ h2 (by simp [d__law_one_deed, e1, c1', e2, hm, -dMod_ii, dedD, -Int.natCast_emod])
    · exact pr _ (.inr ⟨rfl, c1⟩) e1
theorem set_undef {r : List Slot} {k : Nat} (h : r[k]? = some .undef) : r.set k .undef = r := by
  apply List.ext_getElem?
  intro j
  rw [List.getElem?_set]
  split
  · rename_i e; subst e
    have : k < r.length := (List.getElem?_eq_some_iff.mp h).1
    rw [if_pos this, h]
  · rfl
/-- a comprehension whose element draws -/
theorem dLc_draw {α : Type} {k : Nat} {it : Rho → R (List D)} {elt : Rho → R D} {g : α → D} {P : α → Prop} {r : List Slot} {ds0 ds1 items : List D} (h1 : Hd ds1) (hi : it (.io ds0 :: r) = .ok items (.io ds1 :: r)) (hk : r[k]? = some .undef) (hl : items.length ≤ 16777216)
    (he : ∀ ds, Hd ds → ∃ (x : α) (ds' : List D), P x ∧ Hd ds' ∧ ∀ d : D, elt (.io ds :: r.set k (.imm d)) = .ok (g x) (.io ds' :: r.set k (.imm d))) :
    ∃ (xs : List α) (ds' : List D), xs.length = items.length ∧ (∀ x ∈ xs, P x) ∧ Hd ds' ∧ dLc [k + 1] it (bName (k + 1)) dYes elt (.io ds0 :: r) = .ok (xs.map g) (.io ds' :: r) := by
  have hc : calmS (.io ds1 :: r) [k + 1] = true := by simp [hk]
  obtain ⟨out, ρ', e, xs, ds', e1, e2, e3, e4, e5⟩ := dLc_inv (vs := [k + 1]) (it := it) (bind := bName (k + 1)) (elt := elt) (fun i acc ρ => ∃ (xs : List α) (ds' : List D), acc = xs.map g ∧ xs.length = i ∧ (∀ x ∈ xs, P x) ∧ Hd ds' ∧ ρ = .io ds' :: r) hi hc hl ⟨[], ds1, rfl, rfl, by simp, h1, rfl⟩ fun i d acc ρ hd hp => by
    obtain ⟨xs, ds, rfl, e2, e3, e4, rfl⟩ := hp
    obtain ⟨x, ds', p1, p2, p3⟩ := he ds e4
    have hkl : k < r.length := (List.getElem?_eq_some_iff.mp hk).1
    refine ⟨.io ds :: r.set k (.imm d), .io ds' :: r.set k (.imm d), g x, ?_, p3 d, xs ++ [x], ds', by simp, by simp [e2], fun y hy => ?_, p2, ?_⟩
    · have hfr : frAt (Slot.io ds :: r.set k .undef) (k + 1) = true := by
        rw [frAt_succ]; unfold frAt; rw [List.getElem?_set_self hkl]; rfl
      simp [bName_e, hfr]
    · rcases List.mem_append.mp hy with hy | hy
      · exact e3 y hy
      · rw [List.mem_singleton.mp hy]; exact p1
    · simp [hk, set_undef hk]
  subst e5
  exact ⟨xs, ds', e2, e3, e4, by rw [e, e1]⟩
structure DB (b : Brd) (most : Nat) : Prop where
  wd : b.wd = 2 ∨ b.wd = 3
  mn : 1 ≤ b.mn ∧ b.mn ≤ 3
  lv : b.lv = [] ∨ ∃ c, c < b.wd ∧ b.lv = [[c]]
  la : b.la = [] ∨ ∃ c s n, b.la = [(c, s, n)] ∧ c < b.wd ∧ s ∈ [120, 50] ∧ n ≤ b.lv.length
  ad : 1 ≤ b.ad.length ∧ b.ad.length ≤ most ∧ ∀ a ∈ b.ad, dAddP b.wd b.la.length b.mn a
  ls : b.ls.length ≤ 1 ∧ ∀ l ∈ b.ls, dLs b.wd b.lv b.la.length b.mn l
  to : b.to.length = b.lv.length + 1 ∧ ∀ ds ∈ b.to, 1 ≤ ds.length ∧ ds.length ≤ most ∧ ∀ d ∈ ds, dDed b.lv b.la.length b.mn d
theorem cast_1p (n : Nat) : ((1 : Int) + (n : Int)).toNat = 1 + n := by omega
theorem lboard {ds : List D} (h : Hd ds) (most : Nat) (m0 : 0 < most) (m1 : most ≤ 100) : Drw 11 d__law_board [.int (most : Int)] (fun b => .v (brdD b)) (fun b => DB b most) ds := by
  obtain ⟨v1, ds1, l1, h1, e1, _⟩ := drw h 2 (by decide) (by decide)
  obtain ⟨v2, ds2, l2, h2, e2, _⟩ := drw h1 3 (by decide) (by decide)
  obtain ⟨v3, ds3, l3, h3, e3, _⟩ := drw h2 2 (by decide) (by decide)
  obtain ⟨wd, hwd⟩ : ∃ wd : Nat, wd = 2 + v1 := ⟨_, rfl⟩
  obtain ⟨mn, hmn⟩ : ∃ mn : Nat, mn = 1 + v2 := ⟨_, rfl⟩
  have hwd' : (2 : Int) + (v1 : Int) = (wd : Int) := by omega
  have hmn' : (1 : Int) + (v2 : Int) = (mn : Int) := by omega
  have w0 : 0 < wd := by omega
  have w3 : wd ≤ 100 := by omega
  have q0 : 0 < mn := by omega
  have q3 : mn ≤ 100 := by omega
  -- the levels
  obtain ⟨lv, ds4, hlv, h4, e4⟩ : ∃ (lv : List (List Nat)) (ds4 : List D), (lv = [] ∨ ∃ c, c < wd ∧ lv = [[c]]) ∧ Hd ds4 ∧ ∀ (s1 s4 s5 s6 s7 s8 s9 s10 : Slot), dIfE (dBool (dOp dEq (dVal (dCallH 5 d__law_draw 0 (dCons (dC (.int 2)) (dNil)))) (dC (.int 0)))) (dTup (dCons (dTup (dCons (dVal (dCallH 5 d__law_draw 0 (dCons (dImm 2) (dNil)))) (dNil))) (dNil))) (dTup (dNil)) [.io ds2, s1, .imm (.int (wd : Int)), .imm (.int (mn : Int)), s4, s5, s6, s7, s8, s9, s10] = .ok (lvD lv) [.io ds4, s1, .imm (.int (wd : Int)), .imm (.int (mn : Int)), s4, s5, s6, s7, s8, s9, s10] := by
    by_cases z : v3 = 0
    · obtain ⟨c, ds4, lc, h4, ec, _⟩ := drw h3 (wd : Int) (by omega) (by omega)
      exact ⟨[[c]], ds4, .inr ⟨c, by omega, rfl⟩, h4, fun s1 s4 s5 s6 s7 s8 s9 s10 => by simp [e3, z, ec, lvD, lotD]⟩
    · exact ⟨[], ds3, .inl rfl, h3, fun s1 s4 s5 s6 s7 s8 s9 s10 => by simp [e3, z, lvD]⟩
  have lvlen : lv.length ≤ 1 := by rcases hlv with rfl | ⟨c, _, rfl⟩ <;> simp
  have hdlv : dLv lv := by rcases hlv with rfl | ⟨c, _, rfl⟩; exact .inl rfl; exact .inr ⟨c, rfl⟩
  have elen : dLen (lvD lv) = some (.int (lv.length : Int)) := by simp [lvD]
  -- the latches
  obtain ⟨la, ds6, hla, h6, e6⟩ : ∃ (la : List (Nat × Nat × Nat)) (ds6 : List D), (la = [] ∨ ∃ c s n, la = [(c, s, n)] ∧ c < wd ∧ s ∈ [120, 50] ∧ n ≤ lv.length) ∧ Hd ds6 ∧ ∀ (s1 s6 s7 s8 s9 s10 : Slot), dIf (dBool (dOp dEq (dVal (dCallH 5 d__law_draw 0 (dCons (dC (.int 2)) (dNil)))) (dC (.int 0)))) (dSet 5 (dTup (dCons (dTup (dCons (dVal (dCallH 5 d__law_draw 0 (dCons (dImm 2) (dNil)))) (dCons (dVal (dCallH 2 d__law_any 0 (dCons (dLst (dCons (dC (.str (mk [120]))) (dCons (dC (.str (mk [50]))) (dNil)))) (dNil)))) (dCons (dVal (dCallH 5 d__law_draw 0 (dCons (dOp dAdd (d1 dLen (dImm 4)) (dC (.int 1))) (dNil)))) (dNil))))) (dNil)))) (dNext) [.io ds4, s1, .imm (.int (wd : Int)), .imm (.int (mn : Int)), .imm (lvD lv), .imm (.tuple []), s6, s7, s8, s9, s10] = .next [.io ds6, s1, .imm (.int (wd : Int)), .imm (.int (mn : Int)), .imm (lvD lv), .imm (.tuple (la.map laD)), s6, s7, s8, s9, s10] := by
    obtain ⟨v5, ds5, l5, h5, e5, _⟩ := drw h4 2 (by decide) (by decide)
    by_cases z : v5 = 0
    · obtain ⟨c, dsa, lc, ha, ea, _⟩ := drw h5 (wd : Int) (by omega) (by omega)
      obtain ⟨x, dsb, lx, hb, eb, _⟩ := dany ha [.str (mk [120]), .str (mk [50])] (by simp) (by simp)
      obtain ⟨n, dsc, ln, hc, ec, _⟩ := drw hb ((lv.length : Int) + 1) (by omega) (by omega)
      obtain ⟨s, hs, rfl⟩ : ∃ s : Nat, s ∈ [120, 50] ∧ x = .str (mk [s]) := by
        simp only [List.mem_cons, List.not_mem_nil, or_false] at lx
        rcases lx with rfl | rfl <;> exact ⟨_, by simp, rfl⟩
      exact ⟨[(c, s, n)], dsc, .inr ⟨c, s, n, rfl, by omega, hs, by omega⟩, hc, fun s1 s6 s7 s8 s9 s10 => by simp [e5, z, ea, eb, elen, ec, laD]⟩
    · exact ⟨[], ds5, .inl rfl, h5, fun s1 s6 s7 s8 s9 s10 => by simp [e5, z]⟩
  have hdla : dLa la := by
    rcases hla with rfl | ⟨c, s, n, rfl, _, hs, _⟩
    · exact .inl rfl
    · refine .inr ⟨_, rfl, ?_⟩
      simp only [List.mem_cons, List.not_mem_nil, or_false] at hs
      rcases hs with rfl | rfl <;> simp
  -- the adds
  obtain ⟨va, dsa, la1, ha, ea, _⟩ := drw h6 (most : Int) (by omega) (by omega)
  have ra : ∀ (r : List Slot), r[0]? = some (.imm (.int (most : Int))) → dRng1 (dOp dAdd (dC (.int 1)) (dVal (dCallH 5 d__law_draw 0 (dCons (dImm 1) (dNil))))) (.io ds6 :: r) = .ok (rgD 0 1 (1 + va)) (.io dsa :: r) := fun r hr => by
    have := dRng1_v (a := dOp dAdd (dC (.int 1)) (dVal (dCallH 5 d__law_draw 0 (dCons (dImm 1) (dNil))))) (ρ := .io ds6 :: r) (ρ1 := .io dsa :: r) (j := 1 + (va : Int)) (by simp [hr, ea]) (by omega) (by omega)
    rw [cast_1p] at this
    exact this
  obtain ⟨as, dsA, asl, asP, hA, eA⟩ := dLc_draw (k := 9) (g := addD) (P := dAddP wd la.length mn) (r := [.imm (.int (most : Int)), .imm (.int (wd : Int)), .imm (.int (mn : Int)), .imm (lvD lv), .imm (.tuple (la.map laD)), .undef, .undef, .undef, .undef, .undef]) (elt := dVal (dCallH 5 d__law_add 0 (dCons (dImm 2) (dCons (dImm 5) (dCons (dImm 3) (dNil)))))) ha (ra _ rfl) rfl (by simp [rgD]; omega) fun d hd => by
    obtain ⟨x, d', p, q, e, _⟩ := ladd hd wd la mn hdla w0 w3 q0 q3
    exact ⟨x, d', p, q, fun _ => by simp [e]⟩
  rw [show (rgD 0 1 (1 + va)).length = 1 + va by simp [rgD]] at asl
  -- the lists
  obtain ⟨vb, dsb, lb1, hb, eb, _⟩ := drw hA 2 (by decide) (by decide)
  have rb : ∀ (r : List Slot), dRng1 (dVal (dCallH 5 d__law_draw 0 (dCons (dC (.int 2)) (dNil)))) (.io dsA :: r) = .ok (rgD 0 1 vb) (.io dsb :: r) := fun r => by
    have := dRng1_v (a := dVal (dCallH 5 d__law_draw 0 (dCons (dC (.int 2)) (dNil)))) (ρ := .io dsA :: r) (ρ1 := .io dsb :: r) (j := (vb : Int)) (by simp [eb]) (by omega) (by omega)
    rw [Int.toNat_natCast] at this
    exact this
  obtain ⟨bs, dsB, bsl, bsP, hB, eB⟩ := dLc_draw (k := 9) (g := lsD) (P := dLs wd lv la.length mn) (r := [.imm (.int (most : Int)), .imm (.int (wd : Int)), .imm (.int (mn : Int)), .imm (lvD lv), .imm (.tuple (la.map laD)), .imm (.tuple (as.map addD)), .undef, .undef, .undef, .undef]) (elt := dVal (dCallH 6 d__law_list 0 (dCons (dImm 2) (dCons (dImm 4) (dCons (dImm 5) (dCons (dImm 3) (dNil))))))) hb (rb _) rfl (by simp [rgD]; omega) fun d hd => by
    obtain ⟨x, d', p, q, e, _⟩ := llist hd wd lv la mn hdlv hdla w0 w3 q0 q3
    exact ⟨x, d', p, q, fun _ => by simp [e]⟩
  rw [show (rgD 0 1 vb).length = vb by simp [rgD]] at bsl
  -- the totals
  obtain ⟨tot, dsT, tl, tP, hT, eT⟩ : ∃ (tot : List (List Ded)) (dsT : List D), tot.length = lv.length + 1 ∧ (∀ t ∈ tot, 1 ≤ t.length ∧ t.length ≤ most ∧ ∀ d ∈ t, dDed lv la.length mn d) ∧ Hd dsT ∧
      f__law_board_1 [.io dsB, .imm (.int (most : Int)), .imm (.int (wd : Int)), .imm (.int (mn : Int)), .imm (lvD lv), .imm (.tuple (la.map laD)), .imm (.tuple (as.map addD)), .imm (.tuple (bs.map lsD)), .own [], .undef, .undef] =
      .next [.io dsT, .imm (.int (most : Int)), .imm (.int (wd : Int)), .imm (.int (mn : Int)), .imm (lvD lv), .imm (.tuple (la.map laD)), .imm (.tuple (as.map addD)), .imm (.tuple (bs.map lsD)), .own (tot.map dedsD), .undef, .undef] := by
    have rg : dRng1 (dOp dAdd (d1 dLen (dImm 4)) (dC (.int 1))) [.io dsB, .imm (.int (most : Int)), .imm (.int (wd : Int)), .imm (.int (mn : Int)), .imm (lvD lv), .imm (.tuple (la.map laD)), .imm (.tuple (as.map addD)), .imm (.tuple (bs.map lsD)), .own [], .undef, .undef] = .ok (rgD 0 1 (lv.length + 1)) [.io dsB, .imm (.int (most : Int)), .imm (.int (wd : Int)), .imm (.int (mn : Int)), .imm (lvD lv), .imm (.tuple (la.map laD)), .imm (.tuple (as.map addD)), .imm (.tuple (bs.map lsD)), .own [], .undef, .undef] := by
      have := dRng1_v (a := dOp dAdd (d1 dLen (dImm 4)) (dC (.int 1))) (ρ := [.io dsB, .imm (.int (most : Int)), .imm (.int (wd : Int)), .imm (.int (mn : Int)), .imm (lvD lv), .imm (.tuple (la.map laD)), .imm (.tuple (as.map addD)), .imm (.tuple (bs.map lsD)), .own [], .undef, .undef]) (ρ1 := [.io dsB, .imm (.int (most : Int)), .imm (.int (wd : Int)), .imm (.int (mn : Int)), .imm (lvD lv), .imm (.tuple (la.map laD)), .imm (.tuple (as.map addD)), .imm (.tuple (bs.map lsD)), .own [], .undef, .undef]) (j := (lv.length : Int) + 1) (by simp [elen]) (by omega) (by omega)
      rw [show ((lv.length : Int) + 1).toNat = lv.length + 1 by omega] at this
      exact this
    obtain ⟨ρ', e, tot, dsT, t1, t2, t3, t4⟩ := dLoop_inv (bind := bName 9) (body := b__law_board_1) (fun k ρ => ∃ (tot : List (List Ded)) (dsT : List D), tot.length = k ∧ (∀ t ∈ tot, 1 ≤ t.length ∧ t.length ≤ most ∧ ∀ d ∈ t, dDed lv la.length mn d) ∧ Hd dsT ∧
        ρ = [.io dsT, .imm (.int (most : Int)), .imm (.int (wd : Int)), .imm (.int (mn : Int)), .imm (lvD lv), .imm (.tuple (la.map laD)), .imm (.tuple (as.map addD)), .imm (.tuple (bs.map lsD)), .own (tot.map dedsD), .undef, .undef]) (rgD 0 1 (lv.length + 1)) 0 _ ⟨[], dsB, rfl, by simp, hB, rfl⟩ fun i d ρ hi hp => by
      obtain ⟨tot, dsT, t1, t2, t3, rfl⟩ := hp
      obtain ⟨vc, dsc, lc1, hc, ec, _⟩ := drw t3 (most : Int) (by omega) (by omega)
      have rc : ∀ (r : List Slot), r[0]? = some (.imm (.int (most : Int))) → dRng1 (dOp dAdd (dC (.int 1)) (dVal (dCallH 5 d__law_draw 0 (dCons (dImm 1) (dNil))))) (.io dsT :: r) = .ok (rgD 0 1 (1 + vc)) (.io dsc :: r) := fun r hr => by
        have := dRng1_v (a := dOp dAdd (dC (.int 1)) (dVal (dCallH 5 d__law_draw 0 (dCons (dImm 1) (dNil))))) (ρ := .io dsT :: r) (ρ1 := .io dsc :: r) (j := 1 + (vc : Int)) (by simp [hr, ec]) (by omega) (by omega)
        rw [cast_1p] at this
        exact this
      obtain ⟨cs, dsC, csl, csP, hC, eC⟩ := dLc_draw (k := 9) (g := dedD) (P := dDed lv la.length mn) (r := [.imm (.int (most : Int)), .imm (.int (wd : Int)), .imm (.int (mn : Int)), .imm (lvD lv), .imm (.tuple (la.map laD)), .imm (.tuple (as.map addD)), .imm (.tuple (bs.map lsD)), .own (tot.map dedsD), .imm d, .undef]) (elt := dVal (dCallH 7 d__law_one_deed 0 (dCons (dImm 4) (dCons (dImm 5) (dCons (dImm 3) (dNil)))))) hc (rc _ rfl) rfl (by simp [rgD]; omega) fun d hd => by
        obtain ⟨x, d', p, q, e, _⟩ := ldeed hd lv la mn hdlv hdla q0 q3
        exact ⟨x, d', p, q, fun _ => by simp [e]⟩
      rw [show (rgD 0 1 (1 + vc)).length = 1 + vc by simp [rgD]] at csl
      have hil : 0 + i < lv.length + 1 := by
        have := (List.getElem?_eq_some_iff.mp hi).1
        simp [rgD] at this; omega
      have sz : tot.length < 16777216 := by omega
      have eC' : c__law_board_3 [.io dsT, .imm (.int (most : Int)), .imm (.int (wd : Int)), .imm (.int (mn : Int)), .imm (lvD lv), .imm (.tuple (la.map laD)), .imm (.tuple (as.map addD)), .imm (.tuple (bs.map lsD)), .own (tot.map dedsD), .imm d, .undef] = _ := eC
      refine ⟨[.io dsT, .imm (.int (most : Int)), .imm (.int (wd : Int)), .imm (.int (mn : Int)), .imm (lvD lv), .imm (.tuple (la.map laD)), .imm (.tuple (as.map addD)), .imm (.tuple (bs.map lsD)), .own (tot.map dedsD), .imm d, .undef], _, by simp, ?_, tot ++ [cs], dsC, by simp [t1], fun t ht => ?_, hC, rfl⟩
      · simp [b__law_board_1, eC', sz, dedsD]
      · rcases List.mem_append.mp ht with ht | ht
        · exact t2 t ht
        · rw [List.mem_singleton.mp ht]
          exact ⟨by omega, by omega, csP⟩
    subst t4
    rw [show (rgD 0 1 (lv.length + 1)).length = lv.length + 1 by simp [rgD]] at t1
    refine ⟨tot, dsT, by omega, t2, t3, ?_⟩
    unfold f__law_board_1
    rw [dFor_e, rg]
    exact e
  refine Drw.v (x := ⟨wd, lv, la, mn, as, bs, tot⟩) ⟨by show wd = 2 ∨ wd = 3; omega, by show 1 ≤ mn ∧ mn ≤ 3; omega, hlv, hla, ⟨by show 1 ≤ as.length; omega, by show as.length ≤ most; omega, asP⟩, ⟨by show bs.length ≤ 1; omega, bsP⟩, ⟨tl, tP⟩⟩ hT ?_
  have eA' : c__law_board_1 [.io ds6, .imm (.int (most : Int)), .imm (.int (wd : Int)), .imm (.int (mn : Int)), .imm (lvD lv), .imm (.tuple (la.map laD)), .undef, .undef, .undef, .undef, .undef] = _ := eA
  have eB' : c__law_board_2 [.io dsA, .imm (.int (most : Int)), .imm (.int (wd : Int)), .imm (.int (mn : Int)), .imm (lvD lv), .imm (.tuple (la.map laD)), .imm (.tuple (as.map addD)), .undef, .undef, .undef, .undef] = _ := eB
  unfold d__law_board
  refine ⟨[.imm (.int (most : Int)), .imm (.int (wd : Int)), .imm (.int (mn : Int)), .imm (lvD lv), .imm (.tuple (la.map laD)), .imm (.tuple (as.map addD)), .imm (.tuple (bs.map lsD)), .own (tot.map dedsD), .undef, .undef], (seq_next (ρ1 := [.io ds2, .imm (.int (most : Int)), .imm (.int (wd : Int)), .imm (.int (mn : Int)), .undef, .undef, .undef, .undef, .undef, .undef, .undef]) (by simp [e1, hwd', e2, hmn', bCons, bNil])).trans ?_⟩
  refine (seq_next (ρ1 := [.io ds4, .imm (.int (most : Int)), .imm (.int (wd : Int)), .imm (.int (mn : Int)), .imm (lvD lv), .undef, .undef, .undef, .undef, .undef, .undef]) (by rw [dSet_e, e4]; simp)).trans ?_
  refine (seq_next (ρ1 := [.io ds4, .imm (.int (most : Int)), .imm (.int (wd : Int)), .imm (.int (mn : Int)), .imm (lvD lv), .imm (.tuple []), .undef, .undef, .undef, .undef, .undef]) (by simp)).trans ?_
  refine (seq_next (ρ1 := [.io ds6, .imm (.int (most : Int)), .imm (.int (wd : Int)), .imm (.int (mn : Int)), .imm (lvD lv), .imm (.tuple (la.map laD)), .undef, .undef, .undef, .undef, .undef]) (by simpa [-dIf_e] using e6 _ _ _ _ _ _)).trans ?_
  refine (seq_next (ρ1 := [.io dsA, .imm (.int (most : Int)), .imm (.int (wd : Int)), .imm (.int (mn : Int)), .imm (lvD lv), .imm (.tuple (la.map laD)), .imm (.tuple (as.map addD)), .undef, .undef, .undef, .undef]) (by simp [eA'])).trans ?_
  refine (seq_next (ρ1 := [.io dsB, .imm (.int (most : Int)), .imm (.int (wd : Int)), .imm (.int (mn : Int)), .imm (lvD lv), .imm (.tuple (la.map laD)), .imm (.tuple (as.map addD)), .imm (.tuple (bs.map lsD)), .undef, .undef, .undef]) (by simp [eB'])).trans ?_
  refine (seq_next (ρ1 := [.io dsB, .imm (.int (most : Int)), .imm (.int (wd : Int)), .imm (.int (mn : Int)), .imm (lvD lv), .imm (.tuple (la.map laD)), .imm (.tuple (as.map addD)), .imm (.tuple (bs.map lsD)), .own [], .undef, .undef]) (by simp)).trans ?_
  refine (seq_next eT).trans ?_
  simp [brdD, brdL]
/-! ### drawn boards are boards -/
theorem dWhen.ok {b : Brd} {wd nla : Nat} {tot : Bool} {w : List Tst} (h : dWhen wd nla tot w) (hw : wd ≤ b.wd) (hl : nla ≤ b.la.length) : okWhen b (!tot) w = true := by
  rcases h with rfl | ⟨t, rfl, h⟩
  · rfl
  · cases t with
    | sg c s f =>
      obtain ⟨rfl, h2, h3⟩ := h
      have hs : s ∈ SG := by
        simp only [List.mem_cons, List.not_mem_nil, or_false] at h3
        rcases h3 with rfl | rfl | rfl <;> decide
      simp [okWhen, okTst, hs]; omega
    | lt n f =>
      obtain ⟨rfl, h2⟩ := h
      simp [okWhen, okTst]; omega
theorem okFac_of {k : Int} (h : k ∈ [(1 : Int), -1, 2, -3]) : okFac k = true := by
  simp only [List.mem_cons, List.not_mem_nil, or_false] at h
  rcases h with rfl | rfl | rfl | rfl <;> decide
theorem dFld.ok {w a m : Nat} (h : dFld w a m) : okFld w a m = true := by
  obtain ⟨h1, h2, h3, h4⟩ := h
  simp [okFld]; omega
theorem dPrs.ok {mn : Nat} {ps : List (Int × Nat)} (h : dPrs mn ps) : okPrs mn ps = true := by
  rcases h with ⟨k, a, hk, ha, rfl⟩ | ⟨k, a, k2, hk, ha, hk2, rfl⟩
  · have h1 : okFac k = true := okFac_of (by simp only [List.mem_cons, List.not_mem_nil, or_false] at hk ⊢; rcases hk with h | h | h <;> simp [h])
    simp [okPrs, h1, ha, ascP]
  · have h1 : okFac k = true := okFac_of (by simp only [List.mem_cons, List.not_mem_nil, or_false] at hk ⊢; rcases hk with h | h | h <;> simp [h])
    have h2 : okFac k2 = true := okFac_of (by simp only [List.mem_cons, List.not_mem_nil, or_false] at hk2 ⊢; rcases hk2 with h | h <;> simp [h])
    have h3 : a < mn := by omega
    simp [okPrs, h1, h2, h3, ha, ascP]
theorem DB.good {b : Brd} {most : Nat} (h : DB b most) (hm : most ≤ 12) : SmB b ∧ okB b = true := by
  obtain ⟨hw, ⟨m1, m3⟩, hlv, hla, ⟨a1, a2, a3⟩, ⟨l1, l2⟩, ⟨t1, t2⟩⟩ := h
  have lvl : b.lv.length ≤ 1 := by rcases hlv with h | ⟨c, _, h⟩ <;> simp [h]
  have lal : b.la.length ≤ 1 := by rcases hla with h | ⟨c, s, n, h, _⟩ <;> simp [h]
  have ki : ∀ {y : List Itm}, dKey b.lv y → ∀ i ∈ y, okItm b true i = true ∧ okItm b false i = true ∧ smItm i := by
    intro y hy i hi
    rcases hy with rfl | ⟨c, e, rfl⟩
    · simp at hi
    · simp at hi
      subst hi
      simp [okItm, e, smItm]
  have hla2 : b.la.all (okLa b) = true := by
    rcases hla with h | ⟨c, s, n, h, hc, hs, hn⟩
    · rw [h]; rfl
    · have hs' : s ∈ SG := by
        simp only [List.mem_cons, List.not_mem_nil, or_false] at hs
        rcases hs with rfl | rfl <;> decide
      rw [h]; simp [okLa, hc, hs', hn]
  have hyl : ∀ {y : List Itm}, dKey b.lv y → y.length ≤ 1 := by
    intro y hy
    rcases hy with rfl | ⟨c, e, rfl⟩ <;> simp
  have i1 : ∀ l ∈ b.ls, okLs b l = true ∧ ∀ t ∈ l.2, smItm t := by
    intro l hl
    obtain ⟨w1, i, y, hi, hy, e⟩ := l2 l hl
    have hii : okItm b true i = true ∧ smItm i := by
      cases i with
      | sign c => have : c = 0 := hi; subst this; simp [okItm, smItm]; omega
      | field a m => exact ⟨by simp [okItm, dFld.ok hi], True.intro⟩
      | word w => have : w = [99, 97, 114, 100] := hi; subst this; exact ⟨show okNm [99, 97, 114, 100] = true by decide, by simp [smItm]⟩
      | sum ps => exact ⟨by simp [okItm, dPrs.ok hi], True.intro⟩
      | key c => exact hi.elim
      | num n => exact hi.elim
    have hy1 := hyl hy
    refine ⟨?_, fun t ht => ?_⟩
    · have : l.2.all (okItm b true) = true := by
        rw [e, List.all_cons, hii.1, Bool.true_and, List.all_eq_true]
        exact fun t ht => (ki hy t ht).1
      have hlen : l.2.length ≤ 6 := by rw [e]; simp; omega
      simp only [okLs, w1.ok (b := b) (Nat.le_refl _) (Nat.le_refl _), okItms, this, Bool.and_true, decide_eq_true hlen, show (!false) = true from rfl, show okWhen b true l.1 = true from w1.ok (b := b) (Nat.le_refl _) (Nat.le_refl _)]
    · rw [e] at ht
      rcases List.mem_cons.mp ht with rfl | ht
      · exact hii.2
      · exact (ki hy t ht).2.2
  have i2 : ∀ ds ∈ b.to, okDeds b ds = true ∧ ∀ t ∈ ds, smDed t := by
    intro ds hds
    obtain ⟨d1, d2, d3⟩ := t2 ds hds
    have key : ∀ d ∈ ds, okDed b d = true ∧ smDed d := by
      intro d hd
      have := d3 d hd
      cases d with
      | clear a => have this : a < b.mn := this; exact ⟨by simpa [okDed] using this, True.intro⟩
      | roll x y =>
        obtain ⟨p1, p2, p3⟩ := this
        have hy : y < b.mn := by rw [p3]; exact Nat.mod_lt _ (by omega)
        have hne : x ≠ y := by
          intro e
          have : (x + 1) % b.mn = x := by rw [← p3]; exact e.symm
          rcases Nat.lt_or_ge (x + 1) b.mn with h | h
          · rw [Nat.mod_eq_of_lt h] at this; omega
          · rw [show x + 1 = b.mn by omega, Nat.mod_self] at this; omega
        exact ⟨by simp [okDed, p2, hy, hne], True.intro⟩
      | pr w is =>
        obtain ⟨w1, ps, x, y, hp, hx, hy, e⟩ := this
        have hx1 : x.length ≤ 1 ∧ ∀ i ∈ x, okItm b false i = true ∧ smItm i := by
          simp only [List.mem_cons, List.not_mem_nil, or_false] at hx
          rcases hx with rfl | rfl | rfl
          · simp
          · refine ⟨by simp, fun i hi => ?_⟩
            simp at hi; subst hi
            exact ⟨show okNm [115, 117, 109] = true by decide, by simp [smItm]⟩
          · refine ⟨by simp, fun i hi => ?_⟩
            simp at hi; subst hi
            exact ⟨by simp [okItm], True.intro⟩
        have hy1 := hyl hy
        have all : ∀ i ∈ is, okItm b false i = true ∧ smItm i := by
          rw [e]
          intro i hi
          rcases List.mem_cons.mp hi with rfl | hi
          · exact ⟨by simp [okItm, dPrs.ok hp], True.intro⟩
          · rcases List.mem_append.mp hi with hi | hi
            · exact hx1.2 i hi
            · exact (ki hy i hi).2
        have hlen : is.length ≤ 6 := by rw [e]; simp; omega
        refine ⟨?_, fun t ht => (all t ht).2⟩
        have w2 : okWhen b false w = true := w1.ok (b := b) (Nat.zero_le _) (Nat.le_refl _)
        have a2 : is.all (okItm b false) = true := List.all_eq_true.mpr fun i hi => (all i hi).1
        simp only [okDed, w2, okItms, a2, decide_eq_true hlen, Bool.and_self]
    refine ⟨?_, fun t ht => (key t ht).2⟩
    have : ds.all (okDed b) = true := List.all_eq_true.mpr fun i hi => (key i hi).1
    simp only [okDeds, this, decide_eq_true (show ds.length ≤ 12 by omega), Bool.and_self]
  have ia : b.ad.all (okAdd b) = true := List.all_eq_true.mpr fun a ha => by
    obtain ⟨p1, p2, p3, p4⟩ := a3 a ha
    have w2 : okWhen b true a.w = true := p1.ok (b := b) (Nat.le_refl _) (Nat.le_refl _)
    simp only [okAdd, w2, p2, okFac_of p3, p4.ok, decide_true, Bool.and_self]
  refine ⟨⟨by omega, by omega, ⟨by omega, ?_, ?_, ?_⟩, by omega, by omega, by omega, by omega, fun l hl => (i1 l hl).2, fun ds hds => (i2 ds hds).2⟩, ?_⟩
  · intro l hl
    rcases hlv with h | ⟨c, hc, h⟩
    · rw [h] at hl; simp at hl
    · rw [h] at hl; simp at hl; subst hl
      exact ⟨by simp, by simp, by simpa using hc, rfl⟩
  · rcases hlv with h | ⟨c, hc, h⟩ <;> simp [h]
  · rcases hlv with h | ⟨c, hc, h⟩ <;> simp [h]
  · have ils : b.ls.all (okLs b) = true := List.all_eq_true.mpr fun l hl => (i1 l hl).1
    have ito : b.to.all (okDeds b) = true := List.all_eq_true.mpr fun l hl => (i2 l hl).1
    simp only [okB, hla2, ia, ils, ito, t1, decide_true, Bool.and_self, Bool.and_true, decide_eq_true (show b.la.length ≤ 3 by omega), decide_eq_true (show b.mn ≤ 6 by omega), decide_eq_true (show b.ad.length ≤ 12 by omega), decide_eq_true (show b.ls.length ≤ 4 by omega)]
/-! ### check_board -/
theorem check_board_v (b : Brd) (h : SmB b) (h2 : okB b = true) (ρ : Rho) : callD 1 d_check_board none [brdD b] ρ = .ok (.v .none) ρ := by
  refine call_none ?_ ρ
  simp [d_check_board, is_board_v b h, h2]
/-- no board at the first look -/
def noB (d : D) : Prop := tupB d 7 = false ∨ ∃ x r, d = .tuple (x :: r) ∧ withinB x 1 8 = false
theorem is_board_no (d : D) (h : noB d) (ρ : Rho) : callD 12 d_is_board none [d] ρ = .ok (.v (.bool false)) ρ := by
  refine call_v ?_ ρ
  rcases h with h | ⟨x, r, rfl, h⟩
  · simp [d_is_board, is_tuple_of_v, h]
  · by_cases h7 : ((r.length : Int) + 1 = 7)
    · simp [d_is_board, is_tuple_of_v, h7, is_width_v, h]
    · simp [d_is_board, is_tuple_of_v, h7]
theorem check_board_no (d : D) (h : noB d) (ρ : Rho) : callD 1 d_check_board none [d] ρ = .err ⟨mk [78, 111, 66, 111, 97, 114, 100], []⟩ ρ := by
  refine call_err ?_ ρ
  simp [d_check_board, is_board_no d h]
/-! ### drawn decks -/
def dkL (c : List (List Nat)) : List D := c.map fun x => .str (mk x)
def dkD (c : List (List Nat)) : D := .tuple (dkL c)
def okD (w : Nat) (c : List (List Nat)) : Prop := ∀ x ∈ c, x.length = w ∧ ∀ s ∈ x, s ∈ SG
@[simp] theorem seqD_dk (c : List (List Nat)) : seqD (dkD c) = some (c.map fun x => .str (mk x)) := rfl
@[simp] theorem dLen_dk (c : List (List Nat)) : dLen (dkD c) = some (.int (c.length : Int)) := by simp [dkD, dkL]
theorem flat_one (l : List Nat) : (l.map fun s => [s]).flatten = l := by
  induction l with
  | nil => rfl
  | cons a r ih => simp only [List.map_cons, List.flatten_cons, ih]; rfl
theorem len_one (l : List Nat) : ((l.map fun s => [s]).map (·.length)).sum = l.length := by
  induction l with
  | nil => rfl
  | cons a r ih => simp only [List.map_cons, List.sum_cons, ih, List.length_cons]; simp; omega
theorem join_one (ss : List Nat) (h : ss.length ≤ 16777216) : dJoin (.str (mk [])) (.list (ss.map fun s => .str (mk [s]))) = some (.str (mk ss)) := by
  have e1 : (ss.map fun s => PyData.str (mk [s])) = (ss.map fun s => [s]).map fun l => .str (mk l) := by rw [List.map_map]; rfl
  rw [e1, dJoin_l, joinL_nil, flat_one, len_one, if_pos (by simp; omega)]
theorem SG_small : ∀ x ∈ SG, x < 1114112 := by decide
theorem deck_b0 {w most : Nat} {sg ss : List Nat} {d : D} {dsT dsC dl : List D} (hd : dl = []) (eC : c__law_deck_1 [.io dsT, .imm (.int (w : Int)), .imm (.int (most : Int)), .imm (.str (mk sg)), .own dl, .imm d, .undef, .undef] = .ok (ss.map fun s => .str (mk [s])) [.io dsC, .imm (.int (w : Int)), .imm (.int (most : Int)), .imm (.str (mk sg)), .own dl, .imm d, .undef, .undef]) (ej : dJoin (.str (mk [])) (.list (ss.map fun s => .str (mk [s]))) = some (.str (mk ss))) : b__law_deck_1 [.io dsT, .imm (.int (w : Int)), .imm (.int (most : Int)), .imm (.str (mk sg)), .own dl, .imm d, .undef, .undef] = .next [.io dsC, .imm (.int (w : Int)), .imm (.int (most : Int)), .imm (.str (mk sg)), .own [.str (mk ss)], .undef, .undef, .undef] := by
  subst hd
  have ne0 : dNe (.list []) (.list []) = some (.bool false) := dNe_same (n := 1) (ly_l fun x hx => by simp at hx)
  unfold b__law_deck_1
  generalize c__law_deck_1 = cc at eC ⊢
  simp [eC, ej, ne0]
theorem deck_b1 {w most v : Nat} {sg ss lst : List Nat} {d : D} {dsT dsC dsV dl : List D} (ne1 : dNe (.list dl) (.list []) = some (.bool true)) (gl : dIx (.list dl) (.int (-1)) = some (.str (mk lst))) (z : v = 0) (lstz : lst.length ≤ 16777216) (ssz : ss.length ≤ 16777216) (tl : min 1 lst.length + (ss.length - 1) ≤ 16777216) (csz : dl.length < 16777216) (eC : c__law_deck_1 [.io dsT, .imm (.int (w : Int)), .imm (.int (most : Int)), .imm (.str (mk sg)), .own dl, .imm d, .undef, .undef] = .ok (ss.map fun s => .str (mk [s])) [.io dsC, .imm (.int (w : Int)), .imm (.int (most : Int)), .imm (.str (mk sg)), .own dl, .imm d, .undef, .undef]) (ej : dJoin (.str (mk [])) (.list (ss.map fun s => .str (mk [s]))) = some (.str (mk ss))) (eV : ∀ (r : List Slot), callD 5 d__law_draw (some 0) [.int 2] (.io dsC :: r) = .ok (.v (.int (v : Int))) (.io dsV :: r)) : b__law_deck_1 [.io dsT, .imm (.int (w : Int)), .imm (.int (most : Int)), .imm (.str (mk sg)), .own dl, .imm d, .undef, .undef] = .next [.io dsV, .imm (.int (w : Int)), .imm (.int (most : Int)), .imm (.str (mk sg)), .own (dl ++ [.str (mk (lst.take 1 ++ ss.drop 1))]), .undef, .undef, .undef] := by
  unfold b__law_deck_1
  generalize c__law_deck_1 = cc at eC ⊢
  simp [eC, ej, ne1, eV, z, gl, -dIx_l, lstz, ssz, tl, csz]
theorem deck_b2 {w most v : Nat} {sg ss : List Nat} {d : D} {dsT dsC dsV dl : List D} (ne1 : dNe (.list dl) (.list []) = some (.bool true)) (z : ¬ v = 0) (csz : dl.length < 16777216) (eC : c__law_deck_1 [.io dsT, .imm (.int (w : Int)), .imm (.int (most : Int)), .imm (.str (mk sg)), .own dl, .imm d, .undef, .undef] = .ok (ss.map fun s => .str (mk [s])) [.io dsC, .imm (.int (w : Int)), .imm (.int (most : Int)), .imm (.str (mk sg)), .own dl, .imm d, .undef, .undef]) (ej : dJoin (.str (mk [])) (.list (ss.map fun s => .str (mk [s]))) = some (.str (mk ss))) (eV : ∀ (r : List Slot), callD 5 d__law_draw (some 0) [.int 2] (.io dsC :: r) = .ok (.v (.int (v : Int))) (.io dsV :: r)) : b__law_deck_1 [.io dsT, .imm (.int (w : Int)), .imm (.int (most : Int)), .imm (.str (mk sg)), .own dl, .imm d, .undef, .undef] = .next [.io dsV, .imm (.int (w : Int)), .imm (.int (most : Int)), .imm (.str (mk sg)), .own (dl ++ [.str (mk ss)]), .undef, .undef, .undef] := by
  unfold b__law_deck_1
  generalize c__law_deck_1 = cc at eC ⊢
  simp [eC, ej, ne1, eV, z, csz]
theorem deck_step (w most : Nat) (w0 : 0 < w) (w1 : w ≤ 100) (sg : List Nat) (hs0 : sg ≠ []) (hs1 : sg.length ≤ 100) (hs2 : ∀ s ∈ sg, s ∈ SG) (i : Nat) (hi1000 : i ≤ 1000) (d : D) (c : List (List Nat)) (dsT : List D) (t1 : c.length = i) (t2 : okD w c) (t3 : Hd dsT) :
    ∃ ρ1 ρ2, bName 5 d [.io dsT, .imm (.int (w : Int)), .imm (.int (most : Int)), .imm (.str (mk sg)), .own (dkL c), .undef, .undef, .undef] = some ρ1 ∧ b__law_deck_1 ρ1 = .next ρ2 ∧ ∃ (c : List (List Nat)) (dsT : List D), c.length = i + 1 ∧ okD w c ∧ Hd dsT ∧
      ρ2 = [.io dsT, .imm (.int (w : Int)), .imm (.int (most : Int)), .imm (.str (mk sg)), .own (dkL c), .undef, .undef, .undef] := by
  have sgz : sg.length ≤ 16777216 := by omega
  have rc : ∀ (r : List Slot), r[0]? = some (.imm (.int (w : Int))) → dRng1 (dImm 1) (.io dsT :: r) = .ok (rgD 0 1 w) (.io dsT :: r) := fun r hr => by
    have := dRng1_v (a := dImm 1) (ρ := .io dsT :: r) (ρ1 := .io dsT :: r) (j := (w : Int)) (by simp [hr]) (by omega) (by omega)
    rw [Int.toNat_natCast] at this
    exact this
  obtain ⟨ss, dsC, csl, csP, hC, eC⟩ := dLc_draw (k := 6) (g := fun s : Nat => .str (mk [s])) (P := fun s => s ∈ SG) (r := [.imm (.int (w : Int)), .imm (.int (most : Int)), .imm (.str (mk sg)), .own (dkL c), .imm d, .undef, .undef]) (elt := dVal (dCallH 2 d__law_any 0 (dCons (dLst (dListA (dImm 3))) (dNil)))) t3 (rc _ rfl) rfl (by simp [rgD]; omega) fun dd hd => by
    obtain ⟨y, d', p, q, e, _⟩ := dany hd (sg.map fun c => .str (mk [c])) (by simpa using hs0) (by simp; omega)
    obtain ⟨s, hs, rfl⟩ := List.mem_map.mp p
    exact ⟨s, d', hs2 s hs, q, fun _ => by simp [sgz, e]⟩
  rw [show (rgD 0 1 w).length = w by simp [rgD]] at csl
  have eC' : c__law_deck_1 [.io dsT, .imm (.int (w : Int)), .imm (.int (most : Int)), .imm (.str (mk sg)), .own (dkL c), .imm d, .undef, .undef] = _ := eC
  have ssz : ss.length ≤ 16777216 := by omega
  have ej := join_one ss ssz
  obtain ⟨v, dsV, lv, hV, eV, _⟩ := drw hC 2 (by decide) (by decide)
  have csz : c.length < 16777216 := by omega
  by_cases hc0 : c = []
  · subst hc0
    have ne0 : dNe (.list []) (.list []) = some (.bool false) := dNe_same (n := 1) (ly_l fun x hx => by simp at hx)
    refine ⟨[.io dsT, .imm (.int (w : Int)), .imm (.int (most : Int)), .imm (.str (mk sg)), .own (dkL []), .imm d, .undef, .undef], _, by simp, ?_, [ss], dsC, by simp at t1 ⊢; omega, fun x hx => ?_, hC, rfl⟩
    · exact deck_b0 rfl eC' ej
    · rw [List.mem_singleton.mp hx]; exact ⟨csl, csP⟩
  · obtain ⟨c0, lst, rfl⟩ : ∃ c0 lst, c = c0 ++ [lst] := ⟨c.dropLast, c.getLast hc0, (List.dropLast_concat_getLast hc0).symm⟩
    have lyc : Ly 2 (.list (dkL (c0 ++ [lst]))) := ly_lm (n := 1) fun x hx => ly_s fun s hs => SG_small s ((t2 x hx).2 s hs)
    have ne1 : dNe (.list (dkL (c0 ++ [lst]))) (.list []) = some (.bool true) := by
      rw [dNe_ly (n := 2) lyc ((ly_l (n := 1) fun x hx => by simp at hx))]
      cases c0 <;> simp [dkL, PyData.eqv, PyData.eqvAll]
    have lstl := (t2 lst (by simp)).1
    have lstz : lst.length ≤ 16777216 := by omega
    have gl : dIx (.list (dkL (c0 ++ [lst]))) (.int (-1)) = some (.str (mk lst)) := by simp [dkL]
    by_cases z : v = 0
    · have tl : min 1 lst.length + (ss.length - 1) ≤ 16777216 := by omega
      refine ⟨[.io dsT, .imm (.int (w : Int)), .imm (.int (most : Int)), .imm (.str (mk sg)), .own (dkL (c0 ++ [lst])), .imm d, .undef, .undef], [.io dsV, .imm (.int (w : Int)), .imm (.int (most : Int)), .imm (.str (mk sg)), .own (dkL (c0 ++ [lst]) ++ [.str (mk (lst.take 1 ++ ss.drop 1))]), .undef, .undef, .undef], by simp, ?_, (c0 ++ [lst]) ++ [lst.take 1 ++ ss.drop 1], dsV, by simp at t1 ⊢; omega, fun x hx => ?_, hV, by simp [dkL]⟩
      · exact deck_b1 ne1 gl z lstz ssz tl (by simpa [dkL] using csz) eC' ej eV
      · rcases List.mem_append.mp hx with hx | hx
        · exact t2 x hx
        · rw [List.mem_singleton.mp hx]
          refine ⟨by simp; omega, fun s hs => ?_⟩
          rcases List.mem_append.mp hs with hs | hs
          · exact (t2 lst (by simp)).2 s (List.mem_of_mem_take hs)
          · exact csP s (List.mem_of_mem_drop hs)
    · refine ⟨[.io dsT, .imm (.int (w : Int)), .imm (.int (most : Int)), .imm (.str (mk sg)), .own (dkL (c0 ++ [lst])), .imm d, .undef, .undef], [.io dsV, .imm (.int (w : Int)), .imm (.int (most : Int)), .imm (.str (mk sg)), .own (dkL (c0 ++ [lst]) ++ [.str (mk (ss))]), .undef, .undef, .undef], by simp, ?_, (c0 ++ [lst]) ++ [ss], dsV, by simp at t1 ⊢; omega, fun x hx => ?_, hV, by simp [dkL]⟩
      · exact deck_b2 ne1 z (by simpa [dkL] using csz) eC' ej eV
      · rcases List.mem_append.mp hx with hx | hx
        · exact t2 x hx
        · rw [List.mem_singleton.mp hx]; exact ⟨csl, csP⟩
theorem ldeck {ds : List D} (h : Hd ds) (w most : Nat) (w0 : 0 < w) (w1 : w ≤ 100) (m1 : most ≤ 1000) : Drw 8 d__law_deck [.int (w : Int), .int (most : Int)] (fun c => .v (dkD c)) (fun c => okD w c ∧ c.length ≤ most) ds := by
  obtain ⟨x, ds1, l1, h1, e1, _⟩ := dany h [.str (mk [49, 50, 120, 46]), .str (mk [48, 49, 120]), .str (mk [49, 50, 57, 120, 46]), .str (mk SG)] (by simp) (by simp)
  have e1' : ∀ (r : List Slot), callD 2 d__law_any (some 0) [.list [.str (mk [49, 50, 120, 46]), .str (mk [48, 49, 120]), .str (mk [49, 50, 57, 120, 46]), .str (mk [48, 49, 50, 51, 52, 53, 54, 55, 56, 57, 120, 46])]] (.io ds :: r) = .ok (.v x) (.io ds1 :: r) := e1
  obtain ⟨sg, hs0, hs1, hs2, rfl⟩ : ∃ sg : List Nat, sg ≠ [] ∧ sg.length ≤ 100 ∧ (∀ s ∈ sg, s ∈ SG) ∧ x = .str (mk sg) := by
    simp only [List.mem_cons, List.not_mem_nil, or_false] at l1
    rcases l1 with rfl | rfl | rfl | rfl
    · exact ⟨_, by simp, by simp, by decide, rfl⟩
    · exact ⟨_, by simp, by simp, by decide, rfl⟩
    · exact ⟨_, by simp, by simp, by decide, rfl⟩
    · exact ⟨SG, by decide, by decide, fun s hs => hs, rfl⟩
  have sgz : sg.length ≤ 16777216 := by omega
  obtain ⟨n, ds2, l2, h2, e2, _⟩ := drw h1 ((most : Int) + 1) (by omega) (by omega)
  have rg : dRng1 (dVal (dCallH 5 d__law_draw 0 (dCons (dOp dAdd (dImm 2) (dC (.int 1))) (dNil)))) [.io ds1, .imm (.int (w : Int)), .imm (.int (most : Int)), .imm (.str (mk sg)), .own [], .undef, .undef, .undef] = .ok (rgD 0 1 n) [.io ds2, .imm (.int (w : Int)), .imm (.int (most : Int)), .imm (.str (mk sg)), .own [], .undef, .undef, .undef] := by
    have := dRng1_v (a := dVal (dCallH 5 d__law_draw 0 (dCons (dOp dAdd (dImm 2) (dC (.int 1))) (dNil)))) (ρ := [.io ds1, .imm (.int (w : Int)), .imm (.int (most : Int)), .imm (.str (mk sg)), .own [], .undef, .undef, .undef]) (ρ1 := [.io ds2, .imm (.int (w : Int)), .imm (.int (most : Int)), .imm (.str (mk sg)), .own [], .undef, .undef, .undef]) (j := (n : Int)) (by simp [e2]) (by omega) (by omega)
    rw [Int.toNat_natCast] at this
    exact this
  obtain ⟨ρ', e, c, dsT, t1, t2, t3, t4⟩ := dLoop_inv (bind := bName 5) (body := b__law_deck_1) (fun k ρ => ∃ (c : List (List Nat)) (dsT : List D), c.length = k ∧ okD w c ∧ Hd dsT ∧
      ρ = [.io dsT, .imm (.int (w : Int)), .imm (.int (most : Int)), .imm (.str (mk sg)), .own (dkL c), .undef, .undef, .undef]) (rgD 0 1 n) 0 _ ⟨[], ds2, rfl, fun x hx => by simp at hx, h2, rfl⟩ fun i d ρ hi hp => by
    obtain ⟨c, dsT, t1, t2, t3, rfl⟩ := hp
    have hin : i < n := by
      have := (List.getElem?_eq_some_iff.mp hi).1
      simpa [rgD] using this
    rw [Nat.zero_add] at t1
    have := deck_step w most w0 w1 sg hs0 hs1 hs2 i (by omega) d c dsT t1 t2 t3
    rw [Nat.zero_add]
    exact this
  subst t4
  rw [show (rgD 0 1 n).length = n by simp [rgD]] at t1
  have eF : f__law_deck_1 [.io ds1, .imm (.int (w : Int)), .imm (.int (most : Int)), .imm (.str (mk sg)), .own [], .undef, .undef, .undef] = .next [.io dsT, .imm (.int (w : Int)), .imm (.int (most : Int)), .imm (.str (mk sg)), .own (dkL c), .undef, .undef, .undef] := by
    unfold f__law_deck_1
    rw [dFor_e, rg]
    exact e
  exact Drw.v (x := c) (g := dkD) ⟨t2, by omega⟩ t3 (by simp [d__law_deck, e1', eF, dkD])
theorem okD.deckW {w : Nat} {c : List (List Nat)} (h : okD w c) (hl : c.length ≤ 400) : deckW (w : Int) (dkD c) = true := by
  unfold Pf.deckW dkD dkL
  simp only [List.length_map, decide_eq_true hl, Bool.true_and, List.all_map, List.all_eq_true]
  intro x hx
  obtain ⟨h1, h2⟩ := h x hx
  simp only [Function.comp, cardW, mk_len, h1, decide_true, mk_cps, Bool.true_and, List.all_eq_true, decide_eq_true_eq]
  exact h2
theorem okD.sm {w : Nat} {c : List (List Nat)} (h : okD w c) (hw : w ≤ 100) : ∀ ds, dkD c = .tuple ds → ∀ x ∈ ds, SmD x := by
  intro ds e x hx
  cases e
  obtain ⟨l, hl, rfl⟩ := List.mem_map.mp hx
  exact SmD.mk (by have := (h l hl).1; omega)
/-! ### what a board does, as plain functions -/
inductive Ev where
  | add (n : Nat)
  | list (n : Nat)
  | deed (l n : Nat)
deriving DecidableEq
def evD : Ev → D
  | .add n => .tuple [.str (mk [97, 100, 100]), .int (n : Int)]
  | .list n => .tuple [.str (mk [108, 105, 115, 116]), .int (n : Int)]
  | .deed l n => .tuple [.str (mk [100, 101, 101, 100]), .int (l : Int), .int (n : Int)]
def hold (on : List Bool) (card : List Nat) : Tst → Bool
  | .sg c s f => decide ((decide (card.getD c 0 = s)) = f)
  | .lt n f => decide (on.getD n false = f)
def holds (w : List Tst) (on : List Bool) (card : List Nat) : Bool := w.all (hold on card)
def does (on : List Bool) : Ded → Bool
  | .pr w _ => holds w on []
  | _ => true
def dEvs (b : Brd) (lev : Nat) (on : List Bool) : List Ev := (((b.to.getD lev []).zipIdx).filter fun p => does on p.1).map fun p => .deed lev p.2
def offs (la : List (Nat × Nat × Nat)) (on : List Bool) (lev : Nat) : List Bool := List.zipWith (fun l s => if l.2.2 = lev then false else s) la on
def ons (la : List (Nat × Nat × Nat)) (on : List Bool) (card : List Nat) : List Bool := List.zipWith (fun l s => if card.getD l.1 0 = l.2.1 then true else s) la on
def kof (b : Brd) (card : List Nat) : List Nat := b.lv.flatten.map fun c => card.getD c 0
def brk (b : Brd) (k k2 : List Nat) : List Nat := if b.lv = [] ∨ k = k2 then [] else [0]
abbrev Sta := Option (List Nat) × List Bool
def goD (b : Brd) (p : List Ev × List Bool) (lev : Nat) : List Ev × List Bool := (p.1 ++ dEvs b lev p.2, offs b.la p.2 lev)
def brks (b : Brd) (st : Sta) (card : List Nat) : List Ev × List Bool := match st.1 with
  | none => ([], st.2)
  | some k => (brk b k (kof b card)).foldl (goD b) ([], st.2)
def aEvs (b : Brd) (on : List Bool) (card : List Nat) : List Ev := ((b.ad.zipIdx).filter fun p => holds p.1.w on card).map fun p => .add p.2
def lEvs (b : Brd) (on : List Bool) (card : List Nat) : List Ev := ((b.ls.zipIdx).filter fun p => holds p.1.1 on card).map fun p => .list p.2
def evs (b : Brd) (st : Sta) (card : List Nat) : List Ev × Sta :=
  let p := brks b st card
  let on := ons b.la p.2 card
  (p.1 ++ aEvs b on card ++ lEvs b on card, (some (kof b card), on))
def endEvs (b : Brd) (st : Sta) : List Ev :=
  let p := match st.1 with
    | none => ([], st.2)
    | some _ => (List.range b.lv.length).foldl (goD b) ([], st.2)
  p.1 ++ dEvs b b.lv.length p.2
def fst0 (b : Brd) : Sta := (none, List.replicate b.la.length false)
def kyD : Option (List Nat) → D
  | none => .none
  | some k => .str (mk k)
def laS (on : List Bool) : List Nat := on.map fun p => if p = true then 49 else 48
def stD (st : Sta) : D := .tuple [kyD st.1, .str (mk (laS st.2))]
@[simp] theorem isNon_ky (k : Option (List Nat)) : isNon (kyD k) = k.isNone := by cases k <;> rfl
theorem offs_len {la : List (Nat × Nat × Nat)} {on : List Bool} {lev : Nat} (h : on.length = la.length) : (offs la on lev).length = la.length := by simp [offs, h]
theorem ons_len {la : List (Nat × Nat × Nat)} {on : List Bool} {card : List Nat} (h : on.length = la.length) : (ons la on card).length = la.length := by simp [ons, h]
/-- a board that is run: at most one level, of one column -/
structure RB (b : Brd) : Prop where
  lv : b.lv = [] ∨ ∃ c, c < b.wd ∧ b.lv = [[c]]
  wd : b.wd ≤ 100
  la : b.la.length ≤ 100 ∧ ∀ l ∈ b.la, l.1 < b.wd
  ad : b.ad.length ≤ 1000 ∧ ∀ a ∈ b.ad, okWhen b true a.w = true ∧ a.c < b.mn ∧ okFld b.wd a.f a.m = true ∧ okFac a.k = true
  ls : b.ls.length ≤ 1000 ∧ ∀ l ∈ b.ls, okWhen b true l.1 = true ∧ okItms b true l.2 = true
  to : b.to.length = b.lv.length + 1 ∧ ∀ ds ∈ b.to, ds.length ≤ 12 ∧ ∀ d ∈ ds, okDed b d = true
  mn : b.mn ≤ 6
theorem RB.of {b : Brd} (h1 : b.lv = [] ∨ ∃ c, c < b.wd ∧ b.lv = [[c]]) (h2 : b.wd ≤ 100) (h : okB b = true) : RB b := by
  unfold okB at h
  simp only [Bool.and_eq_true, decide_eq_true_eq, List.all_eq_true] at h
  obtain ⟨⟨⟨⟨a1, a2⟩, ⟨a3, a4⟩, a5⟩, a6, a7⟩, a8, a9⟩ := h
  refine ⟨h1, h2, ⟨by omega, fun l hl => ?_⟩, ⟨by omega, fun a ha => ?_⟩, ⟨by omega, fun l hl => ?_⟩, ⟨a8, fun ds hds => ?_⟩, a3⟩
  · have := a2 l hl
    simp only [okLa, Bool.and_eq_true, decide_eq_true_eq] at this
    exact this.1
  · have := a6 a ha
    simp only [okAdd, Bool.and_eq_true, decide_eq_true_eq] at this
    exact ⟨this.1, this.2.1, this.2.2.2, this.2.2.1⟩
  · have := a7 l hl
    simp only [okLs, Bool.and_eq_true] at this
    exact this
  · have := a9 ds hds
    simp only [okDeds, Bool.and_eq_true, decide_eq_true_eq, List.all_eq_true] at this
    exact this
theorem RB.lvl {b : Brd} (h : RB b) : b.lv.length ≤ 1 ∧ b.lv.flatten.length ≤ 1 := by
  rcases h.lv with e | ⟨c, _, e⟩ <;> simp [e]
/-- a card of the board -/
def okC (b : Brd) (card : List Nat) : Prop := card.length = b.wd ∧ ∀ s ∈ card, s ∈ SG
/-! ### events, by the program -/
def tOk (on : List Bool) (cd : D) (card : List Nat) : Tst → Prop
  | .sg c s _ => cd = .str (mk card) ∧ c < card.length ∧ card.length ≤ 100
  | .lt n _ => n < on.length
theorem laS_get {on : List Bool} {n : Nat} (h : n < on.length) : (laS on)[n]? = some (if on.getD n false = true then 49 else 48) := by
  unfold laS
  rw [List.getElem?_map, List.getElem?_eq_getElem h]
  simp [List.getD_eq_getElem?_getD, h]
theorem laS_len (on : List Bool) : (laS on).length = on.length := by simp [laS]
theorem getD_of {α : Type} {l : List α} {i : Nat} {d : α} (h : i < l.length) : ∃ x, l[i]? = some x ∧ l.getD i d = x :=
  ⟨l[i], List.getElem?_eq_getElem h, by simp [List.getD_eq_getElem?_getD, h]⟩
theorem hold_step (w : List Tst) (on : List Bool) (ol : on.length ≤ 1000) (cd : D) (card : List Nat) (t : Tst) (h : tOk on cd card t) :
    ∃ ρ1, bName 3 (tstD t) [.imm (whenD w), .imm (.str (mk (laS on))), .imm cd, .undef] = some ρ1 ∧ (hold on card t = true → b_does_hold_1 ρ1 = .next [.imm (whenD w), .imm (.str (mk (laS on))), .imm cd, .undef]) ∧ (hold on card t = false → ∃ ρ', b_does_hold_1 ρ1 = .ret (.bool false) ρ') := by
  refine ⟨[.imm (whenD w), .imm (.str (mk (laS on))), .imm cd, .imm (tstD t)], by simp, ?_⟩
  have hl := laS_len on
  have hz : (laS on).length ≤ 16777216 := by omega
  cases t with
  | sg c s f =>
    obtain ⟨rfl, hc, hz2⟩ := h
    have hz3 : card.length ≤ 16777216 := by omega
    obtain ⟨x, hg, hx⟩ := getD_of (d := 0) hc
    refine ⟨fun hh => ?_, fun hh => ?_⟩
    · simp only [hold, hx, decide_eq_true_eq] at hh
      simp [b_does_hold_1, tstD, hz3, hg, hh]
    · simp only [hold, hx, decide_eq_false_iff_not] at hh
      simp [b_does_hold_1, tstD, hz3, hg, hh]
  | lt n f =>
    have hn : n < on.length := h
    have hg := laS_get hn
    refine ⟨fun hh => ?_, fun hh => ?_⟩
    · simp only [hold, decide_eq_true_eq] at hh
      cases e : on.getD n false <;> rw [e] at hg hh <;> simp [b_does_hold_1, tstD, hz, hg, ← hh]
    · simp only [hold, decide_eq_false_iff_not] at hh
      cases e : on.getD n false <;> rw [e] at hg hh <;> cases f <;> simp [b_does_hold_1, tstD, hz, hg] at hh ⊢
theorem does_hold_v (w : List Tst) (on : List Bool) (ol : on.length ≤ 1000) (cd : D) (card : List Nat) (h : ∀ t ∈ w, tOk on cd card t) (ρ : Rho) : callD 4 d_does_hold none [whenD w, .str (mk (laS on)), cd] ρ = .ok (.v (.bool (holds w on card))) ρ := by
  refine call_v ?_ ρ
  have L := dLoop_all (bind := bName 3) (body := b_does_hold_1) tstD [.imm (whenD w), .imm (.str (mk (laS on))), .imm cd, .undef] (hold on card) (.bool false) w fun t ht => hold_step w on ol cd card t (h t ht)
  cases e : w.all (hold on card) with
  | true =>
    have L1 := L.1 e
    simp [d_does_hold, f_does_hold_1, L1, holds, e, -List.all_eq_true]
  | false =>
    obtain ⟨ρ', L2⟩ := L.2 e
    simp [d_does_hold, f_does_hold_1, L2, holds, e, -List.all_eq_true, -List.all_eq_false]
theorem whenOk {b : Brd} {w : List Tst} {on : List Bool} {card : List Nat} (h : okWhen b true w = true) (ho : on.length = b.la.length) (hc : card.length = b.wd) (hw : b.wd ≤ 100) : ∀ t ∈ w, tOk on (.str (mk card)) card t := by
  simp only [okWhen, Bool.and_eq_true, List.all_eq_true] at h
  intro t ht
  have := h.2 t ht
  cases t with
  | sg c s f =>
    simp only [okTst, Bool.true_and, Bool.and_eq_true, decide_eq_true_eq] at this
    exact ⟨rfl, by omega, by omega⟩
  | lt n f =>
    simp only [okTst, decide_eq_true_eq] at this
    show n < on.length
    omega
theorem whenOk0 {b : Brd} {w : List Tst} {on : List Bool} (h : okWhen b false w = true) (ho : on.length = b.la.length) (cd : D) (card : List Nat) : ∀ t ∈ w, tOk on cd card t := by
  simp only [okWhen, Bool.and_eq_true, List.all_eq_true] at h
  intro t ht
  have := h.2 t ht
  cases t with
  | sg c s f => simp [okTst] at this
  | lt n f =>
    simp only [okTst, decide_eq_true_eq] at this
    show n < on.length
    omega
theorem holds_card {b : Brd} {w : List Tst} (h : okWhen b false w = true) (on : List Bool) (c1 c2 : List Nat) : holds w on c1 = holds w on c2 := by
  simp only [okWhen, Bool.and_eq_true, List.all_eq_true] at h
  have h := h.2
  unfold holds
  rw [Bool.eq_iff_iff, List.all_eq_true, List.all_eq_true]
  have key : ∀ t ∈ w, hold on c1 t = hold on c2 t := by
    intro t ht
    have := h t ht
    cases t with
    | sg c s f => simp [okTst] at this
    | lt n f => rfl
  exact ⟨fun k t ht => by rw [← key t ht]; exact k t ht, fun k t ht => by rw [key t ht]; exact k t ht⟩
theorem srtN_one (c : Nat) : srtN [c] = [(c : Int)] := rfl
theorem keys_on_v (b : Brd) (h : RB b) (card : List Nat) (hc : okC b card) (ρ : Rho) : callD 3 d_keys_on none [brdD b, .str (mk card)] ρ = .ok (.v (.str (mk (kof b card)))) ρ := by
  refine call_v ?_ ρ
  have hf := h.lvl.2
  have hz : card.length ≤ 16777216 := by have := hc.1; have := h.wd; omega
  have rk := raw_keys_n b (by omega)
  rcases h.lv with e | ⟨c, hcw, e⟩
  · rw [e] at rk
    have ec : c_keys_on_1 [.imm (brdD b), .imm (.str (mk card)), .undef] = .ok [] [.imm (brdD b), .imm (.str (mk card)), .undef] := by
      unfold c_keys_on_1
      exact dLc_all (α := Nat) (l := []) (fun _ => .none) (fun _ => .none) (by simp [rk, srtN, sortI]) rfl (by simp) fun a ha => by simp at ha
    have ej : dJoin (.str (mk [])) (.list []) = some (.str (mk [])) := dJoin_l (a := []) []
    simp [d_keys_on, ec, ej, kof, e]
  · rw [e] at rk
    have hcl : c < card.length := by rw [hc.1]; exact hcw
    obtain ⟨x, hg, hx⟩ := getD_of (d := 0) hcl
    have ec : c_keys_on_1 [.imm (brdD b), .imm (.str (mk card)), .undef] = .ok [.str (mk [x])] [.imm (brdD b), .imm (.str (mk card)), .undef] := by
      unfold c_keys_on_1
      exact dLc_all (α := Nat) (l := [c]) (fun c => .int (c : Int)) (fun _ => .str (mk [x])) (by simp [rk, srtN_one]) rfl (by simp) fun a ha => by
        rw [List.mem_singleton.mp ha]
        exact ⟨[.imm (brdD b), .imm (.str (mk card)), .imm (.int (c : Int))], by simp, by simp [hz, hg], by simp⟩
    have ej := join_one [x] (by simp)
    simp only [List.map_cons, List.map_nil] at ej
    simp only [kof, e, List.flatten_cons, List.flatten_nil, List.append_nil, List.map_cons, List.map_nil, hx]
    simp [d_keys_on, ec, ej]
theorem rgL_v (a b : Nat) (ha : a ≤ 1000) (hb : b ≤ 1000) (ρ : Rho) : dRgL (a : Int) (b : Int) ρ = .ok (rgD (a : Int) 1 ((b : Int) - (a : Int)).toNat) ρ := by
  unfold dRgL
  rw [if_pos (by unfold Mil; omega)]
theorem raw_broken_v (b : Brd) (h : RB b) (k k2 : List Nat) (hk : k.length = b.lv.length) (hk2 : k2.length = b.lv.length) (ρ : Rho) : callD 8 d_raw_broken none [brdD b, .str (mk k), .str (mk k2)] ρ = .ok (.n ((brk b k k2).map fun n : Nat => .int (n : Int))) ρ := by
  refine call_n ?_ ρ
  have hf := h.lvl.2
  have rk := raw_keys_n b (by omega)
  rcases h.lv with e | ⟨c, hcw, e⟩
  · rw [e] at rk
    have e1 : dIx (brdD b) (.int 1) = some (.tuple []) := by rw [brd_1, e]; rfl
    have e2 := rgL_v 0 0 (by omega) (by omega)
    have en : dSrcE (dOp dIx (dImm 0) (dC (.int 1))) [.imm (brdD b), .imm (.str (mk k)), .imm (.str (mk k2)), .imm (.list []), .imm (.int (-1)), .undef, .undef, .undef] = .ok [] [.imm (brdD b), .imm (.str (mk k)), .imm (.str (mk k2)), .imm (.list []), .imm (.int (-1)), .undef, .undef, .undef] := by
      simp [e1, -brd_1, numD]
    have e2' : ∀ ρ, dRgL 0 0 ρ = .ok [] ρ := fun ρ => e2 ρ
    simp [d_raw_broken, rk, srtN, sortI, bCons, bNil, f_raw_broken_1, en, -dSrcE_e, dLoop_nil, e2', brk, e]
  · rw [e] at rk hk hk2
    have e1 : dIx (brdD b) (.int 1) = some (.tuple [lotD [c]]) := by rw [brd_1, e]; rfl
    obtain ⟨x, rfl⟩ : ∃ x, k = [x] := List.length_eq_one_iff.mp (by simpa using hk)
    obtain ⟨y, rfl⟩ : ∃ y, k2 = [y] := List.length_eq_one_iff.mp (by simpa using hk2)
    let R : Slot → Slot → Slot → Slot → Rho := fun s4 s5 s6 s7 => [.imm (brdD b), .imm (.str (mk [x])), .imm (.str (mk [y])), .imm (.list [.int (c : Int)]), s4, s5, s6, s7]
    have ec : c_raw_broken_1 (R (.imm (.int (-1))) (.imm (.int 0)) (.imm (lotD [c])) .undef) = .ok [.bool (!decide (x = y))] (R (.imm (.int (-1))) (.imm (.int 0)) (.imm (lotD [c])) .undef) := by
      unfold c_raw_broken_1
      exact dLc_all (α := Nat) (l := [c]) (fun c => .int (c : Int)) (fun c => .bool (!decide (x = y))) (by simp [R]) rfl (by simp) fun a ha => by
        rw [List.mem_singleton.mp ha]
        exact ⟨R (.imm (.int (-1))) (.imm (.int 0)) (.imm (lotD [c])) (.imm (.int (c : Int))), by simp [R], by simp [R, dIdx_one], by simp [R]⟩
    have en : dSrcE (dOp dIx (dImm 0) (dC (.int 1))) (R (.imm (.int (-1))) .undef .undef .undef) = .ok [.tuple [.int 0, lotD [c]]] (R (.imm (.int (-1))) .undef .undef .undef) := by
      simp [R, e1, -brd_1, numD]
    have any1 : dAny (.list [.bool (!decide (x = y))]) = some (.bool (!decide (x = y))) := by have := dAny_b (l := [!decide (x = y)]); simpa using this
    have e20 : ∀ ρ, dRgL 0 0 ρ = .ok [] ρ := fun ρ => rgL_v 0 0 (by omega) (by omega) ρ
    have e21 : ∀ ρ, dRgL 0 1 ρ = .ok [.int 0] ρ := fun ρ => rgL_v 0 1 (by omega) (by omega) ρ
    simp only [R] at ec
    have eb : b_raw_broken_1 (R (.imm (.int (-1))) (.imm (.int 0)) (.imm (lotD [c])) .undef) = .next (R (.imm (.int (if x = y then -1 else 0))) .undef .undef .undef) := by
      by_cases hxy : x = y <;> simp [hxy] at any1 ec <;> simp [R, b_raw_broken_1, ec, any1, hxy]
    have eL : f_raw_broken_1 (R (.imm (.int (-1))) .undef .undef .undef) = .next (R (.imm (.int (if x = y then -1 else 0))) .undef .undef .undef) := by
      have h1 : bTup (bCons (bName 5) (bCons (bName 6) (bNil))) (.tuple [.int 0, lotD [c]]) (R (.imm (.int (-1))) .undef .undef .undef) = some (R (.imm (.int (-1))) (.imm (.int 0)) (.imm (lotD [c])) .undef) := by simp [R, bCons, bNil]
      unfold f_raw_broken_1
      rw [dFor_e, en]
      exact dLoop_next h1 eb
    simp only [R] at eL
    have hb : brk b [x] [y] = if x = y then [] else [0] := by simp [brk, e]
    rw [hb]
    by_cases hxy : x = y <;> simp only [hxy, if_true, if_false] at eL ⊢ <;> simp [d_raw_broken, rk, srtN_one, bCons, bNil, eL, e20, e21]
theorem join_bits (on : List Bool) (h : on.length ≤ 1000) : dJoin (.str (mk [])) (.list (on.map fun p => .str (mk [if p = true then 49 else 48]))) = some (.str (mk (laS on))) := by
  have := join_one (laS on) (by rw [laS_len]; omega)
  rw [← this]
  unfold laS
  rw [List.map_map]
  rfl
theorem latches_off_v (b : Brd) (h : RB b) (on : List Bool) (ho : on.length = b.la.length) (lev : Nat) (ρ : Rho) : callD 5 d_latches_off none [brdD b, .str (mk (laS on)), .int (lev : Int)] ρ = .ok (.v (.str (mk (laS (offs b.la on lev))))) ρ := by
  refine call_v ?_ ρ
  have hla := h.la.1
  have hz : (laS on).length ≤ 16777216 := by rw [laS_len]; omega
  have ol := offs_len (lev := lev) ho
  have ec : c_latches_off_1 [.imm (brdD b), .imm (.str (mk (laS on))), .imm (.int (lev : Int)), .undef, .undef] = .ok ((offs b.la on lev).map fun p => .str (mk [if p = true then 49 else 48])) [.imm (brdD b), .imm (.str (mk (laS on))), .imm (.int (lev : Int)), .undef, .undef] := by
    have e1 : ((offs b.la on lev).map fun p => PyData.str (mk [if p = true then 49 else 48])) = (b.la.zip on).map fun p => .str (mk [if (if p.1.2.2 = lev then false else p.2) = true then 49 else 48]) := by
      unfold offs
      rw [List.map_zipWith, ← zipmap fun p : (Nat × Nat × Nat) × Bool => PyData.str (mk [if (if p.1.2.2 = lev then false else p.2) = true then 49 else 48])]
    rw [e1]
    unfold c_latches_off_1
    refine dLc_all (fun p : (Nat × Nat × Nat) × Bool => .tuple [laD p.1, .str (mk [if p.2 = true then 49 else 48])]) _ ?_ rfl (by simp; omega) fun p hp => ⟨[.imm (brdD b), .imm (.str (mk (laS on))), .imm (.int (lev : Int)), .imm (laD p.1), .imm (.str (mk [if p.2 = true then 49 else 48]))], by simp [bCons, bNil], ?_, by simp⟩
    · simp [laS, zipmap]
    · have e3 : dIx (laD p.1) (.int 2) = some (.int (p.1.2.2 : Int)) := by simp [laD]
      by_cases hl : p.1.2.2 = lev
      · simp [e3, hl]
      · have hl' : ¬ ((p.1.2.2 : Int) = (lev : Int)) := by omega
        simp [e3, hl, hl']
  have ej := join_bits (offs b.la on lev) (by omega)
  generalize offs b.la on lev = of at ec ej ⊢
  simp [d_latches_off, ec, ej]
theorem latches_on_v (b : Brd) (h : RB b) (on : List Bool) (ho : on.length = b.la.length) (card : List Nat) (hc : okC b card) (ρ : Rho) : callD 5 d_latches_on none [brdD b, .str (mk (laS on)), .str (mk card)] ρ = .ok (.v (.str (mk (laS (ons b.la on card))))) ρ := by
  refine call_v ?_ ρ
  have hla := h.la.1
  have hwd := h.wd
  have hcz : card.length ≤ 16777216 := by have := hc.1; omega
  have ol := ons_len (card := card) ho
  have ec : c_latches_on_1 [.imm (brdD b), .imm (.str (mk (laS on))), .imm (.str (mk card)), .undef, .undef] = .ok ((ons b.la on card).map fun p => .str (mk [if p = true then 49 else 48])) [.imm (brdD b), .imm (.str (mk (laS on))), .imm (.str (mk card)), .undef, .undef] := by
    have e1 : ((ons b.la on card).map fun p => PyData.str (mk [if p = true then 49 else 48])) = (b.la.zip on).map fun p => .str (mk [if (if card.getD p.1.1 0 = p.1.2.1 then true else p.2) = true then 49 else 48]) := by
      unfold ons
      rw [List.map_zipWith, ← zipmap fun p : (Nat × Nat × Nat) × Bool => PyData.str (mk [if (if card.getD p.1.1 0 = p.1.2.1 then true else p.2) = true then 49 else 48])]
    rw [e1]
    unfold c_latches_on_1
    refine dLc_all (fun p : (Nat × Nat × Nat) × Bool => .tuple [laD p.1, .str (mk [if p.2 = true then 49 else 48])]) _ ?_ rfl (by simp; omega) fun p hp => ⟨[.imm (brdD b), .imm (.str (mk (laS on))), .imm (.str (mk card)), .imm (laD p.1), .imm (.str (mk [if p.2 = true then 49 else 48]))], by simp [bCons, bNil], ?_, by simp⟩
    · simp [laS, zipmap]
    · have e3 : dIx (laD p.1) (.int 0) = some (.int (p.1.1 : Int)) := by simp [laD]
      have e4 : dIx (laD p.1) (.int 1) = some (.str (mk [p.1.2.1])) := by simp [laD]
      have hcl : p.1.1 < card.length := by rw [hc.1]; exact h.la.2 _ (List.of_mem_zip hp).1
      obtain ⟨x, hg, hx⟩ := getD_of (d := 0) hcl
      rw [hx]
      by_cases hl : x = p.1.2.1
      · simp [e3, e4, hcz, hg, hl]
      · simp [e3, e4, hcz, hg, hl]
  have ej := join_bits (ons b.la on card) (by omega)
  generalize ons b.la on card = of at ec ej ⊢
  simp [d_latches_on, ec, ej]
theorem evD_deed (l n : Nat) : evD (.deed l n) = .tuple [.str (mk [100, 101, 101, 100]), .int (l : Int), .int (n : Int)] := rfl
theorem deed_step (b : Brd) (lev : Nat) (on : List Bool) (ol : on.length ≤ 1000) (ho : on.length = b.la.length) (d : Ded) (hd : okDed b d = true) (i : Nat) (es : List Ev) (hes : es.length ≤ 1000) :
    ∃ ρ1, bTup (bCons (bName 4) (bCons (bName 5) (bNil))) (.tuple [.int (i : Int), dedD d]) [.imm (brdD b), .imm (.int (lev : Int)), .imm (.str (mk (laS on))), .own (es.map evD), .undef, .undef] = some ρ1 ∧
      b_deed_events_1 ρ1 = .next [.imm (brdD b), .imm (.int (lev : Int)), .imm (.str (mk (laS on))), .own ((if does on d = true then es ++ [.deed lev i] else es).map evD), .undef, .undef] := by
  have hz : es.length < 16777216 := by omega
  refine ⟨[.imm (brdD b), .imm (.int (lev : Int)), .imm (.str (mk (laS on))), .own (es.map evD), .imm (.int (i : Int)), .imm (dedD d)], by simp [bCons, bNil], ?_⟩
  cases d with
  | pr w is =>
    have hw : okWhen b false w = true := by
      simp only [okDed, Bool.and_eq_true] at hd
      exact hd.1
    have dh := does_hold_v w on ol .none [] (whenOk0 hw ho .none [])
    have e0 : dIx (dedD (.pr w is)) (.int 0) = some (.str (mk [112, 114, 105, 110, 116])) := by simp [dedD]
    have e1 : dIx (dedD (.pr w is)) (.int 1) = some (whenD w) := by simp [dedD]
    rw [show does on (.pr w is) = holds w on [] from rfl]
    cases hh : holds w on [] with
    | true => rw [hh] at dh; simp [b_deed_events_1, e0, e1, dh, hz, evD_deed]
    | false => rw [hh] at dh; simp [b_deed_events_1, e0, e1, dh]
  | roll x y =>
    have e0 : dIx (dedD (.roll x y)) (.int 0) = some (.str (mk [114, 111, 108, 108])) := by simp [dedD]
    simp [b_deed_events_1, e0, hz, evD_deed, does]
  | clear x =>
    have e0 : dIx (dedD (.clear x)) (.int 0) = some (.str (mk [99, 108, 101, 97, 114])) := by simp [dedD]
    simp [b_deed_events_1, e0, hz, evD_deed, does]
theorem foldl_filt {α β : Type} (p : α → Bool) (f : α → β) : ∀ (l : List α) (acc : List β), l.foldl (fun acc a => if p a = true then acc ++ [f a] else acc) acc = acc ++ (l.filter p).map f
  | [], acc => by simp
  | a :: l, acc => by
    rw [List.foldl_cons, foldl_filt p f l]
    by_cases h : p a = true <;> simp [h]
theorem deed_events_n (b : Brd) (h : RB b) (lev : Nat) (hl : lev ≤ b.lv.length) (on : List Bool) (ho : on.length = b.la.length) (ρ : Rho) : callD 6 d_deed_events none [brdD b, .int (lev : Int), .str (mk (laS on))] ρ = .ok (.n ((dEvs b lev on).map evD)) ρ := by
  refine call_n ?_ ρ
  have ol : on.length ≤ 1000 := by have := h.la.1; omega
  have hlt : lev < b.to.length := by have := h.to.1; omega
  obtain ⟨ds, hds⟩ : ∃ ds, b.to[lev]? = some ds := ⟨_, List.getElem?_eq_getElem hlt⟩
  have hm : ds ∈ b.to := List.mem_of_getElem? hds
  obtain ⟨d12, dok⟩ := h.to.2 ds hm
  have hgd : b.to.getD lev [] = ds := by simp [List.getD_eq_getElem?_getD, hds]
  let enc : List Ev → Rho := fun es => [.imm (brdD b), .imm (.int (lev : Int)), .imm (.str (mk (laS on))), .own (es.map evD), .undef, .undef]
  have it : dSrcE (dOp dIx (dOp dIx (dImm 0) (dC (.int 6))) (dImm 1)) (enc []) = .ok ((ds.zipIdx).map fun p : Ded × Nat => .tuple [.int (p.2 : Int), dedD p.1]) (enc []) := by
    have := numD_map dedD ds 0
    simp [enc, hds, this]
  have L := dLoop_foldp (bind := bTup (bCons (bName 4) (bCons (bName 5) (bNil)))) (body := b_deed_events_1) (fun p : Ded × Nat => .tuple [.int (p.2 : Int), dedD p.1]) enc (fun es p => if does on p.1 = true then es ++ [.deed lev p.2] else es) [] (ds.zipIdx) fun pre p post hpl => by
    rw [foldl_filt (fun p : Ded × Nat => does on p.1) (fun p => Ev.deed lev p.2), List.nil_append]
    have hpm : p ∈ ds.zipIdx := by rw [hpl]; simp
    have hp1 : p.1 ∈ ds := (List.mem_zipIdx' hpm).2 ▸ List.getElem_mem _
    have hlen : ((pre.filter fun p => does on p.1).map fun p => Ev.deed lev p.2).length ≤ 1000 := by
      rw [List.length_map]
      have h1 := List.length_filter_le (fun p : Ded × Nat => does on p.1) pre
      have h2 : pre.length ≤ ds.zipIdx.length := by rw [hpl]; simp
      rw [List.length_zipIdx] at h2
      omega
    exact deed_step b lev on ol ho p.1 (dok p.1 hp1) p.2 _ hlen
  rw [foldl_filt (fun p : Ded × Nat => does on p.1) (fun p => Ev.deed lev p.2), List.nil_append] at L
  have eF : f_deed_events_1 (enc []) = .next (enc (dEvs b lev on)) := by
    unfold f_deed_events_1 dEvs
    rw [dFor_e, it, hgd]
    exact L
  simp only [enc, List.map_nil] at eF
  generalize dEvs b lev on = es at eF ⊢
  simp [d_deed_events, eF]
def okK (b : Brd) : Option (List Nat) → Prop
  | none => True
  | some k => k.length = b.lv.length
/-- a state of the board -/
def okSt (b : Brd) (st : Sta) : Prop := okK b st.1 ∧ st.2.length = b.la.length
theorem kof_len {b : Brd} (h : RB b) (card : List Nat) : (kof b card).length = b.lv.length := by
  unfold kof
  rcases h.lv with e | ⟨c, _, e⟩ <;> simp [e]
theorem dEvs_len {b : Brd} (h : RB b) {lev : Nat} (hl : lev ≤ b.lv.length) (on : List Bool) : (dEvs b lev on).length ≤ 12 := by
  unfold dEvs
  have hlt : lev < b.to.length := by have := h.to.1; omega
  have hm : b.to.getD lev [] ∈ b.to := by
    rw [List.getD_eq_getElem?_getD, List.getElem?_eq_getElem hlt]
    exact List.getElem_mem hlt
  have := (h.to.2 _ hm).1
  rw [List.length_map]
  refine Nat.le_trans (List.length_filter_le _ _) ?_
  rw [List.length_zipIdx]
  exact this
theorem goD_len {b : Brd} (h : RB b) : ∀ (l : List Nat) (p : List Ev × List Bool), (∀ n ∈ l, n ≤ b.lv.length) → p.2.length = b.la.length → (l.foldl (goD b) p).2.length = b.la.length ∧ (l.foldl (goD b) p).1.length ≤ p.1.length + 12 * l.length
  | [], p, _, h2 => ⟨h2, by simp⟩
  | n :: l, p, hl, h2 => by
    have hn := hl n (List.mem_cons_self ..)
    have := goD_len h l (goD b p n) (fun m hm => hl m (List.mem_cons_of_mem _ hm)) (offs_len h2)
    refine ⟨this.1, Nat.le_trans this.2 ?_⟩
    have e := dEvs_len h hn p.2
    simp only [goD, List.length_append, List.length_cons]
    omega
theorem brk_mem {b : Brd} {k k2 : List Nat} (h : RB b) : (∀ n ∈ brk b k k2, n < b.lv.length) ∧ (brk b k k2).length ≤ 1 := by
  unfold brk
  split
  · simp
  · rename_i hc
    rcases h.lv with e | ⟨c, _, e⟩
    · exact absurd (.inl e) hc
    · simp [e]
theorem ev_body (b : Brd) (h : RB b) (s2 s3 s5 : Slot) (lev : Nat) (hl : lev ≤ b.lv.length) (es : List Ev) (hes : es.length ≤ 1000) (on : List Bool) (ho : on.length = b.la.length) :
    b_raw_events_1 [.imm (brdD b), .undef, s2, s3, .imm (.str (mk (laS on))), s5, .own (es.map evD), .imm (.int (lev : Int)), .undef, .undef, .undef] =
      .next [.imm (brdD b), .undef, s2, s3, .imm (.str (mk (laS (goD b (es, on) lev).2))), s5, .own ((goD b (es, on) lev).1.map evD), .undef, .undef, .undef, .undef] := by
  have h12 := dEvs_len h hl on
  have hz : es.length + (dEvs b lev on).length ≤ 16777216 := by omega
  have e1 := deed_events_n b h lev hl on ho
  have e2 := latches_off_v b h on ho lev
  simp only [goD]
  generalize dEvs b lev on = de at *
  generalize offs b.la on lev = ol at *
  simp [b_raw_events_1, e1, e2, hz]
theorem add_comp (b : Brd) (h : RB b) (card : List Nat) (hc : okC b card) (on : List Bool) (ho : on.length = b.la.length) (s1 s3 s5 s6 s7 : Slot) :
    c_raw_events_1 [.imm (brdD b), s1, .imm (.str (mk card)), s3, .imm (.str (mk (laS on))), s5, s6, s7, .undef, .undef, .undef] = .ok ((aEvs b on card).map evD) [.imm (brdD b), s1, .imm (.str (mk card)), s3, .imm (.str (mk (laS on))), s5, s6, s7, .undef, .undef, .undef] := by
  have ol : on.length ≤ 1000 := by have := h.la.1; omega
  unfold c_raw_events_1 aEvs
  rw [List.map_map]
  refine dLc_gen (fun p : Add × Nat => .tuple [.int (p.2 : Int), addD p.1]) (fun p => holds p.1.w on card) _ ?_ rfl (by have := h.ad.1; simp; omega) fun p hp => ?_
  · have := numD_map addD b.ad 0
    simp [this]
  · have hm : p.1 ∈ b.ad := (List.mem_zipIdx' hp).2 ▸ List.getElem_mem _
    have hw := whenOk (card := card) (on := on) (h.ad.2 p.1 hm).1 ho hc.1 h.wd
    have dh := does_hold_v p.1.w on ol (.str (mk card)) card hw
    have e0 : dIx (addD p.1) (.int 0) = some (whenD p.1.w) := by simp [addD]
    exact ⟨[.imm (brdD b), s1, .imm (.str (mk card)), s3, .imm (.str (mk (laS on))), s5, s6, s7, .imm (.int (p.2 : Int)), .imm (addD p.1), .undef], by simp [bCons, bNil], by simp [e0, dh], fun _ => by simp [evD], by simp⟩
theorem list_comp (b : Brd) (h : RB b) (card : List Nat) (hc : okC b card) (on : List Bool) (ho : on.length = b.la.length) (s1 s3 s5 s6 s7 : Slot) :
    c_raw_events_2 [.imm (brdD b), s1, .imm (.str (mk card)), s3, .imm (.str (mk (laS on))), s5, s6, s7, .undef, .undef, .undef] = .ok ((lEvs b on card).map evD) [.imm (brdD b), s1, .imm (.str (mk card)), s3, .imm (.str (mk (laS on))), s5, s6, s7, .undef, .undef, .undef] := by
  have ol : on.length ≤ 1000 := by have := h.la.1; omega
  unfold c_raw_events_2 lEvs
  rw [List.map_map]
  refine dLc_gen (fun p : (List Tst × List Itm) × Nat => .tuple [.int (p.2 : Int), lsD p.1]) (fun p => holds p.1.1 on card) _ ?_ rfl (by have := h.ls.1; simp; omega) fun p hp => ?_
  · have := numD_map lsD b.ls 0
    simp [this]
  · have hm : p.1 ∈ b.ls := (List.mem_zipIdx' hp).2 ▸ List.getElem_mem _
    have hw := whenOk (card := card) (on := on) (h.ls.2 p.1 hm).1 ho hc.1 h.wd
    have dh := does_hold_v p.1.1 on ol (.str (mk card)) card hw
    have e0 : dIx (lsD p.1) (.int 0) = some (whenD p.1.1) := by simp [lsD]
    exact ⟨[.imm (brdD b), s1, .imm (.str (mk card)), s3, .imm (.str (mk (laS on))), s5, s6, s7, .imm (.int (p.2 : Int)), .undef, .imm (lsD p.1)], by simp [bCons, bNil], by simp [e0, dh], fun _ => by simp [evD], by simp⟩
theorem aEvs_len {b : Brd} (h : RB b) (on : List Bool) (card : List Nat) : (aEvs b on card).length ≤ 1000 := by
  unfold aEvs
  rw [List.length_map]
  refine Nat.le_trans (List.length_filter_le _ _) ?_
  rw [List.length_zipIdx]
  exact h.ad.1
theorem lEvs_len {b : Brd} (h : RB b) (on : List Bool) (card : List Nat) : (lEvs b on card).length ≤ 1000 := by
  unfold lEvs
  rw [List.length_map]
  refine Nat.le_trans (List.length_filter_le _ _) ?_
  rw [List.length_zipIdx]
  exact h.ls.1
theorem brks_ok {b : Brd} (h : RB b) {st : Sta} (hs : okSt b st) (card : List Nat) : (brks b st card).2.length = b.la.length ∧ (brks b st card).1.length ≤ 12 := by
  unfold brks
  cases hk : st.1 with
  | none => exact ⟨hs.2, by simp⟩
  | some k =>
    have B := brk_mem (k := k) (k2 := kof b card) h
    have := goD_len h (brk b k (kof b card)) ([], st.2) (fun n hn => Nat.le_of_lt (B.1 n hn)) hs.2
    refine ⟨this.1, Nat.le_trans this.2 ?_⟩
    simp; omega
theorem evs_ok {b : Brd} (h : RB b) {st : Sta} (hs : okSt b st) (card : List Nat) : okSt b (evs b st card).2 ∧ (evs b st card).1.length ≤ 2100 := by
  have B := brks_ok h hs card
  refine ⟨⟨kof_len h card, ons_len B.1⟩, ?_⟩
  have e1 := aEvs_len h (ons b.la (brks b st card).2 card) card
  have e2 := lEvs_len h (ons b.la (brks b st card).2 card) card
  simp only [evs, List.length_append]
  omega
theorem raw_events_v (b : Brd) (h : RB b) (st : Sta) (hs : okSt b st) (card : List Nat) (hc : okC b card) (ρ : Rho) :
    callD 11 d_raw_events none [brdD b, stD st, .str (mk card)] ρ = .ok (.v (.tuple [.list ((evs b st card).1.map evD), stD (evs b st card).2])) ρ := by
  refine call_v ?_ ρ
  obtain ⟨k, on⟩ := st
  obtain ⟨hk, ho⟩ := hs
  have B := brks_ok h (st := (k, on)) ⟨hk, ho⟩ card
  have kon := keys_on_v b h card hc
  -- the breaks
  have e3 : ∃ s1, dIf (dBool (dF (fun d => !isNon d) (dImm 3))) (dKill [1] (f_raw_events_1)) (dNext) [.imm (brdD b), .imm (stD (k, on)), .imm (.str (mk card)), .imm (kyD k), .imm (.str (mk (laS on))), .imm (.str (mk (kof b card))), .own [], .undef, .undef, .undef, .undef] =
      .next [.imm (brdD b), s1, .imm (.str (mk card)), .imm (kyD k), .imm (.str (mk (laS (brks b (k, on) card).2))), .imm (.str (mk (kof b card))), .own ((brks b (k, on) card).1.map evD), .undef, .undef, .undef, .undef] := by
    cases k with
    | none => exact ⟨.imm (stD (none, on)), by simp [brks]⟩
    | some k =>
      refine ⟨.undef, ?_⟩
      have hk' : k.length = b.lv.length := hk
      have rb := raw_broken_v b h k (kof b card) hk' (kof_len h card)
      let enc : List Ev × List Bool → Rho := fun p => [.imm (brdD b), .undef, .imm (.str (mk card)), .imm (.str (mk k)), .imm (.str (mk (laS p.2))), .imm (.str (mk (kof b card))), .own (p.1.map evD), .undef, .undef, .undef, .undef]
      have M := brk_mem (k := k) (k2 := kof b card) h
      have L := dLoop_foldp (bind := bName 7) (body := b_raw_events_1) (fun n : Nat => .int (n : Int)) enc (goD b) ([], on) (brk b k (kof b card)) fun pre n post hpl => by
        have hn : n < b.lv.length := M.1 n (by rw [hpl]; simp)
        have hpre := goD_len h pre ([], on) (fun m hm => Nat.le_of_lt (M.1 m (by rw [hpl]; simp [hm]))) ho
        have hpl1 : pre.length ≤ 1 := by have := M.2; rw [hpl] at this; simp at this; omega
        have hlen : (pre.foldl (goD b) ([], on)).1.length ≤ 1000 := by have := hpre.2; simp at this; omega
        refine ⟨_, ?_, ev_body b h _ _ _ n (Nat.le_of_lt hn) _ hlen _ hpre.1⟩
        simp [enc]
      have eF : f_raw_events_1 (enc ([], on)) = .next (enc ((brk b k (kof b card)).foldl (goD b) ([], on))) := by
        unfold f_raw_events_1
        rw [dFor_e]
        have : dSrc (dVal (dCallV 8 d_raw_broken (dCons (dImm 0) (dCons (dImm 3) (dCons (dImm 5) (dNil)))))) (enc ([], on)) = .ok ((brk b k (kof b card)).map fun n : Nat => .int (n : Int)) (enc ([], on)) := by
          simp [enc, rb]
        rw [this]
        exact L
      have hb : brks b (some k, on) card = (brk b k (kof b card)).foldl (goD b) ([], on) := rfl
      rw [← hb] at eF
      simp only [enc, List.map_nil] at eF
      generalize brks b (some k, on) card = bk at eF
      simp [kyD, eF]
  obtain ⟨s1, e3⟩ := e3
  have lon := latches_on_v b h (brks b (k, on) card).2 B.1 card hc
  have hon := ons_len (card := card) B.1
  have ac := add_comp b h card hc _ hon
  have lc := list_comp b h card hc _ hon
  have al := aEvs_len h (ons b.la (brks b (k, on) card).2 card) card
  have ll := lEvs_len h (ons b.la (brks b (k, on) card).2 card) card
  have bl := B.2
  have ev : evs b (k, on) card = ((brks b (k, on) card).1 ++ aEvs b (ons b.la (brks b (k, on) card).2 card) card ++ lEvs b (ons b.la (brks b (k, on) card).2 card) card, (some (kof b card), ons b.la (brks b (k, on) card).2 card)) := rfl
  rw [ev]
  generalize aEvs b (ons b.la (brks b (k, on) card).2 card) card = ae at *
  generalize lEvs b (ons b.la (brks b (k, on) card).2 card) card = le at *
  generalize ons b.la (brks b (k, on) card).2 card = on1 at *
  generalize brks b (k, on) card = bk at *
  obtain ⟨be, on0⟩ := bk
  simp only at *
  have z1 : be.length + ae.length ≤ 16777216 := by omega
  have z2 : be.length + (ae.length + le.length) ≤ 16777216 := by omega
  unfold d_raw_events
  refine exq (seq_next (ρ1 := [.imm (brdD b), .imm (stD (k, on)), .imm (.str (mk card)), .imm (kyD k), .imm (.str (mk (laS on))), .undef, .undef, .undef, .undef, .undef, .undef]) (by simp [stD, bCons, bNil])) ?_
  refine exq (seq_next (ρ1 := [.imm (brdD b), .imm (stD (k, on)), .imm (.str (mk card)), .imm (kyD k), .imm (.str (mk (laS on))), .imm (.str (mk (kof b card))), .own [], .undef, .undef, .undef, .undef]) (by simp [kon])) ?_
  refine exq (seq_next e3) ?_
  refine exq (seq_next (ρ1 := [.imm (brdD b), s1, .imm (.str (mk card)), .imm (kyD k), .imm (.str (mk (laS on1))), .imm (.str (mk (kof b card))), .own (be.map evD), .undef, .undef, .undef, .undef]) (by simp [lon])) ?_
  refine exq (seq_next (ρ1 := [.imm (brdD b), s1, .imm (.str (mk card)), .imm (kyD k), .imm (.str (mk (laS on1))), .imm (.str (mk (kof b card))), .own ((be ++ ae).map evD), .undef, .undef, .undef, .undef]) (by simp [ac, z1])) ?_
  refine exq (seq_next (ρ1 := [.imm (brdD b), s1, .imm (.str (mk card)), .imm (kyD k), .imm (.str (mk (laS on1))), .imm (.str (mk (kof b card))), .own ((be ++ ae ++ le).map evD), .undef, .undef, .undef, .undef]) (by simp [lc, z2, Nat.add_assoc])) ?_
  simp [stD, kyD]
theorem end_body (b : Brd) (h : RB b) (s0 s1 : Slot) (lev : Nat) (hl : lev ≤ b.lv.length) (es : List Ev) (hes : es.length ≤ 1000) (on : List Bool) (ho : on.length = b.la.length) :
    b_raw_end_events_1 [.imm (brdD b), .undef, .undef, .imm (.str (mk (laS on))), .own (es.map evD), .imm (.int (lev : Int))] =
      .next [.imm (brdD b), .undef, .undef, .imm (.str (mk (laS (goD b (es, on) lev).2))), .own ((goD b (es, on) lev).1.map evD), .undef] := by
  have h12 := dEvs_len h hl on
  have hz : es.length + (dEvs b lev on).length ≤ 16777216 := by omega
  have e1 := deed_events_n b h lev hl on ho
  have e2 := latches_off_v b h on ho lev
  simp only [goD]
  generalize dEvs b lev on = de at *
  generalize offs b.la on lev = ol at *
  simp [b_raw_end_events_1, e1, e2, hz]
theorem raw_end_events_n (b : Brd) (h : RB b) (st : Sta) (hs : okSt b st) (ρ : Rho) : callD 6 d_raw_end_events none [brdD b, stD st] ρ = .ok (.n ((endEvs b st).map evD)) ρ := by
  refine call_n ?_ ρ
  obtain ⟨k, on⟩ := st
  obtain ⟨hk, ho⟩ := hs
  have lvl := h.lvl.1
  have hlv : dLen (lvD b.lv) = some (.int (b.lv.length : Int)) := by simp [lvD]
  have hi1 : dIx (brdD b) (.int 1) = some (lvD b.lv) := by simp
  obtain ⟨p, hp, hp2, hpl, s1, s2, e3⟩ : ∃ p : List Ev × List Bool, endEvs b (k, on) = p.1 ++ dEvs b b.lv.length p.2 ∧ p.2.length = b.la.length ∧ p.1.length ≤ 1000 ∧ ∃ s1 s2, dIf (dBool (dF (fun d => !isNon d) (dImm 2))) (dKill [1, 2] (f_raw_end_events_1)) (dNext) [.imm (brdD b), .imm (stD (k, on)), .imm (kyD k), .imm (.str (mk (laS on))), .own [], .undef] =
      .next [.imm (brdD b), s1, s2, .imm (.str (mk (laS p.2))), .own (p.1.map evD), .undef] := by
    cases k with
    | none => exact ⟨([], on), rfl, ho, by simp, .imm (stD (none, on)), .imm .none, by simp [kyD]⟩
    | some k =>
      let enc : List Ev × List Bool → Rho := fun p => [.imm (brdD b), .undef, .undef, .imm (.str (mk (laS p.2))), .own (p.1.map evD), .undef]
      have L := dLoop_foldp (bind := bName 5) (body := b_raw_end_events_1) (fun n : Nat => .int (n : Int)) enc (goD b) ([], on) (List.range b.lv.length) fun pre n post hpl => by
        have hn : n ∈ List.range b.lv.length := by rw [hpl]; simp
        rw [List.mem_range] at hn
        have hpm : ∀ m ∈ pre, m ≤ b.lv.length := fun m hm => by
          have : m ∈ List.range b.lv.length := by rw [hpl]; simp [hm]
          rw [List.mem_range] at this
          omega
        have hpre := goD_len h pre ([], on) hpm ho
        have hpl1 : pre.length ≤ 1 := by have : (List.range b.lv.length).length = _ := congrArg List.length hpl; simp at this; omega
        have hlen : (pre.foldl (goD b) ([], on)).1.length ≤ 1000 := by have := hpre.2; simp at this; omega
        refine ⟨_, ?_, end_body b h .undef .undef n (Nat.le_of_lt hn) _ hlen _ hpre.1⟩
        simp [enc]
      have hG := goD_len h (List.range b.lv.length) ([], on) (fun m hm => by rw [List.mem_range] at hm; omega) ho
      refine ⟨(List.range b.lv.length).foldl (goD b) ([], on), rfl, hG.1, by have := hG.2; simp at this; omega, .undef, .undef, ?_⟩
      have eF : f_raw_end_events_1 (enc ([], on)) = .next (enc ((List.range b.lv.length).foldl (goD b) ([], on))) := by
        unfold f_raw_end_events_1
        have : dRng1 (d1 dLen (dOp dIx (dImm 0) (dC (.int 1)))) (enc ([], on)) = .ok ((List.range b.lv.length).map fun n : Nat => .int (n : Int)) (enc ([], on)) := by
          have := dRng1_v (a := d1 dLen (dOp dIx (dImm 0) (dC (.int 1)))) (ρ := enc ([], on)) (ρ1 := enc ([], on)) (j := (b.lv.length : Int)) (by simp [enc, hlv]) (by omega) (by omega)
          rw [this, Int.toNat_natCast, rgD_range]
        rw [dFor_e, this]
        exact L
      simp only [enc, List.map_nil] at eF
      generalize (List.range b.lv.length).foldl (goD b) ([], on) = bk at eF
      simp [kyD, eF]
  rw [hp]
  have dn := deed_events_n b h b.lv.length (Nat.le_refl _) p.2 hp2
  have dl := dEvs_len h (Nat.le_refl _) p.2
  have z : p.1.length + (dEvs b b.lv.length p.2).length ≤ 16777216 := by omega
  generalize dEvs b b.lv.length p.2 = de at *
  unfold d_raw_end_events
  refine exq (seq_next (ρ1 := [.imm (brdD b), .imm (stD (k, on)), .imm (kyD k), .imm (.str (mk (laS on))), .undef, .undef]) (by simp [stD, bCons, bNil])) ?_
  refine exq (seq_next (ρ1 := [.imm (brdD b), .imm (stD (k, on)), .imm (kyD k), .imm (.str (mk (laS on))), .own [], .undef]) (by simp)) ?_
  refine exq (seq_next e3) ?_
  simp [hlv, dn, z]
theorem raw_first_state_v (b : Brd) (h : RB b) (ρ : Rho) : callD 1 d_raw_first_state none [brdD b] ρ = .ok (.v (stD (fst0 b))) ρ := by
  refine call_v ?_ ρ
  have z : (b.la.length : Int) ≤ 1000000 ∧ -1000000 ≤ (b.la.length : Int) := by have := h.la.1; omega
  have e : laS (List.replicate b.la.length false) = List.replicate b.la.length 48 := by simp [laS]
  have e2 : (List.replicate b.la.length [48]).flatten = List.replicate b.la.length 48 := by
    generalize b.la.length = n
    induction n with
    | zero => rfl
    | succ n ih => simp only [List.replicate_succ, List.flatten_cons, ih]; rfl
  simp [d_raw_first_state, z, stD, fst0, kyD, e, e2]
theorem fst0_ok (b : Brd) : okSt b (fst0 b) := ⟨True.intro, by simp [fst0]⟩
/-! ### check_run -/
theorem check_run_v (b : Brd) (h : SmB b) (h2 : okB b = true) (c : List (List Nat)) (hc : okD b.wd c) (hl : c.length ≤ 400) (ρ : Rho) : callD 2 d_check_run none [brdD b, dkD c] ρ = .ok (.v .none) ρ := by
  refine call_none ?_ ρ
  have e := raw_is_deck_v (b.wd : Int) (dkD c) (hc.sm (by have := h.w8; omega))
  rw [hc.deckW hl] at e
  simp [d_check_run, check_board_v b h h2, e]
theorem check_run_nob (d : D) (h : noB d) (x : D) (ρ : Rho) : callD 2 d_check_run none [d, x] ρ = .err ⟨mk [78, 111, 66, 111, 97, 114, 100], []⟩ ρ := by
  refine call_err ?_ ρ
  simp [d_check_run, check_board_no d h]
theorem check_run_nod (b : Brd) (h : SmB b) (h2 : okB b = true) (x : D) (hx : ∀ ds, x = .tuple ds → ∀ y ∈ ds, SmD y) (hd : deckW (b.wd : Int) x = false) (ρ : Rho) : callD 2 d_check_run none [brdD b, x] ρ = .err ⟨mk [78, 111, 68, 101, 99, 107], []⟩ ρ := by
  refine call_err ?_ ρ
  have e := raw_is_deck_v (b.wd : Int) x hx
  rw [hd] at e
  simp [d_check_run, check_board_v b h h2, e]
/-! ### prices -/
structure Prc where
  p0 : Int
  p1 : Int
  p2 : Int
  p3 : Int
def prcD (p : Prc) : D := .tuple [.int p.p0, .int p.p1, .int p.p2, .int p.p3]
def priB (d : D) : Bool := match d with
  | .tuple ds => decide (ds.length = 4) && ds.all fun x => withinB x 0 1000000
  | _ => false
def okP (p : Prc) : Prop := (0 ≤ p.p0 ∧ p.p0 ≤ 1000000) ∧ (0 ≤ p.p1 ∧ p.p1 ≤ 1000000) ∧ (0 ≤ p.p2 ∧ p.p2 ≤ 1000000) ∧ 0 ≤ p.p3 ∧ p.p3 ≤ 1000000
theorem okP.pri {p : Prc} (h : okP p) : priB (prcD p) = true := by
  obtain ⟨⟨a, b⟩, ⟨c, d⟩, ⟨e, f⟩, g, i⟩ := h
  simp [priB, prcD, a, b, c, d, e, f, g, i]
@[simp] theorem prc_0 (p : Prc) : dIx (prcD p) (.int 0) = some (.int p.p0) := by simp [prcD]
@[simp] theorem prc_1 (p : Prc) : dIx (prcD p) (.int 1) = some (.int p.p1) := by simp [prcD]
@[simp] theorem prc_2 (p : Prc) : dIx (prcD p) (.int 2) = some (.int p.p2) := by simp [prcD]
@[simp] theorem prc_3 (p : Prc) : dIx (prcD p) (.int 3) = some (.int p.p3) := by simp [prcD]
theorem are_prices_v (d : D) (ρ : Rho) : callD 2 d_are_prices none [d] ρ = .ok (.v (.bool (priB d))) ρ := by
  refine call_v ?_ ρ
  cases d with
  | tuple ds =>
    by_cases hl : ds.length = 4
    · have hl' : (ds.length : Int) = 4 := by omega
      have e : c_are_prices_1 [.imm (.tuple ds), .undef] = .ok (ds.map fun d => .bool (withinB d 0 1000000)) [.imm (.tuple ds), .undef] := by
        unfold c_are_prices_1
        exact dLc_all id (fun d => .bool (withinB d 0 1000000)) (by simp) rfl (by omega) fun d hd => ⟨[.imm (.tuple ds), .imm d], by simp, by simp [is_within_v], by simp⟩
      simp [d_are_prices, is_tuple_of_v, priB, hl, hl', e, dAll_map]
    · have hl' : ¬ (ds.length : Int) = 4 := by omega
      simp [d_are_prices, is_tuple_of_v, priB, hl, hl']
  | _ => simp [d_are_prices, is_tuple_of_v, priB, tupB]
theorem check_prices_v (b : Brd) (h : SmB b) (h2 : okB b = true) (p : D) (hp : priB p = true) (ρ : Rho) : callD 2 d_check_prices none [brdD b, p] ρ = .ok (.v .none) ρ := by
  refine call_none ?_ ρ
  simp [d_check_prices, check_board_v b h h2, are_prices_v, hp]
theorem check_prices_no (b : Brd) (h : SmB b) (h2 : okB b = true) (p : D) (hp : priB p = false) (ρ : Rho) : callD 2 d_check_prices none [brdD b, p] ρ = .err ⟨mk [78, 111, 80, 114, 105, 99, 101, 115], []⟩ ρ := by
  refine call_err ?_ ρ
  simp [d_check_prices, check_board_v b h h2, are_prices_v, hp]
/-- an event of the board -/
def okEv (b : Brd) : Ev → Prop
  | .add n => n < b.ad.length
  | .list n => n < b.ls.length
  | .deed l n => ∃ ds, b.to[l]? = some ds ∧ n < ds.length
def isPr : Ded → Bool
  | .pr _ _ => true
  | _ => false
def evP (b : Brd) (p : Prc) : Ev → Int
  | .add _ => p.p1
  | .list _ => p.p2
  | .deed l n => if isPr ((b.to.getD l []).getD n (.clear 0)) = true then p.p2 else p.p3
theorem event_price_v (b : Brd) (p : Prc) (e : Ev) (he : okEv b e) (ρ : Rho) : callD 3 d_event_price none [brdD b, evD e, prcD p] ρ = .ok (.v (.int (evP b p e))) ρ := by
  refine call_v ?_ ρ
  cases e with
  | add n => simp [d_event_price, evD, evP]
  | list n => simp [d_event_price, evD, evP]
  | deed l n =>
    obtain ⟨ds, h1, h2⟩ := he
    obtain ⟨d, hd⟩ : ∃ d, ds[n]? = some d := ⟨_, List.getElem?_eq_getElem h2⟩
    have g1 : b.to.getD l [] = ds := by simp [List.getD_eq_getElem?_getD, h1]
    have g2 : ds.getD n (.clear 0) = d := by simp [List.getD_eq_getElem?_getD, hd]
    have i1 : dIx (dedsD ds) (.int (n : Int)) = some (dedD d) := by simp [dedsD, hd]
    simp only [evP, g1, g2]
    cases d with
    | pr w is =>
      have i2 : dIx (dedD (.pr w is)) (.int 0) = some (.str (mk [112, 114, 105, 110, 116])) := by simp [dedD]
      simp [d_event_price, evD, h1, i1, i2, isPr]
    | roll x y =>
      have i2 : dIx (dedD (.roll x y)) (.int 0) = some (.str (mk [114, 111, 108, 108])) := by simp [dedD]
      simp [d_event_price, evD, h1, i1, i2, isPr]
    | clear x =>
      have i2 : dIx (dedD (.clear x)) (.int 0) = some (.str (mk [99, 108, 101, 97, 114])) := by simp [dedD]
      simp [d_event_price, evD, h1, i1, i2, isPr]
def evsP (b : Brd) (p : Prc) (es : List Ev) : Int := (es.map (evP b p)).sum
theorem events_price_v (b : Brd) (p : Prc) (es : List Ev) (he : ∀ e ∈ es, okEv b e) (hl : es.length ≤ 100000) (ρ : Rho) : callD 4 d_events_price none [brdD b, .list (es.map evD), prcD p] ρ = .ok (.v (.int (evsP b p es))) ρ := by
  refine call_v ?_ ρ
  have e : c_events_price_1 [.imm (brdD b), .imm (.list (es.map evD)), .imm (prcD p), .undef] = .ok (es.map fun e => .int (evP b p e)) [.imm (brdD b), .imm (.list (es.map evD)), .imm (prcD p), .undef] := by
    unfold c_events_price_1
    exact dLc_all evD (fun e => .int (evP b p e)) (by simp) rfl (by omega) fun e hm => ⟨[.imm (brdD b), .imm (.list (es.map evD)), .imm (prcD p), .imm (evD e)], by simp, by simp [event_price_v b p e (he e hm)], by simp⟩
  simp [d_events_price, e, dSum_map, evsP]
/-! ### the events are the board's -/
theorem dEvs_ok {b : Brd} (h : RB b) {lev : Nat} (hl : lev ≤ b.lv.length) (on : List Bool) : ∀ e ∈ dEvs b lev on, okEv b e := by
  intro e he
  unfold dEvs at he
  obtain ⟨p, hp, rfl⟩ := List.mem_map.mp he
  have hp := (List.mem_filter.mp hp).1
  have hlt : lev < b.to.length := by have := h.to.1; omega
  have hb := (List.mem_zipIdx' hp).1
  refine ⟨b.to.getD lev [], ?_, hb⟩
  rw [List.getElem?_eq_getElem hlt]
  simp [List.getD_eq_getElem?_getD, hlt]
theorem goD_ok {b : Brd} (h : RB b) : ∀ (l : List Nat) (p : List Ev × List Bool), (∀ n ∈ l, n ≤ b.lv.length) → (∀ e ∈ p.1, okEv b e) → ∀ e ∈ (l.foldl (goD b) p).1, okEv b e
  | [], p, _, h2 => h2
  | n :: l, p, hl, h2 => goD_ok h l (goD b p n) (fun m hm => hl m (List.mem_cons_of_mem _ hm)) fun e he => by
    rcases List.mem_append.mp he with he | he
    · exact h2 e he
    · exact dEvs_ok h (hl n (List.mem_cons_self ..)) _ e he
theorem evs_ev {b : Brd} (h : RB b) (st : Sta) (card : List Nat) : ∀ e ∈ (evs b st card).1, okEv b e := by
  intro e he
  simp only [evs] at he
  rcases List.mem_append.mp he with he | he
  · rcases List.mem_append.mp he with he | he
    · unfold brks at he
      cases hk : st.1 with
      | none => rw [hk] at he; simp at he
      | some k =>
        rw [hk] at he
        exact goD_ok h _ _ (fun n hn => Nat.le_of_lt ((brk_mem h).1 n hn)) (by simp) e he
    · unfold aEvs at he
      obtain ⟨p, hp, rfl⟩ := List.mem_map.mp he
      exact (List.mem_zipIdx' (List.mem_filter.mp hp).1).1
  · unfold lEvs at he
    obtain ⟨p, hp, rfl⟩ := List.mem_map.mp he
    exact (List.mem_zipIdx' (List.mem_filter.mp hp).1).1
theorem endEvs_ev {b : Brd} (h : RB b) (st : Sta) : ∀ e ∈ endEvs b st, okEv b e := by
  intro e he
  unfold endEvs at he
  cases hk : st.1 with
  | none =>
    rw [hk] at he
    simp at he
    exact dEvs_ok h (Nat.le_refl _) _ e he
  | some k =>
    rw [hk] at he
    rcases List.mem_append.mp he with he | he
    · exact goD_ok h _ _ (fun n hn => by rw [List.mem_range] at hn; omega) (by simp) e he
    · exact dEvs_ok h (Nat.le_refl _) _ e he
theorem endEvs_len {b : Brd} (h : RB b) {st : Sta} (hs : okSt b st) : (endEvs b st).length ≤ 100 := by
  unfold endEvs
  have lvl := h.lvl.1
  cases hk : st.1 with
  | none =>
    have := dEvs_len h (Nat.le_refl _) st.2
    simp; omega
  | some k =>
    have G := goD_len h (List.range b.lv.length) ([], st.2) (fun m hm => by rw [List.mem_range] at hm; omega) hs.2
    have := dEvs_len h (Nat.le_refl _) ((List.range b.lv.length).foldl (goD b) ([], st.2)).2
    have g2 := G.2
    simp at g2 ⊢; omega
/-! ### costs, by the program -/
def run1 (b : Brd) (p : Prc) (s : Sta × List Int) (card : List Nat) : Sta × List Int := ((evs b s.1 card).2, s.2 ++ [p.p0 + evsP b p (evs b s.1 card).1])
def costs (b : Brd) (p : Prc) (c : List (List Nat)) : List Int :=
  let s := c.foldl (run1 b p) (fst0 b, [])
  s.2 ++ [evsP b p (endEvs b s.1)]
theorem run1_ok {b : Brd} (h : RB b) (p : Prc) : ∀ (c : List (List Nat)) (s : Sta × List Int), okSt b s.1 → okSt b (c.foldl (run1 b p) s).1 ∧ (c.foldl (run1 b p) s).2.length = s.2.length + c.length
  | [], s, hs => ⟨hs, by simp⟩
  | x :: c, s, hs => by
    have := run1_ok h p c (run1 b p s x) (evs_ok h hs x).1
    refine ⟨this.1, ?_⟩
    rw [List.foldl_cons, this.2]
    simp [run1]; omega
theorem card_costs_n (b : Brd) (h : RB b) (p : Prc) (c : List (List Nat)) (hc : okD b.wd c) (hl : c.length ≤ 1000) (ρ : Rho) : callD 7 d_card_costs none [brdD b, dkD c, prcD p] ρ = .ok (.n ((costs b p c).map .int)) ρ := by
  refine call_n ?_ ρ
  let enc : Sta × List Int → Rho := fun s => [.imm (brdD b), .imm (dkD c), .imm (prcD p), .imm (stD s.1), .own (s.2.map .int), .undef, .undef]
  have L := dLoop_foldp (bind := bName 5) (body := b_card_costs_1) (fun x : List Nat => .str (mk x)) enc (run1 b p) (fst0 b, []) c fun pre x post hpl => by
    have hx : x ∈ c := by rw [hpl]; simp
    obtain ⟨ok1, len1⟩ := run1_ok h p pre (fst0 b, []) (fst0_ok b)
    have hpre : pre.length ≤ 1000 := by have := congrArg List.length hpl; simp at this; omega
    generalize pre.foldl (run1 b p) (fst0 b, []) = s at ok1 len1
    obtain ⟨st, acc⟩ := s
    simp only at ok1
    have re := raw_events_v b h st ok1 x (hc x hx)
    have ep := events_price_v b p (evs b st x).1 (evs_ev h st x) (Nat.le_trans (evs_ok h ok1 x).2 (by omega))
    have z : acc.length < 16777216 := by simp at len1; omega
    refine ⟨[.imm (brdD b), .imm (dkD c), .imm (prcD p), .imm (stD st), .own (acc.map .int), .imm (.str (mk x)), .undef], by simp [enc], ?_⟩
    simp only [run1, enc]
    generalize evs b st x = ee at *
    obtain ⟨e1, s1⟩ := ee
    simp only at re ep ⊢
    generalize evsP b p e1 = q at *
    unfold b_card_costs_1
    refine (seq_next (ρ1 := [.imm (brdD b), .imm (dkD c), .imm (prcD p), .imm (stD s1), .own (acc.map .int), .imm (.str (mk x)), .imm (.list (e1.map evD))]) (by simp [re, bCons, bNil])).trans ?_
    refine (seq_next (dApp_v rfl (ρ1 := [.imm (brdD b), .imm (dkD c), .imm (prcD p), .imm (stD s1), .own (acc.map .int), .imm (.str (mk x)), .imm (.list (e1.map evD))]) (d := .int (p.p0 + q)) (by simp [ep]) rfl (by simpa using z))).trans ?_
    simp
  obtain ⟨ok1, len1⟩ := run1_ok h p c (fst0 b, []) (fst0_ok b)
  have eF : f_card_costs_1 (enc (fst0 b, [])) = .next (enc (c.foldl (run1 b p) (fst0 b, []))) := by
    unfold f_card_costs_1
    have : dSrc (dImm 1) (enc (fst0 b, [])) = .ok (c.map fun x => .str (mk x)) (enc (fst0 b, [])) := by simp [enc]
    rw [dFor_e, this]
    exact L
  unfold costs
  generalize c.foldl (run1 b p) (fst0 b, []) = s at *
  obtain ⟨st, acc⟩ := s
  simp only at ok1 ⊢
  have re := raw_end_events_n b h st ok1
  have ep := events_price_v b p (endEvs b st) (endEvs_ev h st) (Nat.le_trans (endEvs_len h ok1) (by omega))
  have rf := raw_first_state_v b h
  simp only [enc, List.map_nil] at eF
  have z : acc.length + 1 ≤ 16777216 := by simp at len1; omega
  generalize endEvs b st = ee at *
  generalize evsP b p ee = q at *
  unfold d_card_costs
  refine exq (seq_next (ρ1 := [.imm (brdD b), .imm (dkD c), .imm (prcD p), .imm (stD (fst0 b)), .own [], .undef, .undef]) (by simp [rf])) ?_
  refine exq (seq_next eF) ?_
  simp [re, ep, z]
theorem costs_of_v (b : Brd) (h : RB b) (hs : SmB b) (h2 : okB b = true) (p : Prc) (hp : okP p) (c : List (List Nat)) (hc : okD b.wd c) (hl : c.length ≤ 400) (ρ : Rho) : callD 3 d_costs_of none [brdD b, dkD c, prcD p] ρ = .ok (.v (.tuple ((costs b p c).map .int))) ρ := by
  refine call_v ?_ ρ
  simp [d_costs_of, check_run_v b hs h2 c hc hl, check_prices_v b hs h2 (prcD p) hp.pri, card_costs_n b h p c hc (by omega)]
theorem cost_of_v (b : Brd) (h : RB b) (hs : SmB b) (h2 : okB b = true) (p : Prc) (hp : okP p) (c : List (List Nat)) (hc : okD b.wd c) (hl : c.length ≤ 400) (ρ : Rho) : callD 3 d_cost_of none [brdD b, dkD c, prcD p] ρ = .ok (.v (.int (costs b p c).sum)) ρ := by
  refine call_v ?_ ρ
  simp [d_cost_of, check_run_v b hs h2 c hc hl, check_prices_v b hs h2 (prcD p) hp.pri, card_costs_n b h p c hc (by omega)]
/-! ### counting events -/
theorem eqv_ii (a b : Int) : PyData.eqv (.int a) (.int b) = decide (a = b) := by
  simp only [PyData.eqv]
  by_cases h : a = b <;> simp [h]
theorem dCount_ints (ns : List Nat) (c : Nat) : dCount (.list (ns.map fun n : Nat => .int (n : Int))) (.int (c : Int)) = some (.int ((ns.count c : Nat) : Int)) := by
  have h1 : SeqAt.shaped (.int (c : Int)) = true := (ly_i (n := 0) (c : Int)).shaped
  have h2 : SeqAt.shaped (.list (ns.map fun n : Nat => .int (n : Int))) = true := (ly_lm (n := 0) (f := fun n : Nat => PyData.int (n : Int)) fun x _ => ly_i _).shaped
  simp only [dCount, h1, h2, Bool.and_self, if_true, List.countP_map]
  congr 3
  unfold List.count
  refine List.countP_congr fun x _ => ?_
  simp [eqv_ii]
  omega
theorem ev_ly (e : Ev) : Ly 1 (evD e) := by
  cases e with
  | add n => exact ly_t fun x hx => by simp at hx; rcases hx with rfl | rfl <;> first | exact ly_s (by decide) | exact ly_i _
  | list n => exact ly_t fun x hx => by simp at hx; rcases hx with rfl | rfl <;> first | exact ly_s (by decide) | exact ly_i _
  | deed l n => exact ly_t fun x hx => by simp at hx; rcases hx with rfl | rfl | rfl <;> first | exact ly_s (by decide) | exact ly_i _
theorem beq_nn (n m : Nat) : ((n : Int) == (m : Int)) = decide (n = m) := by
  rw [Bool.eq_iff_iff]
  simp
  omega
theorem ev_eqv (a e : Ev) : PyData.eqv (evD a) (evD e) = decide (a = e) := by
  cases a <;> cases e <;> simp [evD, PyData.eqv, PyData.eqvAll, beq_nn]
theorem dCount_evs (es : List Ev) (e : Ev) : dCount (.list (es.map evD)) (evD e) = some (.int ((es.count e : Nat) : Int)) := by
  have h1 : SeqAt.shaped (evD e) = true := (ev_ly e).shaped
  have h2 : SeqAt.shaped (.list (es.map evD)) = true := (ly_lm (n := 1) fun x _ => ev_ly x).shaped
  simp only [dCount, h1, h2, Bool.and_self, if_true, List.countP_map]
  congr 3
  unfold List.count
  refine List.countP_congr fun x _ => ?_
  simp [ev_eqv]
/-! ### all events -/
def pD (p : Ev × Option (List Nat)) : D := .tuple [evD p.1, kyD p.2]
def run2 (b : Brd) (s : Sta × List (Ev × Option (List Nat))) (card : List Nat) : Sta × List (Ev × Option (List Nat)) := ((evs b s.1 card).2, s.2 ++ (evs b s.1 card).1.map fun e => (e, some card))
def allEv (b : Brd) (c : List (List Nat)) : List (Ev × Option (List Nat)) :=
  let s := c.foldl (run2 b) (fst0 b, [])
  s.2 ++ (endEvs b s.1).map fun e => (e, none)
theorem run2_ok {b : Brd} (h : RB b) : ∀ (c : List (List Nat)) (s : Sta × List (Ev × Option (List Nat))), okSt b s.1 → okSt b (c.foldl (run2 b) s).1 ∧ (c.foldl (run2 b) s).2.length ≤ s.2.length + 2100 * c.length
  | [], s, hs => ⟨hs, by simp⟩
  | x :: c, s, hs => by
    have E := evs_ok h hs x
    have := run2_ok h c (run2 b s x) E.1
    refine ⟨this.1, Nat.le_trans this.2 ?_⟩
    have e2 := E.2
    simp only [run2, List.length_append, List.length_map, List.length_cons]
    omega
theorem all_events_n (b : Brd) (h : RB b) (c : List (List Nat)) (hc : okD b.wd c) (hl : c.length ≤ 1000) (ρ : Rho) : callD 7 d_all_events none [brdD b, dkD c] ρ = .ok (.n ((allEv b c).map pD)) ρ := by
  refine call_n ?_ ρ
  let enc : Sta × List (Ev × Option (List Nat)) → Rho := fun s => [.imm (brdD b), .imm (dkD c), .imm (stD s.1), .own (s.2.map pD), .undef, .undef, .undef]
  have L := dLoop_foldp (bind := bName 4) (body := b_all_events_1) (fun x : List Nat => .str (mk x)) enc (run2 b) (fst0 b, []) c fun pre x post hpl => by
    have hx : x ∈ c := by rw [hpl]; simp
    obtain ⟨ok1, len1⟩ := run2_ok h pre (fst0 b, []) (fst0_ok b)
    have hpre : pre.length ≤ 1000 := by have := congrArg List.length hpl; simp at this; omega
    generalize pre.foldl (run2 b) (fst0 b, []) = s at ok1 len1
    obtain ⟨st, acc⟩ := s
    simp only at ok1
    have re := raw_events_v b h st ok1 x (hc x hx)
    have el := (evs_ok h ok1 x).2
    refine ⟨[.imm (brdD b), .imm (dkD c), .imm (stD st), .own (acc.map pD), .imm (.str (mk x)), .undef, .undef], by simp [enc], ?_⟩
    simp only [run2, enc]
    generalize evs b st x = ee at *
    obtain ⟨e1, s1⟩ := ee
    simp only at re el ⊢
    have eC : c_all_events_1 [.imm (brdD b), .imm (dkD c), .imm (stD s1), .own (acc.map pD), .imm (.str (mk x)), .imm (.list (e1.map evD)), .undef] = .ok (e1.map fun e => .tuple [evD e, .str (mk x)]) [.imm (brdD b), .imm (dkD c), .imm (stD s1), .own (acc.map pD), .imm (.str (mk x)), .imm (.list (e1.map evD)), .undef] := by
      unfold c_all_events_1
      exact dLc_all evD (fun e => .tuple [evD e, .str (mk x)]) (by simp) rfl (by omega) fun e hm => ⟨[.imm (brdD b), .imm (dkD c), .imm (stD s1), .own (acc.map pD), .imm (.str (mk x)), .imm (.list (e1.map evD)), .imm (evD e)], by simp, by simp, by simp⟩
    have em : (e1.map fun e => PyData.tuple [evD e, .str (mk x)]) = (e1.map fun e => (e, some x)).map pD := by rw [List.map_map]; rfl
    rw [em] at eC
    have ml : (e1.map fun e => (e, some x)).length ≤ 2100 := by rw [List.length_map]; exact el
    generalize (e1.map fun e => (e, some x)) = m1 at *
    have z : acc.length + m1.length ≤ 16777216 := by simp at len1; omega
    unfold b_all_events_1
    refine (seq_next (ρ1 := [.imm (brdD b), .imm (dkD c), .imm (stD s1), .own (acc.map pD), .imm (.str (mk x)), .imm (.list (e1.map evD)), .undef]) (by simp [re, bCons, bNil])).trans ?_
    refine (seq_next (ρ1 := [.imm (brdD b), .imm (dkD c), .imm (stD s1), .own ((acc ++ m1).map pD), .imm (.str (mk x)), .imm (.list (e1.map evD)), .undef]) (by simp [eC, z])).trans ?_
    simp
  obtain ⟨ok1, len1⟩ := run2_ok h c (fst0 b, []) (fst0_ok b)
  have eF : f_all_events_1 (enc (fst0 b, [])) = .next (enc (c.foldl (run2 b) (fst0 b, []))) := by
    unfold f_all_events_1
    have : dSrc (dImm 1) (enc (fst0 b, [])) = .ok (c.map fun x => .str (mk x)) (enc (fst0 b, [])) := by simp [enc]
    rw [dFor_e, this]
    exact L
  unfold allEv
  generalize c.foldl (run2 b) (fst0 b, []) = s at *
  obtain ⟨st, acc⟩ := s
  simp only at ok1 ⊢
  have re := raw_end_events_n b h st ok1
  have el := endEvs_len h ok1
  have rf := raw_first_state_v b h
  simp only [enc, List.map_nil] at eF
  generalize endEvs b st = e1 at *
  have eC : c_all_events_2 [.imm (brdD b), .imm (dkD c), .imm (stD st), .own (acc.map pD), .undef, .undef, .undef] = .ok (e1.map fun e => .tuple [evD e, .none]) [.imm (brdD b), .imm (dkD c), .imm (stD st), .own (acc.map pD), .undef, .undef, .undef] := by
    unfold c_all_events_2
    exact dLc_all evD (fun e => .tuple [evD e, .none]) (by simp [re]) rfl (by omega) fun e hm => ⟨[.imm (brdD b), .imm (dkD c), .imm (stD st), .own (acc.map pD), .undef, .undef, .imm (evD e)], by simp, by simp, by simp⟩
  have em : (e1.map fun e => PyData.tuple [evD e, .none]) = (e1.map fun e => (e, (none : Option (List Nat)))).map pD := by rw [List.map_map]; rfl
  rw [em] at eC
  have ml : (e1.map fun e => (e, (none : Option (List Nat)))).length ≤ 100 := by rw [List.length_map]; exact el
  generalize (e1.map fun e => (e, (none : Option (List Nat)))) = m1 at *
  have z : acc.length + m1.length ≤ 16777216 := by simp at len1; omega
  unfold d_all_events
  refine exq (seq_next (ρ1 := [.imm (brdD b), .imm (dkD c), .imm (stD (fst0 b)), .own [], .undef, .undef, .undef]) (by simp [rf])) ?_
  refine exq (seq_next eF) ?_
  refine exq (seq_next (ρ1 := [.imm (brdD b), .imm (dkD c), .imm (stD st), .own ((acc ++ m1).map pD), .undef, .undef, .undef]) (by simp [eC, z])) ?_
  simp
def evW : Ev → List Nat
  | .add _ => [97, 100, 100]
  | .list _ => [108, 105, 115, 116]
  | .deed _ _ => [100, 101, 101, 100]
def evN : Ev → Nat
  | .add n => n
  | .list n => n
  | .deed l _ => l
theorem ev_0 (e : Ev) : dIx (evD e) (.int 0) = some (.str (mk (evW e))) := by cases e <;> simp [evD, evW]
theorem ev_1 (e : Ev) : dIx (evD e) (.int 1) = some (.int (evN e : Int)) := by cases e <;> simp [evD, evN]
/-- the events of a run -/
def evl (b : Brd) (c : List (List Nat)) : List Ev := (allEv b c).map (·.1)
theorem allEv_len {b : Brd} (h : RB b) (c : List (List Nat)) (hl : c.length ≤ 1000) : (allEv b c).length ≤ 2100100 := by
  obtain ⟨ok1, len1⟩ := run2_ok h c (fst0 b, []) (fst0_ok b)
  have := endEvs_len h ok1
  simp only [allEv, List.length_append, List.length_map]
  simp at len1
  omega
theorem filt_map {α β γ : Type} (l : List α) (f : α → β) (q : β → Bool) (g : β → γ) : (l.filter fun a => q (f a)).map (fun a => g (f a)) = ((l.map f).filter q).map g := by
  rw [List.filter_map, List.map_map]; rfl
def told (w : List Nat) (E : List Ev) : List Nat := (E.filter fun e => decide (evW e = w)).map evN
theorem told_counts_v (b : Brd) (h : RB b) (c : List (List Nat)) (hc : okD b.wd c) (hl : c.length ≤ 1000) (w : List Nat) (many : Nat) (hm : many ≤ 1000) (ρ : Rho) :
    callD 8 d_told_counts none [brdD b, dkD c, .str (mk w), .int (many : Int)] ρ = .ok (.v (.tuple (((List.range many).map fun n => (((told w (evl b c)).count n : Nat) : Int)).map .int))) ρ := by
  refine call_v ?_ ρ
  have al := all_events_n b h c hc hl
  have ll := allEv_len h c hl
  have e1 : c_told_counts_1 [.imm (brdD b), .imm (dkD c), .imm (.str (mk w)), .imm (.int (many : Int)), .undef, .undef, .undef, .undef] = .ok ((told w (evl b c)).map fun n : Nat => .int (n : Int)) [.imm (brdD b), .imm (dkD c), .imm (.str (mk w)), .imm (.int (many : Int)), .undef, .undef, .undef, .undef] := by
    have := filt_map (allEv b c) (·.1) (fun e => decide (evW e = w)) fun e => PyData.int (evN e : Int)
    unfold told evl
    rw [List.map_map]
    refine Eq.trans ?_ (congrArg (fun l => R.ok l _) this)
    unfold c_told_counts_1
    exact dLc_gen pD (fun p => decide (evW p.1 = w)) (fun p => .int (evN p.1 : Int)) (by simp [al]) rfl (by omega) fun p hp =>
      ⟨[.imm (brdD b), .imm (dkD c), .imm (.str (mk w)), .imm (.int (many : Int)), .undef, .imm (evD p.1), .imm (kyD p.2), .undef], by simp [pD, bCons, bNil], by simp [ev_0], fun _ => by simp [ev_1], by simp⟩
  generalize told w (evl b c) = tl at *
  have e2 : c_told_counts_2 [.imm (brdD b), .imm (dkD c), .imm (.str (mk w)), .imm (.int (many : Int)), .imm (.list (tl.map fun n : Nat => .int (n : Int))), .undef, .undef, .undef] = .ok ((List.range many).map fun n => .int ((tl.count n : Nat) : Int)) [.imm (brdD b), .imm (dkD c), .imm (.str (mk w)), .imm (.int (many : Int)), .imm (.list (tl.map fun n : Nat => .int (n : Int))), .undef, .undef, .undef] := by
    unfold c_told_counts_2
    refine dLc_all (fun n : Nat => .int (n : Int)) (fun n => .int ((tl.count n : Nat) : Int)) ?_ rfl (by simp; omega) fun n hn => ⟨[.imm (brdD b), .imm (dkD c), .imm (.str (mk w)), .imm (.int (many : Int)), .imm (.list (tl.map fun n : Nat => .int (n : Int))), .undef, .undef, .imm (.int (n : Int))], by simp, ?_, by simp⟩
    · have := dRng1_v (a := dImm 3) (ρ := [.imm (brdD b), .imm (dkD c), .imm (.str (mk w)), .imm (.int (many : Int)), .imm (.list (tl.map fun n : Nat => .int (n : Int))), .undef, .undef, .undef]) (ρ1 := [.imm (brdD b), .imm (dkD c), .imm (.str (mk w)), .imm (.int (many : Int)), .imm (.list (tl.map fun n : Nat => .int (n : Int))), .undef, .undef, .undef]) (j := (many : Int)) (by simp) (by omega) (by omega)
      rw [this, Int.toNat_natCast, rgD_range]
    · have := dCount_ints tl n
      simp only [dOpL_e, dImm_e, List.getElem?_cons_succ, List.getElem?_cons_zero, bind_ok, this, lift_some]
  unfold d_told_counts
  refine exq (seq_next (ρ1 := [.imm (brdD b), .imm (dkD c), .imm (.str (mk w)), .imm (.int (many : Int)), .imm (.list (tl.map fun n : Nat => .int (n : Int))), .undef, .undef, .undef]) (by simp [e1])) ?_
  refine ⟨[.imm (brdD b), .imm (dkD c), .imm (.str (mk w)), .imm (.int (many : Int)), .imm (.list (tl.map fun n : Nat => .int (n : Int))), .undef, .undef, .undef], ?_⟩
  rw [List.map_map]
  simp only [dRet_e, d1_e, dLst_e, e2, bind_ok, dTuple_l, lift_some, out_ok]
  rfl
theorem adds_done_v (b : Brd) (h : RB b) (hs : SmB b) (h2 : okB b = true) (c : List (List Nat)) (hc : okD b.wd c) (hl : c.length ≤ 400) (ρ : Rho) :
    callD 2 d_adds_done none [brdD b, dkD c] ρ = .ok (.v (.tuple (((List.range b.ad.length).map fun n => (((told [97, 100, 100] (evl b c)).count n : Nat) : Int)).map .int))) ρ := by
  refine call_v ?_ ρ
  have t := told_counts_v b h c hc (by omega) [97, 100, 100] b.ad.length h.ad.1
  have ck := check_run_v b hs h2 c hc hl
  generalize ((List.range b.ad.length).map fun n => (((told [97, 100, 100] (evl b c)).count n : Nat) : Int)) = ns at *
  simp [d_adds_done, ck, t]
theorem lists_done_v (b : Brd) (h : RB b) (hs : SmB b) (h2 : okB b = true) (c : List (List Nat)) (hc : okD b.wd c) (hl : c.length ≤ 400) (ρ : Rho) :
    callD 2 d_lists_done none [brdD b, dkD c] ρ = .ok (.v (.tuple (((List.range b.ls.length).map fun n => (((told [108, 105, 115, 116] (evl b c)).count n : Nat) : Int)).map .int))) ρ := by
  refine call_v ?_ ρ
  have t := told_counts_v b h c hc (by omega) [108, 105, 115, 116] b.ls.length h.ls.1
  have ck := check_run_v b hs h2 c hc hl
  generalize ((List.range b.ls.length).map fun n => (((told [108, 105, 115, 116] (evl b c)).count n : Nat) : Int)) = ns at *
  simp [d_lists_done, ck, t]
/-! ### deeds done, costs by counts -/
theorem zipZ {α β γ δ : Type} (f : β → γ → δ) (g : α → β) (k : α × Nat → γ) : ∀ (l : List α) (s : Nat), List.zipWith f (l.map g) ((l.zipIdx s).map k) = (l.zipIdx s).map fun p => f (g p.1) (k p)
  | [], _ => rfl
  | a :: l, s => by simp [List.zipIdx_cons, zipZ f g k l (s + 1)]
theorem zipR {α β γ δ : Type} (f : β → γ → δ) (g : α → β) (k : Nat → γ) : ∀ (l : List α) (s : Nat), List.zipWith f (l.map g) ((List.range' s l.length).map k) = (l.zipIdx s).map fun p => f (g p.1) (k p.2)
  | [], _ => rfl
  | a :: l, s => by simp [List.zipIdx_cons, List.range'_succ, zipR f g k l (s + 1)]
theorem foldl_app {α β : Type} (g : α → β) : ∀ (l : List α) (s : List β), l.foldl (fun s a => s ++ [g a]) s = s ++ l.map g
  | [], s => by simp
  | a :: l, s => by rw [List.foldl_cons, foldl_app g l]; simp
theorem foldl_sum {α : Type} (g : α → Int) : ∀ (l : List α) (s : Int), l.foldl (fun s a => s + g a) s = s + (l.map g).sum
  | [], s => by simp
  | a :: l, s => by rw [List.foldl_cons, foldl_sum g l, List.map_cons, List.sum_cons]; omega
def isDeed : Ev → Bool
  | .deed _ _ => true
  | _ => false
def cntsD (E : List Ev) (P : List Ded × Nat) : D := .tuple ((List.range P.1.length).map fun n => .int ((E.count (.deed P.2 n) : Nat) : Int))
theorem isDeed_w (e : Ev) : decide (evW e = [100, 101, 101, 100]) = isDeed e := by cases e <;> simp [evW, isDeed]
theorem deeds_done_v (b : Brd) (h : RB b) (hs : SmB b) (h2 : okB b = true) (c : List (List Nat)) (hc : okD b.wd c) (hl : c.length ≤ 400) (ρ : Rho) :
    callD 9 d_deeds_done none [brdD b, dkD c] ρ = .ok (.v (.tuple (b.to.zipIdx.map (cntsD (evl b c))))) ρ := by
  refine call_v ?_ ρ
  have ck := check_run_v b hs h2 c hc hl
  have al := all_events_n b h c hc (by omega)
  have ll := allEv_len h c (by omega)
  have e1 : c_deeds_done_1 [.imm (brdD b), .imm (dkD c), .undef, .undef, .undef, .undef, .undef, .undef, .undef] = .ok (((evl b c).filter isDeed).map evD) [.imm (brdD b), .imm (dkD c), .undef, .undef, .undef, .undef, .undef, .undef, .undef] := by
    have := filt_map (allEv b c) (·.1) isDeed evD
    unfold evl
    refine Eq.trans ?_ (congrArg (fun l => R.ok l _) this)
    unfold c_deeds_done_1
    exact dLc_gen pD (fun p => isDeed p.1) (fun p => evD p.1) (by simp [al]) rfl (by omega) fun p hp =>
      ⟨[.imm (brdD b), .imm (dkD c), .undef, .undef, .undef, .undef, .imm (evD p.1), .imm (kyD p.2), .undef], by simp [pD, bCons, bNil], by simp [ev_0, isDeed_w], fun _ => by simp, by simp⟩
  have ec : cntsD (evl b c) = cntsD ((evl b c).filter isDeed) := by
    funext P
    unfold cntsD
    congr 2
    funext n
    rw [List.count_filter rfl]
  rw [ec]
  generalize (evl b c).filter isDeed = E at *
  let enc : List D → Rho := fun s => [.imm (brdD b), .undef, .imm (.list (E.map evD)), .own s, .undef, .undef, .undef, .undef, .undef]
  have tl : b.to.length ≤ 2 := by have := h.to.1; have := h.lvl.1; omega
  have L := dLoop_foldp (bind := bTup (bCons (bName 4) (bCons (bName 5) (bNil)))) (body := b_deeds_done_1) (fun P : List Ded × Nat => .tuple [.int (P.2 : Int), dedsD P.1]) enc (fun s P => s ++ [cntsD E P]) [] b.to.zipIdx fun pre P post hpl => by
    rw [foldl_app]
    have hP : P.1 ∈ b.to := by
      have : P ∈ b.to.zipIdx := by rw [hpl]; simp
      exact (List.mem_zipIdx' this).2 ▸ List.getElem_mem _
    have h12 := (h.to.2 P.1 hP).1
    have hpre : pre.length ≤ 2 := by have := congrArg List.length hpl; simp at this; omega
    have z : ([] ++ pre.map (cntsD E)).length < 16777216 := by simp; omega
    generalize [] ++ pre.map (cntsD E) = acc at *
    refine ⟨[.imm (brdD b), .undef, .imm (.list (E.map evD)), .own acc, .imm (.int (P.2 : Int)), .imm (dedsD P.1), .undef, .undef, .undef], by simp [enc, bCons, bNil], ?_⟩
    have e2 : c_deeds_done_2 [.imm (brdD b), .undef, .imm (.list (E.map evD)), .own acc, .imm (.int (P.2 : Int)), .imm (dedsD P.1), .undef, .undef, .undef] = .ok ((List.range P.1.length).map fun n => .int ((E.count (.deed P.2 n) : Nat) : Int)) [.imm (brdD b), .undef, .imm (.list (E.map evD)), .own acc, .imm (.int (P.2 : Int)), .imm (dedsD P.1), .undef, .undef, .undef] := by
      unfold c_deeds_done_2
      refine dLc_all (vs := [8]) (bind := bName 8) (ρ := [.imm (brdD b), .undef, .imm (.list (E.map evD)), .own acc, .imm (.int (P.2 : Int)), .imm (dedsD P.1), .undef, .undef, .undef]) (ρ0 := [.imm (brdD b), .undef, .imm (.list (E.map evD)), .own acc, .imm (.int (P.2 : Int)), .imm (dedsD P.1), .undef, .undef, .undef]) (l := List.range P.1.length) (fun n : Nat => .int (n : Int)) (fun n => .int ((E.count (.deed P.2 n) : Nat) : Int)) ?_ rfl (by simp; omega) fun n hn => ⟨[.imm (brdD b), .undef, .imm (.list (E.map evD)), .own acc, .imm (.int (P.2 : Int)), .imm (dedsD P.1), .undef, .undef, .imm (.int (n : Int))], by simp, ?_, by simp⟩
      · have := dRng1_v (a := d1 dLen (dImm 5)) (ρ := [.imm (brdD b), .undef, .imm (.list (E.map evD)), .own acc, .imm (.int (P.2 : Int)), .imm (dedsD P.1), .undef, .undef, .undef]) (ρ1 := [.imm (brdD b), .undef, .imm (.list (E.map evD)), .own acc, .imm (.int (P.2 : Int)), .imm (dedsD P.1), .undef, .undef, .undef]) (j := (P.1.length : Int)) (by simp [dedsD]) (by omega) (by omega)
        rw [this, Int.toNat_natCast, rgD_range]
      · have := dCount_evs E (.deed P.2 n)
        simp only [evD] at this
        simp [this]
    unfold b_deeds_done_1
    refine (seq_next (dApp_v rfl (ρ1 := [.imm (brdD b), .undef, .imm (.list (E.map evD)), .own acc, .imm (.int (P.2 : Int)), .imm (dedsD P.1), .undef, .undef, .undef]) (d := cntsD E P) (by simp [e2, cntsD]) rfl z)).trans ?_
    simp [enc]
  have eF : f_deeds_done_1 (enc []) = .next (enc (b.to.zipIdx.map (cntsD E))) := by
    unfold f_deeds_done_1
    have nm := numD_map dedsD b.to 0
    have : dSrcE (dOp dIx (dImm 0) (dC (.int 6))) (enc []) = .ok (b.to.zipIdx.map fun P => .tuple [.int (P.2 : Int), dedsD P.1]) (enc []) := by simp [enc, nm]
    rw [dFor_e, this]
    rw [foldl_app] at L
    exact L
  simp only [enc] at eF
  generalize b.to.zipIdx.map (cntsD E) = r at *
  unfold d_deeds_done
  refine exq (seq_next (ρ1 := [.imm (brdD b), .imm (dkD c), .undef, .undef, .undef, .undef, .undef, .undef, .undef]) (by simp [ck])) ?_
  refine exq (seq_next (ρ1 := [.imm (brdD b), .imm (dkD c), .imm (.list (E.map evD)), .undef, .undef, .undef, .undef, .undef, .undef]) (by simp [e1])) ?_
  refine exq (seq_next (ρ1 := [.imm (brdD b), .imm (dkD c), .imm (.list (E.map evD)), .own [], .undef, .undef, .undef, .undef, .undef]) (by simp)) ?_
  simp [eF]
def pri (p : Prc) (d : Ded) : Int := if isPr d = true then p.p2 else p.p3
def dedSum (p : Prc) (E : List Ev) (P : List Ded × Nat) : Int := (P.1.zipIdx.map fun q => ((E.count (.deed P.2 q.2) : Nat) : Int) * pri p q.1).sum
def byC (b : Brd) (p : Prc) (m : Nat) (E : List Ev) : Int :=
  p.p0 * (m : Int) + p.p1 * (((List.range b.ad.length).map fun n => (((told [97, 100, 100] E).count n : Nat) : Int)).sum) + p.p2 * (((List.range b.ls.length).map fun n => (((told [108, 105, 115, 116] E).count n : Nat) : Int)).sum) + (b.to.zipIdx.map (dedSum p E)).sum
theorem ded_0 (d : Ded) : dIx (dedD d) (.int 0) = some (.str (mk (match d with | .pr _ _ => [112, 114, 105, 110, 116] | .roll _ _ => [114, 111, 108, 108] | .clear _ => [99, 108, 101, 97, 114]))) := by cases d <;> simp [dedD]
theorem by_inner (p : Prc) (hp : okP p) (E : List Ev) (P : List Ded × Nat) (s : Int) :
    f__law_by_counts_1 [.undef, .undef, .imm (prcD p), .imm (.int s), .imm (dedsD P.1), .imm (cntsD E P), .undef, .undef] = .next [.undef, .undef, .imm (prcD p), .imm (.int (s + dedSum p E P)), .imm (dedsD P.1), .imm (cntsD E P), .undef, .undef] := by
  let enc : Int → Rho := fun s => [.undef, .undef, .imm (prcD p), .imm (.int s), .imm (dedsD P.1), .imm (cntsD E P), .undef, .undef]
  have L := dLoop_fold (bind := bTup (bCons (bName 6) (bCons (bName 7) (bNil)))) (body := b__law_by_counts_1) (fun q : Ded × Nat => .tuple [dedD q.1, .int ((E.count (.deed P.2 q.2) : Nat) : Int)]) enc (fun s q => s + ((E.count (.deed P.2 q.2) : Nat) : Int) * pri p q.1) (fun _ => True) P.1.zipIdx s trivial fun s q hq _ => by
    refine ⟨trivial, [.undef, .undef, .imm (prcD p), .imm (.int s), .imm (dedsD P.1), .imm (cntsD E P), .imm (dedD q.1), .imm (.int ((E.count (.deed P.2 q.2) : Nat) : Int))], by simp [enc, bCons, bNil], ?_⟩
    obtain ⟨_, _, ⟨h3, h4⟩, h5, h6⟩ := hp
    have c1 : CMul ((E.count (.deed P.2 q.2) : Nat) : Int) p.p2 := cmul_r (by omega) (by omega)
    have c2 : CMul ((E.count (.deed P.2 q.2) : Nat) : Int) p.p3 := cmul_r (by omega) (by omega)
    generalize ((E.count (.deed P.2 q.2) : Nat) : Int) = k at *
    have e0 := ded_0 q.1
    cases hd : q.1 with
    | pr w is => rw [hd] at e0; simp [b__law_by_counts_1, e0, c1, pri, isPr, enc]
    | roll x y => rw [hd] at e0; simp [b__law_by_counts_1, e0, c2, pri, isPr, enc]
    | clear x => rw [hd] at e0; simp [b__law_by_counts_1, e0, c2, pri, isPr, enc]
  rw [foldl_sum] at L
  unfold f__law_by_counts_1
  have zr := zipR (fun x y => PyData.tuple [x, y]) dedD (fun n => PyData.int ((E.count (.deed P.2 n) : Nat) : Int)) P.1 0
  have : dSrcZ (dImm 4) (dImm 5) (enc s) = .ok (P.1.zipIdx.map fun q => .tuple [dedD q.1, .int ((E.count (.deed P.2 q.2) : Nat) : Int)]) (enc s) := by
    simp [enc, cntsD, List.range_eq_range', zr]
  rw [dFor_e]
  refine (congrArg (fun r => R.out r _) this).trans ?_
  exact L.1
theorem by_counts_v (b : Brd) (h : RB b) (hs : SmB b) (h2 : okB b = true) (p : Prc) (hp : okP p) (c : List (List Nat)) (hc : okD b.wd c) (hl : c.length ≤ 400) (ρ : Rho) :
    callD 8 d__law_by_counts none [brdD b, dkD c, prcD p] ρ = .ok (.v (.int (byC b p c.length (evl b c)))) ρ := by
  refine call_v ?_ ρ
  have a := adds_done_v b h hs h2 c hc hl
  have l := lists_done_v b h hs h2 c hc hl
  have d := deeds_done_v b h hs h2 c hc hl
  unfold byC
  generalize evl b c = E at *
  generalize ((List.range b.ad.length).map fun n => (((told [97, 100, 100] E).count n : Nat) : Int)) = na at *
  generalize ((List.range b.ls.length).map fun n => (((told [108, 105, 115, 116] E).count n : Nat) : Int)) = nl at *
  have c0 : CMul p.p0 (c.length : Int) := cmul_l (by have := hp.1; omega) (by have := hp.1; omega)
  have c1 : CMul p.p1 na.sum := cmul_l (by have := hp.2.1; omega) (by have := hp.2.1; omega)
  have c2 : CMul p.p2 nl.sum := cmul_l (by have := hp.2.2.1; omega) (by have := hp.2.2.1; omega)
  let enc : Int → Rho := fun s => [.imm (brdD b), .imm (dkD c), .imm (prcD p), .imm (.int s), .undef, .undef, .undef, .undef]
  let enc2 : Int → Rho := fun s => [.undef, .undef, .imm (prcD p), .imm (.int s), .undef, .undef, .undef, .undef]
  generalize hs0 : p.p0 * (c.length : Int) + p.p1 * na.sum + p.p2 * nl.sum = s0
  have step : ∀ (s : Int) (P : List Ded × Nat) (x0 x1 : Slot), b__law_by_counts_2 [x0, x1, .imm (prcD p), .imm (.int s), .imm (dedsD P.1), .imm (cntsD E P), .undef, .undef] = .next (enc2 (s + dedSum p E P)) := fun s P x0 x1 => by
    have e := by_inner p hp E P s
    unfold b__law_by_counts_2
    simp only [dKill_e]
    refine (seq_next (ρ1 := [.undef, .undef, .imm (prcD p), .imm (.int (s + dedSum p E P)), .imm (dedsD P.1), .imm (cntsD E P), .undef, .undef]) (by simpa using e)).trans ?_
    simp [enc2]
  have src : dSrcZ (dOp dIx (dImm 0) (dC (.int 6))) (dVal (dCallV 9 d_deeds_done (dCons (dImm 0) (dCons (dImm 1) (dNil))))) (enc s0) = .ok (b.to.zipIdx.map fun P => .tuple [dedsD P.1, cntsD E P]) (enc s0) := by
    have zr := zipZ (fun x y => PyData.tuple [x, y]) dedsD (cntsD E) b.to 0
    simp [enc, d, zr]
  have fin : ∃ ρ', f__law_by_counts_2 (enc s0) = .next ρ' ∧ (b.to ≠ [] → ρ' = enc2 (s0 + (b.to.zipIdx.map (dedSum p E)).sum)) := by
    unfold f__law_by_counts_2
    rw [dFor_e, src]
    cases hz : b.to.zipIdx with
    | nil =>
      have : b.to = [] := by simpa using hz
      exact ⟨_, rfl, fun hn => absurd this hn⟩
    | cons P r =>
      have L := dLoop_fold (bind := bTup (bCons (bName 4) (bCons (bName 5) (bNil)))) (body := b__law_by_counts_2) (fun P : List Ded × Nat => .tuple [dedsD P.1, cntsD E P]) enc2 (fun s P => s + dedSum p E P) (fun _ => True) r (s0 + dedSum p E P) trivial fun s P hq _ =>
        ⟨trivial, [.undef, .undef, .imm (prcD p), .imm (.int s), .imm (dedsD P.1), .imm (cntsD E P), .undef, .undef], by simp [enc2, bCons, bNil], step s P .undef .undef⟩
      rw [foldl_sum] at L
      refine ⟨_, ?_, fun _ => rfl⟩
      rw [List.map_cons, out_ok]
      refine (dLoop_next (ρ1 := [.imm (brdD b), .imm (dkD c), .imm (prcD p), .imm (.int s0), .imm (dedsD P.1), .imm (cntsD E P), .undef, .undef]) (by simp [enc, bCons, bNil]) (step s0 P (.imm (brdD b)) (.imm (dkD c)))).trans ?_
      refine L.1.trans ?_
      rw [List.map_cons, List.sum_cons, Int.add_assoc]
  obtain ⟨ρ', e1, e2⟩ := fin
  have hne : b.to ≠ [] := fun e => by have := h.to.1; rw [e] at this; simp at this
  rw [e2 hne] at e1
  generalize s0 + (b.to.zipIdx.map (dedSum p E)).sum = s1 at *
  unfold d__law_by_counts
  refine exq (seq_next (ρ1 := enc s0) (by simp [a, l, c0, c1, c2, enc, ← hs0])) ?_
  refine exq (seq_next e1) ?_
  simp [enc2]
/-! ### the costs by counts are the costs -/
def evR (b : Brd) : Sta → List (List Nat) → List Ev
  | st, [] => endEvs b st
  | st, x :: c => (evs b st x).1 ++ evR b (evs b st x).2 c
theorem evl_R (b : Brd) : ∀ (c : List (List Nat)) (st : Sta) (acc : List (Ev × Option (List Nat))),
    ((c.foldl (run2 b) (st, acc)).2 ++ (endEvs b (c.foldl (run2 b) (st, acc)).1).map fun e => (e, (none : Option (List Nat)))).map Prod.fst = acc.map Prod.fst ++ evR b st c
  | [], st, acc => by
    have : ∀ l : List Ev, (l.map fun e => (e, (none : Option (List Nat)))).map Prod.fst = l := fun l => by rw [List.map_map]; exact List.map_id _
    simp only [List.foldl_nil, evR, List.map_append, this]
  | x :: c, st, acc => by
    have : ∀ l : List Ev, (l.map fun e => (e, some x)).map Prod.fst = l := fun l => by rw [List.map_map]; exact List.map_id _
    rw [List.foldl_cons]
    have e : run2 b (st, acc) x = ((evs b st x).2, acc ++ (evs b st x).1.map fun e => (e, some x)) := rfl
    rw [e, evl_R b c, List.map_append, this, evR, List.append_assoc]
theorem evsP_app (b : Brd) (p : Prc) (l m : List Ev) : evsP b p (l ++ m) = evsP b p l + evsP b p m := by simp [evsP]
theorem costs_R (b : Brd) (p : Prc) : ∀ (c : List (List Nat)) (st : Sta) (acc : List Int),
    ((c.foldl (run1 b p) (st, acc)).2 ++ [evsP b p (endEvs b (c.foldl (run1 b p) (st, acc)).1)]).sum = acc.sum + p.p0 * (c.length : Int) + evsP b p (evR b st c)
  | [], st, acc => by simp [evR]
  | x :: c, st, acc => by
    rw [List.foldl_cons]
    have e : run1 b p (st, acc) x = ((evs b st x).2, acc ++ [p.p0 + evsP b p (evs b st x).1]) := rfl
    rw [e, costs_R b p c, evR, evsP_app]
    simp only [List.sum_append, List.sum_cons, List.sum_nil, List.length_cons, Int.natCast_add, Int.mul_add]
    omega
theorem evR_ok {b : Brd} (h : RB b) : ∀ (c : List (List Nat)) (st : Sta), ∀ e ∈ evR b st c, okEv b e
  | [], st => endEvs_ev h st
  | x :: c, st => fun e he => by
    rcases List.mem_append.mp he with he | he
    · exact evs_ev h st x e he
    · exact evR_ok h c _ e he
theorem told_cons (w : List Nat) (e : Ev) (E : List Ev) (n : Nat) : (told w (e :: E)).count n = (told w E).count n + if evW e = w ∧ evN e = n then 1 else 0 := by
  unfold told
  by_cases hw : evW e = w
  · rw [List.filter_cons_of_pos (by simp [hw]), List.map_cons, List.count_cons]
    by_cases hn : evN e = n <;> simp [hw, hn]
  · rw [List.filter_cons_of_neg (by simp [hw])]
    simp [hw]
theorem sum_add {α : Type} (f g : α → Int) : ∀ l : List α, (l.map fun x => f x + g x).sum = (l.map f).sum + (l.map g).sum
  | [] => rfl
  | a :: l => by simp only [List.map_cons, List.sum_cons, sum_add f g l]; omega
theorem sum_zero {α : Type} : ∀ l : List α, (l.map fun _ => (0 : Int)).sum = 0
  | [] => rfl
  | a :: l => by simp only [List.map_cons, List.sum_cons, sum_zero l]; omega
theorem sum_ind (m : Nat) : ∀ k : Nat, ((List.range k).map fun n => if m = n then (1 : Int) else 0).sum = if m < k then 1 else 0
  | 0 => rfl
  | k + 1 => by
    rw [List.range_succ, List.map_append, List.sum_append, sum_ind m k]
    simp only [List.map_cons, List.map_nil, List.sum_cons, List.sum_nil]
    split <;> split <;> split <;> omega
theorem sumZ {α : Type} (g : α → Int) : ∀ (l : List α) (s k : Nat), ((l.zipIdx s).map fun p => if k = p.2 then g p.1 else 0).sum = if s ≤ k then ((l[k - s]?).map g).getD 0 else 0
  | [], s, k => by simp
  | a :: l, s, k => by
    rw [List.zipIdx_cons, List.map_cons, List.sum_cons, sumZ g l (s + 1) k]
    by_cases h1 : k = s
    · subst h1
      simp
      omega
    · by_cases h2 : s ≤ k
      · have e : k - s = (k - (s + 1)) + 1 := by omega
        have h3 : s + 1 ≤ k := by omega
        rw [e, List.getElem?_cons_succ]
        simp [h1, h2, h3]
      · have h3 : ¬ s + 1 ≤ k := by omega
        simp [h1, h2, h3]
theorem cnt_sum (w : List Nat) (e : Ev) (E : List Ev) (k : Nat) : ((List.range k).map fun n => (((told w (e :: E)).count n : Nat) : Int)).sum = ((List.range k).map fun n => (((told w E).count n : Nat) : Int)).sum + if evW e = w ∧ evN e < k then 1 else 0 := by
  have : (fun n => (((told w (e :: E)).count n : Nat) : Int)) = fun n => (((told w E).count n : Nat) : Int) + if evW e = w ∧ evN e = n then 1 else 0 := by
    funext n
    rw [told_cons]
    split <;> simp
  rw [this, sum_add]
  congr 1
  by_cases hw : evW e = w
  · simp only [hw, true_and]
    exact sum_ind _ _
  · simp only [hw, false_and, if_false]
    exact sum_zero _
def dedX (p : Prc) (P : List Ded × Nat) : Ev → Int
  | .deed l n => if l = P.2 then ((P.1[n]?).map (pri p)).getD 0 else 0
  | _ => 0
theorem ded_sum (p : Prc) (e : Ev) (E : List Ev) (P : List Ded × Nat) : dedSum p (e :: E) P = dedSum p E P + dedX p P e := by
  unfold dedSum
  have : (fun q : Ded × Nat => (((e :: E).count (.deed P.2 q.2) : Nat) : Int) * pri p q.1) = fun q => ((E.count (.deed P.2 q.2) : Nat) : Int) * pri p q.1 + if e = .deed P.2 q.2 then pri p q.1 else 0 := by
    funext q
    rw [List.count_cons]
    by_cases he : e = .deed P.2 q.2
    · simp [he, Int.add_mul]
    · simp [he]
  rw [this, sum_add]
  congr 1
  cases e with
  | add n => simp only [dedX, reduceCtorEq, if_false]; exact sum_zero _
  | list n => simp only [dedX, reduceCtorEq, if_false]; exact sum_zero _
  | deed l n =>
    by_cases hl : l = P.2
    · have := sumZ (pri p) P.1 0 n
      simp only [Nat.zero_le, if_true, Nat.sub_zero] at this
      simp only [dedX, hl, Ev.deed.injEq, true_and, if_true]
      exact this
    · simp only [dedX, Ev.deed.injEq, hl, false_and, if_false]
      exact sum_zero _
theorem byC_P {b : Brd} (p : Prc) (m : Nat) : ∀ E : List Ev, (∀ e ∈ E, okEv b e) → byC b p m E = p.p0 * (m : Int) + evsP b p E
  | [], _ => by
    have z : ∀ w : List Nat, told w [] = [] := fun _ => rfl
    have d : dedSum p [] = fun _ => 0 := by
      funext P
      simp only [dedSum, List.count_nil, Int.natCast_zero, Int.zero_mul]
      exact sum_zero _
    simp only [byC, z, List.count_nil, Int.natCast_zero, sum_zero, d, evsP, List.map_nil, List.sum_nil, Int.mul_zero, Int.add_zero]
  | e :: E, h => by
    have ih := byC_P p m E fun x hx => h x (List.mem_cons_of_mem _ hx)
    have he := h e (List.mem_cons_self ..)
    have e1 : evsP b p (e :: E) = evP b p e + evsP b p E := by simp [evsP]
    have e2 : dedSum p (e :: E) = fun P => dedSum p E P + dedX p P e := by funext P; exact ded_sum p e E P
    unfold byC at ih ⊢
    rw [cnt_sum, cnt_sum, e1, e2, sum_add]
    cases e with
    | add n =>
      have hn : n < b.ad.length := he
      simp only [evW, evN, hn, dedX, sum_zero, evP]
      simp [Int.mul_add]
      omega
    | list n =>
      have hn : n < b.ls.length := he
      simp only [evW, evN, hn, dedX, sum_zero, evP]
      simp [Int.mul_add]
      omega
    | deed l n =>
      obtain ⟨ds, h1, h2⟩ := he
      have sz := sumZ (fun ds : List Ded => ((ds[n]?).map (pri p)).getD 0) b.to 0 l
      simp only [Nat.zero_le, if_true, Nat.sub_zero, h1] at sz
      have g1 : b.to.getD l [] = ds := by simp [List.getD_eq_getElem?_getD, h1]
      have g2 : ds.getD n (.clear 0) = ds[n] := by simp [List.getD_eq_getElem?_getD, h2]
      have g3 : ((ds[n]?).map (pri p)).getD 0 = pri p ds[n] := by simp [h2]
      simp only [Option.map_some, Option.getD_some, g3] at sz
      simp only [evW, evN, evP, dedX, g1, g2, sz]
      simp [pri]
      unfold pri at *
      omega
theorem byC_eq {b : Brd} (h : RB b) (p : Prc) (c : List (List Nat)) : byC b p c.length (evl b c) = (costs b p c).sum := by
  have e1 : evl b c = evR b (fst0 b) c := by
    have := evl_R b c (fst0 b) []
    simp at this
    simp only [evl, allEv]
    simpa using this
  have e2 := costs_R b p c (fst0 b) []
  rw [e1, byC_P p _ _ (evR_ok h c _)]
  unfold costs
  simp only at e2 ⊢
  rw [e2]
  simp
/-! ### the law's own costs -/
def boD (on : List Bool) : D := .tuple (on.map .bool)
abbrev Lst := Option (List Nat) × List Bool
def lstD (s : Lst) : D := .tuple [kyD s.1, boD s.2]
def kap (b : Brd) (s : Lst) : Sta := (s.1.map (kof b), s.2)
theorem law_hold_step (w : List Tst) (on : List Bool) (cd : D) (card : List Nat) (t : Tst) (h : tOk on cd card t) :
    ∃ ρ1, bName 3 (tstD t) [.imm (whenD w), .imm cd, .imm (boD on), .undef] = some ρ1 ∧ (hold on card t = true → b__law_holds_1 ρ1 = .next [.imm (whenD w), .imm cd, .imm (boD on), .undef]) ∧ (hold on card t = false → ∃ ρ', b__law_holds_1 ρ1 = .ret (.bool false) ρ') := by
  refine ⟨[.imm (whenD w), .imm cd, .imm (boD on), .imm (tstD t)], by simp, ?_⟩
  cases t with
  | sg c s f =>
    obtain ⟨rfl, hc, hz2⟩ := h
    have hz3 : card.length ≤ 16777216 := by omega
    obtain ⟨x, hg, hx⟩ := getD_of (d := 0) hc
    refine ⟨fun hh => ?_, fun hh => ?_⟩
    · simp only [hold, hx, decide_eq_true_eq] at hh
      simp [b__law_holds_1, tstD, hz3, hg, hh]
    · simp only [hold, hx, decide_eq_false_iff_not] at hh
      simp [b__law_holds_1, tstD, hz3, hg, hh]
  | lt n f =>
    have hn : n < on.length := h
    obtain ⟨x, hg, hx⟩ := getD_of (d := false) hn
    have hi : dIx (boD on) (.int (n : Int)) = some (.bool x) := by simp [boD, hg]
    refine ⟨fun hh => ?_, fun hh => ?_⟩
    · simp only [hold, hx, decide_eq_true_eq] at hh
      simp [b__law_holds_1, tstD, hi, hh]
    · simp only [hold, hx, decide_eq_false_iff_not] at hh
      simp [b__law_holds_1, tstD, hi, hh]
theorem law_holds_v (w : List Tst) (on : List Bool) (cd : D) (card : List Nat) (h : ∀ t ∈ w, tOk on cd card t) (ρ : Rho) : callD 4 d__law_holds none [whenD w, cd, boD on] ρ = .ok (.v (.bool (holds w on card))) ρ := by
  refine call_v ?_ ρ
  have L := dLoop_all (bind := bName 3) (body := b__law_holds_1) tstD [.imm (whenD w), .imm cd, .imm (boD on), .undef] (hold on card) (.bool false) w fun t ht => law_hold_step w on cd card t (h t ht)
  cases e : w.all (hold on card) with
  | true =>
    have L1 := L.1 e
    simp [d__law_holds, f__law_holds_1, L1, holds, e, -List.all_eq_true]
  | false =>
    obtain ⟨ρ', L2⟩ := L.2 e
    simp [d__law_holds, f__law_holds_1, L2, holds, e, -List.all_eq_true, -List.all_eq_false]
theorem law_first_v (b : Brd) (h : RB b) (ρ : Rho) : callD 1 d__law_first none [brdD b] ρ = .ok (.v (lstD (none, List.replicate b.la.length false))) ρ := by
  refine call_v ?_ ρ
  have z : 0 ≤ (b.la.length : Int) ∧ (b.la.length : Int) ≤ 1000 := by have := h.la.1; omega
  have e : (List.replicate b.la.length [PyData.bool false]).flatten = List.replicate b.la.length (PyData.bool false) := by
    generalize b.la.length = n
    induction n with
    | zero => rfl
    | succ n ih => simp only [List.replicate_succ, List.flatten_cons, ih]; rfl
  simp [d__law_first, z, lstD, boD, kyD, e]
def dSumC (p : Prc) (on : List Bool) (ds : List Ded) : Int := (ds.map fun d => if does on d = true then pri p d else 0).sum
theorem zipIdx_fst {α β : Type} (f : α → β) : ∀ (l : List α) (s : Nat), ((l.zipIdx s).map fun p => f p.1) = l.map f
  | [], _ => rfl
  | a :: l, s => by rw [List.zipIdx_cons, List.map_cons, zipIdx_fst f l, List.map_cons]
theorem sum_filter {α : Type} (q : α → Bool) (f : α → Int) : ∀ l : List α, ((l.filter q).map f).sum = (l.map fun x => if q x = true then f x else 0).sum
  | [] => rfl
  | a :: l => by
    cases h : q a with
    | true => rw [List.filter_cons_of_pos h]; simp only [List.map_cons, List.sum_cons, sum_filter q f l, h, if_true]
    | false => rw [List.filter_cons_of_neg (by simp [h])]; simp [sum_filter q f l, h]
theorem dEvs_P (b : Brd) (p : Prc) (lev : Nat) (on : List Bool) : evsP b p (dEvs b lev on) = dSumC p on (b.to.getD lev []) := by
  unfold evsP dEvs dSumC
  rw [List.map_map, sum_filter, ← zipIdx_fst (fun d => if does on d = true then pri p d else 0) (b.to.getD lev []) 0]
  congr 1
  refine List.map_congr_left fun q hq => ?_
  have e := (List.mem_zipIdx' hq).2
  have l := (List.mem_zipIdx' hq).1
  simp only [Function.comp, evP]
  have : (b.to.getD lev []).getD q.2 (.clear 0) = q.1 := by rw [List.getD_eq_getElem?_getD, List.getElem?_eq_getElem l, ← e]; rfl
  rw [this]
  rfl
theorem deeds_cost_v (b : Brd) (p : Prc) (on : List Bool) (ho : on.length = b.la.length) (ds : List Ded) (hd : ∀ d ∈ ds, okDed b d = true) (ρ : Rho) : callD 5 d__law_deeds_cost none [dedsD ds, boD on, prcD p] ρ = .ok (.v (.int (dSumC p on ds))) ρ := by
  refine call_v ?_ ρ
  let enc : Int → Rho := fun s => [.imm (dedsD ds), .imm (boD on), .imm (prcD p), .imm (.int s), .undef]
  have L := dLoop_fold (bind := bName 4) (body := b__law_deeds_cost_1) dedD enc (fun s d => s + if does on d = true then pri p d else 0) (fun _ => True) ds 0 trivial fun s d hm _ => by
    refine ⟨trivial, [.imm (dedsD ds), .imm (boD on), .imm (prcD p), .imm (.int s), .imm (dedD d)], by simp [enc], ?_⟩
    have ok := hd d hm
    have e0 := ded_0 d
    cases d with
    | pr w is =>
      simp only [okDed, Bool.and_eq_true] at ok
      have lh := law_holds_v w on (.str (mk [])) [] (whenOk0 ok.1 ho _ _)
      have e1 : dIx (dedD (.pr w is)) (.int 1) = some (whenD w) := by simp [dedD]
      have hk : holds w on [] = does on (.pr w is) := rfl
      rw [hk] at lh
      generalize does on (.pr w is) = k at *
      cases k <;> simp [b__law_deeds_cost_1, e0, e1, lh, pri, isPr, enc]
    | roll x y => simp [b__law_deeds_cost_1, e0, pri, isPr, enc, does]
    | clear x => simp [b__law_deeds_cost_1, e0, pri, isPr, enc, does]
  rw [foldl_sum] at L
  have L := L.1
  simp only [enc, Int.zero_add] at L
  unfold d__law_deeds_cost
  refine exq (seq_next (ρ1 := enc 0) (by simp [enc])) ?_
  refine exq (seq_next (ρ1 := enc (dSumC p on ds)) ?_) (by simp [enc])
  unfold f__law_deeds_cost_1
  have : dSrc (dImm 0) (enc 0) = .ok (ds.map dedD) (enc 0) := by simp [enc]
  rw [dFor_e, this]
  exact L
theorem offsZ (lev : Nat) : ∀ (la : List (Nat × Nat × Nat)) (on : List Bool), ((on.zip la).map fun p => PyData.bool (p.1 && !decide (p.2.2.2 = lev))) = (offs la on lev).map .bool
  | [], [] => rfl
  | [], _ :: _ => rfl
  | _ :: _, [] => rfl
  | l :: la, s :: on => by
    have := offsZ lev la on
    simp only [offs] at this ⊢
    simp only [List.zip_cons_cons, List.map_cons, List.zipWith_cons_cons, this]
    by_cases h : l.2.2 = lev <;> simp [h]
theorem onsZ (card : List Nat) : ∀ (la : List (Nat × Nat × Nat)) (on : List Bool), ((on.zip la).map fun p => PyData.bool (p.1 || decide (card.getD p.2.1 0 = p.2.2.1))) = (ons la on card).map .bool
  | [], [] => rfl
  | [], _ :: _ => rfl
  | _ :: _, [] => rfl
  | l :: la, s :: on => by
    have := onsZ card la on
    simp only [ons] at this ⊢
    simp only [List.zip_cons_cons, List.map_cons, List.zipWith_cons_cons, this]
    generalize card.getD l.1 0 = x
    by_cases h : x = l.2.1 <;> cases s <;> simp [h]
def okL (b : Brd) (s : Lst) : Prop := (match s.1 with | none => True | some l => l.length = b.wd) ∧ s.2.length = b.la.length
def lbr (b : Brd) (p : Prc) (s : Lst) (card : Option (List Nat)) : Int × List Bool := match s.1 with
  | none => (0, s.2)
  | some l => let q := (match card with
      | none => List.range b.lv.length
      | some x => brk b (kof b l) (kof b x)).foldl (goD b) ([], s.2); (evsP b p q.1, q.2)
theorem brk_body (b : Brd) (h : RB b) (p : Prc) (cc : Nat) (hcw : cc < b.wd) (hlv : b.lv = [[cc]]) (l : List Nat) (hl : l.length = b.wd) (on : List Bool) (ho : on.length = b.la.length) (card : Option (List Nat)) (hc : ∀ x, card = some x → x.length = b.wd) :
    b__law_breaks_1 [.undef, .undef, .imm (kyD card), .imm (prcD p), .imm (.str (mk l)), .imm (boD on), .imm (lvD [[cc]]), .imm (.tuple (b.la.map laD)), .imm (.tuple (b.to.map dedsD)), .imm (.int 0), .imm (.int 0), .undef, .undef, .undef] =
      .next [.undef, .undef, .imm (kyD card), .imm (prcD p), .imm (.str (mk l)), .imm (boD (lbr b p (some l, on) card).2), .imm (lvD [[cc]]), .imm (.tuple (b.la.map laD)), .imm (.tuple (b.to.map dedsD)), .imm (.int (lbr b p (some l, on) card).1), .undef, .undef, .undef, .undef] := by
  have tl : b.to.length = 2 := by have := h.to.1; rw [hlv] at this; simpa using this
  have g0 : ∃ ds, b.to[0]? = some ds ∧ b.to.getD 0 [] = ds := getD_of (by omega)
  obtain ⟨ds, g1, g2⟩ := g0
  have gm : ds ∈ b.to := List.mem_of_getElem? g1
  have dc := deeds_cost_v b p on ho ds (h.to.2 ds gm).2
  have dp := dEvs_P b p 0 on
  rw [g2] at dp
  have ll := h.la.1
  -- a break
  have eC2 : c__law_breaks_2 [.undef, .undef, .imm (kyD card), .imm (prcD p), .imm (.str (mk l)), .imm (boD on), .imm (lvD [[cc]]), .imm (.tuple (b.la.map laD)), .imm (.tuple (b.to.map dedsD)), .imm (.int (dSumC p on ds)), .imm (.int 0), .undef, .undef, .undef] = .ok ((offs b.la on 0).map .bool) [.undef, .undef, .imm (kyD card), .imm (prcD p), .imm (.str (mk l)), .imm (boD on), .imm (lvD [[cc]]), .imm (.tuple (b.la.map laD)), .imm (.tuple (b.to.map dedsD)), .imm (.int (dSumC p on ds)), .imm (.int 0), .undef, .undef, .undef] := by
    rw [← offsZ]
    unfold c__law_breaks_2
    refine dLc_all (vs := [12, 13]) (bind := bTup (bCons (bName 12) (bCons (bName 13) (bNil)))) (fun q : Bool × (Nat × Nat × Nat) => .tuple [.bool q.1, laD q.2]) (fun q => .bool (q.1 && !decide (q.2.2.2 = 0))) ?_ rfl (by simp; omega) fun q hq => ⟨[.undef, .undef, .imm (kyD card), .imm (prcD p), .imm (.str (mk l)), .imm (boD on), .imm (lvD [[cc]]), .imm (.tuple (b.la.map laD)), .imm (.tuple (b.to.map dedsD)), .imm (.int (dSumC p on ds)), .imm (.int 0), .undef, .imm (.bool q.1), .imm (laD q.2)], by simp [bCons, bNil], ?_, by simp⟩
    · have z := zipD_map PyData.bool laD on b.la
      simp [boD, z]
    · have e2 : dIx (laD q.2) (.int 2) = some (.int (q.2.2.2 : Int)) := by simp [laD]
      cases q.1 <;> simp [e2]
  have yes : dSeq (dSet 9 (dOp dAdd (dImm 9) (dVal (dCallV 5 d__law_deeds_cost (dCons (dOp dIx (dImm 8) (dImm 10)) (dCons (dImm 5) (dCons (dImm 3) (dNil))))))))
      (dSet 5 (d1 dTuple (dLst (c__law_breaks_2)))) [.undef, .undef, .imm (kyD card), .imm (prcD p), .imm (.str (mk l)), .imm (boD on), .imm (lvD [[cc]]), .imm (.tuple (b.la.map laD)), .imm (.tuple (b.to.map dedsD)), .imm (.int 0), .imm (.int 0), .undef, .undef, .undef] =
      .next [.undef, .undef, .imm (kyD card), .imm (prcD p), .imm (.str (mk l)), .imm (boD (offs b.la on 0)), .imm (lvD [[cc]]), .imm (.tuple (b.la.map laD)), .imm (.tuple (b.to.map dedsD)), .imm (.int (dSumC p on ds)), .imm (.int 0), .undef, .undef, .undef] := by
    refine (seq_next (ρ1 := [.undef, .undef, .imm (kyD card), .imm (prcD p), .imm (.str (mk l)), .imm (boD on), .imm (lvD [[cc]]), .imm (.tuple (b.la.map laD)), .imm (.tuple (b.to.map dedsD)), .imm (.int (dSumC p on ds)), .imm (.int 0), .undef, .undef, .undef]) (by simp [g1, dc])).trans ?_
    simp [eC2]
    rfl
  have ft : ∀ v, ([0] : List Nat).foldl (goD b) ([], v) = (dEvs b 0 v, offs b.la v 0) := fun v => by simp [goD]
  unfold b__law_breaks_1
  cases card with
  | none =>
    have lb : lbr b p (some l, on) none = (dSumC p on ds, offs b.la on 0) := by
      have : List.range b.lv.length = [0] := by rw [hlv]; rfl
      simp only [lbr, this, ft, dp]
    rw [lb]
    have eI := yes
    simp only [kyD] at eI ⊢
    refine (seq_next (ρ1 := [.undef, .undef, .imm .none, .imm (prcD p), .imm (.str (mk l)), .imm (boD (offs b.la on 0)), .imm (lvD [[cc]]), .imm (.tuple (b.la.map laD)), .imm (.tuple (b.to.map dedsD)), .imm (.int (dSumC p on ds)), .imm (.int 0), .undef, .undef, .undef]) ?_).trans (by simp)
    rw [dIf_e]
    simp only [dOr_e, dBool_e, dF_e, dImm_e, List.getElem?_cons_succ, List.getElem?_cons_zero, bind_ok, isNon_n, if_true, out_ok]
    exact eI
  | some x =>
    have hx := hc x rfl
    have wl := h.wd
    obtain ⟨a, a1, a2⟩ := getD_of (l := l) (i := cc) (d := 0) (by omega)
    obtain ⟨e, e1, e2⟩ := getD_of (l := x) (i := cc) (d := 0) (by omega)
    have z1 : l.length ≤ 16777216 := by omega
    have z2 : x.length ≤ 16777216 := by omega
    have sm : dSumT (.tuple [lotD [cc]]) (.tuple []) = some (.tuple [.int (cc : Int)]) := by simp [dSumT, seqLT, lotD, tupsOf, sumT]
    have cu : dCut (lvD [[cc]]) (some 0) none = some (.tuple [lotD [cc]]) := rfl
    have eC1 : c__law_breaks_1 [.undef, .undef, .imm (kyD (some x)), .imm (prcD p), .imm (.str (mk l)), .imm (boD on), .imm (lvD [[cc]]), .imm (.tuple (b.la.map laD)), .imm (.tuple (b.to.map dedsD)), .imm (.int 0), .imm (.int 0), .undef, .undef, .undef] = .ok ([cc].map fun _ => .bool (!decide (a = e))) [.undef, .undef, .imm (kyD (some x)), .imm (prcD p), .imm (.str (mk l)), .imm (boD on), .imm (lvD [[cc]]), .imm (.tuple (b.la.map laD)), .imm (.tuple (b.to.map dedsD)), .imm (.int 0), .imm (.int 0), .undef, .undef, .undef] := by
      unfold c__law_breaks_1
      refine dLc_all (vs := [11]) (bind := bName 11) (fun n : Nat => .int (n : Int)) (fun _ => .bool (!decide (a = e))) ?_ rfl (by simp) fun n hn => ⟨[.undef, .undef, .imm (kyD (some x)), .imm (prcD p), .imm (.str (mk l)), .imm (boD on), .imm (lvD [[cc]]), .imm (.tuple (b.la.map laD)), .imm (.tuple (b.to.map dedsD)), .imm (.int 0), .imm (.int 0), .imm (.int (n : Int)), .undef, .undef], by simp, ?_, by simp⟩
      · simp [cu, sm]
      · obtain rfl : n = cc := by simpa using hn
        simp [kyD, z1, z2, a1, e1]
    have cnd : dOr (dBool (dF isNon (dImm 2))) (dBool (d1 dAny (dLst (c__law_breaks_1)))) [.undef, .undef, .imm (kyD (some x)), .imm (prcD p), .imm (.str (mk l)), .imm (boD on), .imm (lvD [[cc]]), .imm (.tuple (b.la.map laD)), .imm (.tuple (b.to.map dedsD)), .imm (.int 0), .imm (.int 0), .undef, .undef, .undef] = .ok (!decide (a = e)) [.undef, .undef, .imm (kyD (some x)), .imm (prcD p), .imm (.str (mk l)), .imm (boD on), .imm (lvD [[cc]]), .imm (.tuple (b.la.map laD)), .imm (.tuple (b.to.map dedsD)), .imm (.int 0), .imm (.int 0), .undef, .undef, .undef] := by
      have da := dAny_map [cc] fun _ => !decide (a = e)
      simp only [dOr_e, dBool_e, dF_e, dImm_e, d1_e, dLst_e, List.getElem?_cons_succ, List.getElem?_cons_zero, bind_ok, isNon_ky, Option.isNone_some, Bool.false_eq_true, if_false, eC1, da, lift_some]
      simp
    have kk : (kof b l = kof b x) = (a = e) := by
      unfold kof
      rw [hlv]
      simp [-List.getD_eq_getElem?_getD, a2, e2]
    have lvne : b.lv ≠ [] := by rw [hlv]; simp
    by_cases hae : a = e
    · have lb : lbr b p (some l, on) (some x) = (0, on) := by
        simp [lbr, brk, kk, hae, evsP]
      rw [lb]
      refine (seq_next (ρ1 := [.undef, .undef, .imm (kyD (some x)), .imm (prcD p), .imm (.str (mk l)), .imm (boD on), .imm (lvD [[cc]]), .imm (.tuple (b.la.map laD)), .imm (.tuple (b.to.map dedsD)), .imm (.int 0), .imm (.int 0), .undef, .undef, .undef]) ?_).trans (by simp)
      rw [dIf_e, cnd]
      simp [hae]
    · have lb : lbr b p (some l, on) (some x) = (dSumC p on ds, offs b.la on 0) := by
        have : brk b (kof b l) (kof b x) = [0] := by simp [brk, kk, hae, lvne]
        simp only [lbr, this, ft, dp]
      rw [lb]
      refine (seq_next (ρ1 := [.undef, .undef, .imm (kyD (some x)), .imm (prcD p), .imm (.str (mk l)), .imm (boD (offs b.la on 0)), .imm (lvD [[cc]]), .imm (.tuple (b.la.map laD)), .imm (.tuple (b.to.map dedsD)), .imm (.int (dSumC p on ds)), .imm (.int 0), .undef, .undef, .undef]) ?_).trans (by simp)
      rw [dIf_e, cnd, out_ok]
      simp only [hae, decide_false, Bool.not_false, if_true]
      exact yes
theorem breaks_v (b : Brd) (h : RB b) (p : Prc) (s : Lst) (hs : okL b s) (card : Option (List Nat)) (hc : ∀ x, card = some x → x.length = b.wd) (ρ : Rho) :
    callD 14 d__law_breaks none [brdD b, lstD s, kyD card, prcD p] ρ = .ok (.v (.tuple [.int (lbr b p s card).1, boD (lbr b p s card).2])) ρ := by
  refine call_v ?_ ρ
  obtain ⟨last, on⟩ := s
  obtain ⟨hk, ho⟩ := hs
  have hlv : dLen (lvD b.lv) = some (.int (b.lv.length : Int)) := by simp [lvD]
  have eF : f__law_breaks_1 [.undef, .undef, .imm (kyD card), .imm (prcD p), .imm (kyD last), .imm (boD on), .imm (lvD b.lv), .imm (.tuple (b.la.map laD)), .imm (.tuple (b.to.map dedsD)), .imm (.int 0), .undef, .undef, .undef, .undef] =
      .next [.undef, .undef, .imm (kyD card), .imm (prcD p), .imm (kyD last), .imm (boD (lbr b p (last, on) card).2), .imm (lvD b.lv), .imm (.tuple (b.la.map laD)), .imm (.tuple (b.to.map dedsD)), .imm (.int (lbr b p (last, on) card).1), .undef, .undef, .undef, .undef] := by
    have rg : ∀ n : Nat, n ≤ 1 → dIfE (dBool (dF (fun d => !isNon d) (dImm 4))) (d1 dLen (dImm 6)) (dC (.int 0)) [.undef, .undef, .imm (kyD card), .imm (prcD p), .imm (kyD last), .imm (boD on), .imm (lvD b.lv), .imm (.tuple (b.la.map laD)), .imm (.tuple (b.to.map dedsD)), .imm (.int 0), .undef, .undef, .undef, .undef] = .ok (.int (n : Int)) [.undef, .undef, .imm (kyD card), .imm (prcD p), .imm (kyD last), .imm (boD on), .imm (lvD b.lv), .imm (.tuple (b.la.map laD)), .imm (.tuple (b.to.map dedsD)), .imm (.int 0), .undef, .undef, .undef, .undef] →
        dRng1 (dIfE (dBool (dF (fun d => !isNon d) (dImm 4))) (d1 dLen (dImm 6)) (dC (.int 0))) [.undef, .undef, .imm (kyD card), .imm (prcD p), .imm (kyD last), .imm (boD on), .imm (lvD b.lv), .imm (.tuple (b.la.map laD)), .imm (.tuple (b.to.map dedsD)), .imm (.int 0), .undef, .undef, .undef, .undef] = .ok ((List.range n).map fun n : Nat => .int (n : Int)) [.undef, .undef, .imm (kyD card), .imm (prcD p), .imm (kyD last), .imm (boD on), .imm (lvD b.lv), .imm (.tuple (b.la.map laD)), .imm (.tuple (b.to.map dedsD)), .imm (.int 0), .undef, .undef, .undef, .undef] := fun n hn e => by
      have := dRng1_v e (by omega) (by omega)
      rw [this, Int.toNat_natCast, rgD_range]
    unfold f__law_breaks_1
    rw [dFor_e]
    cases last with
    | none =>
      rw [rg 0 (by omega) (by simp [kyD])]
      rfl
    | some l =>
      have hl : l.length = b.wd := hk
      rw [rg b.lv.length h.lvl.1 (by simp [hlv])]
      rcases h.lv with e | ⟨cc, hcw, e⟩
      · have lb : lbr b p (some l, on) card = (0, on) := by
          cases card <;> simp [lbr, brk, e, evsP]
        rw [lb, e]
        rfl
      · have B := brk_body b h p cc hcw e l hl on ho card hc
        rw [e]
        rw [out_ok]
        refine (dLoop_next (d := .int 0) (ds := []) (bind := bName 10) (ρ1 := [.undef, .undef, .imm (kyD card), .imm (prcD p), .imm (.str (mk l)), .imm (boD on), .imm (lvD [[cc]]), .imm (.tuple (b.la.map laD)), .imm (.tuple (b.to.map dedsD)), .imm (.int 0), .imm (.int 0), .undef, .undef, .undef]) (by simp [kyD]) B).trans ?_
        rfl
  generalize lbr b p (last, on) card = r at *
  unfold d__law_breaks
  refine exq (seq_next (ρ1 := [.imm (brdD b), .imm (lstD (last, on)), .imm (kyD card), .imm (prcD p), .imm (kyD last), .imm (boD on), .undef, .undef, .undef, .undef, .undef, .undef, .undef, .undef]) (by simp [lstD, bCons, bNil])) ?_
  refine exq (seq_next (ρ1 := [.imm (brdD b), .imm (lstD (last, on)), .imm (kyD card), .imm (prcD p), .imm (kyD last), .imm (boD on), .imm (lvD b.lv), .imm (.tuple (b.la.map laD)), .imm (.tuple (b.to.map dedsD)), .undef, .undef, .undef, .undef, .undef]) (by simp)) ?_
  refine exq (seq_next (ρ1 := [.imm (brdD b), .imm (lstD (last, on)), .imm (kyD card), .imm (prcD p), .imm (kyD last), .imm (boD on), .imm (lvD b.lv), .imm (.tuple (b.la.map laD)), .imm (.tuple (b.to.map dedsD)), .imm (.int 0), .undef, .undef, .undef, .undef]) (by simp)) ?_
  simp only [dKill_e, wipeR_cons, wipeR_nil, List.set_cons_zero, List.set_cons_succ]
  refine exq (seq_next eF) ?_
  simp
theorem lbr_card {b : Brd} (h : RB b) (p : Prc) (s : Lst) (x : List Nat) : lbr b p s (some x) = (evsP b p (brks b (kap b s) x).1, (brks b (kap b s) x).2) := by
  obtain ⟨l, on⟩ := s
  cases l with
  | none => simp [lbr, brks, kap, evsP]
  | some l => rfl
theorem lbr_len {b : Brd} (h : RB b) (p : Prc) (s : Lst) (hs : okL b s) (x : List Nat) : (lbr b p s (some x)).2.length = b.la.length := by
  rw [lbr_card h]
  refine (brks_ok h ?_ x).1
  refine ⟨?_, hs.2⟩
  obtain ⟨l, on⟩ := s
  cases l with
  | none => trivial
  | some l => exact kof_len h l
theorem filt_one {α β : Type} (q : α → Bool) (f : α → β) (l : List α) : ((l.filter q).map f).length = (l.filter q).length := by simp
theorem zipIdx_filt {α : Type} (q : α → Bool) : ∀ (l : List α) (s : Nat), ((l.zipIdx s).filter fun p => q p.1).length = (l.filter q).length
  | [], _ => rfl
  | a :: l, s => by
    rw [List.zipIdx_cons]
    cases h : q a with
    | true => rw [List.filter_cons_of_pos (by simpa using h), List.filter_cons_of_pos h]; simp [zipIdx_filt q l]
    | false => rw [List.filter_cons_of_neg (by simp [h]), List.filter_cons_of_neg (by simp [h])]; exact zipIdx_filt q l _
theorem aEvs_P (b : Brd) (p : Prc) (on : List Bool) (x : List Nat) : evsP b p (aEvs b on x) = p.p1 * ((b.ad.filter fun a => holds a.w on x).length : Int) := by
  have e := zipIdx_filt (fun a : Add => holds a.w on x) b.ad 0
  unfold evsP aEvs
  rw [List.map_map, ← e]
  generalize (b.ad.zipIdx.filter fun p => holds p.1.w on x) = l
  induction l with
  | nil => simp
  | cons a l ih => rw [List.map_cons, List.sum_cons, ih]; simp [evP, Int.mul_add]; omega
theorem lEvs_P (b : Brd) (p : Prc) (on : List Bool) (x : List Nat) : evsP b p (lEvs b on x) = p.p2 * ((b.ls.filter fun a => holds a.1 on x).length : Int) := by
  have e := zipIdx_filt (fun a : List Tst × List Itm => holds a.1 on x) b.ls 0
  unfold evsP lEvs
  rw [List.map_map, ← e]
  generalize (b.ls.zipIdx.filter fun p => holds p.1.1 on x) = l
  induction l with
  | nil => simp
  | cons a l ih => rw [List.map_cons, List.sum_cons, ih]; simp [evP, Int.mul_add]; omega
theorem card_cost_v (b : Brd) (h : RB b) (p : Prc) (hp : okP p) (s : Lst) (hs : okL b s) (x : List Nat) (hx : okC b x) (ρ : Rho) :
    callD 11 d__law_card_cost none [brdD b, lstD s, .str (mk x), prcD p] ρ = .ok (.v (.tuple [.int (p.p0 + evsP b p (evs b (kap b s) x).1), lstD (some x, (evs b (kap b s) x).2.2)])) ρ := by
  refine call_v ?_ ρ
  have br := breaks_v b h p s hs (some x) (fun y e => by cases e; exact hx.1)
  have ll := lbr_len h p s hs x
  have lc := lbr_card h p s x
  have e1 : evsP b p (evs b (kap b s) x).1 = (lbr b p s (some x)).1 + evsP b p (aEvs b (ons b.la (lbr b p s (some x)).2 x) x) + evsP b p (lEvs b (ons b.la (lbr b p s (some x)).2 x) x) := by
    rw [lc]; simp only [evs, evsP_app]
  have e2 : (evs b (kap b s) x).2.2 = ons b.la (lbr b p s (some x)).2 x := by rw [lc]; rfl
  rw [e1, e2, aEvs_P, lEvs_P]
  generalize lbr b p s (some x) = r at *
  obtain ⟨q, on⟩ := r
  simp only at *
  have kx : kyD (some x) = .str (mk x) := rfl
  rw [kx] at br
  have lal := h.la.1
  have wl := h.wd
  have z3 : x.length ≤ 16777216 := by have := hx.1; omega
  have ol := ons_len (card := x) ll
  -- the latches that go on
  have eC1 : c__law_card_cost_1 [.imm (brdD b), .imm (lstD s), .imm (.str (mk x)), .imm (prcD p), .imm (.int q), .imm (boD on), .undef, .undef, .undef, .undef, .undef] = .ok ((ons b.la on x).map .bool) [.imm (brdD b), .imm (lstD s), .imm (.str (mk x)), .imm (prcD p), .imm (.int q), .imm (boD on), .undef, .undef, .undef, .undef, .undef] := by
    rw [← onsZ]
    unfold c__law_card_cost_1
    refine dLc_all (vs := [6, 7]) (bind := bTup (bCons (bName 6) (bCons (bName 7) (bNil)))) (fun q : Bool × (Nat × Nat × Nat) => .tuple [.bool q.1, laD q.2]) (fun q => .bool (q.1 || decide (x.getD q.2.1 0 = q.2.2.1))) ?_ rfl (by simp; omega) fun t ht => ⟨[.imm (brdD b), .imm (lstD s), .imm (.str (mk x)), .imm (prcD p), .imm (.int q), .imm (boD on), .imm (.bool t.1), .imm (laD t.2), .undef, .undef, .undef], by simp [bCons, bNil], ?_, by simp⟩
    · have z := zipD_map PyData.bool laD on b.la
      simp [boD, z]
    · have f0 : dIx (laD t.2) (.int 0) = some (.int (t.2.1 : Int)) := by simp [laD]
      have f1 : dIx (laD t.2) (.int 1) = some (.str (mk [t.2.2.1])) := by simp [laD]
      have hm : t.2 ∈ b.la := (List.of_mem_zip ht).2
      obtain ⟨e, g1, g2⟩ := getD_of (l := x) (i := t.2.1) (d := 0) (by have := h.la.2 _ hm; have := hx.1; omega)
      rw [g2]
      cases t.1 <;> simp [f0, f1, z3, g1]
  generalize ons b.la on x = o at *
  have eC2 : ∀ q : Int, c__law_card_cost_2 [.imm (brdD b), .imm (lstD s), .imm (.str (mk x)), .imm (prcD p), .imm (.int q), .imm (boD o), .undef, .undef, .undef, .undef, .undef] = .ok ((b.ad.filter fun a => holds a.w o x).map fun _ => .int 1) [.imm (brdD b), .imm (lstD s), .imm (.str (mk x)), .imm (prcD p), .imm (.int q), .imm (boD o), .undef, .undef, .undef, .undef, .undef] := fun q => by
    unfold c__law_card_cost_2
    refine dLc_gen addD (fun a => holds a.w o x) (fun _ => .int 1) (by simp) rfl (by have := h.ad.1; omega) fun a ha => ?_
    have hw := whenOk (card := x) (on := o) (h.ad.2 a ha).1 ol hx.1 h.wd
    have lh := law_holds_v a.w o (.str (mk x)) x hw
    have f0 : dIx (addD a) (.int 0) = some (whenD a.w) := by simp [addD]
    exact ⟨[.imm (brdD b), .imm (lstD s), .imm (.str (mk x)), .imm (prcD p), .imm (.int q), .imm (boD o), .undef, .undef, .imm (addD a), .undef, .undef], by simp, by simp [f0, lh], fun _ => by simp, by simp⟩
  have eC3 : ∀ q : Int, c__law_card_cost_3 [.imm (brdD b), .imm (lstD s), .imm (.str (mk x)), .imm (prcD p), .imm (.int q), .imm (boD o), .undef, .undef, .undef, .undef, .undef] = .ok ((b.ls.filter fun a => holds a.1 o x).map fun _ => .int 1) [.imm (brdD b), .imm (lstD s), .imm (.str (mk x)), .imm (prcD p), .imm (.int q), .imm (boD o), .undef, .undef, .undef, .undef, .undef] := fun q => by
    unfold c__law_card_cost_3
    refine dLc_gen lsD (fun a => holds a.1 o x) (fun _ => .int 1) (by simp) rfl (by have := h.ls.1; omega) fun a ha => ?_
    have hw := whenOk (card := x) (on := o) (h.ls.2 a ha).1 ol hx.1 h.wd
    have lh := law_holds_v a.1 o (.str (mk x)) x hw
    exact ⟨[.imm (brdD b), .imm (lstD s), .imm (.str (mk x)), .imm (prcD p), .imm (.int q), .imm (boD o), .undef, .undef, .undef, .imm (whenD a.1), .imm (itmsD a.2)], by simp [lsD, bCons, bNil], by simp [lh], fun _ => by simp, by simp⟩
  generalize (b.ad.filter fun a => holds a.w o x) = la at *
  generalize (b.ls.filter fun a => holds a.1 o x) = ll2 at *
  have c1 : CMul p.p1 (la.length : Int) := cmul_l (by have := hp.2.1; omega) (by have := hp.2.1; omega)
  have c2 : CMul p.p2 (ll2.length : Int) := cmul_l (by have := hp.2.2.1; omega) (by have := hp.2.2.1; omega)
  unfold d__law_card_cost
  refine exq (seq_next (ρ1 := [.imm (brdD b), .imm (lstD s), .imm (.str (mk x)), .imm (prcD p), .imm (.int q), .imm (boD on), .undef, .undef, .undef, .undef, .undef]) (by simp [br, bCons, bNil])) ?_
  refine exq (seq_next (ρ1 := [.imm (brdD b), .imm (lstD s), .imm (.str (mk x)), .imm (prcD p), .imm (.int q), .imm (boD o), .undef, .undef, .undef, .undef, .undef]) (by simp [eC1]; rfl)) ?_
  refine exq (seq_next (ρ1 := [.imm (brdD b), .imm (lstD s), .imm (.str (mk x)), .imm (prcD p), .imm (.int (q + p.p0 + p.p1 * (la.length : Int))), .imm (boD o), .undef, .undef, .undef, .undef, .undef]) (by simp [eC2, c1])) ?_
  refine exq (seq_next (ρ1 := [.imm (brdD b), .imm (lstD s), .imm (.str (mk x)), .imm (prcD p), .imm (.int (q + p.p0 + p.p1 * (la.length : Int) + p.p2 * (ll2.length : Int))), .imm (boD o), .undef, .undef, .undef, .undef, .undef]) (by simp [eC3, c2])) ?_
  have fin : p.p0 + (q + p.p1 * (la.length : Int) + p.p2 * (ll2.length : Int)) = q + p.p0 + p.p1 * (la.length : Int) + p.p2 * (ll2.length : Int) := by omega
  rw [fin]
  simp [lstD, kyD]
theorem end_cost_v (b : Brd) (h : RB b) (p : Prc) (s : Lst) (hs : okL b s) (ρ : Rho) :
    callD 5 d__law_end_cost none [brdD b, lstD s, prcD p] ρ = .ok (.v (.int (evsP b p (endEvs b (kap b s))))) ρ := by
  refine call_v ?_ ρ
  have br := breaks_v b h p s hs none (fun y e => by cases e)
  have e1 : endEvs b (kap b s) = endEvs b (kap b s) ∧ evsP b p (endEvs b (kap b s)) = (lbr b p s none).1 + dSumC p (lbr b p s none).2 (b.to.getD b.lv.length []) ∧ (lbr b p s none).2.length = b.la.length := by
    refine ⟨rfl, ?_, ?_⟩
    · rw [← dEvs_P]
      obtain ⟨l, on⟩ := s
      cases l with
      | none => simp only [endEvs, kap, lbr, Option.map_none, evsP_app]; simp [evsP]
      | some l => simp only [endEvs, kap, lbr, Option.map_some, evsP_app]
    · obtain ⟨l, on⟩ := s
      cases l with
      | none => exact hs.2
      | some l => exact (goD_len h (List.range b.lv.length) ([], on) (fun m hm => by rw [List.mem_range] at hm; omega) hs.2).1
  obtain ⟨_, e1, ll⟩ := e1
  rw [e1]
  generalize lbr b p s none = r at *
  obtain ⟨q, on⟩ := r
  simp only at *
  obtain ⟨ds, g1, g2⟩ : ∃ ds, b.to[b.lv.length]? = some ds ∧ b.to.getD b.lv.length [] = ds := getD_of (by have := h.to.1; omega)
  rw [g2]
  have dc := deeds_cost_v b p on ll ds (h.to.2 ds (List.mem_of_getElem? g1)).2
  have hlv : dLen (lvD b.lv) = some (.int (b.lv.length : Int)) := by simp [lvD]
  have kx : kyD none = .none := rfl
  rw [kx] at br
  unfold d__law_end_cost
  refine exq (seq_next (ρ1 := [.imm (brdD b), .imm (lstD s), .imm (prcD p), .imm (.int q), .imm (boD on)]) (by simp [br, bCons, bNil])) ?_
  simp [hlv, g1, dc]
def runL (b : Brd) (p : Prc) (s : Lst × List Int) (x : List Nat) : Lst × List Int := ((some x, (evs b (kap b s.1) x).2.2), s.2 ++ [p.p0 + evsP b p (evs b (kap b s.1) x).1])
theorem runL_1 (b : Brd) (p : Prc) : ∀ (c : List (List Nat)) (s : Lst × List Int), c.foldl (run1 b p) (kap b s.1, s.2) = (kap b (c.foldl (runL b p) s).1, (c.foldl (runL b p) s).2)
  | [], _ => rfl
  | x :: c, s => by
    rw [List.foldl_cons, List.foldl_cons, ← runL_1 b p c]
    rfl
theorem okL.st {b : Brd} (h : RB b) {s : Lst} (hs : okL b s) : okSt b (kap b s) := by
  refine ⟨?_, hs.2⟩
  obtain ⟨l, on⟩ := s
  cases l with
  | none => trivial
  | some l => exact kof_len h l
theorem runL_ok {b : Brd} (h : RB b) (p : Prc) : ∀ (c : List (List Nat)) (s : Lst × List Int), (∀ x ∈ c, x.length = b.wd) → okL b s.1 → okL b (c.foldl (runL b p) s).1 ∧ (c.foldl (runL b p) s).2.length = s.2.length + c.length
  | [], s, _, hs => ⟨hs, by simp⟩
  | x :: c, s, hc, hs => by
    have := runL_ok h p c (runL b p s x) (fun y hy => hc y (List.mem_cons_of_mem _ hy)) ⟨hc x (List.mem_cons_self ..), (evs_ok h (hs.st h) x).1.2⟩
    refine ⟨this.1, ?_⟩
    rw [List.foldl_cons, this.2]
    simp [runL]; omega
theorem law_costs_v (b : Brd) (h : RB b) (p : Prc) (hp : okP p) (c : List (List Nat)) (hc : okD b.wd c) (hl : c.length ≤ 1000) (ρ : Rho) : callD 7 d__law_costs none [brdD b, dkD c, prcD p] ρ = .ok (.v (.tuple ((costs b p c).map .int))) ρ := by
  refine call_v ?_ ρ
  have hc' : ∀ x ∈ c, x.length = b.wd := fun x hx => (hc x hx).1
  have f0 : okL b (none, List.replicate b.la.length false) := ⟨trivial, by simp⟩
  let enc : Lst × List Int → Rho := fun s => [.imm (brdD b), .imm (dkD c), .imm (prcD p), .imm (lstD s.1), .own (s.2.map .int), .undef, .undef]
  have L := dLoop_foldp (bind := bName 5) (body := b__law_costs_1) (fun x : List Nat => .str (mk x)) enc (runL b p) ((none, List.replicate b.la.length false), []) c fun pre x post hpl => by
    have hx : x ∈ c := by rw [hpl]; simp
    obtain ⟨ok1, len1⟩ := runL_ok h p pre ((none, List.replicate b.la.length false), []) (fun y hy => hc' y (by rw [hpl]; simp [hy])) f0
    have hpre : pre.length ≤ 1000 := by have := congrArg List.length hpl; simp at this; omega
    generalize pre.foldl (runL b p) ((none, List.replicate b.la.length false), []) = s at ok1 len1
    obtain ⟨st, acc⟩ := s
    simp only at ok1
    have cc := card_cost_v b h p hp st ok1 x (hc x hx)
    have z : acc.length < 16777216 := by simp at len1; omega
    refine ⟨[.imm (brdD b), .imm (dkD c), .imm (prcD p), .imm (lstD st), .own (acc.map .int), .imm (.str (mk x)), .undef], by simp [enc], ?_⟩
    simp only [runL, enc]
    generalize p.p0 + evsP b p (evs b (kap b st) x).1 = q at *
    generalize (evs b (kap b st) x).2.2 = o at *
    unfold b__law_costs_1
    refine (seq_next (ρ1 := [.imm (brdD b), .imm (dkD c), .imm (prcD p), .imm (lstD (some x, o)), .own (acc.map .int), .imm (.str (mk x)), .imm (.int q)]) (by simp [cc, bCons, bNil])).trans ?_
    refine (seq_next (dApp_v rfl (ρ1 := [.imm (brdD b), .imm (dkD c), .imm (prcD p), .imm (lstD (some x, o)), .own (acc.map .int), .imm (.str (mk x)), .imm (.int q)]) (d := .int q) (by simp) rfl (by simpa using z))).trans ?_
    simp
  obtain ⟨ok1, len1⟩ := runL_ok h p c ((none, List.replicate b.la.length false), []) hc' f0
  have r1 := runL_1 b p c ((none, List.replicate b.la.length false), [])
  have eF : f__law_costs_1 (enc ((none, List.replicate b.la.length false), [])) = .next (enc (c.foldl (runL b p) ((none, List.replicate b.la.length false), []))) := by
    unfold f__law_costs_1
    have : dSrc (dImm 1) (enc ((none, List.replicate b.la.length false), [])) = .ok (c.map fun x => .str (mk x)) (enc ((none, List.replicate b.la.length false), [])) := by simp [enc]
    rw [dFor_e, this]
    exact L
  have e0 : costs b p c = (c.foldl (runL b p) ((none, List.replicate b.la.length false), [])).2 ++ [evsP b p (endEvs b (kap b (c.foldl (runL b p) ((none, List.replicate b.la.length false), [])).1))] := by
    have e : c.foldl (run1 b p) (fst0 b, []) = _ := r1
    simp only [costs, e]
  rw [e0]
  generalize c.foldl (runL b p) ((none, List.replicate b.la.length false), []) = s at *
  obtain ⟨st, acc⟩ := s
  simp only at ok1 ⊢
  have ec := end_cost_v b h p st ok1
  have rf := law_first_v b h
  simp only [enc, List.map_nil] at eF
  have z : acc.length + 1 ≤ 16777216 := by simp at len1; omega
  generalize evsP b p (endEvs b (kap b st)) = q at *
  unfold d__law_costs
  refine exq (seq_next (ρ1 := [.imm (brdD b), .imm (dkD c), .imm (prcD p), .imm (lstD (none, List.replicate b.la.length false)), .own [], .undef, .undef]) (by simp [rf])) ?_
  refine exq (seq_next eF) ?_
  simp [ec, z]
/-! ### the law -/
theorem lprices {ds : List D} (h : Hd ds) : Drw 2 d__law_prices [] (fun p => .v (prcD p)) okP ds := by
  obtain ⟨xs, ds', xl, xp, h', e⟩ := dLc_draw (k := 0) (it := dRng1 (dC (.int 4))) (elt := dVal (dCallH 2 d__law_any 0 (dCons (dLst (dCons (dC (.int 0)) (dCons (dC (.int 1)) (dCons (dC (.int 5)) (dCons (dVal (dCallH 5 d__law_draw 0 (dCons (dC (.int 100)) (dNil)))) (dCons (dOp dPow (dC (.int 10)) (dC (.int 6))) (dNil))))))) (dNil)))) (g := PyData.int) (P := fun x => 0 ≤ x ∧ x ≤ 1000000) (r := [.undef]) (ds0 := ds) (ds1 := ds) (items := rgD 0 1 4) h
    (dRng1_v rfl (by decide) (by decide)) rfl (by simp [rgD]) fun dsx hx => by
      obtain ⟨v, ds1, l1, h1, e1, _⟩ := drw hx 100 (by decide) (by decide)
      obtain ⟨x, ds2, l2, h2, e2, _⟩ := dany h1 [.int 0, .int 1, .int 5, .int (v : Int), .int 1000000] (by simp) (by simp)
      obtain ⟨y, rfl, hy⟩ : ∃ y : Int, x = .int y ∧ 0 ≤ y ∧ y ≤ 1000000 := by
        simp only [List.mem_cons, List.not_mem_nil, or_false] at l2
        rcases l2 with rfl | rfl | rfl | rfl | rfl <;> exact ⟨_, rfl, by omega, by omega⟩
      exact ⟨y, ds2, hy, h2, fun d => by simp [e1, e2]⟩
  have e' : c__law_prices_1 [.io ds, .undef] = .ok (xs.map .int) [.io ds', .undef] := e
  have xl : xs.length = 4 := by rw [xl]; simp [rgD]
  match xs, xl with
  | [a, b, c, d], _ =>
    refine Drw.v (x := ⟨a, b, c, d⟩) (g := prcD) ⟨xp a (by simp), xp b (by simp), xp c (by simp), xp d (by simp)⟩ h' ?_
    simp [d__law_prices, e', prcD]
def wdx (x : Ex) : Option D := dWord 4 1 (PySem.Str.ofString "CardError") known cl__law_word x
theorem lam_e {T : List (Addr × Str)} (hT : T ≠ []) (db : Rho → R D) (ns : List Int) (r : List Slot) : dLamL__law_word T db (.scr ns T :: r) = (match db (.scr ns T :: r) with
    | .ok _ ρ1 => .ok (.str (mk [108, 101, 116])) ρ1
    | .err x ρ1 => lift (wdx x) ρ1
    | .bad => .bad) := by
  unfold dLamL__law_word dLam
  cases h : db (.scr ns T :: r) <;> simp [hT, wdx, h]
theorem wd_board : wdx ⟨mk [78, 111, 66, 111, 97, 114, 100], []⟩ = some (.str (mk [98, 111, 97, 114, 100])) := by
  have e1 : dCount (.list [.bool true, .bool false, .bool false]) (.bool true) = some (.int 1) := rfl
  have e2 : dIdx (.list [.bool true, .bool false, .bool false]) (.bool true) = some (.int 0) := rfl
  simp [wdx, dWord, cl__law_word, dCls, subC, lenOk, offO, offR, List.replicate, fCons, fNil, fIs, e1, e2]
theorem wd_deck : wdx ⟨mk [78, 111, 68, 101, 99, 107], []⟩ = some (.str (mk [100, 101, 99, 107])) := by
  have e1 : dCount (.list [.bool false, .bool true, .bool false]) (.bool true) = some (.int 1) := rfl
  have e2 : dIdx (.list [.bool false, .bool true, .bool false]) (.bool true) = some (.int 1) := rfl
  simp [wdx, dWord, cl__law_word, dCls, subC, lenOk, offO, offR, List.replicate, fCons, fNil, fIs, e1, e2]
theorem wd_prices : wdx ⟨mk [78, 111, 80, 114, 105, 99, 101, 115], []⟩ = some (.str (mk [112, 114, 105, 99, 101, 115])) := by
  have e1 : dCount (.list [.bool false, .bool false, .bool true]) (.bool true) = some (.int 1) := rfl
  have e2 : dIdx (.list [.bool false, .bool false, .bool true]) (.bool true) = some (.int 2) := rfl
  simp [wdx, dWord, cl__law_word, dCls, subC, lenOk, offO, offR, List.replicate, fCons, fNil, fIs, e1, e2]
def offPr (p : Prc) : List D := [.none, .tuple [.int p.p0, .int p.p1, .int p.p2], .list [.int p.p0, .int p.p1, .int p.p2, .int p.p3], .tuple [.int p.p0, .int p.p1, .int p.p2, .int p.p3, .int 0], .tuple [.int (-1), .int p.p1, .int p.p2, .int p.p3], .tuple [.bool true, .int p.p1, .int p.p2, .int p.p3], .int 0]
theorem off_no (p : Prc) : ∀ x ∈ offPr p, priB x = false := by
  intro x hx
  simp only [offPr, List.mem_cons, List.not_mem_nil, or_false] at hx
  rcases hx with rfl | rfl | rfl | rfl | rfl | rfl | rfl <;> simp [priB, withinB]
def lostD (b : Brd) : List D := [.none, .tuple ((brdL b).take 6), .list (brdL b), .tuple (.int 9 :: (brdL b).drop 1)]
theorem lost_no (b : Brd) : ∀ x ∈ lostD b, noB x := by
  intro x hx
  simp only [lostD, List.mem_cons, List.not_mem_nil, or_false] at hx
  rcases hx with rfl | rfl | rfl | rfl
  · exact .inl rfl
  · exact .inl (by simp [brdL])
  · exact .inl rfl
  · exact .inr ⟨_, _, rfl, by simp⟩
def wrongD (c : List (List Nat)) : List D := [.none, .list (dkL c), .tuple (dkL c ++ [.str (mk [49])]), .tuple (dkL c ++ [.int 12]), .str (mk [49, 50])]
theorem wrong_no {b : Brd} (hw : 2 ≤ b.wd ∧ b.wd ≤ 8) {c : List (List Nat)} (hc : okD b.wd c) : ∀ x ∈ wrongD c, (∀ ds, x = .tuple ds → ∀ y ∈ ds, SmD y) ∧ deckW (b.wd : Int) x = false := by
  have sm := hc.sm (by omega) _ rfl
  intro x hx
  simp only [wrongD, List.mem_cons, List.not_mem_nil, or_false] at hx
  rcases hx with rfl | rfl | rfl | rfl | rfl
  · exact ⟨fun ds e => (nomatch e), rfl⟩
  · exact ⟨fun ds e => (nomatch e), rfl⟩
  · refine ⟨fun ds e y hy => ?_, ?_⟩
    · cases e
      rcases List.mem_append.mp hy with hy | hy
      · exact sm y hy
      · rw [List.mem_singleton.mp hy]; exact SmD.mk (by simp)
    · have : ¬ ((1 : Int) = (b.wd : Int)) := by omega
      simp [deckW, cardW, this]
  · refine ⟨fun ds e y hy => ?_, ?_⟩
    · cases e
      rcases List.mem_append.mp hy with hy | hy
      · exact sm y hy
      · rw [List.mem_singleton.mp hy]; intro s e; cases e
    · simp [deckW, cardW]
  · exact ⟨fun ds e => (nomatch e), rfl⟩
theorem law_b {ns : List Int} {T : List (Addr × Str)} (hT : T ≠ []) {ds : List D} (h : Hd ds) (d : D) :
    ∃ ds', Hd ds' ∧ b_law_1 T [.scr ns T, .own ds, .imm d, .undef, .undef, .undef, .undef, .undef, .undef, .undef, .undef, .undef, .undef] = .next [.scr ns T, .own ds', .undef, .undef, .undef, .undef, .undef, .undef, .undef, .undef, .undef, .undef, .undef] := by
  obtain ⟨b, ds1, db, h1, _, e1⟩ := lboard h 3 (by omega) (by omega)
  obtain ⟨sm, ok⟩ := db.good (by omega)
  have rb : RB b := RB.of db.lv (by rcases db.wd with e | e <;> omega) ok
  obtain ⟨p, ds2, hp, h2, _, e2⟩ := lprices h1
  obtain ⟨c, ds3, ⟨hc, cl⟩, h3, _, e3⟩ := ldeck h2 b.wd 8 (by rcases db.wd with e | e <;> omega) (by rcases db.wd with e | e <;> omega) (by omega)
  obtain ⟨off, ds4, m4, h4, _, e4⟩ := dany h3 (offPr p) (by simp [offPr]) (by simp [offPr])
  obtain ⟨more, ds5, m5, h5, _, e5⟩ := dany h4 [off, .tuple [.int p.p0, .int p.p1, .int p.p2, .int 1000001]] (by simp) (by simp)
  obtain ⟨lost, ds6, m6, h6, _, e6⟩ := dany h5 (lostD b) (by simp [lostD]) (by simp [lostD])
  obtain ⟨wrong, ds7, m7, h7, _, e7⟩ := dany h6 (wrongD c) (by simp [wrongD]) (by simp [wrongD])
  have o1 := off_no p off m4
  have o2 : priB more = false := by
    simp only [List.mem_cons, List.not_mem_nil, or_false] at m5
    rcases m5 with rfl | rfl
    · exact o1
    · simp [priB, withinB]
  have o3 := lost_no b lost m6
  obtain ⟨o4, o5⟩ := wrong_no (b := b) (by rcases db.wd with e | e <;> omega) hc wrong m7
  have lc := law_costs_v b rb p hp c hc (by omega)
  have c1 := costs_of_v b rb sm ok p hp c hc (by omega)
  have c2 := cost_of_v b rb sm ok p hp c hc (by omega)
  have bc := by_counts_v b rb sm ok p hp c hc (by omega)
  rw [byC_eq rb] at bc
  have ne1 : dNe (.tuple ((costs b p c).map .int)) (.tuple ((costs b p c).map .int)) = some (.bool false) := dNe_same (n := 1) (ly_tm fun x _ => ly_i x)
  generalize costs b p c = cs at *
  have w1 : ∀ ρ, callD 3 d_costs_of none [lost, .none, .none] ρ = .err ⟨mk [78, 111, 66, 111, 97, 114, 100], []⟩ ρ := fun ρ => by
    refine call_err ?_ ρ
    simp [d_costs_of, check_run_nob lost o3]
  have w2 : ∀ ρ, callD 3 d_cost_of none [brdD b, wrong, .none] ρ = .err ⟨mk [78, 111, 68, 101, 99, 107], []⟩ ρ := fun ρ => by
    refine call_err ?_ ρ
    simp [d_cost_of, check_run_nod b sm ok wrong o4 o5]
  have w3 : ∀ ρ, callD 3 d_costs_of none [brdD b, dkD c, more] ρ = .err ⟨mk [78, 111, 80, 114, 105, 99, 101, 115], []⟩ ρ := fun ρ => by
    refine call_err ?_ ρ
    simp [d_costs_of, check_run_v b sm ok c hc (by omega), check_prices_no b sm ok more o2]
  have p1 := are_prices_v (prcD p)
  rw [hp.pri] at p1
  have p2 := are_prices_v off
  rw [o1] at p2
  have p3 := are_prices_v more
  rw [o2] at p3
  have ls : dNe (.list [.str (mk [98, 111, 97, 114, 100]), .str (mk [100, 101, 99, 107]), .str (mk [112, 114, 105, 99, 101, 115])]) (.list [.str (mk [98, 111, 97, 114, 100]), .str (mk [100, 101, 99, 107]), .str (mk [112, 114, 105, 99, 101, 115])]) = some (.bool false) := dNe_same (n := 1) (ly_l fun x hx => by
    simp only [List.mem_cons, List.not_mem_nil, or_false] at hx
    rcases hx with rfl | rfl | rfl <;> exact ly_s (by decide))
  have q1 : dCut (prcD p) none (some 3) = some (.tuple [.int p.p0, .int p.p1, .int p.p2]) := by simp [prcD]
  have q2 : dCut (prcD p) (some 1) none = some (.tuple [.int p.p1, .int p.p2, .int p.p3]) := by simp [prcD]
  have q3 : dListA (dImm 4) [.scr ns T, .own ds3, .imm d, .imm (brdD b), .imm (prcD p), .imm (dkD c), .imm (.tuple (cs.map .int)), .undef, .undef, .undef, .undef, .undef, .undef] = .ok [.int p.p0, .int p.p1, .int p.p2, .int p.p3] [.scr ns T, .own ds3, .imm d, .imm (brdD b), .imm (prcD p), .imm (dkD c), .imm (.tuple (cs.map .int)), .undef, .undef, .undef, .undef, .undef, .undef] := by simp [prcD]
  have q4 : dAdd (prcD p) (.tuple [.int 0]) = some (.tuple [.int p.p0, .int p.p1, .int p.p2, .int p.p3, .int 0]) := by simp [prcD]
  have r1 : dCut (brdD b) none (some 6) = some (.tuple ((brdL b).take 6)) := by simp [brdD]
  have r2 : dCut (brdD b) (some 1) none = some (.tuple ((brdL b).drop 1)) := by simp [brdD]
  have r3 : dAdd (.tuple [.int 9]) (.tuple ((brdL b).drop 1)) = some (.tuple (.int 9 :: (brdL b).drop 1)) := by simp [brdL]
  have t1 : dAdd (dkD c) (.tuple [.str (mk [49])]) = some (.tuple (dkL c ++ [.str (mk [49])])) := by simp [dkD, dkL]; omega
  have t2 : dAdd (dkD c) (.tuple [.int 12]) = some (.tuple (dkL c ++ [.int 12])) := by simp [dkD, dkL]; omega
  have e1' : ∀ (s : Slot) (r : List Slot), callD 11 d__law_board (some 1) [.int 3] (s :: .own ds :: r) = .ok (.v (brdD b)) (s :: .own ds1 :: r) := e1
  have e3' : ∀ (s : Slot) (r : List Slot), callD 8 d__law_deck (some 1) [.int (b.wd : Int), .int 8] (s :: .own ds2 :: r) = .ok (.v (dkD c)) (s :: .own ds3 :: r) := e3
  refine ⟨ds7, h7, ?_⟩
  unfold b_law_1
  refine (seq_next (ρ1 := [.scr ns T, .own ds2, .imm d, .imm (brdD b), .imm (prcD p), .undef, .undef, .undef, .undef, .undef, .undef, .undef, .undef]) (by simp [e1', e2, bCons, bNil])).trans ?_
  refine (seq_next (ρ1 := [.scr ns T, .own ds3, .imm d, .imm (brdD b), .imm (prcD p), .imm (dkD c), .undef, .undef, .undef, .undef, .undef, .undef, .undef]) (by simp [e3'])).trans ?_
  refine (seq_next (ρ1 := [.scr ns T, .own ds3, .imm d, .imm (brdD b), .imm (prcD p), .imm (dkD c), .imm (.tuple (cs.map .int)), .undef, .undef, .undef, .undef, .undef, .undef]) (by simp [lc])).trans ?_
  refine (seq_next (ρ1 := [.scr ns T, .own ds3, .imm d, .imm (brdD b), .imm (prcD p), .imm (dkD c), .imm (.tuple (cs.map .int)), .undef, .undef, .undef, .undef, .undef, .undef]) (by simp [c1, c2, ne1])).trans ?_
  refine (seq_next (ρ1 := [.scr ns T, .own ds3, .imm d, .imm (brdD b), .imm (prcD p), .imm (dkD c), .imm (.tuple (cs.map .int)), .undef, .undef, .undef, .undef, .undef, .undef]) (by simp [bc, p1])).trans ?_
  refine (seq_next (ρ1 := [.scr ns T, .own ds3, .imm d, .imm (brdD b), .imm (prcD p), .imm (dkD c), .imm (.tuple (cs.map .int)), .imm (.list (offPr p)), .undef, .undef, .undef, .undef, .undef]) (by simp [q1, q2, q4, prcD, offPr])).trans ?_
  refine (seq_next (ρ1 := [.scr ns T, .own ds4, .imm d, .imm (brdD b), .imm (prcD p), .imm (dkD c), .imm (.tuple (cs.map .int)), .imm (.list (offPr p)), .imm off, .undef, .undef, .undef, .undef]) (by simp [e4])).trans ?_
  refine (seq_next (ρ1 := [.scr ns T, .own ds5, .imm d, .imm (brdD b), .imm (prcD p), .imm (dkD c), .imm (.tuple (cs.map .int)), .imm (.list (offPr p)), .imm off, .imm more, .undef, .undef, .undef]) (by simp [q1, e5])).trans ?_
  refine (seq_next (ρ1 := [.scr ns T, .own ds5, .imm d, .imm (brdD b), .imm (prcD p), .imm (dkD c), .imm (.tuple (cs.map .int)), .imm (.list (offPr p)), .imm off, .imm more, .undef, .undef, .undef]) (by simp [p2, p3])).trans ?_
  have e6' := e6 (.scr ns T) [.imm d, .imm (brdD b), .imm (prcD p), .imm (dkD c), .imm (.tuple (cs.map .int)), .imm (.list (offPr p)), .imm off, .imm more, .undef, .undef, .undef]
  have e7' := e7 (.scr ns T) [.imm d, .imm (brdD b), .imm (prcD p), .imm (dkD c), .imm (.tuple (cs.map .int)), .imm (.list (offPr p)), .imm off, .imm more, .imm lost, .undef, .undef]
  have bD : brdD b = .tuple (brdL b) := rfl
  have kD : dkD c = .tuple (dkL c) := rfl
  refine (seq_next (ρ1 := [.scr ns T, .own ds6, .imm d, .imm (brdD b), .imm (prcD p), .imm (dkD c), .imm (.tuple (cs.map .int)), .imm (.list (offPr p)), .imm off, .imm more, .imm lost, .undef, .undef]) (by
    simp only [lostD] at e6'
    rw [bD] at e6' r1 r2 ⊢
    generalize (brdL b).take 6 = bt at e6' r1
    generalize (brdL b).drop 1 = bd at e6' r2 r3
    simp [-dCut_t, -dAdd_tt, r1, r2, r3, e6'])).trans ?_
  refine (seq_next (ρ1 := [.scr ns T, .own ds7, .imm d, .imm (brdD b), .imm (prcD p), .imm (dkD c), .imm (.tuple (cs.map .int)), .imm (.list (offPr p)), .imm off, .imm more, .imm lost, .imm wrong, .undef]) (by
    simp only [wrongD] at e7'
    rw [kD] at e7' t1 t2 ⊢
    simp [-dAdd_tt, t1, t2, e7'])).trans ?_
  refine (seq_next (ρ1 := [.scr ns T, .own ds7, .imm d, .imm (brdD b), .imm (prcD p), .imm (dkD c), .imm (.tuple (cs.map .int)), .imm (.list (offPr p)), .imm off, .imm more, .imm lost, .imm wrong, .own [.str (mk [98, 111, 97, 114, 100])]]) (by simp [lam_e hT, w1, wd_board])).trans ?_
  refine (seq_next (ρ1 := [.scr ns T, .own ds7, .imm d, .imm (brdD b), .imm (prcD p), .imm (dkD c), .imm (.tuple (cs.map .int)), .imm (.list (offPr p)), .imm off, .imm more, .imm lost, .imm wrong, .own [.str (mk [98, 111, 97, 114, 100]), .str (mk [100, 101, 99, 107])]]) (by simp [lam_e hT, w2, wd_deck])).trans ?_
  refine (seq_next (ρ1 := [.scr ns T, .own ds7, .imm d, .imm (brdD b), .imm (prcD p), .imm (dkD c), .imm (.tuple (cs.map .int)), .imm (.list (offPr p)), .imm off, .imm more, .imm lost, .imm wrong, .own [.str (mk [98, 111, 97, 114, 100]), .str (mk [100, 101, 99, 107]), .str (mk [112, 114, 105, 99, 101, 115])]]) (by simp [lam_e hT, w3, wd_prices])).trans ?_
  refine (seq_next (ρ1 := [.scr ns T, .own ds7, .imm d, .imm (brdD b), .imm (prcD p), .imm (dkD c), .imm (.tuple (cs.map .int)), .imm (.list (offPr p)), .imm off, .imm more, .imm lost, .imm wrong, .own [.str (mk [98, 111, 97, 114, 100]), .str (mk [100, 101, 99, 107]), .str (mk [112, 114, 105, 99, 101, 115])]]) (by simp [ls])).trans ?_
  simp
theorem plain (ns : List Int) (T : List (Addr × Str)) (hl : ns.length ≤ 63) (hz : ∀ z ∈ ns, PySem.Builtin.Int.intBits z ≤ 1048576) (hT : T ≠ []) : ∃ ρ1, d_law T (.scr ns T :: List.replicate (13 - 1) .undef) = .ret (.bool true) ρ1 := by
  obtain ⟨ds, ρh, eh, hd⟩ := hand_start ns hl
  obtain ⟨ρ', h1, ds', hd', h2⟩ := dLoop_inv (bind := bName 2) (body := b_law_1 T) (fun _ ρ => ∃ ds, Hd ds ∧ ρ = [.scr ns T, .own ds, .undef, .undef, .undef, .undef, .undef, .undef, .undef, .undef, .undef, .undef, .undef]) (rgD 0 1 6) 0 [.scr ns T, .own ds, .undef, .undef, .undef, .undef, .undef, .undef, .undef, .undef, .undef, .undef, .undef] ⟨ds, hd, rfl⟩ (by
    intro i d ρ hi hp
    obtain ⟨ds, hd, rfl⟩ := hp
    obtain ⟨ds2, h3, h4⟩ := law_b hT hd d
    exact ⟨_, _, by simp, h4, ds2, h3, rfl⟩)
  subst h2
  have hf : f_law_1 T [.scr ns T, .own ds, .undef, .undef, .undef, .undef, .undef, .undef, .undef, .undef, .undef, .undef, .undef] = .next [.scr ns T, .own ds', .undef, .undef, .undef, .undef, .undef, .undef, .undef, .undef, .undef, .undef, .undef] := by
    have er : dRng1 (dC (.int 6)) [.scr ns T, .own ds, .undef, .undef, .undef, .undef, .undef, .undef, .undef, .undef, .undef, .undef, .undef] = .ok (rgD 0 1 6) [.scr ns T, .own ds, .undef, .undef, .undef, .undef, .undef, .undef, .undef, .undef, .undef, .undef, .undef] := dRng1_v rfl (by decide) (by decide)
    unfold f_law_1
    simp only [dFor_e, er, out_ok]
    exact h1
  simp [d_law, dCallS, List.replicate, eh, endsC, backH, hf]
end Pf

open PySem PySem.W PySem.Calls PyProof.Rows
theorem PySem.Challenge.cw_cardroom_k86_whole_costs_of_runs_holds : PySem.Challenge.rw_cardroom_k86_whole_costs_of_runs.Holds := by
  w_on; o_law
  refine HandSHeadRun.head_any (r := OpenLaw.row PySem.Challenge.rw_cardroom_k86_whole_costs_of_runs) (q := view (OpenLaw.row PySem.Challenge.rw_cardroom_k86_whole_costs_of_runs).prog [116]) (H := Pf.hk) (ob := Pf.ob) (M := 6000) (loose := Pf.loose) (d := HandSHeadRun.topDef (OpenLaw.row PySem.Challenge.rw_cardroom_k86_whole_costs_of_runs).prog 116) (kwd := []) Pf.ob_eq
    (by kernel_rfl) (fun s => by kernel_rfl) Pf.run (by kernel_rfl) (by kernel_rfl) (by kernel_rfl) (by rfl) (by first | assumption | decide +kernel) (by decide +kernel) ⟨rfl, rfl, rfl, rfl, rfl, by decide +kernel⟩ ?hw ?hc
  case hw => w_witness2
  case hc =>
    refine LamX.walk_ofTsE (l := PySem.Challenge.rw_cardroom_k86_whole_costs_of_runs) (n := 63) (k := 14 + 1) (x := PySem.Str.ofString "script") (CX := fun w => L2.CX PySem.Challenge.rw_cardroom_k86_whole_costs_of_runs.prog w) rfl (by decide) (by kernel_rfl) ⟨rfl, by decide, by decide⟩ ?F (fun w H s e s1 hx => by
      obtain ⟨_, _, _, _, _, _, _, _, _, _, _, _, z⟩ := hx
      exact z)
    intro w mg fa0 h Y G hmg0
    obtain ⟨K, KX, c⟩ := Y
    have hmg : mg (PySem.Str.ofString "law") = some (.ref fa0) := by
      have e : (HandSHeadRun.topDef (OpenLaw.row PySem.Challenge.rw_cardroom_k86_whole_costs_of_runs).prog 116).name = PySem.Str.ofString "law" := by kernel_rfl
      rw [← e]
      exact hmg0
    have e := hmg.symm.trans (He.glo_ok KX G (c.t.d.fact 129 (f := .glo (PySem.Str.ofString "law")) rfl))
    cases e
    exact ⟨K, KX, Pf.facts_law KX G c Pf.plain⟩

