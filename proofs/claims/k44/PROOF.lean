import PyProof.Rows.All
import Wide.All
import OpenK.AllK
import Wide.FinOn
import KE.KStateDown
import HandS.ForMost
import HandS.ForExc
import HandS.Defaults
import HandS.Flow
import HandS.Style
import HandS.Conv
import HandS.SortInts
import HandS.ExcField
import HandS.TryMany
import HandS.Zip
import HandS.Walk
import KE.KExcMore
import HandS.Head0
import HandS.Head1
import HandS.Head2
import HandS.HeadEnd
import HandS.HeadHook1
import HandS.HeadHook2
import PySem.Challenge.RW_stillheap_k44_whole_copied_heaps
set_option Elab.async false
set_option linter.all false
set_option maxHeartbeats 4000000
set_option maxRecDepth 100000
/-! The text by places, the head and its facts. -/
namespace SH
open PySem PySem.Spec PyProof.Rows L2
def top (i : Nat) : Stmt := PySem.Challenge.pw_stillheap_k44_whole_copied_heaps.main.body.getD i (.Pass ⟨0, 0, 0, 0⟩)
abbrev sf_lay : Stmt := top 14
abbrev sf_is_word : Stmt := top 15
abbrev sf_head_at : Stmt := top 16
abbrev sf_thing_at : Stmt := top 17
abbrev sf_resolved : Stmt := top 18
abbrev sf_address_in_word : Stmt := top 20
abbrev sf_met_from : Stmt := top 21
abbrev sf_words_in_copying : Stmt := top 22
abbrev sf_translated : Stmt := top 24
abbrev sf_copied : Stmt := top 25
abbrev sf_number_value : Stmt := top 34
abbrev sf_thing_value : Stmt := top 35
abbrev sf_kind_of : Stmt := top 36
abbrev sf_words_of : Stmt := top 37
abbrev sf_look_at_hand : Stmt := top 38
abbrev sf_look_at_name : Stmt := top 39
abbrev sf_look_at_limits : Stmt := top 40
abbrev sf_thing_of : Stmt := top 44
abbrev sf_things_of : Stmt := top 45
abbrev sf_led_within : Stmt := top 46
abbrev sf_young_things : Stmt := top 47
abbrev sf_words_in_ideal : Stmt := top 48
abbrev sf_young_kept : Stmt := top 50
abbrev sf_is_book : Stmt := top 55
abbrev sf_unlike_hand : Stmt := top 58
abbrev sf_unlike_name : Stmt := top 59
abbrev sf_first_unlike : Stmt := top 60
abbrev sf_is_picture : Stmt := top 61
abbrev sf__law_cell : Stmt := top 63
abbrev sf__law_numbers : Stmt := top 64
abbrev sf__law_deed : Stmt := top 65
abbrev sf__law_plain : Stmt := top 66
abbrev sf__law_done : Stmt := top 67
abbrev sf__law_word_of : Stmt := top 68
abbrev sf__law_laid : Stmt := top 69
abbrev sf__law_names : Stmt := top 70
abbrev sf_law : Stmt := top 71
abbrev sm_BadField_called : Stmt := inClass (top 5) 0
abbrev sm_BadHand_called : Stmt := inClass (top 6) 0
abbrev sm_NoRoom_called : Stmt := inClass (top 9) 0
abbrev sm_TooManyWords_called : Stmt := inClass (top 12) 0
abbrev sm_IdealThing_init : Stmt := inClass (top 43) 0
abbrev sm_IdealHeap_init : Stmt := inClass (top 51) 0
abbrev sm_IdealHeap_thing_in : Stmt := inClass (top 51) 1
abbrev sm_IdealHeap_field_due : Stmt := inClass (top 51) 2
abbrev sm_IdealHeap_make : Stmt := inClass (top 51) 3
abbrev sm_IdealHeap_load : Stmt := inClass (top 51) 4
abbrev sm_IdealHeap_store : Stmt := inClass (top 51) 5
abbrev sm_IdealHeap_copy : Stmt := inClass (top 51) 6
abbrev sm_IdealHeap_drop : Stmt := inClass (top 51) 7
abbrev sm_IdealHeap_number : Stmt := inClass (top 51) 8
abbrev sm_IdealHeap_name : Stmt := inClass (top 51) 9
abbrev sm_IdealHeap_read : Stmt := inClass (top 51) 10
abbrev sm_IdealHeap_give_back : Stmt := inClass (top 51) 11
abbrev sm_IdealHeap_word : Stmt := inClass (top 51) 12
abbrev sm_IdealHeap_held : Stmt := inClass (top 51) 18
abbrev sm_IdealHeap_settle : Stmt := inClass (top 51) 19
abbrev sm_IdealHeap_small : Stmt := inClass (top 51) 20
abbrev sm_IdealHeap_begin : Stmt := inClass (top 51) 21
abbrev sm_IdealHeap_end : Stmt := inClass (top 51) 22
abbrev sm_IdealHeap_round_on : Stmt := inClass (top 51) 23
abbrev sm_IdealHeap_hands : Stmt := inClass (top 51) 24
abbrev sm_IdealHeap_names : Stmt := inClass (top 51) 25
abbrev sm_IdealHeap_things : Stmt := inClass (top 51) 26
abbrev sm_IdealHeap_thing_due : Stmt := inClass (top 51) 27
abbrev sm_IdealHeap_fields_of : Stmt := inClass (top 51) 28
abbrev sm_Memory_init : Stmt := inClass (top 53) 0
abbrev sm_Memory_size : Stmt := inClass (top 53) 1
abbrev sm_Memory_look_at : Stmt := inClass (top 53) 2
abbrev sm_Memory_at : Stmt := inClass (top 53) 3
abbrev sm_Memory_put : Stmt := inClass (top 53) 4
abbrev sm_Picture_init : Stmt := inClass (top 57) 0
abbrev sm_Picture_goal : Stmt := inClass (top 57) 1
abbrev sm_Picture_shows : Stmt := inClass (top 57) 2
abbrev sm_Picture_unlike_address : Stmt := inClass (top 57) 3
abbrev sm_Picture_unlike_head : Stmt := inClass (top 57) 4
abbrev sm_Picture_unlike_field : Stmt := inClass (top 57) 5
def df_lay : He.DefD := ⟨("lay", none), "lay", "lay", defArgs sf_lay, defBody sf_lay, defScope sf_lay, [], []⟩
def df_is_word : He.DefD := ⟨("is_word", none), "is_word", "is_word", defArgs sf_is_word, defBody sf_is_word, defScope sf_is_word, [], []⟩
def df_head_at : He.DefD := ⟨("head_at", none), "head_at", "head_at", defArgs sf_head_at, defBody sf_head_at, defScope sf_head_at, [], []⟩
def df_thing_at : He.DefD := ⟨("thing_at", none), "thing_at", "thing_at", defArgs sf_thing_at, defBody sf_thing_at, defScope sf_thing_at, [], []⟩
def df_resolved : He.DefD := ⟨("resolved", none), "resolved", "resolved", defArgs sf_resolved, defBody sf_resolved, defScope sf_resolved, [], []⟩
def df_address_in_word : He.DefD := ⟨("address_in_word", none), "address_in_word", "address_in_word", defArgs sf_address_in_word, defBody sf_address_in_word, defScope sf_address_in_word, [], []⟩
def df_met_from : He.DefD := ⟨("met_from", none), "met_from", "met_from", defArgs sf_met_from, defBody sf_met_from, defScope sf_met_from, [], []⟩
def df_words_in_copying : He.DefD := ⟨("words_in_copying", none), "words_in", "words_in", defArgs sf_words_in_copying, defBody sf_words_in_copying, defScope sf_words_in_copying, [], []⟩
def df_translated : He.DefD := ⟨("translated", none), "translated", "translated", defArgs sf_translated, defBody sf_translated, defScope sf_translated, [], []⟩
def df_copied : He.DefD := ⟨("copied", none), "copied", "copied", defArgs sf_copied, defBody sf_copied, defScope sf_copied, [], []⟩
def df_number_value : He.DefD := ⟨("number_value", none), "number_value", "number_value", defArgs sf_number_value, defBody sf_number_value, defScope sf_number_value, [], []⟩
def df_thing_value : He.DefD := ⟨("thing_value", none), "thing_value", "thing_value", defArgs sf_thing_value, defBody sf_thing_value, defScope sf_thing_value, [], []⟩
def df_kind_of : He.DefD := ⟨("kind_of", none), "kind_of", "kind_of", defArgs sf_kind_of, defBody sf_kind_of, defScope sf_kind_of, [], []⟩
def df_words_of : He.DefD := ⟨("words_of", none), "words_of", "words_of", defArgs sf_words_of, defBody sf_words_of, defScope sf_words_of, [], []⟩
def df_look_at_hand : He.DefD := ⟨("look_at_hand", none), "look_at_hand", "look_at_hand", defArgs sf_look_at_hand, defBody sf_look_at_hand, defScope sf_look_at_hand, [], []⟩
def df_look_at_name : He.DefD := ⟨("look_at_name", none), "look_at_name", "look_at_name", defArgs sf_look_at_name, defBody sf_look_at_name, defScope sf_look_at_name, [], []⟩
def df_look_at_limits : He.DefD := ⟨("look_at_limits", none), "look_at_limits", "look_at_limits", defArgs sf_look_at_limits, defBody sf_look_at_limits, defScope sf_look_at_limits, [], []⟩
def df_thing_of : He.DefD := ⟨("thing_of", none), "thing_of", "thing_of", defArgs sf_thing_of, defBody sf_thing_of, defScope sf_thing_of, [], []⟩
def df_things_of : He.DefD := ⟨("things_of", none), "things_of", "things_of", defArgs sf_things_of, defBody sf_things_of, defScope sf_things_of, [], []⟩
def df_led_within : He.DefD := ⟨("led_within", none), "led_within", "led_within", defArgs sf_led_within, defBody sf_led_within, defScope sf_led_within, [], []⟩
def df_young_things : He.DefD := ⟨("young_things", none), "young_things", "young_things", defArgs sf_young_things, defBody sf_young_things, defScope sf_young_things, [], []⟩
def df_words_in_ideal : He.DefD := ⟨("words_in_ideal", none), "words_in", "words_in", defArgs sf_words_in_ideal, defBody sf_words_in_ideal, defScope sf_words_in_ideal, [], []⟩
def df_young_kept : He.DefD := ⟨("young_kept", none), "young_kept", "young_kept", defArgs sf_young_kept, defBody sf_young_kept, defScope sf_young_kept, [], []⟩
def df_is_book : He.DefD := ⟨("is_book", none), "is_book", "is_book", defArgs sf_is_book, defBody sf_is_book, defScope sf_is_book, [], []⟩
def df_unlike_hand : He.DefD := ⟨("unlike_hand", none), "unlike_hand", "unlike_hand", defArgs sf_unlike_hand, defBody sf_unlike_hand, defScope sf_unlike_hand, [], []⟩
def df_unlike_name : He.DefD := ⟨("unlike_name", none), "unlike_name", "unlike_name", defArgs sf_unlike_name, defBody sf_unlike_name, defScope sf_unlike_name, [], []⟩
def df_first_unlike : He.DefD := ⟨("first_unlike", none), "first_unlike", "first_unlike", defArgs sf_first_unlike, defBody sf_first_unlike, defScope sf_first_unlike, [], []⟩
def df_is_picture : He.DefD := ⟨("is_picture", none), "is_picture", "is_picture", defArgs sf_is_picture, defBody sf_is_picture, defScope sf_is_picture, [], []⟩
def df__law_cell : He.DefD := ⟨("_law_cell", none), "_law_cell", "_law_cell", defArgs sf__law_cell, defBody sf__law_cell, defScope sf__law_cell, [], []⟩
def df__law_numbers : He.DefD := ⟨("_law_numbers", none), "_law_numbers", "_law_numbers", defArgs sf__law_numbers, defBody sf__law_numbers, defScope sf__law_numbers, [], []⟩
def df__law_deed : He.DefD := ⟨("_law_deed", none), "_law_deed", "_law_deed", defArgs sf__law_deed, defBody sf__law_deed, defScope sf__law_deed, [], []⟩
def df__law_plain : He.DefD := ⟨("_law_plain", none), "_law_plain", "_law_plain", defArgs sf__law_plain, defBody sf__law_plain, defScope sf__law_plain, [], []⟩
def df__law_done : He.DefD := ⟨("_law_done", none), "_law_done", "_law_done", defArgs sf__law_done, defBody sf__law_done, defScope sf__law_done, [], []⟩
def df__law_word_of : He.DefD := ⟨("_law_word_of", none), "_law_word_of", "_law_word_of", defArgs sf__law_word_of, defBody sf__law_word_of, defScope sf__law_word_of, [], []⟩
def df__law_laid : He.DefD := ⟨("_law_laid", none), "_law_laid", "_law_laid", defArgs sf__law_laid, defBody sf__law_laid, defScope sf__law_laid, [], []⟩
def df__law_names : He.DefD := ⟨("_law_names", none), "_law_names", "_law_names", defArgs sf__law_names, defBody sf__law_names, defScope sf__law_names, [], []⟩
def df_law : He.DefD := ⟨("law", none), "law", "law", defArgs sf_law, defBody sf_law, defScope sf_law, [], []⟩
def dm_BadField_called : He.DefD := ⟨("BadField", some "called"), "called", "BadField.called", defArgs sm_BadField_called, defBody sm_BadField_called, defScope sm_BadField_called, [], []⟩
def dm_BadHand_called : He.DefD := ⟨("BadHand", some "called"), "called", "BadHand.called", defArgs sm_BadHand_called, defBody sm_BadHand_called, defScope sm_BadHand_called, [], []⟩
def dm_NoRoom_called : He.DefD := ⟨("NoRoom", some "called"), "called", "NoRoom.called", defArgs sm_NoRoom_called, defBody sm_NoRoom_called, defScope sm_NoRoom_called, [], []⟩
def dm_TooManyWords_called : He.DefD := ⟨("TooManyWords", some "called"), "called", "TooManyWords.called", defArgs sm_TooManyWords_called, defBody sm_TooManyWords_called, defScope sm_TooManyWords_called, [], []⟩
def dm_IdealThing_init : He.DefD := ⟨("IdealThing", some "__init__"), "__init__", "IdealThing.__init__", defArgs sm_IdealThing_init, defBody sm_IdealThing_init, defScope sm_IdealThing_init, [], []⟩
def dm_IdealHeap_init : He.DefD := ⟨("IdealHeap", some "__init__"), "__init__", "IdealHeap.__init__", defArgs sm_IdealHeap_init, defBody sm_IdealHeap_init, defScope sm_IdealHeap_init, [], []⟩
def dm_IdealHeap_thing_in : He.DefD := ⟨("IdealHeap", some "thing_in"), "thing_in", "IdealHeap.thing_in", defArgs sm_IdealHeap_thing_in, defBody sm_IdealHeap_thing_in, defScope sm_IdealHeap_thing_in, [], []⟩
def dm_IdealHeap_field_due : He.DefD := ⟨("IdealHeap", some "field_due"), "field_due", "IdealHeap.field_due", defArgs sm_IdealHeap_field_due, defBody sm_IdealHeap_field_due, defScope sm_IdealHeap_field_due, [], []⟩
def dm_IdealHeap_make : He.DefD := ⟨("IdealHeap", some "make"), "make", "IdealHeap.make", defArgs sm_IdealHeap_make, defBody sm_IdealHeap_make, defScope sm_IdealHeap_make, [], []⟩
def dm_IdealHeap_load : He.DefD := ⟨("IdealHeap", some "load"), "load", "IdealHeap.load", defArgs sm_IdealHeap_load, defBody sm_IdealHeap_load, defScope sm_IdealHeap_load, [], []⟩
def dm_IdealHeap_store : He.DefD := ⟨("IdealHeap", some "store"), "store", "IdealHeap.store", defArgs sm_IdealHeap_store, defBody sm_IdealHeap_store, defScope sm_IdealHeap_store, [], []⟩
def dm_IdealHeap_copy : He.DefD := ⟨("IdealHeap", some "copy"), "copy", "IdealHeap.copy", defArgs sm_IdealHeap_copy, defBody sm_IdealHeap_copy, defScope sm_IdealHeap_copy, [], []⟩
def dm_IdealHeap_drop : He.DefD := ⟨("IdealHeap", some "drop"), "drop", "IdealHeap.drop", defArgs sm_IdealHeap_drop, defBody sm_IdealHeap_drop, defScope sm_IdealHeap_drop, [], []⟩
def dm_IdealHeap_number : He.DefD := ⟨("IdealHeap", some "number"), "number", "IdealHeap.number", defArgs sm_IdealHeap_number, defBody sm_IdealHeap_number, defScope sm_IdealHeap_number, [], []⟩
def dm_IdealHeap_name : He.DefD := ⟨("IdealHeap", some "name"), "name", "IdealHeap.name", defArgs sm_IdealHeap_name, defBody sm_IdealHeap_name, defScope sm_IdealHeap_name, [], []⟩
def dm_IdealHeap_read : He.DefD := ⟨("IdealHeap", some "read"), "read", "IdealHeap.read", defArgs sm_IdealHeap_read, defBody sm_IdealHeap_read, defScope sm_IdealHeap_read, [], []⟩
def dm_IdealHeap_give_back : He.DefD := ⟨("IdealHeap", some "give_back"), "give_back", "IdealHeap.give_back", defArgs sm_IdealHeap_give_back, defBody sm_IdealHeap_give_back, defScope sm_IdealHeap_give_back, [], []⟩
def dm_IdealHeap_word : He.DefD := ⟨("IdealHeap", some "word"), "word", "IdealHeap.word", defArgs sm_IdealHeap_word, defBody sm_IdealHeap_word, defScope sm_IdealHeap_word, [], []⟩
def dm_IdealHeap_held : He.DefD := ⟨("IdealHeap", some "held"), "held", "IdealHeap.held", defArgs sm_IdealHeap_held, defBody sm_IdealHeap_held, defScope sm_IdealHeap_held, [], []⟩
def dm_IdealHeap_settle : He.DefD := ⟨("IdealHeap", some "settle"), "settle", "IdealHeap.settle", defArgs sm_IdealHeap_settle, defBody sm_IdealHeap_settle, defScope sm_IdealHeap_settle, [], []⟩
def dm_IdealHeap_small : He.DefD := ⟨("IdealHeap", some "small"), "small", "IdealHeap.small", defArgs sm_IdealHeap_small, defBody sm_IdealHeap_small, defScope sm_IdealHeap_small, [], []⟩
def dm_IdealHeap_begin : He.DefD := ⟨("IdealHeap", some "begin"), "begin", "IdealHeap.begin", defArgs sm_IdealHeap_begin, defBody sm_IdealHeap_begin, defScope sm_IdealHeap_begin, [], []⟩
def dm_IdealHeap_end : He.DefD := ⟨("IdealHeap", some "end"), "end", "IdealHeap.end", defArgs sm_IdealHeap_end, defBody sm_IdealHeap_end, defScope sm_IdealHeap_end, [], []⟩
def dm_IdealHeap_round_on : He.DefD := ⟨("IdealHeap", some "round_on"), "round_on", "IdealHeap.round_on", defArgs sm_IdealHeap_round_on, defBody sm_IdealHeap_round_on, defScope sm_IdealHeap_round_on, [], []⟩
def dm_IdealHeap_hands : He.DefD := ⟨("IdealHeap", some "hands"), "hands", "IdealHeap.hands", defArgs sm_IdealHeap_hands, defBody sm_IdealHeap_hands, defScope sm_IdealHeap_hands, [], []⟩
def dm_IdealHeap_names : He.DefD := ⟨("IdealHeap", some "names"), "names", "IdealHeap.names", defArgs sm_IdealHeap_names, defBody sm_IdealHeap_names, defScope sm_IdealHeap_names, [], []⟩
def dm_IdealHeap_things : He.DefD := ⟨("IdealHeap", some "things"), "things", "IdealHeap.things", defArgs sm_IdealHeap_things, defBody sm_IdealHeap_things, defScope sm_IdealHeap_things, [], []⟩
def dm_IdealHeap_thing_due : He.DefD := ⟨("IdealHeap", some "thing_due"), "thing_due", "IdealHeap.thing_due", defArgs sm_IdealHeap_thing_due, defBody sm_IdealHeap_thing_due, defScope sm_IdealHeap_thing_due, [], []⟩
def dm_IdealHeap_fields_of : He.DefD := ⟨("IdealHeap", some "fields_of"), "fields_of", "IdealHeap.fields_of", defArgs sm_IdealHeap_fields_of, defBody sm_IdealHeap_fields_of, defScope sm_IdealHeap_fields_of, [], []⟩
def dm_Memory_init : He.DefD := ⟨("Memory", some "__init__"), "__init__", "Memory.__init__", defArgs sm_Memory_init, defBody sm_Memory_init, defScope sm_Memory_init, [], []⟩
def dm_Memory_size : He.DefD := ⟨("Memory", some "size"), "size", "Memory.size", defArgs sm_Memory_size, defBody sm_Memory_size, defScope sm_Memory_size, [], []⟩
def dm_Memory_look_at : He.DefD := ⟨("Memory", some "look_at"), "look_at", "Memory.look_at", defArgs sm_Memory_look_at, defBody sm_Memory_look_at, defScope sm_Memory_look_at, [], []⟩
def dm_Memory_at : He.DefD := ⟨("Memory", some "at"), "at", "Memory.at", defArgs sm_Memory_at, defBody sm_Memory_at, defScope sm_Memory_at, [], []⟩
def dm_Memory_put : He.DefD := ⟨("Memory", some "put"), "put", "Memory.put", defArgs sm_Memory_put, defBody sm_Memory_put, defScope sm_Memory_put, [], []⟩
def dm_Picture_init : He.DefD := ⟨("Picture", some "__init__"), "__init__", "Picture.__init__", defArgs sm_Picture_init, defBody sm_Picture_init, defScope sm_Picture_init, [], []⟩
def dm_Picture_goal : He.DefD := ⟨("Picture", some "goal"), "goal", "Picture.goal", defArgs sm_Picture_goal, defBody sm_Picture_goal, defScope sm_Picture_goal, [], []⟩
def dm_Picture_shows : He.DefD := ⟨("Picture", some "shows"), "shows", "Picture.shows", defArgs sm_Picture_shows, defBody sm_Picture_shows, defScope sm_Picture_shows, [], []⟩
def dm_Picture_unlike_address : He.DefD := ⟨("Picture", some "unlike_address"), "unlike_address", "Picture.unlike_address", defArgs sm_Picture_unlike_address, defBody sm_Picture_unlike_address, defScope sm_Picture_unlike_address, [], []⟩
def dm_Picture_unlike_head : He.DefD := ⟨("Picture", some "unlike_head"), "unlike_head", "Picture.unlike_head", defArgs sm_Picture_unlike_head, defBody sm_Picture_unlike_head, defScope sm_Picture_unlike_head, [], []⟩
def dm_Picture_unlike_field : He.DefD := ⟨("Picture", some "unlike_field"), "unlike_field", "Picture.unlike_field", defArgs sm_Picture_unlike_field, defBody sm_Picture_unlike_field, defScope sm_Picture_unlike_field, [], []⟩
def fn_0 : List He.DefD := [df_lay, df_is_word, df_head_at, df_thing_at, df_resolved, df_address_in_word, df_met_from, df_words_in_copying, df_translated, df_copied, df_number_value, df_thing_value, df_kind_of, df_words_of, df_look_at_hand, df_look_at_name, df_look_at_limits, df_thing_of, df_things_of, df_led_within, df_young_things, df_words_in_ideal, df_young_kept, df_is_book, df_unlike_hand, df_unlike_name, df_first_unlike, df_is_picture, df__law_cell, df__law_numbers, df__law_deed, df__law_plain, df__law_done, df__law_word_of, df__law_laid, df__law_names, df_law, dm_BadField_called, dm_BadHand_called, dm_NoRoom_called]
def fn_1 : List He.DefD := [dm_TooManyWords_called, dm_IdealThing_init, dm_IdealHeap_init, dm_IdealHeap_thing_in, dm_IdealHeap_field_due, dm_IdealHeap_make, dm_IdealHeap_load, dm_IdealHeap_store, dm_IdealHeap_copy, dm_IdealHeap_drop, dm_IdealHeap_number, dm_IdealHeap_name, dm_IdealHeap_read, dm_IdealHeap_give_back, dm_IdealHeap_word, dm_IdealHeap_held, dm_IdealHeap_settle, dm_IdealHeap_small, dm_IdealHeap_begin, dm_IdealHeap_end, dm_IdealHeap_round_on, dm_IdealHeap_hands, dm_IdealHeap_names, dm_IdealHeap_things, dm_IdealHeap_thing_due, dm_IdealHeap_fields_of, dm_Memory_init, dm_Memory_size, dm_Memory_look_at, dm_Memory_at, dm_Memory_put, dm_Picture_init, dm_Picture_goal, dm_Picture_shows, dm_Picture_unlike_address, dm_Picture_unlike_head, dm_Picture_unlike_field]
def fn : List He.DefD := fn_0 ++ fn_1
abbrev cHeapError : Addr := 38
abbrev cBadAddress : Addr := 58
abbrev cBadHand : Addr := 115
abbrev cBadField : Addr := 96
abbrev cNoRoom : Addr := 172
abbrev cTooManyWords : Addr := 229
abbrev cIdealThing : Addr := 359
abbrev cIdealHeap : Addr := 641
abbrev cMemory : Addr := 697
abbrev cPicture : Addr := 760
abbrev af_lay : Addr := 238
abbrev af_is_word : Addr := 245
abbrev af_head_at : Addr := 252
abbrev af_thing_at : Addr := 257
abbrev af_resolved : Addr := 264
abbrev af_address_in_word : Addr := 271
abbrev af_met_from : Addr := 278
abbrev af_words_in_copying : Addr := 283
abbrev af_translated : Addr := 290
abbrev af_copied : Addr := 295
abbrev af_number_value : Addr := 302
abbrev af_thing_value : Addr := 309
abbrev af_kind_of : Addr := 316
abbrev af_words_of : Addr := 323
abbrev af_look_at_hand : Addr := 330
abbrev af_look_at_name : Addr := 337
abbrev af_look_at_limits : Addr := 344
abbrev af_thing_of : Addr := 370
abbrev af_things_of : Addr := 377
abbrev af_led_within : Addr := 382
abbrev af_young_things : Addr := 389
abbrev af_words_in_ideal : Addr := 394
abbrev af_young_kept : Addr := 401
abbrev af_is_book : Addr := 708
abbrev af_unlike_hand : Addr := 771
abbrev af_unlike_name : Addr := 778
abbrev af_first_unlike : Addr := 783
abbrev af_is_picture : Addr := 790
abbrev af__law_cell : Addr := 797
abbrev af__law_numbers : Addr := 804
abbrev af__law_deed : Addr := 811
abbrev af__law_plain : Addr := 818
abbrev af__law_done : Addr := 825
abbrev af__law_word_of : Addr := 832
abbrev af__law_laid : Addr := 839
abbrev af__law_names : Addr := 846
abbrev af_law : Addr := 851
abbrev am_BadField_called : Addr := 93
abbrev am_BadHand_called : Addr := 112
abbrev am_NoRoom_called : Addr := 169
abbrev am_TooManyWords_called : Addr := 226
abbrev am_IdealThing_init : Addr := 356
abbrev am_IdealHeap_init : Addr := 413
abbrev am_IdealHeap_thing_in : Addr := 420
abbrev am_IdealHeap_field_due : Addr := 427
abbrev am_IdealHeap_make : Addr := 434
abbrev am_IdealHeap_load : Addr := 441
abbrev am_IdealHeap_store : Addr := 448
abbrev am_IdealHeap_copy : Addr := 455
abbrev am_IdealHeap_drop : Addr := 462
abbrev am_IdealHeap_number : Addr := 469
abbrev am_IdealHeap_name : Addr := 476
abbrev am_IdealHeap_read : Addr := 483
abbrev am_IdealHeap_give_back : Addr := 490
abbrev am_IdealHeap_word : Addr := 495
abbrev am_IdealHeap_held : Addr := 537
abbrev am_IdealHeap_settle : Addr := 542
abbrev am_IdealHeap_small : Addr := 547
abbrev am_IdealHeap_begin : Addr := 554
abbrev am_IdealHeap_end : Addr := 561
abbrev am_IdealHeap_round_on : Addr := 568
abbrev am_IdealHeap_hands : Addr := 575
abbrev am_IdealHeap_names : Addr := 582
abbrev am_IdealHeap_things : Addr := 589
abbrev am_IdealHeap_thing_due : Addr := 596
abbrev am_IdealHeap_fields_of : Addr := 603
abbrev am_Memory_init : Addr := 659
abbrev am_Memory_size : Addr := 666
abbrev am_Memory_look_at : Addr := 673
abbrev am_Memory_at : Addr := 680
abbrev am_Memory_put : Addr := 687
abbrev am_Picture_init : Addr := 722
abbrev am_Picture_goal : Addr := 729
abbrev am_Picture_shows : Addr := 736
abbrev am_Picture_unlike_address : Addr := 743
abbrev am_Picture_unlike_head : Addr := 750
abbrev am_Picture_unlike_field : Addr := 757
inductive Fc where
  | glo (x : Str) (a : Addr) | free (x : Str) | int (x : Str) (i : Int) | cls (C : Addr) | noat (C : Addr) (f : Str) | meth (C : Addr) (m : Str) (a : Addr)
  | mkr (C a : Addr) | exc (C : Addr) | exm (C D : Addr) (b : Bool) | adr (p : Str × Option Str) (a : Addr)
/-- an own exception class: how it is made, and how a method is found on it -/
structure XcC (K : PySem.W.Frag) (C : Addr) : Prop where
  ex : PySem.W.excIn K C He.veBase "ValueError.__new__" = true
  kp : PySem.W.keepIn K (.ref C) = true
  sb : PySem.W.subIn K (.ref C) (.type "BaseException") = some true
  ty : PySem.W.typeIn K (.ref C) = some (.type "type")
  ga : PySem.W.findIn K (.ref C) "__getattribute__" = some (some (.builtin "BaseException.__getattribute__"))
  gg : PySem.W.findIn K (.ref C) "__getattr__" = some none
  hd : PySem.W.hasDictIn K C = true
def eqO (a b : Option (Option Value)) : Bool := decide (a = b)
def Fc.ok (K : PySem.W.Frag) : Fc → Bool
  | .glo x a => eqO (PySem.W.nsIn K mainGlobals x) (some (some (.ref a)))
  | .free x => eqO (PySem.W.nsIn K mainGlobals x) (some none)
  | .int x i => (match PySem.W.nsIn K mainGlobals x with
    | some (some (.int j _)) => decide (j = i)
    | _ => false)
  | .cls C => PySem.W.plainGet K C Str.empty && (PySem.W.hasDictIn K C && (PySem.W.plainOver K C && eqO (PySem.W.findIn K (.ref C) "__setattr__") (some (some (.builtin "object.__setattr__")))))
  | .noat C f => eqO (PySem.W.findIn K (.ref C) f) (some none)
  | .meth C m a => eqO (PySem.W.findIn K (.ref C) m) (some (some (.ref a))) && (PySem.W.isFn K (.ref a) && PySem.W.keepIn K (.ref a))
  | .mkr C a => PySem.W.makesIn K C && (eqO (PySem.W.findIn K (.ref C) "__init__") (some (some (.ref a))) && (PySem.W.isFn K (.ref a) && PySem.W.keepIn K (.ref C)))
  | .exc C => PySem.W.excIn K C He.veBase "ValueError.__new__" && (PySem.W.keepIn K (.ref C) && (decide (PySem.W.subIn K (.ref C) (.type "BaseException") = some true) && (decide (PySem.W.typeIn K (.ref C) = some (.type "type")) &&
      (eqO (PySem.W.findIn K (.ref C) "__getattribute__") (some (some (.builtin "BaseException.__getattribute__"))) && (eqO (PySem.W.findIn K (.ref C) "__getattr__") (some none) && PySem.W.hasDictIn K C)))))
  | .exm C D b => decide (PySem.W.exmOne K (.ref C) (.ref D) = some b)
  | .adr p a => decide (He.fAd K p = a)
section
variable {K : PySem.W.Frag} {h : Heap} {mg : Str → Option Value} {x f m : Str} {a C D : Addr} {i : Int} {b : Bool} {p : Str × Option Str}
theorem b2 {a b : Bool} (h : (a && b) = true) : a = true ∧ b = true := Bool.and_eq_true_iff.mp h
theorem glo_ok (X : K.In h) (G : h.Ns mainGlobals mg) (c : (Fc.glo x a).ok K = true) : mg x = some (.ref a) := PySem.W.mg_of X G (of_decide_eq_true c)
theorem free_ok (X : K.In h) (G : h.Ns mainGlobals mg) (c : (Fc.free x).ok K = true) : mg x = none := PySem.W.mg_none_of X G (of_decide_eq_true c)
theorem int_ok (X : K.In h) (G : h.Ns mainGlobals mg) (c : (Fc.int x i).ok K = true) : ∃ t, mg x = some (.int i t) := He.int_ok X G (x := x) (i := i) c
theorem cls_ok (c : (Fc.cls C).ok K = true) : Cls K C := by
  obtain ⟨c1, c⟩ := b2 c
  obtain ⟨c2, c⟩ := b2 c
  obtain ⟨c3, c4⟩ := b2 c
  exact ⟨c1, c2, c3, of_decide_eq_true c4⟩
theorem noat_ok (c : (Fc.noat C f).ok K = true) : NoAttr K C f := (show PySem.W.findIn K (.ref C) f = some none from of_decide_eq_true c)
theorem meth_ok (c : (Fc.meth C m a).ok K = true) : Meth K C m a := by
  obtain ⟨c1, c⟩ := b2 c
  obtain ⟨c2, c3⟩ := b2 c
  exact ⟨of_decide_eq_true c1, c2, c3⟩
theorem mkr_ok (c : (Fc.mkr C a).ok K = true) : Mk K C a := by
  obtain ⟨c1, c⟩ := b2 c
  obtain ⟨c2, c⟩ := b2 c
  obtain ⟨c3, c4⟩ := b2 c
  exact ⟨c1, of_decide_eq_true c2, c3, c4⟩
theorem exc_ok (c : (Fc.exc C).ok K = true) : XcC K C := by
  obtain ⟨c1, c⟩ := b2 c
  obtain ⟨c2, c⟩ := b2 c
  obtain ⟨c3, c⟩ := b2 c
  obtain ⟨c4, c⟩ := b2 c
  obtain ⟨c5, c⟩ := b2 c
  obtain ⟨c6, c7⟩ := b2 c
  exact ⟨c1, c2, of_decide_eq_true c3, of_decide_eq_true c4, of_decide_eq_true c5, of_decide_eq_true c6, c7⟩
theorem exm_ok (c : (Fc.exm C D b).ok K = true) : PySem.W.exmOne K (.ref C) (.ref D) = some b := of_decide_eq_true c
theorem adr_ok (c : (Fc.adr p a).ok K = true) : He.fAd K p = a := of_decide_eq_true c
end
def fc_0 : List Fc := [.glo "lay" af_lay, .glo "is_word" af_is_word, .glo "head_at" af_head_at, .glo "thing_at" af_thing_at, .glo "resolved" af_resolved, .glo "address_in_word" af_address_in_word, .glo "met_from" af_met_from, .glo "words_in_copying" af_words_in_copying, .glo "translated" af_translated, .glo "copied" af_copied, .glo "number_value" af_number_value, .glo "thing_value" af_thing_value, .glo "kind_of" af_kind_of, .glo "words_of" af_words_of, .glo "look_at_hand" af_look_at_hand, .glo "look_at_name" af_look_at_name, .glo "look_at_limits" af_look_at_limits, .glo "thing_of" af_thing_of, .glo "things_of" af_things_of, .glo "led_within" af_led_within, .glo "young_things" af_young_things, .glo "words_in_ideal" af_words_in_ideal, .glo "young_kept" af_young_kept, .glo "is_book" af_is_book, .glo "unlike_hand" af_unlike_hand, .glo "unlike_name" af_unlike_name, .glo "first_unlike" af_first_unlike, .glo "is_picture" af_is_picture, .glo "_law_cell" af__law_cell, .glo "_law_numbers" af__law_numbers]
def fc_1 : List Fc := [.glo "_law_deed" af__law_deed, .glo "_law_plain" af__law_plain, .glo "_law_done" af__law_done, .glo "_law_word_of" af__law_word_of, .glo "_law_laid" af__law_laid, .glo "_law_names" af__law_names, .glo "law" af_law, .glo "HeapError" cHeapError, .glo "BadAddress" cBadAddress, .glo "BadHand" cBadHand, .glo "BadField" cBadField, .glo "NoRoom" cNoRoom, .glo "TooManyWords" cTooManyWords, .glo "IdealThing" cIdealThing, .glo "IdealHeap" cIdealHeap, .glo "Memory" cMemory, .glo "Picture" cPicture, .meth cBadHand "called" am_BadHand_called, .meth cBadField "called" am_BadField_called, .meth cNoRoom "called" am_NoRoom_called, .meth cTooManyWords "called" am_TooManyWords_called, .cls cIdealThing, .mkr cIdealThing am_IdealThing_init, .noat cIdealThing "inside", .noat cIdealThing "aged", .noat cIdealThing "last_word", .cls cIdealHeap, .mkr cIdealHeap am_IdealHeap_init, .noat cIdealHeap "room", .noat cIdealHeap "limit"]
def fc_2 : List Fc := [.noat cIdealHeap "in_hands", .noat cIdealHeap "naming", .noat cIdealHeap "kept", .noat cIdealHeap "count", .noat cIdealHeap "going", .noat cIdealHeap "spoken", .meth cIdealHeap "thing_in" am_IdealHeap_thing_in, .meth cIdealHeap "field_due" am_IdealHeap_field_due, .meth cIdealHeap "make" am_IdealHeap_make, .meth cIdealHeap "load" am_IdealHeap_load, .meth cIdealHeap "store" am_IdealHeap_store, .meth cIdealHeap "copy" am_IdealHeap_copy, .meth cIdealHeap "drop" am_IdealHeap_drop, .meth cIdealHeap "number" am_IdealHeap_number, .meth cIdealHeap "name" am_IdealHeap_name, .meth cIdealHeap "read" am_IdealHeap_read, .meth cIdealHeap "give_back" am_IdealHeap_give_back, .meth cIdealHeap "word" am_IdealHeap_word, .meth cIdealHeap "held" am_IdealHeap_held, .meth cIdealHeap "settle" am_IdealHeap_settle, .meth cIdealHeap "small" am_IdealHeap_small, .meth cIdealHeap "begin" am_IdealHeap_begin, .meth cIdealHeap "end" am_IdealHeap_end, .meth cIdealHeap "round_on" am_IdealHeap_round_on, .meth cIdealHeap "hands" am_IdealHeap_hands, .meth cIdealHeap "names" am_IdealHeap_names, .meth cIdealHeap "things" am_IdealHeap_things, .meth cIdealHeap "thing_due" am_IdealHeap_thing_due, .meth cIdealHeap "fields_of" am_IdealHeap_fields_of, .cls cMemory]
def fc_3 : List Fc := [.mkr cMemory am_Memory_init, .noat cMemory "words", .meth cMemory "size" am_Memory_size, .meth cMemory "look_at" am_Memory_look_at, .meth cMemory "at" am_Memory_at, .meth cMemory "put" am_Memory_put, .cls cPicture, .mkr cPicture am_Picture_init, .noat cPicture "heap", .noat cPicture "space", .noat cPicture "pairs", .noat cPicture "known", .meth cPicture "goal" am_Picture_goal, .meth cPicture "shows" am_Picture_shows, .meth cPicture "unlike_address" am_Picture_unlike_address, .meth cPicture "unlike_head" am_Picture_unlike_head, .meth cPicture "unlike_field" am_Picture_unlike_field, .exc cBadHand, .exm cBadHand cHeapError true, .exc cBadField, .exm cBadField cHeapError true, .exc cNoRoom, .exm cNoRoom cHeapError true, .exc cTooManyWords, .exm cTooManyWords cHeapError true, .int "FAR" (10^60), .int "MOST_FIELDS" (6), .int "HANDS" (8), .int "NAMES" (8), .int "LEAST_ROOM" (7)]
def fc_4 : List Fc := [.int "MOST_YOUNG" (64), .int "MOST_LIMIT" (400), .int "MOST_WORDS" (12), .free "len", .free "range", .free "sum", .free "sorted", .free "list", .free "dict", .free "enumerate", .free "zip", .adr ("lay", none) af_lay, .adr ("is_word", none) af_is_word, .adr ("head_at", none) af_head_at, .adr ("thing_at", none) af_thing_at, .adr ("resolved", none) af_resolved, .adr ("address_in_word", none) af_address_in_word, .adr ("met_from", none) af_met_from, .adr ("words_in_copying", none) af_words_in_copying, .adr ("translated", none) af_translated, .adr ("copied", none) af_copied, .adr ("number_value", none) af_number_value, .adr ("thing_value", none) af_thing_value, .adr ("kind_of", none) af_kind_of, .adr ("words_of", none) af_words_of, .adr ("look_at_hand", none) af_look_at_hand, .adr ("look_at_name", none) af_look_at_name, .adr ("look_at_limits", none) af_look_at_limits, .adr ("thing_of", none) af_thing_of, .adr ("things_of", none) af_things_of]
def fc_5 : List Fc := [.adr ("led_within", none) af_led_within, .adr ("young_things", none) af_young_things, .adr ("words_in_ideal", none) af_words_in_ideal, .adr ("young_kept", none) af_young_kept, .adr ("is_book", none) af_is_book, .adr ("unlike_hand", none) af_unlike_hand, .adr ("unlike_name", none) af_unlike_name, .adr ("first_unlike", none) af_first_unlike, .adr ("is_picture", none) af_is_picture, .adr ("_law_cell", none) af__law_cell, .adr ("_law_numbers", none) af__law_numbers, .adr ("_law_deed", none) af__law_deed, .adr ("_law_plain", none) af__law_plain, .adr ("_law_done", none) af__law_done, .adr ("_law_word_of", none) af__law_word_of, .adr ("_law_laid", none) af__law_laid, .adr ("_law_names", none) af__law_names, .adr ("law", none) af_law, .adr ("BadField", some "called") am_BadField_called, .adr ("BadHand", some "called") am_BadHand_called, .adr ("NoRoom", some "called") am_NoRoom_called, .adr ("TooManyWords", some "called") am_TooManyWords_called, .adr ("IdealThing", some "__init__") am_IdealThing_init, .adr ("IdealHeap", some "__init__") am_IdealHeap_init, .adr ("IdealHeap", some "thing_in") am_IdealHeap_thing_in, .adr ("IdealHeap", some "field_due") am_IdealHeap_field_due, .adr ("IdealHeap", some "make") am_IdealHeap_make, .adr ("IdealHeap", some "load") am_IdealHeap_load, .adr ("IdealHeap", some "store") am_IdealHeap_store, .adr ("IdealHeap", some "copy") am_IdealHeap_copy]
def fc_6 : List Fc := [.adr ("IdealHeap", some "drop") am_IdealHeap_drop, .adr ("IdealHeap", some "number") am_IdealHeap_number, .adr ("IdealHeap", some "name") am_IdealHeap_name, .adr ("IdealHeap", some "read") am_IdealHeap_read, .adr ("IdealHeap", some "give_back") am_IdealHeap_give_back, .adr ("IdealHeap", some "word") am_IdealHeap_word, .adr ("IdealHeap", some "held") am_IdealHeap_held, .adr ("IdealHeap", some "settle") am_IdealHeap_settle, .adr ("IdealHeap", some "small") am_IdealHeap_small, .adr ("IdealHeap", some "begin") am_IdealHeap_begin, .adr ("IdealHeap", some "end") am_IdealHeap_end, .adr ("IdealHeap", some "round_on") am_IdealHeap_round_on, .adr ("IdealHeap", some "hands") am_IdealHeap_hands, .adr ("IdealHeap", some "names") am_IdealHeap_names, .adr ("IdealHeap", some "things") am_IdealHeap_things, .adr ("IdealHeap", some "thing_due") am_IdealHeap_thing_due, .adr ("IdealHeap", some "fields_of") am_IdealHeap_fields_of, .adr ("Memory", some "__init__") am_Memory_init, .adr ("Memory", some "size") am_Memory_size, .adr ("Memory", some "look_at") am_Memory_look_at, .adr ("Memory", some "at") am_Memory_at, .adr ("Memory", some "put") am_Memory_put, .adr ("Picture", some "__init__") am_Picture_init, .adr ("Picture", some "goal") am_Picture_goal, .adr ("Picture", some "shows") am_Picture_shows, .adr ("Picture", some "unlike_address") am_Picture_unlike_address, .adr ("Picture", some "unlike_head") am_Picture_unlike_head, .adr ("Picture", some "unlike_field") am_Picture_unlike_field]
def fc : List Fc := fc_0 ++ fc_1 ++ fc_2 ++ fc_3 ++ fc_4 ++ fc_5 ++ fc_6
def places_0 : List Nat := [3, 238, 245, 252, 257, 264, 271, 278, 283, 290, 295, 302, 309, 316, 323, 330, 337, 344, 370, 377, 382, 389, 394, 401, 708, 771, 778, 783, 790, 797, 804, 811, 818, 825, 832, 839, 846, 851, 38, 58]
def places_1 : List Nat := [115, 96, 172, 229, 359, 641, 697, 760, 37, 57, 114, 95, 171, 228, 358, 640, 696, 759, 93, 112, 169, 226, 356, 413, 420, 427, 434, 441, 448, 455, 462, 469, 476, 483, 490, 495, 537, 542, 547, 554]
def places_2 : List Nat := [561, 568, 575, 582, 589, 596, 603, 659, 666, 673, 680, 687, 722, 729, 736, 743, 750, 757, 237, 244, 251, 256, 263, 270, 277, 282, 289, 294, 301, 308, 315, 322, 329, 336, 343, 369, 376, 381, 388, 393]
def places_3 : List Nat := [400, 707, 770, 777, 782, 789, 796, 803, 810, 817, 824, 831, 838, 845, 850, 92, 111, 168, 225, 355, 412, 419, 426, 433, 440, 447, 454, 461, 468, 475, 482, 489, 494, 536, 541, 546, 553, 560, 567, 574]
def places_4 : List Nat := [581, 588, 595, 602, 658, 665, 672, 679, 686, 721, 728, 735, 742, 749, 756]
def places : List Nat := places_0 ++ places_1 ++ places_2 ++ places_3 ++ places_4
def obsS (K : PySem.W.Frag) : He.AlD := (fc.all (fun f => f.ok K) && fn.all (fun d => d.ok K), fn.map fun d => He.fnW K d.at_)
def frS (g : Addr → Option Obj) : PySem.W.Frag := He.frG g places
def hk : PySem.W.Hook where
  α := He.AlD
  obs := fun s => obsS (frS s.heap.get?)
  val := fun _ => He.valD fn
  says := fun _ h => ∃ K : PySem.W.Frag, K.In h ∧ obsS K = He.valD fn
  of := fun _ _ e => ⟨_, He.frG_in, e⟩
  keeps := fun _ _ _ ⟨K, hK, c⟩ k => ⟨K, PySem.W.Frag.In.keeps hK k, c⟩
def ob (s : PySem.W.SharedT) : He.AlD := obsS (frS (HandSHeadRun.getT s))
theorem ob_eq (s : PySem.W.SharedT) : ob s = hk.obs s.abs := by
  have e : HandSHeadRun.getT s = s.abs.heap.get? := funext (HandSHeadRun.getT_eq s)
  show obsS (frS (HandSHeadRun.getT s)) = obsS (frS s.abs.heap.get?)
  rw [e]
def nm_0 : List PySem.Str := ["_wall", "HeapError", "BadAddress", "BadCount", "BadField", "BadHand", "BadName", "BadView", "NoRoom", "NoRound", "RoundOn", "TooManyWords", "lay", "is_word", "head_at", "thing_at", "resolved", "address_in_word", "met_from", "words_in", "words_in_copying", "translated", "copied", "FAR", "MOST_FIELDS", "HANDS", "NAMES", "LEAST_ROOM", "MOST_YOUNG", "MOST_LIMIT"]
def nm_1 : List PySem.Str := ["number_value", "thing_value", "kind_of", "words_of", "look_at_hand", "look_at_name", "look_at_limits", "MOST_WORDS", "IdealThing", "thing_of", "things_of", "led_within", "young_things", "words_in_ideal", "young_kept", "IdealHeap", "Memory", "is_book", "Picture", "unlike_hand", "unlike_name", "first_unlike", "is_picture", "_law_cell", "_law_numbers", "_law_deed", "_law_plain", "_law_done", "_law_word_of", "_law_laid"]
def nm_2 : List PySem.Str := ["_law_names"]
def nm : List PySem.Str := nm_0 ++ nm_1 ++ nm_2
abbrev R : PySem.W.OpenRow := PySem.W.OpenLaw.row PySem.Challenge.rw_stillheap_k44_whole_copied_heaps
/-- what the walk leans on: the written part at the law's entry -/
structure Tx (K : PySem.W.Frag) (mg : Str → Option Value) : Prop where
  s : obsS K = He.valD fn
  h : ∃ h : Heap, K.In h ∧ h.Ns mainGlobals mg
section
variable {K : PySem.W.Frag} {mg : Str → Option Value}
theorem Tx.fact (T : Tx K mg) (i : Nat) {f : Fc} (h : fc[i]? = some f) : f.ok K = true := by
  have c1 := (b2 (show (fc.all (fun f => f.ok K) && fn.all (fun d => d.ok K)) = true from congrArg (fun z : He.AlD => z.1) T.s)).1
  exact List.all_eq_true.mp c1 f (List.mem_of_getElem? h)
theorem Tx.def_ (T : Tx K mg) (i : Nat) {d : He.DefD} (h : fn[i]? = some d) : ∃ fd, FunD K d.name d.qual d.params d.body d.scope (d.dvs K) (d.kws K) (He.fAd K d.at_) fd := by
  have c2 := (b2 (show (fc.all (fun f => f.ok K) && fn.all (fun d => d.ok K)) = true from congrArg (fun z : He.AlD => z.1) T.s)).2
  have e : fn.map (fun d => He.fnW K d.at_) = fn.map He.DefD.val := congrArg (fun z : He.AlD => z.2) T.s
  have e2 : (fn.map fun d => He.fnW K d.at_)[i]? = (fn.map He.DefD.val)[i]? := by rw [e]
  rw [List.getElem?_map, List.getElem?_map, h] at e2
  exact He.DefD.funD (Option.some.inj e2) (List.all_eq_true.mp c2 d (List.mem_of_getElem? h))
theorem Tx.gf_lay (T : Tx K mg) : mg "lay" = some (.ref af_lay) := let ⟨_, X, G⟩ := T.h; glo_ok X G (T.fact 0 (f := .glo "lay" af_lay) rfl)
theorem Tx.gf_is_word (T : Tx K mg) : mg "is_word" = some (.ref af_is_word) := let ⟨_, X, G⟩ := T.h; glo_ok X G (T.fact 1 (f := .glo "is_word" af_is_word) rfl)
theorem Tx.gf_head_at (T : Tx K mg) : mg "head_at" = some (.ref af_head_at) := let ⟨_, X, G⟩ := T.h; glo_ok X G (T.fact 2 (f := .glo "head_at" af_head_at) rfl)
theorem Tx.gf_thing_at (T : Tx K mg) : mg "thing_at" = some (.ref af_thing_at) := let ⟨_, X, G⟩ := T.h; glo_ok X G (T.fact 3 (f := .glo "thing_at" af_thing_at) rfl)
theorem Tx.gf_resolved (T : Tx K mg) : mg "resolved" = some (.ref af_resolved) := let ⟨_, X, G⟩ := T.h; glo_ok X G (T.fact 4 (f := .glo "resolved" af_resolved) rfl)
theorem Tx.gf_address_in_word (T : Tx K mg) : mg "address_in_word" = some (.ref af_address_in_word) := let ⟨_, X, G⟩ := T.h; glo_ok X G (T.fact 5 (f := .glo "address_in_word" af_address_in_word) rfl)
theorem Tx.gf_met_from (T : Tx K mg) : mg "met_from" = some (.ref af_met_from) := let ⟨_, X, G⟩ := T.h; glo_ok X G (T.fact 6 (f := .glo "met_from" af_met_from) rfl)
theorem Tx.gf_words_in_copying (T : Tx K mg) : mg "words_in_copying" = some (.ref af_words_in_copying) := let ⟨_, X, G⟩ := T.h; glo_ok X G (T.fact 7 (f := .glo "words_in_copying" af_words_in_copying) rfl)
theorem Tx.gf_translated (T : Tx K mg) : mg "translated" = some (.ref af_translated) := let ⟨_, X, G⟩ := T.h; glo_ok X G (T.fact 8 (f := .glo "translated" af_translated) rfl)
theorem Tx.gf_copied (T : Tx K mg) : mg "copied" = some (.ref af_copied) := let ⟨_, X, G⟩ := T.h; glo_ok X G (T.fact 9 (f := .glo "copied" af_copied) rfl)
theorem Tx.gf_number_value (T : Tx K mg) : mg "number_value" = some (.ref af_number_value) := let ⟨_, X, G⟩ := T.h; glo_ok X G (T.fact 10 (f := .glo "number_value" af_number_value) rfl)
theorem Tx.gf_thing_value (T : Tx K mg) : mg "thing_value" = some (.ref af_thing_value) := let ⟨_, X, G⟩ := T.h; glo_ok X G (T.fact 11 (f := .glo "thing_value" af_thing_value) rfl)
theorem Tx.gf_kind_of (T : Tx K mg) : mg "kind_of" = some (.ref af_kind_of) := let ⟨_, X, G⟩ := T.h; glo_ok X G (T.fact 12 (f := .glo "kind_of" af_kind_of) rfl)
theorem Tx.gf_words_of (T : Tx K mg) : mg "words_of" = some (.ref af_words_of) := let ⟨_, X, G⟩ := T.h; glo_ok X G (T.fact 13 (f := .glo "words_of" af_words_of) rfl)
theorem Tx.gf_look_at_hand (T : Tx K mg) : mg "look_at_hand" = some (.ref af_look_at_hand) := let ⟨_, X, G⟩ := T.h; glo_ok X G (T.fact 14 (f := .glo "look_at_hand" af_look_at_hand) rfl)
theorem Tx.gf_look_at_name (T : Tx K mg) : mg "look_at_name" = some (.ref af_look_at_name) := let ⟨_, X, G⟩ := T.h; glo_ok X G (T.fact 15 (f := .glo "look_at_name" af_look_at_name) rfl)
theorem Tx.gf_look_at_limits (T : Tx K mg) : mg "look_at_limits" = some (.ref af_look_at_limits) := let ⟨_, X, G⟩ := T.h; glo_ok X G (T.fact 16 (f := .glo "look_at_limits" af_look_at_limits) rfl)
theorem Tx.gf_thing_of (T : Tx K mg) : mg "thing_of" = some (.ref af_thing_of) := let ⟨_, X, G⟩ := T.h; glo_ok X G (T.fact 17 (f := .glo "thing_of" af_thing_of) rfl)
theorem Tx.gf_things_of (T : Tx K mg) : mg "things_of" = some (.ref af_things_of) := let ⟨_, X, G⟩ := T.h; glo_ok X G (T.fact 18 (f := .glo "things_of" af_things_of) rfl)
theorem Tx.gf_led_within (T : Tx K mg) : mg "led_within" = some (.ref af_led_within) := let ⟨_, X, G⟩ := T.h; glo_ok X G (T.fact 19 (f := .glo "led_within" af_led_within) rfl)
theorem Tx.gf_young_things (T : Tx K mg) : mg "young_things" = some (.ref af_young_things) := let ⟨_, X, G⟩ := T.h; glo_ok X G (T.fact 20 (f := .glo "young_things" af_young_things) rfl)
theorem Tx.gf_words_in_ideal (T : Tx K mg) : mg "words_in_ideal" = some (.ref af_words_in_ideal) := let ⟨_, X, G⟩ := T.h; glo_ok X G (T.fact 21 (f := .glo "words_in_ideal" af_words_in_ideal) rfl)
theorem Tx.gf_young_kept (T : Tx K mg) : mg "young_kept" = some (.ref af_young_kept) := let ⟨_, X, G⟩ := T.h; glo_ok X G (T.fact 22 (f := .glo "young_kept" af_young_kept) rfl)
theorem Tx.gf_is_book (T : Tx K mg) : mg "is_book" = some (.ref af_is_book) := let ⟨_, X, G⟩ := T.h; glo_ok X G (T.fact 23 (f := .glo "is_book" af_is_book) rfl)
theorem Tx.gf_unlike_hand (T : Tx K mg) : mg "unlike_hand" = some (.ref af_unlike_hand) := let ⟨_, X, G⟩ := T.h; glo_ok X G (T.fact 24 (f := .glo "unlike_hand" af_unlike_hand) rfl)
theorem Tx.gf_unlike_name (T : Tx K mg) : mg "unlike_name" = some (.ref af_unlike_name) := let ⟨_, X, G⟩ := T.h; glo_ok X G (T.fact 25 (f := .glo "unlike_name" af_unlike_name) rfl)
theorem Tx.gf_first_unlike (T : Tx K mg) : mg "first_unlike" = some (.ref af_first_unlike) := let ⟨_, X, G⟩ := T.h; glo_ok X G (T.fact 26 (f := .glo "first_unlike" af_first_unlike) rfl)
theorem Tx.gf_is_picture (T : Tx K mg) : mg "is_picture" = some (.ref af_is_picture) := let ⟨_, X, G⟩ := T.h; glo_ok X G (T.fact 27 (f := .glo "is_picture" af_is_picture) rfl)
theorem Tx.gf__law_cell (T : Tx K mg) : mg "_law_cell" = some (.ref af__law_cell) := let ⟨_, X, G⟩ := T.h; glo_ok X G (T.fact 28 (f := .glo "_law_cell" af__law_cell) rfl)
theorem Tx.gf__law_numbers (T : Tx K mg) : mg "_law_numbers" = some (.ref af__law_numbers) := let ⟨_, X, G⟩ := T.h; glo_ok X G (T.fact 29 (f := .glo "_law_numbers" af__law_numbers) rfl)
theorem Tx.gf__law_deed (T : Tx K mg) : mg "_law_deed" = some (.ref af__law_deed) := let ⟨_, X, G⟩ := T.h; glo_ok X G (T.fact 30 (f := .glo "_law_deed" af__law_deed) rfl)
theorem Tx.gf__law_plain (T : Tx K mg) : mg "_law_plain" = some (.ref af__law_plain) := let ⟨_, X, G⟩ := T.h; glo_ok X G (T.fact 31 (f := .glo "_law_plain" af__law_plain) rfl)
theorem Tx.gf__law_done (T : Tx K mg) : mg "_law_done" = some (.ref af__law_done) := let ⟨_, X, G⟩ := T.h; glo_ok X G (T.fact 32 (f := .glo "_law_done" af__law_done) rfl)
theorem Tx.gf__law_word_of (T : Tx K mg) : mg "_law_word_of" = some (.ref af__law_word_of) := let ⟨_, X, G⟩ := T.h; glo_ok X G (T.fact 33 (f := .glo "_law_word_of" af__law_word_of) rfl)
theorem Tx.gf__law_laid (T : Tx K mg) : mg "_law_laid" = some (.ref af__law_laid) := let ⟨_, X, G⟩ := T.h; glo_ok X G (T.fact 34 (f := .glo "_law_laid" af__law_laid) rfl)
theorem Tx.gf__law_names (T : Tx K mg) : mg "_law_names" = some (.ref af__law_names) := let ⟨_, X, G⟩ := T.h; glo_ok X G (T.fact 35 (f := .glo "_law_names" af__law_names) rfl)
theorem Tx.gf_law (T : Tx K mg) : mg "law" = some (.ref af_law) := let ⟨_, X, G⟩ := T.h; glo_ok X G (T.fact 36 (f := .glo "law" af_law) rfl)
theorem Tx.gcHeapError (T : Tx K mg) : mg "HeapError" = some (.ref cHeapError) := let ⟨_, X, G⟩ := T.h; glo_ok X G (T.fact 37 (f := .glo "HeapError" cHeapError) rfl)
theorem Tx.gcBadAddress (T : Tx K mg) : mg "BadAddress" = some (.ref cBadAddress) := let ⟨_, X, G⟩ := T.h; glo_ok X G (T.fact 38 (f := .glo "BadAddress" cBadAddress) rfl)
theorem Tx.gcBadHand (T : Tx K mg) : mg "BadHand" = some (.ref cBadHand) := let ⟨_, X, G⟩ := T.h; glo_ok X G (T.fact 39 (f := .glo "BadHand" cBadHand) rfl)
theorem Tx.gcBadField (T : Tx K mg) : mg "BadField" = some (.ref cBadField) := let ⟨_, X, G⟩ := T.h; glo_ok X G (T.fact 40 (f := .glo "BadField" cBadField) rfl)
theorem Tx.gcNoRoom (T : Tx K mg) : mg "NoRoom" = some (.ref cNoRoom) := let ⟨_, X, G⟩ := T.h; glo_ok X G (T.fact 41 (f := .glo "NoRoom" cNoRoom) rfl)
theorem Tx.gcTooManyWords (T : Tx K mg) : mg "TooManyWords" = some (.ref cTooManyWords) := let ⟨_, X, G⟩ := T.h; glo_ok X G (T.fact 42 (f := .glo "TooManyWords" cTooManyWords) rfl)
theorem Tx.gcIdealThing (T : Tx K mg) : mg "IdealThing" = some (.ref cIdealThing) := let ⟨_, X, G⟩ := T.h; glo_ok X G (T.fact 43 (f := .glo "IdealThing" cIdealThing) rfl)
theorem Tx.gcIdealHeap (T : Tx K mg) : mg "IdealHeap" = some (.ref cIdealHeap) := let ⟨_, X, G⟩ := T.h; glo_ok X G (T.fact 44 (f := .glo "IdealHeap" cIdealHeap) rfl)
theorem Tx.gcMemory (T : Tx K mg) : mg "Memory" = some (.ref cMemory) := let ⟨_, X, G⟩ := T.h; glo_ok X G (T.fact 45 (f := .glo "Memory" cMemory) rfl)
theorem Tx.gcPicture (T : Tx K mg) : mg "Picture" = some (.ref cPicture) := let ⟨_, X, G⟩ := T.h; glo_ok X G (T.fact 46 (f := .glo "Picture" cPicture) rfl)
theorem Tx.mBadHand_called (T : Tx K mg) : Meth K cBadHand "called" am_BadHand_called := meth_ok (T.fact 47 (f := .meth cBadHand "called" am_BadHand_called) rfl)
theorem Tx.mBadField_called (T : Tx K mg) : Meth K cBadField "called" am_BadField_called := meth_ok (T.fact 48 (f := .meth cBadField "called" am_BadField_called) rfl)
theorem Tx.mNoRoom_called (T : Tx K mg) : Meth K cNoRoom "called" am_NoRoom_called := meth_ok (T.fact 49 (f := .meth cNoRoom "called" am_NoRoom_called) rfl)
theorem Tx.mTooManyWords_called (T : Tx K mg) : Meth K cTooManyWords "called" am_TooManyWords_called := meth_ok (T.fact 50 (f := .meth cTooManyWords "called" am_TooManyWords_called) rfl)
theorem Tx.clIdealThing (T : Tx K mg) : Cls K cIdealThing := cls_ok (T.fact 51 (f := .cls cIdealThing) rfl)
theorem Tx.mkIdealThing (T : Tx K mg) : Mk K cIdealThing am_IdealThing_init := mkr_ok (T.fact 52 (f := .mkr cIdealThing am_IdealThing_init) rfl)
theorem Tx.nIdealThing_inside (T : Tx K mg) : NoAttr K cIdealThing "inside" := noat_ok (T.fact 53 (f := .noat cIdealThing "inside") rfl)
theorem Tx.nIdealThing_aged (T : Tx K mg) : NoAttr K cIdealThing "aged" := noat_ok (T.fact 54 (f := .noat cIdealThing "aged") rfl)
theorem Tx.nIdealThing_last_word (T : Tx K mg) : NoAttr K cIdealThing "last_word" := noat_ok (T.fact 55 (f := .noat cIdealThing "last_word") rfl)
theorem Tx.clIdealHeap (T : Tx K mg) : Cls K cIdealHeap := cls_ok (T.fact 56 (f := .cls cIdealHeap) rfl)
theorem Tx.mkIdealHeap (T : Tx K mg) : Mk K cIdealHeap am_IdealHeap_init := mkr_ok (T.fact 57 (f := .mkr cIdealHeap am_IdealHeap_init) rfl)
theorem Tx.nIdealHeap_room (T : Tx K mg) : NoAttr K cIdealHeap "room" := noat_ok (T.fact 58 (f := .noat cIdealHeap "room") rfl)
theorem Tx.nIdealHeap_limit (T : Tx K mg) : NoAttr K cIdealHeap "limit" := noat_ok (T.fact 59 (f := .noat cIdealHeap "limit") rfl)
theorem Tx.nIdealHeap_in_hands (T : Tx K mg) : NoAttr K cIdealHeap "in_hands" := noat_ok (T.fact 60 (f := .noat cIdealHeap "in_hands") rfl)
theorem Tx.nIdealHeap_naming (T : Tx K mg) : NoAttr K cIdealHeap "naming" := noat_ok (T.fact 61 (f := .noat cIdealHeap "naming") rfl)
theorem Tx.nIdealHeap_kept (T : Tx K mg) : NoAttr K cIdealHeap "kept" := noat_ok (T.fact 62 (f := .noat cIdealHeap "kept") rfl)
theorem Tx.nIdealHeap_count (T : Tx K mg) : NoAttr K cIdealHeap "count" := noat_ok (T.fact 63 (f := .noat cIdealHeap "count") rfl)
theorem Tx.nIdealHeap_going (T : Tx K mg) : NoAttr K cIdealHeap "going" := noat_ok (T.fact 64 (f := .noat cIdealHeap "going") rfl)
theorem Tx.nIdealHeap_spoken (T : Tx K mg) : NoAttr K cIdealHeap "spoken" := noat_ok (T.fact 65 (f := .noat cIdealHeap "spoken") rfl)
theorem Tx.mIdealHeap_thing_in (T : Tx K mg) : Meth K cIdealHeap "thing_in" am_IdealHeap_thing_in := meth_ok (T.fact 66 (f := .meth cIdealHeap "thing_in" am_IdealHeap_thing_in) rfl)
theorem Tx.mIdealHeap_field_due (T : Tx K mg) : Meth K cIdealHeap "field_due" am_IdealHeap_field_due := meth_ok (T.fact 67 (f := .meth cIdealHeap "field_due" am_IdealHeap_field_due) rfl)
theorem Tx.mIdealHeap_make (T : Tx K mg) : Meth K cIdealHeap "make" am_IdealHeap_make := meth_ok (T.fact 68 (f := .meth cIdealHeap "make" am_IdealHeap_make) rfl)
theorem Tx.mIdealHeap_load (T : Tx K mg) : Meth K cIdealHeap "load" am_IdealHeap_load := meth_ok (T.fact 69 (f := .meth cIdealHeap "load" am_IdealHeap_load) rfl)
theorem Tx.mIdealHeap_store (T : Tx K mg) : Meth K cIdealHeap "store" am_IdealHeap_store := meth_ok (T.fact 70 (f := .meth cIdealHeap "store" am_IdealHeap_store) rfl)
theorem Tx.mIdealHeap_copy (T : Tx K mg) : Meth K cIdealHeap "copy" am_IdealHeap_copy := meth_ok (T.fact 71 (f := .meth cIdealHeap "copy" am_IdealHeap_copy) rfl)
theorem Tx.mIdealHeap_drop (T : Tx K mg) : Meth K cIdealHeap "drop" am_IdealHeap_drop := meth_ok (T.fact 72 (f := .meth cIdealHeap "drop" am_IdealHeap_drop) rfl)
theorem Tx.mIdealHeap_number (T : Tx K mg) : Meth K cIdealHeap "number" am_IdealHeap_number := meth_ok (T.fact 73 (f := .meth cIdealHeap "number" am_IdealHeap_number) rfl)
theorem Tx.mIdealHeap_name (T : Tx K mg) : Meth K cIdealHeap "name" am_IdealHeap_name := meth_ok (T.fact 74 (f := .meth cIdealHeap "name" am_IdealHeap_name) rfl)
theorem Tx.mIdealHeap_read (T : Tx K mg) : Meth K cIdealHeap "read" am_IdealHeap_read := meth_ok (T.fact 75 (f := .meth cIdealHeap "read" am_IdealHeap_read) rfl)
theorem Tx.mIdealHeap_give_back (T : Tx K mg) : Meth K cIdealHeap "give_back" am_IdealHeap_give_back := meth_ok (T.fact 76 (f := .meth cIdealHeap "give_back" am_IdealHeap_give_back) rfl)
theorem Tx.mIdealHeap_word (T : Tx K mg) : Meth K cIdealHeap "word" am_IdealHeap_word := meth_ok (T.fact 77 (f := .meth cIdealHeap "word" am_IdealHeap_word) rfl)
theorem Tx.mIdealHeap_held (T : Tx K mg) : Meth K cIdealHeap "held" am_IdealHeap_held := meth_ok (T.fact 78 (f := .meth cIdealHeap "held" am_IdealHeap_held) rfl)
theorem Tx.mIdealHeap_settle (T : Tx K mg) : Meth K cIdealHeap "settle" am_IdealHeap_settle := meth_ok (T.fact 79 (f := .meth cIdealHeap "settle" am_IdealHeap_settle) rfl)
theorem Tx.mIdealHeap_small (T : Tx K mg) : Meth K cIdealHeap "small" am_IdealHeap_small := meth_ok (T.fact 80 (f := .meth cIdealHeap "small" am_IdealHeap_small) rfl)
theorem Tx.mIdealHeap_begin (T : Tx K mg) : Meth K cIdealHeap "begin" am_IdealHeap_begin := meth_ok (T.fact 81 (f := .meth cIdealHeap "begin" am_IdealHeap_begin) rfl)
theorem Tx.mIdealHeap_end (T : Tx K mg) : Meth K cIdealHeap "end" am_IdealHeap_end := meth_ok (T.fact 82 (f := .meth cIdealHeap "end" am_IdealHeap_end) rfl)
theorem Tx.mIdealHeap_round_on (T : Tx K mg) : Meth K cIdealHeap "round_on" am_IdealHeap_round_on := meth_ok (T.fact 83 (f := .meth cIdealHeap "round_on" am_IdealHeap_round_on) rfl)
theorem Tx.mIdealHeap_hands (T : Tx K mg) : Meth K cIdealHeap "hands" am_IdealHeap_hands := meth_ok (T.fact 84 (f := .meth cIdealHeap "hands" am_IdealHeap_hands) rfl)
theorem Tx.mIdealHeap_names (T : Tx K mg) : Meth K cIdealHeap "names" am_IdealHeap_names := meth_ok (T.fact 85 (f := .meth cIdealHeap "names" am_IdealHeap_names) rfl)
theorem Tx.mIdealHeap_things (T : Tx K mg) : Meth K cIdealHeap "things" am_IdealHeap_things := meth_ok (T.fact 86 (f := .meth cIdealHeap "things" am_IdealHeap_things) rfl)
theorem Tx.mIdealHeap_thing_due (T : Tx K mg) : Meth K cIdealHeap "thing_due" am_IdealHeap_thing_due := meth_ok (T.fact 87 (f := .meth cIdealHeap "thing_due" am_IdealHeap_thing_due) rfl)
theorem Tx.mIdealHeap_fields_of (T : Tx K mg) : Meth K cIdealHeap "fields_of" am_IdealHeap_fields_of := meth_ok (T.fact 88 (f := .meth cIdealHeap "fields_of" am_IdealHeap_fields_of) rfl)
theorem Tx.clMemory (T : Tx K mg) : Cls K cMemory := cls_ok (T.fact 89 (f := .cls cMemory) rfl)
theorem Tx.mkMemory (T : Tx K mg) : Mk K cMemory am_Memory_init := mkr_ok (T.fact 90 (f := .mkr cMemory am_Memory_init) rfl)
theorem Tx.nMemory_words (T : Tx K mg) : NoAttr K cMemory "words" := noat_ok (T.fact 91 (f := .noat cMemory "words") rfl)
theorem Tx.mMemory_size (T : Tx K mg) : Meth K cMemory "size" am_Memory_size := meth_ok (T.fact 92 (f := .meth cMemory "size" am_Memory_size) rfl)
theorem Tx.mMemory_look_at (T : Tx K mg) : Meth K cMemory "look_at" am_Memory_look_at := meth_ok (T.fact 93 (f := .meth cMemory "look_at" am_Memory_look_at) rfl)
theorem Tx.mMemory_at (T : Tx K mg) : Meth K cMemory "at" am_Memory_at := meth_ok (T.fact 94 (f := .meth cMemory "at" am_Memory_at) rfl)
theorem Tx.mMemory_put (T : Tx K mg) : Meth K cMemory "put" am_Memory_put := meth_ok (T.fact 95 (f := .meth cMemory "put" am_Memory_put) rfl)
theorem Tx.clPicture (T : Tx K mg) : Cls K cPicture := cls_ok (T.fact 96 (f := .cls cPicture) rfl)
theorem Tx.mkPicture (T : Tx K mg) : Mk K cPicture am_Picture_init := mkr_ok (T.fact 97 (f := .mkr cPicture am_Picture_init) rfl)
theorem Tx.nPicture_heap (T : Tx K mg) : NoAttr K cPicture "heap" := noat_ok (T.fact 98 (f := .noat cPicture "heap") rfl)
theorem Tx.nPicture_space (T : Tx K mg) : NoAttr K cPicture "space" := noat_ok (T.fact 99 (f := .noat cPicture "space") rfl)
theorem Tx.nPicture_pairs (T : Tx K mg) : NoAttr K cPicture "pairs" := noat_ok (T.fact 100 (f := .noat cPicture "pairs") rfl)
theorem Tx.nPicture_known (T : Tx K mg) : NoAttr K cPicture "known" := noat_ok (T.fact 101 (f := .noat cPicture "known") rfl)
theorem Tx.mPicture_goal (T : Tx K mg) : Meth K cPicture "goal" am_Picture_goal := meth_ok (T.fact 102 (f := .meth cPicture "goal" am_Picture_goal) rfl)
theorem Tx.mPicture_shows (T : Tx K mg) : Meth K cPicture "shows" am_Picture_shows := meth_ok (T.fact 103 (f := .meth cPicture "shows" am_Picture_shows) rfl)
theorem Tx.mPicture_unlike_address (T : Tx K mg) : Meth K cPicture "unlike_address" am_Picture_unlike_address := meth_ok (T.fact 104 (f := .meth cPicture "unlike_address" am_Picture_unlike_address) rfl)
theorem Tx.mPicture_unlike_head (T : Tx K mg) : Meth K cPicture "unlike_head" am_Picture_unlike_head := meth_ok (T.fact 105 (f := .meth cPicture "unlike_head" am_Picture_unlike_head) rfl)
theorem Tx.mPicture_unlike_field (T : Tx K mg) : Meth K cPicture "unlike_field" am_Picture_unlike_field := meth_ok (T.fact 106 (f := .meth cPicture "unlike_field" am_Picture_unlike_field) rfl)
theorem Tx.xBadHand (T : Tx K mg) : XcC K cBadHand := exc_ok (T.fact 107 (f := .exc cBadHand) rfl)
theorem Tx.xmBadHand (T : Tx K mg) : PySem.W.exmOne K (.ref cBadHand) (.ref cHeapError) = some true := exm_ok (T.fact 108 (f := .exm cBadHand cHeapError true) rfl)
theorem Tx.xBadField (T : Tx K mg) : XcC K cBadField := exc_ok (T.fact 109 (f := .exc cBadField) rfl)
theorem Tx.xmBadField (T : Tx K mg) : PySem.W.exmOne K (.ref cBadField) (.ref cHeapError) = some true := exm_ok (T.fact 110 (f := .exm cBadField cHeapError true) rfl)
theorem Tx.xNoRoom (T : Tx K mg) : XcC K cNoRoom := exc_ok (T.fact 111 (f := .exc cNoRoom) rfl)
theorem Tx.xmNoRoom (T : Tx K mg) : PySem.W.exmOne K (.ref cNoRoom) (.ref cHeapError) = some true := exm_ok (T.fact 112 (f := .exm cNoRoom cHeapError true) rfl)
theorem Tx.xTooManyWords (T : Tx K mg) : XcC K cTooManyWords := exc_ok (T.fact 113 (f := .exc cTooManyWords) rfl)
theorem Tx.xmTooManyWords (T : Tx K mg) : PySem.W.exmOne K (.ref cTooManyWords) (.ref cHeapError) = some true := exm_ok (T.fact 114 (f := .exm cTooManyWords cHeapError true) rfl)
theorem Tx.iFAR (T : Tx K mg) : ∃ t, mg "FAR" = some (.int (10^60) t) := let ⟨_, X, G⟩ := T.h; int_ok X G (T.fact 115 (f := .int "FAR" (10^60)) rfl)
theorem Tx.iMOST_FIELDS (T : Tx K mg) : ∃ t, mg "MOST_FIELDS" = some (.int (6) t) := let ⟨_, X, G⟩ := T.h; int_ok X G (T.fact 116 (f := .int "MOST_FIELDS" (6)) rfl)
theorem Tx.iHANDS (T : Tx K mg) : ∃ t, mg "HANDS" = some (.int (8) t) := let ⟨_, X, G⟩ := T.h; int_ok X G (T.fact 117 (f := .int "HANDS" (8)) rfl)
theorem Tx.iNAMES (T : Tx K mg) : ∃ t, mg "NAMES" = some (.int (8) t) := let ⟨_, X, G⟩ := T.h; int_ok X G (T.fact 118 (f := .int "NAMES" (8)) rfl)
theorem Tx.iLEAST_ROOM (T : Tx K mg) : ∃ t, mg "LEAST_ROOM" = some (.int (7) t) := let ⟨_, X, G⟩ := T.h; int_ok X G (T.fact 119 (f := .int "LEAST_ROOM" (7)) rfl)
theorem Tx.iMOST_YOUNG (T : Tx K mg) : ∃ t, mg "MOST_YOUNG" = some (.int (64) t) := let ⟨_, X, G⟩ := T.h; int_ok X G (T.fact 120 (f := .int "MOST_YOUNG" (64)) rfl)
theorem Tx.iMOST_LIMIT (T : Tx K mg) : ∃ t, mg "MOST_LIMIT" = some (.int (400) t) := let ⟨_, X, G⟩ := T.h; int_ok X G (T.fact 121 (f := .int "MOST_LIMIT" (400)) rfl)
theorem Tx.iMOST_WORDS (T : Tx K mg) : ∃ t, mg "MOST_WORDS" = some (.int (12) t) := let ⟨_, X, G⟩ := T.h; int_ok X G (T.fact 122 (f := .int "MOST_WORDS" (12)) rfl)
theorem Tx.zlen (T : Tx K mg) : mg "len" = none := let ⟨_, X, G⟩ := T.h; free_ok X G (T.fact 123 (f := .free "len") rfl)
theorem Tx.zrange (T : Tx K mg) : mg "range" = none := let ⟨_, X, G⟩ := T.h; free_ok X G (T.fact 124 (f := .free "range") rfl)
theorem Tx.zsum (T : Tx K mg) : mg "sum" = none := let ⟨_, X, G⟩ := T.h; free_ok X G (T.fact 125 (f := .free "sum") rfl)
theorem Tx.zsorted (T : Tx K mg) : mg "sorted" = none := let ⟨_, X, G⟩ := T.h; free_ok X G (T.fact 126 (f := .free "sorted") rfl)
theorem Tx.zlist (T : Tx K mg) : mg "list" = none := let ⟨_, X, G⟩ := T.h; free_ok X G (T.fact 127 (f := .free "list") rfl)
theorem Tx.zdict (T : Tx K mg) : mg "dict" = none := let ⟨_, X, G⟩ := T.h; free_ok X G (T.fact 128 (f := .free "dict") rfl)
theorem Tx.zenumerate (T : Tx K mg) : mg "enumerate" = none := let ⟨_, X, G⟩ := T.h; free_ok X G (T.fact 129 (f := .free "enumerate") rfl)
theorem Tx.zzip (T : Tx K mg) : mg "zip" = none := let ⟨_, X, G⟩ := T.h; free_ok X G (T.fact 130 (f := .free "zip") rfl)
theorem Tx.adf_lay (T : Tx K mg) : He.fAd K ("lay", none) = af_lay := adr_ok (T.fact 131 (f := .adr ("lay", none) af_lay) rfl)
theorem Tx.adf_is_word (T : Tx K mg) : He.fAd K ("is_word", none) = af_is_word := adr_ok (T.fact 132 (f := .adr ("is_word", none) af_is_word) rfl)
theorem Tx.adf_head_at (T : Tx K mg) : He.fAd K ("head_at", none) = af_head_at := adr_ok (T.fact 133 (f := .adr ("head_at", none) af_head_at) rfl)
theorem Tx.adf_thing_at (T : Tx K mg) : He.fAd K ("thing_at", none) = af_thing_at := adr_ok (T.fact 134 (f := .adr ("thing_at", none) af_thing_at) rfl)
theorem Tx.adf_resolved (T : Tx K mg) : He.fAd K ("resolved", none) = af_resolved := adr_ok (T.fact 135 (f := .adr ("resolved", none) af_resolved) rfl)
theorem Tx.adf_address_in_word (T : Tx K mg) : He.fAd K ("address_in_word", none) = af_address_in_word := adr_ok (T.fact 136 (f := .adr ("address_in_word", none) af_address_in_word) rfl)
theorem Tx.adf_met_from (T : Tx K mg) : He.fAd K ("met_from", none) = af_met_from := adr_ok (T.fact 137 (f := .adr ("met_from", none) af_met_from) rfl)
theorem Tx.adf_words_in_copying (T : Tx K mg) : He.fAd K ("words_in_copying", none) = af_words_in_copying := adr_ok (T.fact 138 (f := .adr ("words_in_copying", none) af_words_in_copying) rfl)
theorem Tx.adf_translated (T : Tx K mg) : He.fAd K ("translated", none) = af_translated := adr_ok (T.fact 139 (f := .adr ("translated", none) af_translated) rfl)
theorem Tx.adf_copied (T : Tx K mg) : He.fAd K ("copied", none) = af_copied := adr_ok (T.fact 140 (f := .adr ("copied", none) af_copied) rfl)
theorem Tx.adf_number_value (T : Tx K mg) : He.fAd K ("number_value", none) = af_number_value := adr_ok (T.fact 141 (f := .adr ("number_value", none) af_number_value) rfl)
theorem Tx.adf_thing_value (T : Tx K mg) : He.fAd K ("thing_value", none) = af_thing_value := adr_ok (T.fact 142 (f := .adr ("thing_value", none) af_thing_value) rfl)
theorem Tx.adf_kind_of (T : Tx K mg) : He.fAd K ("kind_of", none) = af_kind_of := adr_ok (T.fact 143 (f := .adr ("kind_of", none) af_kind_of) rfl)
theorem Tx.adf_words_of (T : Tx K mg) : He.fAd K ("words_of", none) = af_words_of := adr_ok (T.fact 144 (f := .adr ("words_of", none) af_words_of) rfl)
theorem Tx.adf_look_at_hand (T : Tx K mg) : He.fAd K ("look_at_hand", none) = af_look_at_hand := adr_ok (T.fact 145 (f := .adr ("look_at_hand", none) af_look_at_hand) rfl)
theorem Tx.adf_look_at_name (T : Tx K mg) : He.fAd K ("look_at_name", none) = af_look_at_name := adr_ok (T.fact 146 (f := .adr ("look_at_name", none) af_look_at_name) rfl)
theorem Tx.adf_look_at_limits (T : Tx K mg) : He.fAd K ("look_at_limits", none) = af_look_at_limits := adr_ok (T.fact 147 (f := .adr ("look_at_limits", none) af_look_at_limits) rfl)
theorem Tx.adf_thing_of (T : Tx K mg) : He.fAd K ("thing_of", none) = af_thing_of := adr_ok (T.fact 148 (f := .adr ("thing_of", none) af_thing_of) rfl)
theorem Tx.adf_things_of (T : Tx K mg) : He.fAd K ("things_of", none) = af_things_of := adr_ok (T.fact 149 (f := .adr ("things_of", none) af_things_of) rfl)
theorem Tx.adf_led_within (T : Tx K mg) : He.fAd K ("led_within", none) = af_led_within := adr_ok (T.fact 150 (f := .adr ("led_within", none) af_led_within) rfl)
theorem Tx.adf_young_things (T : Tx K mg) : He.fAd K ("young_things", none) = af_young_things := adr_ok (T.fact 151 (f := .adr ("young_things", none) af_young_things) rfl)
theorem Tx.adf_words_in_ideal (T : Tx K mg) : He.fAd K ("words_in_ideal", none) = af_words_in_ideal := adr_ok (T.fact 152 (f := .adr ("words_in_ideal", none) af_words_in_ideal) rfl)
theorem Tx.adf_young_kept (T : Tx K mg) : He.fAd K ("young_kept", none) = af_young_kept := adr_ok (T.fact 153 (f := .adr ("young_kept", none) af_young_kept) rfl)
theorem Tx.adf_is_book (T : Tx K mg) : He.fAd K ("is_book", none) = af_is_book := adr_ok (T.fact 154 (f := .adr ("is_book", none) af_is_book) rfl)
theorem Tx.adf_unlike_hand (T : Tx K mg) : He.fAd K ("unlike_hand", none) = af_unlike_hand := adr_ok (T.fact 155 (f := .adr ("unlike_hand", none) af_unlike_hand) rfl)
theorem Tx.adf_unlike_name (T : Tx K mg) : He.fAd K ("unlike_name", none) = af_unlike_name := adr_ok (T.fact 156 (f := .adr ("unlike_name", none) af_unlike_name) rfl)
theorem Tx.adf_first_unlike (T : Tx K mg) : He.fAd K ("first_unlike", none) = af_first_unlike := adr_ok (T.fact 157 (f := .adr ("first_unlike", none) af_first_unlike) rfl)
theorem Tx.adf_is_picture (T : Tx K mg) : He.fAd K ("is_picture", none) = af_is_picture := adr_ok (T.fact 158 (f := .adr ("is_picture", none) af_is_picture) rfl)
theorem Tx.adf__law_cell (T : Tx K mg) : He.fAd K ("_law_cell", none) = af__law_cell := adr_ok (T.fact 159 (f := .adr ("_law_cell", none) af__law_cell) rfl)
theorem Tx.adf__law_numbers (T : Tx K mg) : He.fAd K ("_law_numbers", none) = af__law_numbers := adr_ok (T.fact 160 (f := .adr ("_law_numbers", none) af__law_numbers) rfl)
theorem Tx.adf__law_deed (T : Tx K mg) : He.fAd K ("_law_deed", none) = af__law_deed := adr_ok (T.fact 161 (f := .adr ("_law_deed", none) af__law_deed) rfl)
theorem Tx.adf__law_plain (T : Tx K mg) : He.fAd K ("_law_plain", none) = af__law_plain := adr_ok (T.fact 162 (f := .adr ("_law_plain", none) af__law_plain) rfl)
theorem Tx.adf__law_done (T : Tx K mg) : He.fAd K ("_law_done", none) = af__law_done := adr_ok (T.fact 163 (f := .adr ("_law_done", none) af__law_done) rfl)
theorem Tx.adf__law_word_of (T : Tx K mg) : He.fAd K ("_law_word_of", none) = af__law_word_of := adr_ok (T.fact 164 (f := .adr ("_law_word_of", none) af__law_word_of) rfl)
theorem Tx.adf__law_laid (T : Tx K mg) : He.fAd K ("_law_laid", none) = af__law_laid := adr_ok (T.fact 165 (f := .adr ("_law_laid", none) af__law_laid) rfl)
theorem Tx.adf__law_names (T : Tx K mg) : He.fAd K ("_law_names", none) = af__law_names := adr_ok (T.fact 166 (f := .adr ("_law_names", none) af__law_names) rfl)
theorem Tx.adf_law (T : Tx K mg) : He.fAd K ("law", none) = af_law := adr_ok (T.fact 167 (f := .adr ("law", none) af_law) rfl)
theorem Tx.adm_BadField_called (T : Tx K mg) : He.fAd K ("BadField", some "called") = am_BadField_called := adr_ok (T.fact 168 (f := .adr ("BadField", some "called") am_BadField_called) rfl)
theorem Tx.adm_BadHand_called (T : Tx K mg) : He.fAd K ("BadHand", some "called") = am_BadHand_called := adr_ok (T.fact 169 (f := .adr ("BadHand", some "called") am_BadHand_called) rfl)
theorem Tx.adm_NoRoom_called (T : Tx K mg) : He.fAd K ("NoRoom", some "called") = am_NoRoom_called := adr_ok (T.fact 170 (f := .adr ("NoRoom", some "called") am_NoRoom_called) rfl)
theorem Tx.adm_TooManyWords_called (T : Tx K mg) : He.fAd K ("TooManyWords", some "called") = am_TooManyWords_called := adr_ok (T.fact 171 (f := .adr ("TooManyWords", some "called") am_TooManyWords_called) rfl)
theorem Tx.adm_IdealThing_init (T : Tx K mg) : He.fAd K ("IdealThing", some "__init__") = am_IdealThing_init := adr_ok (T.fact 172 (f := .adr ("IdealThing", some "__init__") am_IdealThing_init) rfl)
theorem Tx.adm_IdealHeap_init (T : Tx K mg) : He.fAd K ("IdealHeap", some "__init__") = am_IdealHeap_init := adr_ok (T.fact 173 (f := .adr ("IdealHeap", some "__init__") am_IdealHeap_init) rfl)
theorem Tx.adm_IdealHeap_thing_in (T : Tx K mg) : He.fAd K ("IdealHeap", some "thing_in") = am_IdealHeap_thing_in := adr_ok (T.fact 174 (f := .adr ("IdealHeap", some "thing_in") am_IdealHeap_thing_in) rfl)
theorem Tx.adm_IdealHeap_field_due (T : Tx K mg) : He.fAd K ("IdealHeap", some "field_due") = am_IdealHeap_field_due := adr_ok (T.fact 175 (f := .adr ("IdealHeap", some "field_due") am_IdealHeap_field_due) rfl)
theorem Tx.adm_IdealHeap_make (T : Tx K mg) : He.fAd K ("IdealHeap", some "make") = am_IdealHeap_make := adr_ok (T.fact 176 (f := .adr ("IdealHeap", some "make") am_IdealHeap_make) rfl)
theorem Tx.adm_IdealHeap_load (T : Tx K mg) : He.fAd K ("IdealHeap", some "load") = am_IdealHeap_load := adr_ok (T.fact 177 (f := .adr ("IdealHeap", some "load") am_IdealHeap_load) rfl)
theorem Tx.adm_IdealHeap_store (T : Tx K mg) : He.fAd K ("IdealHeap", some "store") = am_IdealHeap_store := adr_ok (T.fact 178 (f := .adr ("IdealHeap", some "store") am_IdealHeap_store) rfl)
theorem Tx.adm_IdealHeap_copy (T : Tx K mg) : He.fAd K ("IdealHeap", some "copy") = am_IdealHeap_copy := adr_ok (T.fact 179 (f := .adr ("IdealHeap", some "copy") am_IdealHeap_copy) rfl)
theorem Tx.adm_IdealHeap_drop (T : Tx K mg) : He.fAd K ("IdealHeap", some "drop") = am_IdealHeap_drop := adr_ok (T.fact 180 (f := .adr ("IdealHeap", some "drop") am_IdealHeap_drop) rfl)
theorem Tx.adm_IdealHeap_number (T : Tx K mg) : He.fAd K ("IdealHeap", some "number") = am_IdealHeap_number := adr_ok (T.fact 181 (f := .adr ("IdealHeap", some "number") am_IdealHeap_number) rfl)
theorem Tx.adm_IdealHeap_name (T : Tx K mg) : He.fAd K ("IdealHeap", some "name") = am_IdealHeap_name := adr_ok (T.fact 182 (f := .adr ("IdealHeap", some "name") am_IdealHeap_name) rfl)
theorem Tx.adm_IdealHeap_read (T : Tx K mg) : He.fAd K ("IdealHeap", some "read") = am_IdealHeap_read := adr_ok (T.fact 183 (f := .adr ("IdealHeap", some "read") am_IdealHeap_read) rfl)
theorem Tx.adm_IdealHeap_give_back (T : Tx K mg) : He.fAd K ("IdealHeap", some "give_back") = am_IdealHeap_give_back := adr_ok (T.fact 184 (f := .adr ("IdealHeap", some "give_back") am_IdealHeap_give_back) rfl)
theorem Tx.adm_IdealHeap_word (T : Tx K mg) : He.fAd K ("IdealHeap", some "word") = am_IdealHeap_word := adr_ok (T.fact 185 (f := .adr ("IdealHeap", some "word") am_IdealHeap_word) rfl)
theorem Tx.adm_IdealHeap_held (T : Tx K mg) : He.fAd K ("IdealHeap", some "held") = am_IdealHeap_held := adr_ok (T.fact 186 (f := .adr ("IdealHeap", some "held") am_IdealHeap_held) rfl)
theorem Tx.adm_IdealHeap_settle (T : Tx K mg) : He.fAd K ("IdealHeap", some "settle") = am_IdealHeap_settle := adr_ok (T.fact 187 (f := .adr ("IdealHeap", some "settle") am_IdealHeap_settle) rfl)
theorem Tx.adm_IdealHeap_small (T : Tx K mg) : He.fAd K ("IdealHeap", some "small") = am_IdealHeap_small := adr_ok (T.fact 188 (f := .adr ("IdealHeap", some "small") am_IdealHeap_small) rfl)
theorem Tx.adm_IdealHeap_begin (T : Tx K mg) : He.fAd K ("IdealHeap", some "begin") = am_IdealHeap_begin := adr_ok (T.fact 189 (f := .adr ("IdealHeap", some "begin") am_IdealHeap_begin) rfl)
theorem Tx.adm_IdealHeap_end (T : Tx K mg) : He.fAd K ("IdealHeap", some "end") = am_IdealHeap_end := adr_ok (T.fact 190 (f := .adr ("IdealHeap", some "end") am_IdealHeap_end) rfl)
theorem Tx.adm_IdealHeap_round_on (T : Tx K mg) : He.fAd K ("IdealHeap", some "round_on") = am_IdealHeap_round_on := adr_ok (T.fact 191 (f := .adr ("IdealHeap", some "round_on") am_IdealHeap_round_on) rfl)
theorem Tx.adm_IdealHeap_hands (T : Tx K mg) : He.fAd K ("IdealHeap", some "hands") = am_IdealHeap_hands := adr_ok (T.fact 192 (f := .adr ("IdealHeap", some "hands") am_IdealHeap_hands) rfl)
theorem Tx.adm_IdealHeap_names (T : Tx K mg) : He.fAd K ("IdealHeap", some "names") = am_IdealHeap_names := adr_ok (T.fact 193 (f := .adr ("IdealHeap", some "names") am_IdealHeap_names) rfl)
theorem Tx.adm_IdealHeap_things (T : Tx K mg) : He.fAd K ("IdealHeap", some "things") = am_IdealHeap_things := adr_ok (T.fact 194 (f := .adr ("IdealHeap", some "things") am_IdealHeap_things) rfl)
theorem Tx.adm_IdealHeap_thing_due (T : Tx K mg) : He.fAd K ("IdealHeap", some "thing_due") = am_IdealHeap_thing_due := adr_ok (T.fact 195 (f := .adr ("IdealHeap", some "thing_due") am_IdealHeap_thing_due) rfl)
theorem Tx.adm_IdealHeap_fields_of (T : Tx K mg) : He.fAd K ("IdealHeap", some "fields_of") = am_IdealHeap_fields_of := adr_ok (T.fact 196 (f := .adr ("IdealHeap", some "fields_of") am_IdealHeap_fields_of) rfl)
theorem Tx.adm_Memory_init (T : Tx K mg) : He.fAd K ("Memory", some "__init__") = am_Memory_init := adr_ok (T.fact 197 (f := .adr ("Memory", some "__init__") am_Memory_init) rfl)
theorem Tx.adm_Memory_size (T : Tx K mg) : He.fAd K ("Memory", some "size") = am_Memory_size := adr_ok (T.fact 198 (f := .adr ("Memory", some "size") am_Memory_size) rfl)
theorem Tx.adm_Memory_look_at (T : Tx K mg) : He.fAd K ("Memory", some "look_at") = am_Memory_look_at := adr_ok (T.fact 199 (f := .adr ("Memory", some "look_at") am_Memory_look_at) rfl)
theorem Tx.adm_Memory_at (T : Tx K mg) : He.fAd K ("Memory", some "at") = am_Memory_at := adr_ok (T.fact 200 (f := .adr ("Memory", some "at") am_Memory_at) rfl)
theorem Tx.adm_Memory_put (T : Tx K mg) : He.fAd K ("Memory", some "put") = am_Memory_put := adr_ok (T.fact 201 (f := .adr ("Memory", some "put") am_Memory_put) rfl)
theorem Tx.adm_Picture_init (T : Tx K mg) : He.fAd K ("Picture", some "__init__") = am_Picture_init := adr_ok (T.fact 202 (f := .adr ("Picture", some "__init__") am_Picture_init) rfl)
theorem Tx.adm_Picture_goal (T : Tx K mg) : He.fAd K ("Picture", some "goal") = am_Picture_goal := adr_ok (T.fact 203 (f := .adr ("Picture", some "goal") am_Picture_goal) rfl)
theorem Tx.adm_Picture_shows (T : Tx K mg) : He.fAd K ("Picture", some "shows") = am_Picture_shows := adr_ok (T.fact 204 (f := .adr ("Picture", some "shows") am_Picture_shows) rfl)
theorem Tx.adm_Picture_unlike_address (T : Tx K mg) : He.fAd K ("Picture", some "unlike_address") = am_Picture_unlike_address := adr_ok (T.fact 205 (f := .adr ("Picture", some "unlike_address") am_Picture_unlike_address) rfl)
theorem Tx.adm_Picture_unlike_head (T : Tx K mg) : He.fAd K ("Picture", some "unlike_head") = am_Picture_unlike_head := adr_ok (T.fact 206 (f := .adr ("Picture", some "unlike_head") am_Picture_unlike_head) rfl)
theorem Tx.adm_Picture_unlike_field (T : Tx K mg) : He.fAd K ("Picture", some "unlike_field") = am_Picture_unlike_field := adr_ok (T.fact 207 (f := .adr ("Picture", some "unlike_field") am_Picture_unlike_field) rfl)
theorem Tx.D_f_lay (T : Tx K mg) : ∃ fd, FunD K "lay" "lay" (defArgs sf_lay) (defBody sf_lay) (defScope sf_lay) [] [] af_lay fd := T.adf_lay ▸ T.def_ 0 (d := df_lay) rfl
theorem Tx.D_f_is_word (T : Tx K mg) : ∃ fd, FunD K "is_word" "is_word" (defArgs sf_is_word) (defBody sf_is_word) (defScope sf_is_word) [] [] af_is_word fd := T.adf_is_word ▸ T.def_ 1 (d := df_is_word) rfl
theorem Tx.D_f_head_at (T : Tx K mg) : ∃ fd, FunD K "head_at" "head_at" (defArgs sf_head_at) (defBody sf_head_at) (defScope sf_head_at) [] [] af_head_at fd := T.adf_head_at ▸ T.def_ 2 (d := df_head_at) rfl
theorem Tx.D_f_thing_at (T : Tx K mg) : ∃ fd, FunD K "thing_at" "thing_at" (defArgs sf_thing_at) (defBody sf_thing_at) (defScope sf_thing_at) [] [] af_thing_at fd := T.adf_thing_at ▸ T.def_ 3 (d := df_thing_at) rfl
theorem Tx.D_f_resolved (T : Tx K mg) : ∃ fd, FunD K "resolved" "resolved" (defArgs sf_resolved) (defBody sf_resolved) (defScope sf_resolved) [] [] af_resolved fd := T.adf_resolved ▸ T.def_ 4 (d := df_resolved) rfl
theorem Tx.D_f_address_in_word (T : Tx K mg) : ∃ fd, FunD K "address_in_word" "address_in_word" (defArgs sf_address_in_word) (defBody sf_address_in_word) (defScope sf_address_in_word) [] [] af_address_in_word fd := T.adf_address_in_word ▸ T.def_ 5 (d := df_address_in_word) rfl
theorem Tx.D_f_met_from (T : Tx K mg) : ∃ fd, FunD K "met_from" "met_from" (defArgs sf_met_from) (defBody sf_met_from) (defScope sf_met_from) [] [] af_met_from fd := T.adf_met_from ▸ T.def_ 6 (d := df_met_from) rfl
theorem Tx.D_f_words_in_copying (T : Tx K mg) : ∃ fd, FunD K "words_in" "words_in" (defArgs sf_words_in_copying) (defBody sf_words_in_copying) (defScope sf_words_in_copying) [] [] af_words_in_copying fd := T.adf_words_in_copying ▸ T.def_ 7 (d := df_words_in_copying) rfl
theorem Tx.D_f_translated (T : Tx K mg) : ∃ fd, FunD K "translated" "translated" (defArgs sf_translated) (defBody sf_translated) (defScope sf_translated) [] [] af_translated fd := T.adf_translated ▸ T.def_ 8 (d := df_translated) rfl
theorem Tx.D_f_copied (T : Tx K mg) : ∃ fd, FunD K "copied" "copied" (defArgs sf_copied) (defBody sf_copied) (defScope sf_copied) [] [] af_copied fd := T.adf_copied ▸ T.def_ 9 (d := df_copied) rfl
theorem Tx.D_f_number_value (T : Tx K mg) : ∃ fd, FunD K "number_value" "number_value" (defArgs sf_number_value) (defBody sf_number_value) (defScope sf_number_value) [] [] af_number_value fd := T.adf_number_value ▸ T.def_ 10 (d := df_number_value) rfl
theorem Tx.D_f_thing_value (T : Tx K mg) : ∃ fd, FunD K "thing_value" "thing_value" (defArgs sf_thing_value) (defBody sf_thing_value) (defScope sf_thing_value) [] [] af_thing_value fd := T.adf_thing_value ▸ T.def_ 11 (d := df_thing_value) rfl
theorem Tx.D_f_kind_of (T : Tx K mg) : ∃ fd, FunD K "kind_of" "kind_of" (defArgs sf_kind_of) (defBody sf_kind_of) (defScope sf_kind_of) [] [] af_kind_of fd := T.adf_kind_of ▸ T.def_ 12 (d := df_kind_of) rfl
theorem Tx.D_f_words_of (T : Tx K mg) : ∃ fd, FunD K "words_of" "words_of" (defArgs sf_words_of) (defBody sf_words_of) (defScope sf_words_of) [] [] af_words_of fd := T.adf_words_of ▸ T.def_ 13 (d := df_words_of) rfl
theorem Tx.D_f_look_at_hand (T : Tx K mg) : ∃ fd, FunD K "look_at_hand" "look_at_hand" (defArgs sf_look_at_hand) (defBody sf_look_at_hand) (defScope sf_look_at_hand) [] [] af_look_at_hand fd := T.adf_look_at_hand ▸ T.def_ 14 (d := df_look_at_hand) rfl
theorem Tx.D_f_look_at_name (T : Tx K mg) : ∃ fd, FunD K "look_at_name" "look_at_name" (defArgs sf_look_at_name) (defBody sf_look_at_name) (defScope sf_look_at_name) [] [] af_look_at_name fd := T.adf_look_at_name ▸ T.def_ 15 (d := df_look_at_name) rfl
theorem Tx.D_f_look_at_limits (T : Tx K mg) : ∃ fd, FunD K "look_at_limits" "look_at_limits" (defArgs sf_look_at_limits) (defBody sf_look_at_limits) (defScope sf_look_at_limits) [] [] af_look_at_limits fd := T.adf_look_at_limits ▸ T.def_ 16 (d := df_look_at_limits) rfl
theorem Tx.D_f_thing_of (T : Tx K mg) : ∃ fd, FunD K "thing_of" "thing_of" (defArgs sf_thing_of) (defBody sf_thing_of) (defScope sf_thing_of) [] [] af_thing_of fd := T.adf_thing_of ▸ T.def_ 17 (d := df_thing_of) rfl
theorem Tx.D_f_things_of (T : Tx K mg) : ∃ fd, FunD K "things_of" "things_of" (defArgs sf_things_of) (defBody sf_things_of) (defScope sf_things_of) [] [] af_things_of fd := T.adf_things_of ▸ T.def_ 18 (d := df_things_of) rfl
theorem Tx.D_f_led_within (T : Tx K mg) : ∃ fd, FunD K "led_within" "led_within" (defArgs sf_led_within) (defBody sf_led_within) (defScope sf_led_within) [] [] af_led_within fd := T.adf_led_within ▸ T.def_ 19 (d := df_led_within) rfl
theorem Tx.D_f_young_things (T : Tx K mg) : ∃ fd, FunD K "young_things" "young_things" (defArgs sf_young_things) (defBody sf_young_things) (defScope sf_young_things) [] [] af_young_things fd := T.adf_young_things ▸ T.def_ 20 (d := df_young_things) rfl
theorem Tx.D_f_words_in_ideal (T : Tx K mg) : ∃ fd, FunD K "words_in" "words_in" (defArgs sf_words_in_ideal) (defBody sf_words_in_ideal) (defScope sf_words_in_ideal) [] [] af_words_in_ideal fd := T.adf_words_in_ideal ▸ T.def_ 21 (d := df_words_in_ideal) rfl
theorem Tx.D_f_young_kept (T : Tx K mg) : ∃ fd, FunD K "young_kept" "young_kept" (defArgs sf_young_kept) (defBody sf_young_kept) (defScope sf_young_kept) [] [] af_young_kept fd := T.adf_young_kept ▸ T.def_ 22 (d := df_young_kept) rfl
theorem Tx.D_f_is_book (T : Tx K mg) : ∃ fd, FunD K "is_book" "is_book" (defArgs sf_is_book) (defBody sf_is_book) (defScope sf_is_book) [] [] af_is_book fd := T.adf_is_book ▸ T.def_ 23 (d := df_is_book) rfl
theorem Tx.D_f_unlike_hand (T : Tx K mg) : ∃ fd, FunD K "unlike_hand" "unlike_hand" (defArgs sf_unlike_hand) (defBody sf_unlike_hand) (defScope sf_unlike_hand) [] [] af_unlike_hand fd := T.adf_unlike_hand ▸ T.def_ 24 (d := df_unlike_hand) rfl
theorem Tx.D_f_unlike_name (T : Tx K mg) : ∃ fd, FunD K "unlike_name" "unlike_name" (defArgs sf_unlike_name) (defBody sf_unlike_name) (defScope sf_unlike_name) [] [] af_unlike_name fd := T.adf_unlike_name ▸ T.def_ 25 (d := df_unlike_name) rfl
theorem Tx.D_f_first_unlike (T : Tx K mg) : ∃ fd, FunD K "first_unlike" "first_unlike" (defArgs sf_first_unlike) (defBody sf_first_unlike) (defScope sf_first_unlike) [] [] af_first_unlike fd := T.adf_first_unlike ▸ T.def_ 26 (d := df_first_unlike) rfl
theorem Tx.D_f_is_picture (T : Tx K mg) : ∃ fd, FunD K "is_picture" "is_picture" (defArgs sf_is_picture) (defBody sf_is_picture) (defScope sf_is_picture) [] [] af_is_picture fd := T.adf_is_picture ▸ T.def_ 27 (d := df_is_picture) rfl
theorem Tx.D_f__law_cell (T : Tx K mg) : ∃ fd, FunD K "_law_cell" "_law_cell" (defArgs sf__law_cell) (defBody sf__law_cell) (defScope sf__law_cell) [] [] af__law_cell fd := T.adf__law_cell ▸ T.def_ 28 (d := df__law_cell) rfl
theorem Tx.D_f__law_numbers (T : Tx K mg) : ∃ fd, FunD K "_law_numbers" "_law_numbers" (defArgs sf__law_numbers) (defBody sf__law_numbers) (defScope sf__law_numbers) [] [] af__law_numbers fd := T.adf__law_numbers ▸ T.def_ 29 (d := df__law_numbers) rfl
theorem Tx.D_f__law_deed (T : Tx K mg) : ∃ fd, FunD K "_law_deed" "_law_deed" (defArgs sf__law_deed) (defBody sf__law_deed) (defScope sf__law_deed) [] [] af__law_deed fd := T.adf__law_deed ▸ T.def_ 30 (d := df__law_deed) rfl
theorem Tx.D_f__law_plain (T : Tx K mg) : ∃ fd, FunD K "_law_plain" "_law_plain" (defArgs sf__law_plain) (defBody sf__law_plain) (defScope sf__law_plain) [] [] af__law_plain fd := T.adf__law_plain ▸ T.def_ 31 (d := df__law_plain) rfl
theorem Tx.D_f__law_done (T : Tx K mg) : ∃ fd, FunD K "_law_done" "_law_done" (defArgs sf__law_done) (defBody sf__law_done) (defScope sf__law_done) [] [] af__law_done fd := T.adf__law_done ▸ T.def_ 32 (d := df__law_done) rfl
theorem Tx.D_f__law_word_of (T : Tx K mg) : ∃ fd, FunD K "_law_word_of" "_law_word_of" (defArgs sf__law_word_of) (defBody sf__law_word_of) (defScope sf__law_word_of) [] [] af__law_word_of fd := T.adf__law_word_of ▸ T.def_ 33 (d := df__law_word_of) rfl
theorem Tx.D_f__law_laid (T : Tx K mg) : ∃ fd, FunD K "_law_laid" "_law_laid" (defArgs sf__law_laid) (defBody sf__law_laid) (defScope sf__law_laid) [] [] af__law_laid fd := T.adf__law_laid ▸ T.def_ 34 (d := df__law_laid) rfl
theorem Tx.D_f__law_names (T : Tx K mg) : ∃ fd, FunD K "_law_names" "_law_names" (defArgs sf__law_names) (defBody sf__law_names) (defScope sf__law_names) [] [] af__law_names fd := T.adf__law_names ▸ T.def_ 35 (d := df__law_names) rfl
theorem Tx.D_f_law (T : Tx K mg) : ∃ fd, FunD K "law" "law" (defArgs sf_law) (defBody sf_law) (defScope sf_law) [] [] af_law fd := T.adf_law ▸ T.def_ 36 (d := df_law) rfl
theorem Tx.D_m_BadField_called (T : Tx K mg) : ∃ fd, FunD K "called" "BadField.called" (defArgs sm_BadField_called) (defBody sm_BadField_called) (defScope sm_BadField_called) [] [] am_BadField_called fd := T.adm_BadField_called ▸ T.def_ 37 (d := dm_BadField_called) rfl
theorem Tx.D_m_BadHand_called (T : Tx K mg) : ∃ fd, FunD K "called" "BadHand.called" (defArgs sm_BadHand_called) (defBody sm_BadHand_called) (defScope sm_BadHand_called) [] [] am_BadHand_called fd := T.adm_BadHand_called ▸ T.def_ 38 (d := dm_BadHand_called) rfl
theorem Tx.D_m_NoRoom_called (T : Tx K mg) : ∃ fd, FunD K "called" "NoRoom.called" (defArgs sm_NoRoom_called) (defBody sm_NoRoom_called) (defScope sm_NoRoom_called) [] [] am_NoRoom_called fd := T.adm_NoRoom_called ▸ T.def_ 39 (d := dm_NoRoom_called) rfl
theorem Tx.D_m_TooManyWords_called (T : Tx K mg) : ∃ fd, FunD K "called" "TooManyWords.called" (defArgs sm_TooManyWords_called) (defBody sm_TooManyWords_called) (defScope sm_TooManyWords_called) [] [] am_TooManyWords_called fd := T.adm_TooManyWords_called ▸ T.def_ 40 (d := dm_TooManyWords_called) rfl
theorem Tx.D_m_IdealThing_init (T : Tx K mg) : ∃ fd, FunD K "__init__" "IdealThing.__init__" (defArgs sm_IdealThing_init) (defBody sm_IdealThing_init) (defScope sm_IdealThing_init) [] [] am_IdealThing_init fd := T.adm_IdealThing_init ▸ T.def_ 41 (d := dm_IdealThing_init) rfl
theorem Tx.D_m_IdealHeap_init (T : Tx K mg) : ∃ fd, FunD K "__init__" "IdealHeap.__init__" (defArgs sm_IdealHeap_init) (defBody sm_IdealHeap_init) (defScope sm_IdealHeap_init) [] [] am_IdealHeap_init fd := T.adm_IdealHeap_init ▸ T.def_ 42 (d := dm_IdealHeap_init) rfl
theorem Tx.D_m_IdealHeap_thing_in (T : Tx K mg) : ∃ fd, FunD K "thing_in" "IdealHeap.thing_in" (defArgs sm_IdealHeap_thing_in) (defBody sm_IdealHeap_thing_in) (defScope sm_IdealHeap_thing_in) [] [] am_IdealHeap_thing_in fd := T.adm_IdealHeap_thing_in ▸ T.def_ 43 (d := dm_IdealHeap_thing_in) rfl
theorem Tx.D_m_IdealHeap_field_due (T : Tx K mg) : ∃ fd, FunD K "field_due" "IdealHeap.field_due" (defArgs sm_IdealHeap_field_due) (defBody sm_IdealHeap_field_due) (defScope sm_IdealHeap_field_due) [] [] am_IdealHeap_field_due fd := T.adm_IdealHeap_field_due ▸ T.def_ 44 (d := dm_IdealHeap_field_due) rfl
theorem Tx.D_m_IdealHeap_make (T : Tx K mg) : ∃ fd, FunD K "make" "IdealHeap.make" (defArgs sm_IdealHeap_make) (defBody sm_IdealHeap_make) (defScope sm_IdealHeap_make) [] [] am_IdealHeap_make fd := T.adm_IdealHeap_make ▸ T.def_ 45 (d := dm_IdealHeap_make) rfl
theorem Tx.D_m_IdealHeap_load (T : Tx K mg) : ∃ fd, FunD K "load" "IdealHeap.load" (defArgs sm_IdealHeap_load) (defBody sm_IdealHeap_load) (defScope sm_IdealHeap_load) [] [] am_IdealHeap_load fd := T.adm_IdealHeap_load ▸ T.def_ 46 (d := dm_IdealHeap_load) rfl
theorem Tx.D_m_IdealHeap_store (T : Tx K mg) : ∃ fd, FunD K "store" "IdealHeap.store" (defArgs sm_IdealHeap_store) (defBody sm_IdealHeap_store) (defScope sm_IdealHeap_store) [] [] am_IdealHeap_store fd := T.adm_IdealHeap_store ▸ T.def_ 47 (d := dm_IdealHeap_store) rfl
theorem Tx.D_m_IdealHeap_copy (T : Tx K mg) : ∃ fd, FunD K "copy" "IdealHeap.copy" (defArgs sm_IdealHeap_copy) (defBody sm_IdealHeap_copy) (defScope sm_IdealHeap_copy) [] [] am_IdealHeap_copy fd := T.adm_IdealHeap_copy ▸ T.def_ 48 (d := dm_IdealHeap_copy) rfl
theorem Tx.D_m_IdealHeap_drop (T : Tx K mg) : ∃ fd, FunD K "drop" "IdealHeap.drop" (defArgs sm_IdealHeap_drop) (defBody sm_IdealHeap_drop) (defScope sm_IdealHeap_drop) [] [] am_IdealHeap_drop fd := T.adm_IdealHeap_drop ▸ T.def_ 49 (d := dm_IdealHeap_drop) rfl
theorem Tx.D_m_IdealHeap_number (T : Tx K mg) : ∃ fd, FunD K "number" "IdealHeap.number" (defArgs sm_IdealHeap_number) (defBody sm_IdealHeap_number) (defScope sm_IdealHeap_number) [] [] am_IdealHeap_number fd := T.adm_IdealHeap_number ▸ T.def_ 50 (d := dm_IdealHeap_number) rfl
theorem Tx.D_m_IdealHeap_name (T : Tx K mg) : ∃ fd, FunD K "name" "IdealHeap.name" (defArgs sm_IdealHeap_name) (defBody sm_IdealHeap_name) (defScope sm_IdealHeap_name) [] [] am_IdealHeap_name fd := T.adm_IdealHeap_name ▸ T.def_ 51 (d := dm_IdealHeap_name) rfl
theorem Tx.D_m_IdealHeap_read (T : Tx K mg) : ∃ fd, FunD K "read" "IdealHeap.read" (defArgs sm_IdealHeap_read) (defBody sm_IdealHeap_read) (defScope sm_IdealHeap_read) [] [] am_IdealHeap_read fd := T.adm_IdealHeap_read ▸ T.def_ 52 (d := dm_IdealHeap_read) rfl
theorem Tx.D_m_IdealHeap_give_back (T : Tx K mg) : ∃ fd, FunD K "give_back" "IdealHeap.give_back" (defArgs sm_IdealHeap_give_back) (defBody sm_IdealHeap_give_back) (defScope sm_IdealHeap_give_back) [] [] am_IdealHeap_give_back fd := T.adm_IdealHeap_give_back ▸ T.def_ 53 (d := dm_IdealHeap_give_back) rfl
theorem Tx.D_m_IdealHeap_word (T : Tx K mg) : ∃ fd, FunD K "word" "IdealHeap.word" (defArgs sm_IdealHeap_word) (defBody sm_IdealHeap_word) (defScope sm_IdealHeap_word) [] [] am_IdealHeap_word fd := T.adm_IdealHeap_word ▸ T.def_ 54 (d := dm_IdealHeap_word) rfl
theorem Tx.D_m_IdealHeap_held (T : Tx K mg) : ∃ fd, FunD K "held" "IdealHeap.held" (defArgs sm_IdealHeap_held) (defBody sm_IdealHeap_held) (defScope sm_IdealHeap_held) [] [] am_IdealHeap_held fd := T.adm_IdealHeap_held ▸ T.def_ 55 (d := dm_IdealHeap_held) rfl
theorem Tx.D_m_IdealHeap_settle (T : Tx K mg) : ∃ fd, FunD K "settle" "IdealHeap.settle" (defArgs sm_IdealHeap_settle) (defBody sm_IdealHeap_settle) (defScope sm_IdealHeap_settle) [] [] am_IdealHeap_settle fd := T.adm_IdealHeap_settle ▸ T.def_ 56 (d := dm_IdealHeap_settle) rfl
theorem Tx.D_m_IdealHeap_small (T : Tx K mg) : ∃ fd, FunD K "small" "IdealHeap.small" (defArgs sm_IdealHeap_small) (defBody sm_IdealHeap_small) (defScope sm_IdealHeap_small) [] [] am_IdealHeap_small fd := T.adm_IdealHeap_small ▸ T.def_ 57 (d := dm_IdealHeap_small) rfl
theorem Tx.D_m_IdealHeap_begin (T : Tx K mg) : ∃ fd, FunD K "begin" "IdealHeap.begin" (defArgs sm_IdealHeap_begin) (defBody sm_IdealHeap_begin) (defScope sm_IdealHeap_begin) [] [] am_IdealHeap_begin fd := T.adm_IdealHeap_begin ▸ T.def_ 58 (d := dm_IdealHeap_begin) rfl
theorem Tx.D_m_IdealHeap_end (T : Tx K mg) : ∃ fd, FunD K "end" "IdealHeap.end" (defArgs sm_IdealHeap_end) (defBody sm_IdealHeap_end) (defScope sm_IdealHeap_end) [] [] am_IdealHeap_end fd := T.adm_IdealHeap_end ▸ T.def_ 59 (d := dm_IdealHeap_end) rfl
theorem Tx.D_m_IdealHeap_round_on (T : Tx K mg) : ∃ fd, FunD K "round_on" "IdealHeap.round_on" (defArgs sm_IdealHeap_round_on) (defBody sm_IdealHeap_round_on) (defScope sm_IdealHeap_round_on) [] [] am_IdealHeap_round_on fd := T.adm_IdealHeap_round_on ▸ T.def_ 60 (d := dm_IdealHeap_round_on) rfl
theorem Tx.D_m_IdealHeap_hands (T : Tx K mg) : ∃ fd, FunD K "hands" "IdealHeap.hands" (defArgs sm_IdealHeap_hands) (defBody sm_IdealHeap_hands) (defScope sm_IdealHeap_hands) [] [] am_IdealHeap_hands fd := T.adm_IdealHeap_hands ▸ T.def_ 61 (d := dm_IdealHeap_hands) rfl
theorem Tx.D_m_IdealHeap_names (T : Tx K mg) : ∃ fd, FunD K "names" "IdealHeap.names" (defArgs sm_IdealHeap_names) (defBody sm_IdealHeap_names) (defScope sm_IdealHeap_names) [] [] am_IdealHeap_names fd := T.adm_IdealHeap_names ▸ T.def_ 62 (d := dm_IdealHeap_names) rfl
theorem Tx.D_m_IdealHeap_things (T : Tx K mg) : ∃ fd, FunD K "things" "IdealHeap.things" (defArgs sm_IdealHeap_things) (defBody sm_IdealHeap_things) (defScope sm_IdealHeap_things) [] [] am_IdealHeap_things fd := T.adm_IdealHeap_things ▸ T.def_ 63 (d := dm_IdealHeap_things) rfl
theorem Tx.D_m_IdealHeap_thing_due (T : Tx K mg) : ∃ fd, FunD K "thing_due" "IdealHeap.thing_due" (defArgs sm_IdealHeap_thing_due) (defBody sm_IdealHeap_thing_due) (defScope sm_IdealHeap_thing_due) [] [] am_IdealHeap_thing_due fd := T.adm_IdealHeap_thing_due ▸ T.def_ 64 (d := dm_IdealHeap_thing_due) rfl
theorem Tx.D_m_IdealHeap_fields_of (T : Tx K mg) : ∃ fd, FunD K "fields_of" "IdealHeap.fields_of" (defArgs sm_IdealHeap_fields_of) (defBody sm_IdealHeap_fields_of) (defScope sm_IdealHeap_fields_of) [] [] am_IdealHeap_fields_of fd := T.adm_IdealHeap_fields_of ▸ T.def_ 65 (d := dm_IdealHeap_fields_of) rfl
theorem Tx.D_m_Memory_init (T : Tx K mg) : ∃ fd, FunD K "__init__" "Memory.__init__" (defArgs sm_Memory_init) (defBody sm_Memory_init) (defScope sm_Memory_init) [] [] am_Memory_init fd := T.adm_Memory_init ▸ T.def_ 66 (d := dm_Memory_init) rfl
theorem Tx.D_m_Memory_size (T : Tx K mg) : ∃ fd, FunD K "size" "Memory.size" (defArgs sm_Memory_size) (defBody sm_Memory_size) (defScope sm_Memory_size) [] [] am_Memory_size fd := T.adm_Memory_size ▸ T.def_ 67 (d := dm_Memory_size) rfl
theorem Tx.D_m_Memory_look_at (T : Tx K mg) : ∃ fd, FunD K "look_at" "Memory.look_at" (defArgs sm_Memory_look_at) (defBody sm_Memory_look_at) (defScope sm_Memory_look_at) [] [] am_Memory_look_at fd := T.adm_Memory_look_at ▸ T.def_ 68 (d := dm_Memory_look_at) rfl
theorem Tx.D_m_Memory_at (T : Tx K mg) : ∃ fd, FunD K "at" "Memory.at" (defArgs sm_Memory_at) (defBody sm_Memory_at) (defScope sm_Memory_at) [] [] am_Memory_at fd := T.adm_Memory_at ▸ T.def_ 69 (d := dm_Memory_at) rfl
theorem Tx.D_m_Memory_put (T : Tx K mg) : ∃ fd, FunD K "put" "Memory.put" (defArgs sm_Memory_put) (defBody sm_Memory_put) (defScope sm_Memory_put) [] [] am_Memory_put fd := T.adm_Memory_put ▸ T.def_ 70 (d := dm_Memory_put) rfl
theorem Tx.D_m_Picture_init (T : Tx K mg) : ∃ fd, FunD K "__init__" "Picture.__init__" (defArgs sm_Picture_init) (defBody sm_Picture_init) (defScope sm_Picture_init) [] [] am_Picture_init fd := T.adm_Picture_init ▸ T.def_ 71 (d := dm_Picture_init) rfl
theorem Tx.D_m_Picture_goal (T : Tx K mg) : ∃ fd, FunD K "goal" "Picture.goal" (defArgs sm_Picture_goal) (defBody sm_Picture_goal) (defScope sm_Picture_goal) [] [] am_Picture_goal fd := T.adm_Picture_goal ▸ T.def_ 72 (d := dm_Picture_goal) rfl
theorem Tx.D_m_Picture_shows (T : Tx K mg) : ∃ fd, FunD K "shows" "Picture.shows" (defArgs sm_Picture_shows) (defBody sm_Picture_shows) (defScope sm_Picture_shows) [] [] am_Picture_shows fd := T.adm_Picture_shows ▸ T.def_ 73 (d := dm_Picture_shows) rfl
theorem Tx.D_m_Picture_unlike_address (T : Tx K mg) : ∃ fd, FunD K "unlike_address" "Picture.unlike_address" (defArgs sm_Picture_unlike_address) (defBody sm_Picture_unlike_address) (defScope sm_Picture_unlike_address) [] [] am_Picture_unlike_address fd := T.adm_Picture_unlike_address ▸ T.def_ 74 (d := dm_Picture_unlike_address) rfl
theorem Tx.D_m_Picture_unlike_head (T : Tx K mg) : ∃ fd, FunD K "unlike_head" "Picture.unlike_head" (defArgs sm_Picture_unlike_head) (defBody sm_Picture_unlike_head) (defScope sm_Picture_unlike_head) [] [] am_Picture_unlike_head fd := T.adm_Picture_unlike_head ▸ T.def_ 75 (d := dm_Picture_unlike_head) rfl
theorem Tx.D_m_Picture_unlike_field (T : Tx K mg) : ∃ fd, FunD K "unlike_field" "Picture.unlike_field" (defArgs sm_Picture_unlike_field) (defBody sm_Picture_unlike_field) (defScope sm_Picture_unlike_field) [] [] am_Picture_unlike_field fd := T.adm_Picture_unlike_field ▸ T.def_ 76 (d := dm_Picture_unlike_field) rfl
end
end SH
/-! The top's run in the kernel. -/
namespace SH
open PySem PySem.Spec PyProof.Rows L2
theorem run (w : World) : HandSHeadRun.RunEq R (PySem.W.view R.prog [71]) hk ob 7000 nm w := by
  intro os
  kernel_rfl
end SH
/-! Rules of our own: a def as a datum, dicts walked that are made in the walk's own expression, sorted of a dict of ints, a method of a caught exception. -/
namespace SH
open PySem PySem.Spec PyProof.Rows L2
/-! ### a def -/
structure Def (P : Program) (w : World) (K : PySem.W.Frag) (mg : Str → Option Value) (base : Heap) (CX : CXT) (k : Nat) (f : Addr) (ps : List Str) (sp : Sp) : Prop where
  ex : ∃ fd, FnOk P w K mg base CX k f fd ps sp ∧ Binds K fd ps []
  kp : PySem.W.keepIn K (.ref f) = true
  un : ∀ fd, (∃ (oc : Value) (od : Option Addr) (osl : Array (Option Value)), K.lookup f = some ⟨oc, od, .func fd, osl⟩) → FnOk P w K mg base CX k f fd ps sp
theorem un_of {P : Program} {w : World} {K : PySem.W.Frag} {mg : Str → Option Value} {base : Heap} {CX : CXT} {k : Nat} {f : Addr} {ps : List Str} {sp : Sp} {x qual : Str} {params : Arguments} {body : List Stmt} {scope : Scope} {fd : FuncData}
    (F : FunD K x qual params body scope [] [] f fd) (ok : FnOk P w K mg base CX k f fd ps sp) : ∀ fd, (∃ (oc : Value) (od : Option Addr) (osl : Array (Option Value)), K.lookup f = some ⟨oc, od, .func fd, osl⟩) → FnOk P w K mg base CX k f fd ps sp := fun fd' ⟨oc, od, osl, e⟩ => by
  obtain ⟨oc2, od2, _, _, _, _, _, _, _, osl2, _, lk, _⟩ := F.ex
  have q := Option.some.inj (lk.symm.trans e)
  injection q with _ _ q3 _
  injection q3 with q4
  rw [← q4]
  exact ok
section
variable {P : Program} {w : World} {K : PySem.W.Frag} {mg : Str → Option Value} {base : Heap} {x qual : Str} {params : Arguments} {body : List Stmt} {scope : Scope} {f : Addr} {N ps : List Str} {k : Nat} {sp : Sp}
abbrev BindF (x qual : Str) (params : Arguments) (body : List Stmt) (scope : Scope) (ps : List Str) : Prop :=
  ∀ (kV doc pm : Value) (an : Option Addr) (cdv ct : Value) (us : List Value), us.length = ps.length → bindArgs (PySem.W.fnOf x qual params body scope .none kV doc pm an cdv ct) ⟨us, []⟩ = pure (ps.zip us)
/-- a def that lets no exception out -/
theorem mk0 (F : ∃ fd, FunD K x qual params body scope [] [] f fd) (S : FnScope N ps scope) (b : BindF x qual params body scope ps) (len : ∀ vs H Q E, sp vs H Q E → vs.length = ps.length)
    (h : ∀ (cdv : Value) (A : Around) (outer : List Env) (s : Shared) (H : Hp) (vs : List V) (Q : VK) (E : XK), Room k (A.deeper (envOfC qual scope s.heap.objs.size f cdv)) → sp vs H Q E →
      ∃ t, PSs (cxOf CX0 P w K mg base N qual scope f cdv A outer s H E).nox body t ∧ t { nx := fun _ H' => Q .non H', rt := Q } (start N vs) H) : Def P w K mg base CX0 (k + 1) f ps sp := by
  obtain ⟨fd, F⟩ := F
  have ok := F.ok (P := P) (w := w) (mg := mg) (base := base) (CX := CX0) S len fun cdv A outer s H vs Q E hr hsp => let ⟨t, h1, h2⟩ := h cdv A outer s H vs Q E hr hsp; ⟨t, h1.nox, h2⟩
  exact ⟨⟨fd, ok, F.bindsN b⟩, F.kp, un_of F ok⟩
/-- a def that may raise -/
theorem mkX (F : ∃ fd, FunD K x qual params body scope [] [] f fd) (S : FnScope N ps scope) (b : BindF x qual params body scope ps) (len : ∀ vs H Q E, sp vs H Q E → vs.length = ps.length)
    (h : ∀ (cdv : Value) (A : Around) (outer : List Env) (s : Shared) (H : Hp) (vs : List V) (Q : VK) (E : XK), Room k (A.deeper (envOfC qual scope s.heap.objs.size f cdv)) → sp vs H Q E →
      ∃ t, PSs (cxOf (L2.CX P w) P w K mg base N qual scope f cdv A outer s H E) body t ∧ t { nx := fun _ H' => Q .non H', rt := Q } (start N vs) H) : Def P w K mg base (L2.CX P w) (k + 1) f ps sp := by
  obtain ⟨fd, F⟩ := F
  have ok := F.ok (P := P) (w := w) (mg := mg) (base := base) (CX := L2.CX P w) S len h
  exact ⟨⟨fd, ok, F.bindsN b⟩, F.kp, un_of F ok⟩
end
section
variable {X : Cx} {CX : CXT} {k : Nat} {f C : Addr} {ps : List Str} {sp : Sp} {E : XK} {x m : Str} {p pos apos : Pos} {e o : Expr} {es : List Expr} {ta : TE} {t : TA}
theorem c_call (D : Def X.prog X.w X.K X.mg X.base CX k f ps sp) (hr : Room k X.A) (hm : X.mg x = some (.ref f)) (hx : Passes CX X E) (ha : PA X (e :: es) t) (hg : Gl X x := by rfl)
    (hdb : (x == ("__debug__" : Str)) = false := by decide) (he : starEach (e :: es) X.env = (false, eval e X.env) :: starEach es X.env := by rfl) (hpl : (backTo pos (starEach es X.env)).any (·.1) = false := by rfl) :
    PE X (.Call (.Name x p) (e :: es) [] pos) (tCall sp [] E t) := by
  obtain ⟨fd, F, b⟩ := D.ex
  exact pe_call F hr hg hm D.kp b .nil hx ha hdb he hpl
theorem c_meth {pl : Sem Bool} (D : Def X.prog X.w X.K X.mg X.base CX k f ps sp) (hr : Room k X.A) (c : Cls X.K C) (hm : Meth X.K C m f) (hx : Passes CX X E) (ho : PE X o ta) (ha : PA X (e :: es) t)
    (hst : starEach (e :: es) X.env = (false, eval e X.env) :: starEach es X.env := by rfl) (hpl : (backTo pos (starEach es X.env)).any (·.1) = false := by rfl)
    (ht : eval (.Call (.Attribute o m apos) (e :: es) [] pos) X.env = (do
      let ov ← eval o X.env
      standAt apos.atName
      let (f, first) ← holding [ov] (getMethod ov m pl)
      callWith pos f first (backTo pos (starEach (e :: es) X.env)) (backToKw pos (keywordEach [] X.env))) := by rfl) :
    PE X (.Call (.Attribute o m apos) (e :: es) [] pos) (tMeth C m sp [] E ta t) := by
  obtain ⟨fd, F, b⟩ := D.ex
  exact pe_meth ho c hm F hr b .nil hx ha hst hpl ht
theorem c_meth0 {pl : Sem Bool} (D : Def X.prog X.w X.K X.mg X.base CX k f ps sp) (hr : Room k X.A) (c : Cls X.K C) (hm : Meth X.K C m f) (hx : Passes CX X E) (ho : PE X o ta)
    (ht : eval (.Call (.Attribute o m apos) [] [] pos) X.env = (do
      let ov ← eval o X.env
      standAt apos.atName
      let (f, first) ← holding [ov] (getMethod ov m pl)
      callWith pos f first (backTo pos (starEach [] X.env)) (backToKw pos (keywordEach [] X.env))) := by rfl) :
    PE X (.Call (.Attribute o m apos) [] [] pos) (tMeth C m sp [] E ta tNil) := by
  obtain ⟨fd, F, b⟩ := D.ex
  exact pe_meth0 ho c hm F hr b .nil hx ht
theorem c_make (D : Def X.prog X.w X.K X.mg X.base CX k f ps sp) (M : Mk X.K C f) (hr : Room (k + 1) X.A) (hm : X.mg x = some (.ref C)) (hx : Passes CX X E) (ha : PA X (e :: es) t) (hg : Gl X x := by rfl)
    (hdb : (x == ("__debug__" : Str)) = false := by decide) (he : starEach (e :: es) X.env = (false, eval e X.env) :: starEach es X.env := by rfl) (hpl : (backTo pos (starEach es X.env)).any (·.1) = false := by rfl) :
    PE X (.Call (.Name x p) (e :: es) [] pos) (tMake C sp [] E t) := by
  obtain ⟨fd, F, b⟩ := D.ex
  exact pe_make M F hr hg hm b .nil hx ha hdb he hpl
end
/-! ### a dict that the walk's own expression has made (it stays locked) -/
def iKeysL (td : TE) : TI := fun σ H R => td σ H fun x H1 => ∃ d kvs, x = .ref d ∧ H1 d = some (.dK kvs) ∧ ∀ o, R (Itk d o kvs) (upd H1 d (.frz o (.dK kvs)))
theorem pi_keysL {X : Cx} {tg e : Expr} {td : TE} (he : PE X e td) : PI X tg e (iKeysL td) := by
  refine ⟨fun pins s σ H R I h => ?_⟩
  refine thn (he.run pins s σ H _ I h) fun u s1 ⟨x, H1, I1, rx, d, kvs, ex, hd, q⟩ => ?_
  cases ex
  cases rx
  obtain ⟨o, I2⟩ := I1.lock hd trivial
  have hd2 : upd H1 d (.frz o (.dK kvs)) d = some (.frz o (.dK kvs)) := upd_same
  obtain ⟨hs, hgd, hx, es, ep, vs, hdt, hsz, kv, hm⟩ := I2.frzK hd2
  refine iter_keys hs hgd hx hdt (pi_one (tk := s1.toks) I2 _ (turn_keys _ hdt) ⟨_, Heap.get?_push_size _ rfl, rfl, ?_⟩ (q o))
  rw [hsz]
  rfl
/-! ### sorted of a dict of ints -/
theorem ints_at {us : List Value} : ∀ {ks : List Int}, us.length = ks.length → (∀ (j : Nat) (v : Value), us[j]? = some v → ∃ (i : Int) (t : Tok), ks[j]? = some i ∧ v = Value.int i t) → IntsAre us ks := by
  induction us with
  | nil =>
    intro ks hl _
    cases ks with
    | nil => exact .nil
    | cons _ _ => cases hl
  | cons v vs ih =>
    intro ks hl h
    cases ks with
    | nil => cases hl
    | cons k ks =>
      obtain ⟨i, t, e1, e2⟩ := h 0 v rfl
      cases e1
      cases e2
      exact .cons k t (ih (Nat.succ.inj hl) fun j u hu => h (j + 1) u hu)
def rSortDI : List V → Hp → VK → Prop := fun xs H Q => ∃ (a : Addr) (kvs : List (Key × V)) (ks : List Int), xs = [.ref a] ∧ Rd H a (.dK kvs) ∧ kvs.map (·.1) = ks.map Sum.inl ∧
  ∀ (ys : List Int) (p : Addr), ys.Perm ks → ys.Pairwise (· ≤ ·) → H p = none → Q (.ref p) (upd H p (.lst (ys.map V.int)))
theorem call_sortedDI {X : Cx} (hcalm : X.calm = true) : CallR X (.builtin "sorted") rSortDI := by
  intro pins s σ H xs us Q I r q
  obtain ⟨a, kvs, ks, ex, hd, hks, q⟩ := q
  cases ex
  obtain ⟨u, eu, rx⟩ := vals1 r
  cases eu
  cases rx
  obtain ⟨z, lo, vs, rel, dd⟩ := dk_rd I.hok hd
  obtain ⟨ep, hat⟩ := dd.dictAt
  have hkeys : vs.map (·.1) = ks.map Sum.inl := rel.keys.symm.trans hks
  have hl : vs.length = ks.length := by simpa using congrArg List.length hkeys
  have hlk : kvs.length = ks.length := by simpa using congrArg List.length hks
  have hz : ks.length ≤ sizeLine := by rw [← hlk]; exact z
  refine Calls.call_function_entry PyProof.Rows.kind_sorted PyProof.Rows.plain_sorted PyProof.Rows.entry_sorted (PyProof.Rows.args_sorted1 _) ?_
  unfold Builtin.«sorted»
  refine wpAny_bind (m := checkCount "sorted" 1 1 _) (wpAny_pure ?_)
  refine wpAny_bind (PySem.W.kdu_collect (A := X.A.in1) (PySem.W.kdl_dict (knd := mixKind X.prog X.w) (kvs := vs) (ep := ep) lo) (I.ok.hd hcalm) hat (by rw [hl]; exact hz) fun h' tk acc hk hacc => ?_)
  have hal : acc.toList.length = ks.length := by rw [Array.length_toList, hacc.1, hl]
  have hi : IntsAre acc.toList ks := ints_at hal fun j v e => by
    obtain ⟨k, x, e1, e2⟩ := hacc.2 j v (by rw [← Array.getElem?_toList]; exact e)
    have e3 : (ks.map (Sum.inl : Int → Key))[j]? = some k := by rw [← hkeys, List.getElem?_map, e1]; rfl
    rw [List.getElem?_map] at e3
    cases e4 : ks[j]? with
    | none => rw [e4] at e3; cases e3
    | some y =>
      rw [e4] at e3
      cases (Option.some.inj e3)
      obtain ⟨t, ev⟩ := Value.isInt_shape (k := y) (v := v) e2
      exact ⟨y, t, rfl, ev⟩
  have I1 : Inv X pins σ H { s with heap := h', toks := tk } := I.kept hk
  refine wpAny_bind (wpAny_newList ?_ (by rw [hal]; exact hz))
  have hob : (h'.push (seqObj "list" acc.toList.toArray 0)).get? h'.objs.size = some (seqObj "list" acc.toList.toArray 0) := Heap.get?_push_size _ rfl
  show wpAny _ _ _ _ _ { s with heap := h'.push (seqObj "list" acc.toList.toArray 0), toks := tk }
  refine wpAny_bind (wpAny_holding (wpAny_call_entry PyProof.Rows.slot_list_sort ⟨_, hob, rfl⟩ PyProof.Rows.entry_list_sort
    (SrtO.list_sort_ord SrtO.swo_int (s := { s with heap := h'.push (seqObj "list" acc.toList.toArray 0), toks := tk }) hob (by rw [hal]; exact hz) (fun h2 => SrtO.ints_sortable hi h2) fun out h1 h2 => ⟨_, rfl, ?_⟩) (PyProof.Rows.args_list_sort _)))
  obtain ⟨k1, k2, k3⟩ := SrtO.ints_out hi h1 h2
  obtain ⟨e', he'⟩ := PyProof.Rows.sortedHeap_at (vs := acc.toList) (out := out.toArray) hob
  have hlen : ((out.map SrtO.iv).map V.int).length ≤ sizeLine := by
    rw [List.length_map, k2.length_eq]
    exact hz
  refine wpAny_pure ⟨_, rfl, .ref h'.objs.size, upd H h'.objs.size (.lst ((out.map SrtO.iv).map V.int)), I1.laid (t' := tk) (fun b u e => ?_) (Nat.le_refl _)
    (show ObjOk X.prog X.w _ _ _ (.lst ((out.map SrtO.iv).map V.int)) from ⟨hlen, out, e', vals_of_ints k1, he'⟩), rfl, q _ _ k2 k3 (I1.hok.fresh (Nat.le_refl _))⟩
  have hb : b < h'.objs.size := Heap.lt_size e
  rw [PyProof.Rows.sortedHeap_old (Nat.ne_of_lt hb) (by rw [size_push']; exact Nat.lt_succ_of_lt hb)]
  exact Heap.get?_push_of_some _ e
/-! ### e.m() of a caught exception, m a method that says a text -/
/-- f is a def of one parameter that says z -/
def Says (K : PySem.W.Frag) (f : Addr) (m : Str) (z : Str) : Prop := ∃ (qual : Str) (params : Arguments) (scope : Scope) (j : Nat) (p1 p2 : Pos) (fd : FuncData),
  FunD K m qual params [.Return (some (.Constant (.str z) j p1)) p2] scope [] [] f fd ∧ (scope.isCoroutine = false ∧ scope.isGenerator = false ∧ scope.kind = .function) ∧
  BindF m qual params [.Return (some (.Constant (.str z) j p1)) p2] scope ["self"] ∧ scope.names.lookup ("self" : Str) = some .local
/-- the reading: a the caught exception, cls its class -/
def tSaid (K : PySem.W.Frag) (a : Addr) (cls : Value) (d : Option Addr) (m : Str) (te : TE) : TE := fun σ H Q => te σ H fun x H1 => x = .ref a ∧ d = none ∧ ∃ (C f : Addr) (z : Str), cls = .ref C ∧ XcC K C ∧ Meth K C m f ∧ Says K f m z ∧ Q (.str z) H1
theorem pe_said {X : Cx} {a : Addr} {oe : Obj} {cls : Value} {d : Option Addr} {pn : List (Addr × Obj)} {e : Expr} {te : TE} {pos apos : Pos} {m : Str} {k : Nat} {pl : Sem Bool} (hr : Room k X.A)
    (hz : Zc cls d oe) (hf : ∃ vs, oe.data = .fields vs) (he : PE (X.suite a ((a, oe) :: pn)) e te)
    (ht : eval (.Call (.Attribute e m apos) [] [] pos) X.env = (do
      let ov ← eval e X.env
      standAt apos.atName
      let (f, first) ← holding [ov] (getMethod ov m pl)
      callWith pos f first (backTo pos (starEach [] X.env)) (backToKw pos (keywordEach [] X.env))) := by rfl) :
    PE (X.suite a ((a, oe) :: pn)) (.Call (.Attribute e m apos) [] [] pos) (tSaid X.K a cls d m te) := by
  refine ⟨fun pins s σ H Q I h => ?_⟩
  refine PySem.W.methodCall_KW (pl := pl) (thn (he.run pins s σ H _ I h) fun u s1 hh => ?_) ht
  obtain ⟨x, H1, I1, rx, ex, ed, C, f, z, ec, T, M, Sy, q⟩ := hh
  cases ex
  cases rx
  cases ec
  cases ed
  obtain ⟨ha, _⟩ := I1.pin (a, oe) (List.mem_append_left _ List.mem_cons_self)
  obtain ⟨vs, hd⟩ := hf
  obtain ⟨mm, F⟩ := I1.fr
  have J : PySem.W.InstAt s1.heap a oe C none := ⟨ha, hz.1, by unfold PySem.W.notCls; rw [hd], by rw [hz.2]; trivial⟩
  refine PySem.W.method_exc0 F I1.ok.mod.kin J T.ga T.gg M.at_ M.fn ?_
  obtain ⟨qual, params, scope, j, p1, p2, fd, FD, ⟨s1c, s2c, s3c⟩, b, hself⟩ := Sy
  refine PySem.W.callWith_K0 (first := [.ref a]) I1.kIn M.kp (wpAny_call ?_)
  obtain ⟨oc, od, dV, kV, doc, pm, an, cdv, ct, osl, rfl, lk, hcd, hdv, _⟩ := FD.ex
  have edV : dV = .none := by
    rcases hdv with ⟨_, e⟩ | ⟨e, _⟩
    · exact e
    · exact absurd rfl e
  cases edV
  have hdep : (X.suite a ((a, oe) :: pn)).A.depth < recursionLimit := hr.depth
  refine Att.call_fn (binds := [("self", .ref a)]) I1.kIn I1.nolimit lk hcd hdep (.of_eq (b kV doc pm an cdv ct [.ref a] rfl)) (by simp only [List.all_cons, List.all_nil, hself]; rfl) (fun s2 IC => ?_) s1c s2c s3c
  obtain ⟨h2, tk2, rfl⟩ := IC.toInCall.same
  have kk : ∀ b o, s1.heap.get? b = some o → h2.get? b = some o := IC.toInCall.keep
  refine wpAny_execs_cons (wpAny_Return_some (Calls.Constant_str ?_))
  exact ⟨.str z, H1, I1.kept (t' := tk2 + 1) kk, ⟨_, rfl⟩, q⟩
/-! ### the rules of a block, the written part told by name -/
def rLenQ (K : PySem.W.Frag) : List V → Hp → VK → Prop := fun xs H Q => ∃ p ys, xs = [.ref p] ∧ (SqL K H p ys ∨ SqT K H p ys) ∧ Q (.int ys.length) H
section
variable {X : Cx} {K : PySem.W.Frag}
theorem call_lenQ (hK : X.K = K) : CallR X (.builtin "len") (rLenQ K) := by
  cases hK
  exact call_len_seq
theorem pe_fldK {e : Expr} {ta : TE} {f : Str} {pos : Pos} (hK : X.K = K) (he : PE X e ta) (hb : attributeBase e f X.env (eval e X.env) = eval e X.env) : PE X (.Attribute e f pos) (tFld K ta f) := by
  cases hK
  exact pe_fld he hb
theorem pg_tupK {es : List Expr} {k n : Nat} {pos : Pos} {t : TGs} (hK : X.K = K) (hc : X.calm = true) (h : PGs X es t)
    (hn : (assignEach es X.env).length = n := by rfl) (hst : (assignEach es X.env).findIdx? (·.1) = none := by rfl) : PG X (.Tuple es k pos) (gTup K n t) := by
  cases hK
  exact pg_tup hc h hn hst
theorem ix_listK (hK : X.K = K) : IxR X (rIxL K) := by
  cases hK
  exact ix_list
theorem ix_tupK (hK : X.K = K) : IxR X (rIxT K) := by
  cases hK
  exact ix_tup
theorem op_inK (hK : X.K = K) : OpR X (compareOp .In) (rIn K false) := by
  cases hK
  exact op_in_seq
theorem op_notInK (hK : X.K = K) : OpR X (compareOp .NotIn) (rIn K true) := by
  cases hK
  exact op_notIn_seq
/-- a call within a try's body -/
theorem c_callS {k : Nat} {f : Addr} {ps : List Str} {sp : Sp} {E : L2.St → XK} {x : Str} {p pos : Pos} {e : Expr} {es : List Expr} {t : TA} {CX : CXT} (D : Def X.prog X.w X.K X.mg X.base CX k f ps sp) (hr : Room k X.A) (hm : X.mg x = some (.ref f))
    (hx : ∀ σ, PassesAt CX X σ (E σ)) (ha : PA X (e :: es) t) (hg : Gl X x := by rfl) (hdb : (x == ("__debug__" : Str)) = false := by decide) (he : starEach (e :: es) X.env = (false, eval e X.env) :: starEach es X.env := by rfl)
    (hpl : (backTo pos (starEach es X.env)).any (·.1) = false := by rfl) : PE X (.Call (.Name x p) (e :: es) [] pos) (tCallS sp E t) := by
  obtain ⟨fd, F, b⟩ := D.ex
  exact pe_callS F hr hg hm D.kp b hx ha hdb he hpl
end
end SH
/-! Abstract values, things, and the defs of values. -/
namespace SH
open PySem PySem.Spec PyProof.Rows L2
/-! ### tests -/
section
variable {A B : Prop}
theorem ifT {c : Bool} (h : c = true) (k : A) : if c = true then A else B := by rw [if_pos h]; exact k
theorem ifF {c : Bool} (h : c = false) (k : B) : if c = true then A else B := by rw [h, if_neg Bool.false_ne_true]; exact k
theorem dT {c : Prop} [Decidable c] (h : c) (k : A) : if decide c = true then A else B := ifT (decide_eq_true h) k
theorem dF {c : Prop} [Decidable c] (h : ¬ c) (k : B) : if decide c = true then A else B := ifF (decide_eq_false h) k
theorem nT {c : Prop} [Decidable c] (h : ¬ c) (k : A) : if (!decide c) = true then A else B := ifT (by rw [decide_eq_false h]; rfl) k
theorem nF {c : Prop} [Decidable c] (h : c) (k : B) : if (!decide c) = true then A else B := ifF (by rw [decide_eq_true h]; rfl) k
end
/-- a store, then a while -/
theorem gW {i : Nat} {v : V} {σ : L2.St} {H : Hp} {c : TT} {tb u : TS} {D : Ends} {r : VK} {b k : L2.St → Hp → Prop} (h : tWhile c tb { D with nx := u D } (σ.set i (some v)) H) : gName i v σ H (Ends.mk (tSeq (tWhile c tb) u D) r b k).nx := h
/-! ### heaps -/
theorem same_new {H : Hp} {p : Addr} {o : HO} (h : H p = none) : Same H (upd H p o) := fun b u e => by
  rw [upd_ne (ne_of_none e h)]
  exact e
/-- the tuples stand -/
def Tu (H H' : Hp) : Prop := ∀ b xs, H b = some (.tup xs) → H' b = some (.tup xs)
theorem Tu.refl (H : Hp) : Tu H H := fun _ _ e => e
theorem Tu.trans {H H1 H2 : Hp} (a : Tu H H1) (b : Tu H1 H2) : Tu H H2 := fun c xs e => b c xs (a c xs e)
theorem tu_same {H H' : Hp} (s : Same H H') : Tu H H' := fun b xs e => s b _ e
theorem tu_new {H : Hp} {p : Addr} {o : HO} (h : H p = none) : Tu H (upd H p o) := tu_same (same_new h)
theorem tu_upd {H : Hp} {a : Addr} {o u : HO} (h : H a = some o) (hn : ∀ xs, o ≠ .tup xs) : Tu H (upd H a u) := fun b xs e => by
  have hb : b ≠ a := fun z => by
    rw [z, h] at e
    exact hn xs (Option.some.inj e)
  rw [upd_ne hb]
  exact e
/-! ### abstract values -/
inductive Ab where
  | non | num (i : Int) | th (t : Int)
  deriving DecidableEq
def Rp (H : Hp) : V → Ab → Prop
  | .non, .non => True
  | .ref q, .num i => H q = some (.tup [.str "number", .int i])
  | .ref q, .th t => H q = some (.tup [.str "thing", .int t])
  | _, _ => False
theorem Rp.tu {H H' : Hp} (s : Tu H H') {v : V} {x : Ab} (r : Rp H v x) : Rp H' v x := by
  cases x with
  | non => cases v <;> first | exact r | exact r.elim
  | num i => cases v <;> first | exact s _ _ r | exact r.elim
  | th t => cases v <;> first | exact s _ _ r | exact r.elim
theorem Rp.non {H : Hp} {v : V} (r : Rp H v .non) : v = .non := by
  cases v <;> first | rfl | exact False.elim r
theorem Rp.num {H : Hp} {v : V} {i : Int} (r : Rp H v (.num i)) : ∃ q, v = .ref q ∧ H q = some (.tup [.str "number", .int i]) := by
  cases v <;> first | exact ⟨_, rfl, r⟩ | exact False.elim r
theorem Rp.th {H : Hp} {v : V} {t : Int} (r : Rp H v (.th t)) : ∃ q, v = .ref q ∧ H q = some (.tup [.str "thing", .int t]) := by
  cases v <;> first | exact ⟨_, rfl, r⟩ | exact False.elim r
abbrev Rps (H : Hp) : List V → List Ab → Prop := Paired (Rp H)
theorem Rps.tu {H H' : Hp} (s : Tu H H') {vs : List V} {xs : List Ab} (r : Rps H vs xs) : Rps H' vs xs := Paired.mapP r fun _ _ q => q.tu s
theorem pd_len {α β : Type} {F : α → β → Prop} : ∀ {l : List α} {m : List β}, Paired F l m → l.length = m.length
  | _, _, .nil => rfl
  | _, _, .cons _ r => congrArg Nat.succ (pd_len r)
theorem pd_get {α β : Type} {F : α → β → Prop} : ∀ {l : List α} {m : List β} {i : Nat} {a : α}, Paired F l m → l[i]? = some a → ∃ b, m[i]? = some b ∧ F a b
  | _, _, 0, _, .cons q _, e => by cases e; exact ⟨_, rfl, q⟩
  | _, _, i + 1, _, .cons _ r, e => pd_get (i := i) r e
  | _, _, _, _, .nil, e => by cases e
theorem pd_get' {α β : Type} {F : α → β → Prop} : ∀ {l : List α} {m : List β} {i : Nat} {b : β}, Paired F l m → m[i]? = some b → ∃ a, l[i]? = some a ∧ F a b
  | _, _, 0, _, .cons q _, e => by cases e; exact ⟨_, rfl, q⟩
  | _, _, i + 1, _, .cons _ r, e => pd_get' (i := i) r e
  | _, _, _, _, .nil, e => by cases e
theorem pd_set {α β : Type} {F : α → β → Prop} {a : α} {b : β} (q : F a b) : ∀ {l : List α} {m : List β} (i : Nat), Paired F l m → Paired F (l.set i a) (m.set i b)
  | _, _, _, .nil => .nil
  | _, _, 0, .cons _ r => .cons q r
  | _, _, i + 1, .cons p r => .cons p (pd_set q i r)
theorem pd_app {α β : Type} {F : α → β → Prop} : ∀ {l l' : List α} {m m' : List β}, Paired F l m → Paired F l' m' → Paired F (l ++ l') (m ++ m')
  | _, _, _, _, .nil, s => s
  | _, _, _, _, .cons q r, s => .cons q (pd_app r s)
theorem pd_rep {α β : Type} {F : α → β → Prop} {a : α} {b : β} (q : F a b) : ∀ n : Nat, Paired F (List.replicate n a) (List.replicate n b)
  | 0 => .nil
  | n + 1 => .cons q (pd_rep q n)
theorem lit (n : Nat) (h : n ≤ 1000000) : n ≤ sizeLine := Nat.le_trans h (by decide)
theorem litL {n : Nat} (h : n < 1000000) : n < sizeLine := Nat.lt_of_lt_of_le h (by decide)
theorem pf {f : Str} {v : V} {fs : List (Str × V)} {n : Nat} (h : fs.length ≤ n) : (putF f v fs).length ≤ n + 1 := Nat.le_trans (length_putF f v fs) (Nat.succ_le_succ h)
theorem pf1 {fs : List (Str × V)} {n : Nat} (h : fs.length ≤ n) (hn : n < 1000 := by decide) : fs.length < 1000 := Nat.lt_of_le_of_lt h hn
def kindS : Ab → Str
  | .non => "none"
  | .num _ => "number"
  | .th _ => "thing"
/-! ### values.py -/
def sp_kind_of : Sp := fun vs H Q _ => ∃ v x, vs = [v] ∧ Rp H v x ∧ Q (.str (kindS x)) H
theorem scf_kind_of : FnScope ["value"] ["value"] (defScope sf_kind_of) := ⟨rfl, rfl, rfl, by decide +kernel, rfl, by decide +kernel, by decide +kernel⟩
theorem ok_f_kind_of {P : Program} {w : World} {K : PySem.W.Frag} {mg : Str → Option Value} {base : Heap} (T : Tx K mg) : Def P w K mg base CX0 1 af_kind_of ["value"] sp_kind_of := by
  refine mk0 T.D_f_kind_of scf_kind_of (fun _ _ _ _ _ _ us hl => match us, hl with | [_], _ => rfl) (fun vs H Q E h => ?_) (fun cdv A outer s H vs Q E hr h => ?_)
  · first | (obtain ⟨_, rfl, _⟩ := h; rfl) | (obtain ⟨_, _, rfl, _⟩ := h; rfl) | (obtain ⟨_, _, _, rfl, _⟩ := h; rfl) | (obtain ⟨_, _, _, _, rfl, _⟩ := h; rfl) | (obtain ⟨_, _, _, _, _, rfl, _⟩ := h; rfl) | (obtain ⟨_, _, _, _, _, _, rfl, _⟩ := h; rfl) | (obtain ⟨_, _, _, _, _, _, _, rfl, _⟩ := h; rfl) | (obtain ⟨_, _, _, _, _, _, _, _, rfl, _⟩ := h; rfl)
  · have hu := hu_of hr
    refine ⟨_, (pss_cons (ps_if (pt_cmpR op_isN (pv 0) pe_non (nomark _)) (pss_one (ps_ret pe_str)) pss_nil)
      (pss_one (ps_ret (pe_ix (r := rIxT K) (ix_tupK rfl) (pv 0) pe_int (fun _ _ => rfl))))), ?_⟩
    obtain ⟨v, x, rfl, r, k⟩ := h
    refine ⟨v, rfl, rfl, _, rfl, ?_⟩
    cases x with
    | non =>
      cases r.non
      exact dT rfl k
    | num i =>
      obtain ⟨q, rfl, hq⟩ := r.num
      exact dF (by intro z; cases z) ⟨_, rfl, q, _, 0, _, rfl, rfl, SqT.of hq, atI_nat rfl, k⟩
    | th t =>
      obtain ⟨q, rfl, hq⟩ := r.th
      exact dF (by intro z; cases z) ⟨_, rfl, q, _, 0, _, rfl, rfl, SqT.of hq, atI_nat rfl, k⟩
def sp_thing_value : Sp := fun vs H Q _ => ∃ t : Int, vs = [.int t] ∧ ∀ p, H p = none → Q (.ref p) (upd H p (.tup [.str "thing", .int t]))
theorem scf_thing_value : FnScope ["t"] ["t"] (defScope sf_thing_value) := ⟨rfl, rfl, rfl, by decide +kernel, rfl, by decide +kernel, by decide +kernel⟩
theorem ok_f_thing_value {P : Program} {w : World} {K : PySem.W.Frag} {mg : Str → Option Value} {base : Heap} (T : Tx K mg) : Def P w K mg base CX0 1 af_thing_value ["t"] sp_thing_value := by
  refine mk0 T.D_f_thing_value scf_thing_value (fun _ _ _ _ _ _ us hl => match us, hl with | [_], _ => rfl) (fun vs H Q E h => ?_) (fun cdv A outer s H vs Q E hr h => ?_)
  · first | (obtain ⟨_, rfl, _⟩ := h; rfl) | (obtain ⟨_, _, rfl, _⟩ := h; rfl) | (obtain ⟨_, _, _, rfl, _⟩ := h; rfl) | (obtain ⟨_, _, _, _, rfl, _⟩ := h; rfl) | (obtain ⟨_, _, _, _, _, rfl, _⟩ := h; rfl) | (obtain ⟨_, _, _, _, _, _, rfl, _⟩ := h; rfl) | (obtain ⟨_, _, _, _, _, _, _, rfl, _⟩ := h; rfl) | (obtain ⟨_, _, _, _, _, _, _, _, rfl, _⟩ := h; rfl)
  · have hu := hu_of hr
    refine ⟨_, (pss_one (ps_ret (pe_tup (pa_cons pe_str (pa_cons (pv 0) pa_nil))))), ?_⟩
    obtain ⟨t, rfl, k⟩ := h
    exact ⟨_, rfl, lit 2 (by decide), k⟩
def sp_number_value : Sp := fun vs H Q _ => ∃ x : Int, vs = [.int x] ∧ (-(10 ^ 60) ≤ x ∧ x ≤ 10 ^ 60) ∧ ∀ p, H p = none → Q (.ref p) (upd H p (.tup [.str "number", .int x]))
theorem scf_number_value : FnScope ["x"] ["x"] (defScope sf_number_value) := ⟨rfl, rfl, rfl, by decide +kernel, rfl, by decide +kernel, by decide +kernel⟩
theorem ok_f_number_value {P : Program} {w : World} {K : PySem.W.Frag} {mg : Str → Option Value} {base : Heap} (T : Tx K mg) : Def P w K mg base CX0 1 af_number_value ["x"] sp_number_value := by
  obtain ⟨tFAR, gFAR⟩ := T.iFAR
  refine mk0 T.D_f_number_value scf_number_value (fun _ _ _ _ _ _ us hl => match us, hl with | [_], _ => rfl) (fun vs H Q E h => ?_) (fun cdv A outer s H vs Q E hr h => ?_)
  · first | (obtain ⟨_, rfl, _⟩ := h; rfl) | (obtain ⟨_, _, rfl, _⟩ := h; rfl) | (obtain ⟨_, _, _, rfl, _⟩ := h; rfl) | (obtain ⟨_, _, _, _, rfl, _⟩ := h; rfl) | (obtain ⟨_, _, _, _, _, rfl, _⟩ := h; rfl) | (obtain ⟨_, _, _, _, _, _, rfl, _⟩ := h; rfl) | (obtain ⟨_, _, _, _, _, _, _, rfl, _⟩ := h; rfl) | (obtain ⟨_, _, _, _, _, _, _, _, rfl, _⟩ := h; rfl)
  · have hu := hu_of hr
    refine ⟨_, (pss_cons (ps_if (PW.pt (pw_or (pt_cmpR op_lt (pv 0) (pe_un un_neg (pe_glob (v := .int (10^60)) rfl gFAR ⟨_, rfl⟩)) (nomark _)) (pw_or1 (pt_cmpR op_gt (pv 0) (pe_glob (v := .int (10^60)) rfl gFAR ⟨_, rfl⟩) (nomark _))))) (pss_one ps_never) pss_nil)
      (pss_one (ps_ret (pe_tup (pa_cons pe_str (pa_cons (pv 0) pa_nil)))))), ?_⟩
    obtain ⟨x, rfl, ⟨h1, h2⟩, k⟩ := h
    refine ⟨_, rfl, _, rfl, _, _, rfl, rfl, _, rfl, dF (Int.not_lt.mpr h1) ⟨_, rfl, _, _, rfl, rfl, _, rfl, dF (Int.not_lt.mpr h2) ?_⟩⟩
    exact ⟨_, rfl, lit 2 (by decide), k⟩
def sp_words_of : Sp := fun vs H Q _ => ∃ n : Int, vs = [.int n] ∧ (0 ≤ n ∧ n ≤ 6) ∧ Q (.int (n + 1)) H
theorem scf_words_of : FnScope ["fields"] ["fields"] (defScope sf_words_of) := ⟨rfl, rfl, rfl, by decide +kernel, rfl, by decide +kernel, by decide +kernel⟩
theorem ok_f_words_of {P : Program} {w : World} {K : PySem.W.Frag} {mg : Str → Option Value} {base : Heap} (T : Tx K mg) : Def P w K mg base CX0 1 af_words_of ["fields"] sp_words_of := by
  obtain ⟨tMOST_FIELDS, gMOST_FIELDS⟩ := T.iMOST_FIELDS
  refine mk0 T.D_f_words_of scf_words_of (fun _ _ _ _ _ _ us hl => match us, hl with | [_], _ => rfl) (fun vs H Q E h => ?_) (fun cdv A outer s H vs Q E hr h => ?_)
  · first | (obtain ⟨_, rfl, _⟩ := h; rfl) | (obtain ⟨_, _, rfl, _⟩ := h; rfl) | (obtain ⟨_, _, _, rfl, _⟩ := h; rfl) | (obtain ⟨_, _, _, _, rfl, _⟩ := h; rfl) | (obtain ⟨_, _, _, _, _, rfl, _⟩ := h; rfl) | (obtain ⟨_, _, _, _, _, _, rfl, _⟩ := h; rfl) | (obtain ⟨_, _, _, _, _, _, _, rfl, _⟩ := h; rfl) | (obtain ⟨_, _, _, _, _, _, _, _, rfl, _⟩ := h; rfl)
  · have hu := hu_of hr
    refine ⟨_, (pss_cons (ps_if (PW.pt (pw_or (pt_cmpR op_lt (pv 0) pe_int (nomark _)) (pw_or1 (pt_cmpR op_gt (pv 0) (pe_glob (v := .int (6)) rfl gMOST_FIELDS ⟨_, rfl⟩) (nomark _))))) (pss_one ps_never) pss_nil)
      (pss_one (ps_ret (pe_op op_add (pv 0) pe_int)))), ?_⟩
    obtain ⟨n, rfl, ⟨h1, h2⟩, k⟩ := h
    refine ⟨_, rfl, _, _, rfl, rfl, _, rfl, dF (Int.not_lt.mpr h1) ⟨_, rfl, _, _, rfl, rfl, _, rfl, dF (Int.not_lt.mpr h2) ?_⟩⟩
    exact ⟨_, rfl, _, _, rfl, rfl, k⟩
def sp_look8 : Sp := fun vs H Q _ => ∃ n : Int, vs = [.int n] ∧ (0 ≤ n ∧ n < 8) ∧ Q .non H
theorem scf_look_at_hand : FnScope ["h"] ["h"] (defScope sf_look_at_hand) := ⟨rfl, rfl, rfl, by decide +kernel, rfl, by decide +kernel, by decide +kernel⟩
theorem ok_f_look_at_hand {P : Program} {w : World} {K : PySem.W.Frag} {mg : Str → Option Value} {base : Heap} (T : Tx K mg) : Def P w K mg base CX0 1 af_look_at_hand ["h"] sp_look8 := by
  obtain ⟨tHANDS, gHANDS⟩ := T.iHANDS
  refine mk0 T.D_f_look_at_hand scf_look_at_hand (fun _ _ _ _ _ _ us hl => match us, hl with | [_], _ => rfl) (fun vs H Q E h => ?_) (fun cdv A outer s H vs Q E hr h => ?_)
  · first | (obtain ⟨_, rfl, _⟩ := h; rfl) | (obtain ⟨_, _, rfl, _⟩ := h; rfl) | (obtain ⟨_, _, _, rfl, _⟩ := h; rfl) | (obtain ⟨_, _, _, _, rfl, _⟩ := h; rfl) | (obtain ⟨_, _, _, _, _, rfl, _⟩ := h; rfl) | (obtain ⟨_, _, _, _, _, _, rfl, _⟩ := h; rfl) | (obtain ⟨_, _, _, _, _, _, _, rfl, _⟩ := h; rfl) | (obtain ⟨_, _, _, _, _, _, _, _, rfl, _⟩ := h; rfl)
  · have hu := hu_of hr
    refine ⟨_, (pss_one (ps_if (PW.pt (pw_or (pt_cmpR op_lt (pv 0) pe_int (nomark _)) (pw_or1 (pt_cmpR op_ge (pv 0) (pe_glob (v := .int (8)) rfl gHANDS ⟨_, rfl⟩) (nomark _))))) (pss_one ps_never) pss_nil)), ?_⟩
    obtain ⟨n, rfl, ⟨h1, h2⟩, k⟩ := h
    exact ⟨_, rfl, _, _, rfl, rfl, _, rfl, dF (Int.not_lt.mpr h1) ⟨_, rfl, _, _, rfl, rfl, _, rfl, dF (Int.not_le.mpr h2) k⟩⟩
theorem scf_look_at_name : FnScope ["w"] ["w"] (defScope sf_look_at_name) := ⟨rfl, rfl, rfl, by decide +kernel, rfl, by decide +kernel, by decide +kernel⟩
theorem ok_f_look_at_name {P : Program} {w : World} {K : PySem.W.Frag} {mg : Str → Option Value} {base : Heap} (T : Tx K mg) : Def P w K mg base CX0 1 af_look_at_name ["w"] sp_look8 := by
  obtain ⟨tNAMES, gNAMES⟩ := T.iNAMES
  refine mk0 T.D_f_look_at_name scf_look_at_name (fun _ _ _ _ _ _ us hl => match us, hl with | [_], _ => rfl) (fun vs H Q E h => ?_) (fun cdv A outer s H vs Q E hr h => ?_)
  · first | (obtain ⟨_, rfl, _⟩ := h; rfl) | (obtain ⟨_, _, rfl, _⟩ := h; rfl) | (obtain ⟨_, _, _, rfl, _⟩ := h; rfl) | (obtain ⟨_, _, _, _, rfl, _⟩ := h; rfl) | (obtain ⟨_, _, _, _, _, rfl, _⟩ := h; rfl) | (obtain ⟨_, _, _, _, _, _, rfl, _⟩ := h; rfl) | (obtain ⟨_, _, _, _, _, _, _, rfl, _⟩ := h; rfl) | (obtain ⟨_, _, _, _, _, _, _, _, rfl, _⟩ := h; rfl)
  · have hu := hu_of hr
    refine ⟨_, (pss_one (ps_if (PW.pt (pw_or (pt_cmpR op_lt (pv 0) pe_int (nomark _)) (pw_or1 (pt_cmpR op_ge (pv 0) (pe_glob (v := .int (8)) rfl gNAMES ⟨_, rfl⟩) (nomark _))))) (pss_one ps_never) pss_nil)), ?_⟩
    obtain ⟨n, rfl, ⟨h1, h2⟩, k⟩ := h
    exact ⟨_, rfl, _, _, rfl, rfl, _, rfl, dF (Int.not_lt.mpr h1) ⟨_, rfl, _, _, rfl, rfl, _, rfl, dF (Int.not_le.mpr h2) k⟩⟩
def sp_limits : Sp := fun vs H Q _ => ∃ y : Int, vs = [.int y, .int 400] ∧ (y = 0 ∨ y = 10) ∧ Q .non H
theorem scf_look_at_limits : FnScope ["young", "limit"] ["young", "limit"] (defScope sf_look_at_limits) := ⟨rfl, rfl, rfl, by decide +kernel, rfl, by decide +kernel, by decide +kernel⟩
theorem ok_f_look_at_limits {P : Program} {w : World} {K : PySem.W.Frag} {mg : Str → Option Value} {base : Heap} (T : Tx K mg) : Def P w K mg base CX0 1 af_look_at_limits ["young", "limit"] sp_limits := by
  obtain ⟨tLEAST_ROOM, gLEAST_ROOM⟩ := T.iLEAST_ROOM
  obtain ⟨tMOST_LIMIT, gMOST_LIMIT⟩ := T.iMOST_LIMIT
  obtain ⟨tMOST_YOUNG, gMOST_YOUNG⟩ := T.iMOST_YOUNG
  refine mk0 T.D_f_look_at_limits scf_look_at_limits (fun _ _ _ _ _ _ us hl => match us, hl with | [_, _], _ => rfl) (fun vs H Q E h => ?_) (fun cdv A outer s H vs Q E hr h => ?_)
  · first | (obtain ⟨_, rfl, _⟩ := h; rfl) | (obtain ⟨_, _, rfl, _⟩ := h; rfl) | (obtain ⟨_, _, _, rfl, _⟩ := h; rfl) | (obtain ⟨_, _, _, _, rfl, _⟩ := h; rfl) | (obtain ⟨_, _, _, _, _, rfl, _⟩ := h; rfl) | (obtain ⟨_, _, _, _, _, _, rfl, _⟩ := h; rfl) | (obtain ⟨_, _, _, _, _, _, _, rfl, _⟩ := h; rfl) | (obtain ⟨_, _, _, _, _, _, _, _, rfl, _⟩ := h; rfl)
  · have hu := hu_of hr
    refine ⟨_, (pss_cons (ps_if (PW.pt (pw_and (pt_cmpR op_ne (pv 0) pe_int (nomark _)) (pw_and1 (PW.pt (pw_or (pt_cmpR op_lt (pv 0) (pe_glob (v := .int (7)) rfl gLEAST_ROOM ⟨_, rfl⟩) (nomark _)) (pw_or1 (pt_cmpR op_gt (pv 0) (pe_glob (v := .int (64)) rfl gMOST_YOUNG ⟨_, rfl⟩) (nomark _)))))))) (pss_one ps_never) pss_nil)
      (pss_one (ps_if (PW.pt (pw_or (pt_cmpR op_lt (pv 1) (pe_glob (v := .int (7)) rfl gLEAST_ROOM ⟨_, rfl⟩) (nomark _)) (pw_or1 (pt_cmpR op_gt (pv 1) (pe_glob (v := .int (400)) rfl gMOST_LIMIT ⟨_, rfl⟩) (nomark _))))) (pss_one ps_never) pss_nil))), ?_⟩
    obtain ⟨y, rfl, h1, k⟩ := h
    refine ⟨_, rfl, rfl, _, rfl, ?_⟩
    have fin : ∀ H' : Hp, H' = H → (if (decide ((400 : Int) < 7)) = true then False else True) := fun _ _ => by decide
    rcases h1 with rfl | rfl
    · refine nF rfl (ifF rfl ?_)
      exact ⟨_, rfl, _, _, rfl, rfl, _, rfl, dF (by decide) ⟨_, rfl, _, _, rfl, rfl, _, rfl, dF (by decide) k⟩⟩
    · refine nT (by decide) ?_
      refine ⟨_, rfl, _, _, rfl, rfl, _, rfl, dF (by decide) ⟨_, rfl, _, _, rfl, rfl, _, rfl, dF (by decide) ?_⟩⟩
      exact ⟨_, rfl, _, _, rfl, rfl, _, rfl, dF (by decide) ⟨_, rfl, _, _, rfl, rfl, _, rfl, dF (by decide) k⟩⟩
def ofTh : Ab → V
  | .th t => .int t
  | _ => .non
def sp_thing_of : Sp := fun vs H Q _ => ∃ v x, vs = [v] ∧ Rp H v x ∧ Q (ofTh x) H
theorem scf_thing_of : FnScope ["value"] ["value"] (defScope sf_thing_of) := ⟨rfl, rfl, rfl, by decide +kernel, rfl, by decide +kernel, by decide +kernel⟩
theorem ok_f_thing_of {P : Program} {w : World} {K : PySem.W.Frag} {mg : Str → Option Value} {base : Heap} (T : Tx K mg) : Def P w K mg base CX0 2 af_thing_of ["value"] sp_thing_of := by
  refine mk0 T.D_f_thing_of scf_thing_of (fun _ _ _ _ _ _ us hl => match us, hl with | [_], _ => rfl) (fun vs H Q E h => ?_) (fun cdv A outer s H vs Q E hr h => ?_)
  · first | (obtain ⟨_, rfl, _⟩ := h; rfl) | (obtain ⟨_, _, rfl, _⟩ := h; rfl) | (obtain ⟨_, _, _, rfl, _⟩ := h; rfl) | (obtain ⟨_, _, _, _, rfl, _⟩ := h; rfl) | (obtain ⟨_, _, _, _, _, rfl, _⟩ := h; rfl) | (obtain ⟨_, _, _, _, _, _, rfl, _⟩ := h; rfl) | (obtain ⟨_, _, _, _, _, _, _, rfl, _⟩ := h; rfl) | (obtain ⟨_, _, _, _, _, _, _, _, rfl, _⟩ := h; rfl)
  · have hu := hu_of hr
    refine ⟨_, (pss_cons (ps_if (pt_cmpR op_eq (c_call (ok_f_kind_of T) (hr.mono (by decide)) T.gf_kind_of pass0 (pa_cons (pv 0) pa_nil)) pe_str (nomark _)) (pss_one (ps_ret (pe_ix (r := rIxT K) (ix_tupK rfl) (pv 0) pe_int (fun _ _ => rfl)))) pss_nil)
      (pss_one (ps_ret pe_non))), ?_⟩
    obtain ⟨v, x, rfl, r, k⟩ := h
    refine ⟨_, rfl, v, x, rfl, r, rfl, _, rfl, ?_⟩
    cases x with
    | non => exact dF (by decide +kernel) k
    | num i => exact dF (fun z => absurd (show ("number" : Str) = "thing" from V.str.inj z) (by decide +kernel)) k
    | th t =>
      obtain ⟨q, rfl, hq⟩ := r.th
      exact dT rfl ⟨_, rfl, q, _, 1, _, rfl, rfl, SqT.of hq, atI_nat rfl, k⟩
/-! ### a thing's object -/
def lwV : Option Int → V
  | none => .non
  | some i => .int i
def thF (il : Addr) (old : Bool) (lw : Option Int) : List (Str × V) := [("inside", .ref il), ("aged", .bl old), ("last_word", lwV lw)]
def sp_thing_init : Sp := fun vs H Q _ => ∃ (p dx : Addr) (n : Nat) (b : Bool), vs = [.ref p, .int n, .bl b] ∧ n ≤ 6 ∧ H p = some (.ins cIdealThing dx []) ∧
  ∀ (il : Addr) (H' : Hp), H il = none → H' il = some (.lst (List.replicate n .non)) → H' p = some (.ins cIdealThing dx (thF il b none)) → (∀ c o, H c = some o → c ≠ p → H' c = some o) → Q .non H'
theorem scm_IdealThing_init : FnScope ["self", "fields", "old", "place"] ["self", "fields", "old"] (defScope sm_IdealThing_init) := ⟨rfl, rfl, rfl, by decide +kernel, rfl, by decide +kernel, by decide +kernel⟩
theorem ok_m_IdealThing_init {P : Program} {w : World} {K : PySem.W.Frag} {mg : Str → Option Value} {base : Heap} (T : Tx K mg) : Def P w K mg base CX0 1 am_IdealThing_init ["self", "fields", "old"] sp_thing_init := by
  refine mk0 T.D_m_IdealThing_init scm_IdealThing_init (fun _ _ _ _ _ _ us hl => match us, hl with | [_, _, _], _ => rfl) (fun vs H Q E h => ?_) (fun cdv A outer s H vs Q E hr h => ?_)
  · first | (obtain ⟨_, rfl, _⟩ := h; rfl) | (obtain ⟨_, _, rfl, _⟩ := h; rfl) | (obtain ⟨_, _, _, rfl, _⟩ := h; rfl) | (obtain ⟨_, _, _, _, rfl, _⟩ := h; rfl) | (obtain ⟨_, _, _, _, _, rfl, _⟩ := h; rfl) | (obtain ⟨_, _, _, _, _, _, rfl, _⟩ := h; rfl) | (obtain ⟨_, _, _, _, _, _, _, rfl, _⟩ := h; rfl) | (obtain ⟨_, _, _, _, _, _, _, _, rfl, _⟩ := h; rfl)
  · have hu := hu_of hr
    refine ⟨_, (pss_cons (ps_fld (pv 0) (pe_lc (own := [("place", 3)]) rfl scm_IdealThing_init.nd (pi_range1 (by rfl) T.zrange (pa_cons (pv 1) pa_nil)) (blkOk_by (own := [("place", 3)]) (N := ["self", "fields", "old", "place"]) (sc := defScope sm_IdealThing_init) (by decide +kernel)) (fun _ _ _ _ _ => (pg_name (i := 3) scm_IdealThing_init.nd rfl (by first | exact Or.inl rfl | exact Or.inr rfl))) (fun _ _ _ _ _ => pts_nil) (fun _ _ _ _ _ => pe_non)) rfl)
      (pss_cons (ps_fld (pv 0) (pv 2) rfl)
      (pss_one (ps_fld (pv 0) pe_non rfl)))), ?_⟩
    obtain ⟨p, dx, n, b, rfl, hn, hp, k⟩ := h
    refine ⟨_, rfl, n, rfl, by omega, by omega, fun D hD => ?_⟩
    refine lc_range (lo := 0) (n := (n : Int).toNat) (fun i H' => H' = upd H D (.lst (List.replicate i .non))) rfl (fun i H' hi e => ?_) fun H' e => ?_
    · cases e
      refine ⟨rfl, ?_⟩
      exact ⟨List.replicate i .non, upd_same, by rw [List.length_replicate]; exact litL (by omega), by rw [upd_upd, List.replicate_succ']⟩
    · cases e
      have npD : p ≠ D := ne_of_none hp hD
      refine ⟨_, rfl, p, _, dx, _, rfl, (by rw [upd_ne npD]; exact hp), T.clIdealThing, T.nIdealThing_inside, by decide, ?_⟩
      refine ⟨_, rfl, _, rfl, p, _, dx, _, rfl, upd_same, T.clIdealThing, T.nIdealThing_aged, pf1 (pf (Nat.le_refl 0)), ?_⟩
      refine ⟨_, rfl, p, _, dx, _, rfl, upd_same, T.clIdealThing, T.nIdealThing_last_word, pf1 (pf (pf (Nat.le_refl 0))), ?_⟩
      refine k D _ hD ?_ ?_ fun c o hc hcp => ?_
      · rw [upd_ne npD.symm, upd_ne npD.symm, upd_ne npD.symm, upd_same]
        rfl
      · rw [upd_same]
        exact congrArg (fun l => some (HO.ins cIdealThing dx l)) (by kernel_rfl)
      · rw [upd_ne hcp, upd_ne hcp, upd_ne hcp, upd_ne (ne_of_none hc hD)]
        exact hc
end SH
/-! Plain mathematics: lists of things. -/
namespace SH
open PySem L2
theorem take_snoc {α : Type} : ∀ {l : List α} {i : Nat} {x : α}, l[i]? = some x → l.take (i + 1) = l.take i ++ [x]
  | _ :: _, 0, _, e => by cases e; rfl
  | a :: r, i + 1, _, e => by
    show a :: r.take (i + 1) = a :: (r.take i ++ _)
    rw [take_snoc (l := r) (i := i) e]
  | [], _, _, e => by cases e
theorem take_all {α : Type} {l : List α} : l.take l.length = l := List.take_length
theorem foldl_take {α β : Type} {f : β → α → β} {b : β} {l : List α} {i : Nat} {x : α} (h : l[i]? = some x) : (l.take (i + 1)).foldl f b = f ((l.take i).foldl f b) x := by
  rw [take_snoc h, List.foldl_append]
  rfl
theorem filter_take {α : Type} {p : α → Bool} {l : List α} {i : Nat} {x : α} (h : l[i]? = some x) : (l.take (i + 1)).filter p = (l.take i).filter p ++ (if p x = true then [x] else []) := by
  rw [take_snoc h, List.filter_append]
  congr 1
  by_cases q : p x = true
  · rw [if_pos q, List.filter_cons, if_pos q]; rfl
  · rw [if_neg q, List.filter_cons, if_neg q]; rfl
theorem len_take {α : Type} {l : List α} {i : Nat} : (l.take i).length ≤ l.length := by
  rw [List.length_take]
  exact Nat.min_le_right _ _
theorem get_lt {α : Type} {l : List α} {i : Nat} {x : α} (h : l[i]? = some x) : i < l.length := (List.getElem?_eq_some_iff.mp h).1
theorem map_get {α β : Type} {f : α → β} {l : List α} {i : Nat} {y : β} (h : (l.map f)[i]? = some y) : ∃ x, l[i]? = some x ∧ y = f x := by
  rw [List.getElem?_map] at h
  cases e : l[i]? with
  | none => rw [e] at h; cases h
  | some x => rw [e] at h; exact ⟨x, rfl, (Option.some.inj h).symm⟩
/-! ### a set of ints as a list -/
def addI (ks : List Int) (t : Int) : List Int := if t ∈ ks then ks else ks ++ [t]
theorem mem_addI {ks : List Int} {t u : Int} : u ∈ addI ks t ↔ u ∈ ks ∨ u = t := by
  unfold addI
  by_cases h : t ∈ ks
  · rw [if_pos h]
    exact ⟨Or.inl, fun q => q.elim id fun e => e ▸ h⟩
  · rw [if_neg h, List.mem_append, List.mem_singleton]
theorem nd_addI {ks : List Int} {t : Int} (h : ks.Nodup) : (addI ks t).Nodup := by
  unfold addI
  by_cases q : t ∈ ks
  · rw [if_pos q]; exact h
  · rw [if_neg q]; exact nd_snoc h q
theorem len_addI {ks : List Int} {t : Int} : (addI ks t).length ≤ ks.length + 1 := by
  unfold addI
  by_cases q : t ∈ ks
  · rw [if_pos q]; exact Nat.le_succ _
  · rw [if_neg q, List.length_append]; exact Nat.le_refl _
def addT (ks : List Int) : Ab → List Int
  | .th t => addI ks t
  | _ => ks
/-- the things among values, each once -/
def thsOf (xs : List Ab) : List Int := xs.foldl addT []
theorem mem_foldT {t : Int} : ∀ {xs : List Ab} {ks : List Int}, t ∈ xs.foldl addT ks ↔ t ∈ ks ∨ Ab.th t ∈ xs
  | [], ks => by simp
  | x :: xs, ks => by
    show t ∈ xs.foldl addT (addT ks x) ↔ _
    rw [mem_foldT (xs := xs)]
    cases x with
    | non => simp [addT]
    | num i => simp [addT]
    | th u => simp [addT, mem_addI, or_assoc]
theorem mem_thsOf {xs : List Ab} {t : Int} : t ∈ thsOf xs ↔ Ab.th t ∈ xs := by
  unfold thsOf
  rw [mem_foldT]
  simp
theorem nd_foldT : ∀ {xs : List Ab} {ks : List Int}, ks.Nodup → (xs.foldl addT ks).Nodup
  | [], _, h => h
  | x :: xs, ks, h => nd_foldT (xs := xs) (by cases x <;> first | exact h | exact nd_addI h)
theorem nd_thsOf {xs : List Ab} : (thsOf xs).Nodup := nd_foldT List.nodup_nil
theorem len_foldT : ∀ {xs : List Ab} {ks : List Int}, (xs.foldl addT ks).length ≤ ks.length + xs.length
  | [], _ => Nat.le_refl _
  | x :: xs, ks => by
    have h := len_foldT (xs := xs) (ks := addT ks x)
    have q : (addT ks x).length ≤ ks.length + 1 := by cases x <;> first | exact Nat.le_succ _ | exact len_addI
    show (xs.foldl addT (addT ks x)).length ≤ _
    rw [List.length_cons]
    omega
theorem len_thsOf {xs : List Ab} : (thsOf xs).length ≤ xs.length := by
  have h := len_foldT (xs := xs) (ks := [])
  unfold thsOf
  simpa using h
/-- a list without like ones that lies in another one is no longer -/
theorem nd_le : ∀ {l m : List Int}, l.Nodup → (∀ t ∈ l, t ∈ m) → l.length ≤ m.length
  | [], _, _, _ => Nat.zero_le _
  | a :: l, m, h, s => by
    obtain ⟨h1, h2⟩ := List.nodup_cons.mp h
    have hm : a ∈ m := s a List.mem_cons_self
    have q := nd_le (l := l) (m := m.erase a) h2 fun t ht => (List.mem_erase_of_ne fun e => h1 (by rw [← e]; exact ht)).mpr (s t (List.mem_cons_of_mem _ ht))
    rw [List.length_erase_of_mem hm] at q
    have := List.length_pos_of_mem hm
    rw [List.length_cons]
    omega
/-! ### things -/
structure Th where
  t : Int
  a : Addr
  dx : Addr
  il : Addr
  vs : List V
  fs : List Ab
  old : Bool
  lw : Option Int
abbrev keys (cs : List Th) : List Int := cs.map (·.t)
theorem key_at {cs : List Th} {t : Int} (h : t ∈ keys cs) : ∃ c ∈ cs, c.t = t := List.mem_map.mp h
theorem key_of {cs : List Th} {c : Th} (h : c ∈ cs) : c.t ∈ keys cs := List.mem_map.mpr ⟨c, h, rfl⟩
theorem key_inj : ∀ {cs : List Th}, (keys cs).Nodup → ∀ {c d : Th}, c ∈ cs → d ∈ cs → c.t = d.t → c = d
  | [], _, _, _, h, _, _ => by cases h
  | x :: cs, hn, c, d, hc, hd, e => by
    obtain ⟨h1, h2⟩ := List.nodup_cons.mp (show (x.t :: keys cs).Nodup from hn)
    rcases List.mem_cons.mp hc with e1 | hc
    · rcases List.mem_cons.mp hd with e2 | hd
      · exact e1.trans e2.symm
      · refine absurd ?_ h1
        rw [← e1, e]
        exact key_of hd
    · rcases List.mem_cons.mp hd with e2 | hd
      · refine absurd ?_ h1
        rw [← e2, ← e]
        exact key_of hc
      · exact key_inj h2 hc hd e
/-- what is found from some starts through the things of sm -/
structure Led (cs : List Th) (st sm fd : List Int) : Prop where
  nd : fd.Nodup
  sub : ∀ t ∈ fd, t ∈ sm
  base : ∀ t ∈ st, t ∈ sm → t ∈ fd
  step : ∀ c ∈ cs, c.t ∈ fd → ∀ u, Ab.th u ∈ c.fs → u ∈ sm → u ∈ fd
  least : ∀ S : Int → Prop, (∀ t ∈ st, t ∈ sm → S t) → (∀ c ∈ cs, S c.t → ∀ u, Ab.th u ∈ c.fs → u ∈ sm → S u) → ∀ t ∈ fd, S t
/-- within the search: L is left, fd is found -/
structure LedI (cs : List Th) (st sm L fd : List Int) : Prop where
  nd : fd.Nodup
  sub : ∀ t ∈ fd, t ∈ sm
  subL : ∀ t ∈ L, t ∈ sm
  base : ∀ t ∈ st, t ∈ sm → t ∈ fd ∨ t ∈ L
  step : ∀ c ∈ cs, c.t ∈ fd → ∀ u, Ab.th u ∈ c.fs → u ∈ sm → u ∈ fd ∨ u ∈ L
  least : ∀ S : Int → Prop, (∀ t ∈ st, t ∈ sm → S t) → (∀ c ∈ cs, S c.t → ∀ u, Ab.th u ∈ c.fs → u ∈ sm → S u) → (∀ t ∈ fd, S t) ∧ ∀ t ∈ L, S t
  small : L.length ≤ st.length + 6 * fd.length
theorem LedI.start {cs : List Th} {st sm : List Int} : LedI cs st sm (st.filter fun t => decide (t ∈ sm)) [] where
  nd := List.nodup_nil
  sub := fun t h => by cases h
  subL := fun t h => of_decide_eq_true (List.mem_filter.mp h).2
  base := fun t h1 h2 => .inr (List.mem_filter.mpr ⟨h1, decide_eq_true h2⟩)
  step := fun c _ h => by cases h
  least := fun S h1 _ => ⟨fun t h => (by cases h), fun t h => by
    obtain ⟨z1, z2⟩ := List.mem_filter.mp h
    exact h1 t z1 (of_decide_eq_true z2)⟩
  small := by simpa using List.length_filter_le _ st
theorem LedI.done {cs : List Th} {st sm fd : List Int} (I : LedI cs st sm [] fd) : Led cs st sm fd where
  nd := I.nd
  sub := I.sub
  base := fun t h1 h2 => (I.base t h1 h2).resolve_right fun z => by cases z
  step := fun c hc h u h1 h2 => (I.step c hc h u h1 h2).resolve_right fun z => by cases z
  least := fun S h1 h2 => (I.least S h1 h2).1
theorem mem_drop {L : List Int} {u : Int} (h : u ∈ L.dropLast) : u ∈ L := (List.dropLast_sublist L).subset h
theorem mem_last {L : List Int} {t u : Int} (h : L[L.length - 1]? = some t) : u ∈ L → u = t ∨ u ∈ L.dropLast := fun hu => by
  have ne : L ≠ [] := fun z => by rw [z] at h; cases h
  have e : L.dropLast ++ [t] = L := by
    have q := List.dropLast_concat_getLast ne
    have q2 : L.getLast ne = t := by
      rw [List.getLast_eq_getElem]
      obtain ⟨h1, h2⟩ := List.getElem?_eq_some_iff.mp h
      exact h2
    rw [q2] at q
    exact q
  rw [← e] at hu
  rcases List.mem_append.mp hu with q | q
  · exact .inr q
  · exact .inl (List.mem_singleton.mp q)
theorem LedI.skip {cs : List Th} {st sm L fd : List Int} {t : Int} (I : LedI cs st sm L fd) (h : L[L.length - 1]? = some t) (ht : t ∈ fd) : LedI cs st sm L.dropLast fd where
  nd := I.nd
  sub := I.sub
  subL := fun u hu => I.subL u (mem_drop hu)
  base := fun u h1 h2 => (I.base u h1 h2).elim .inl fun z => (mem_last h z).elim (fun e => .inl (e ▸ ht)) .inr
  step := fun c hc h1 u h2 h3 => (I.step c hc h1 u h2 h3).elim .inl fun z => (mem_last h z).elim (fun e => .inl (e ▸ ht)) .inr
  least := fun S h1 h2 => ⟨(I.least S h1 h2).1, fun u hu => (I.least S h1 h2).2 u (mem_drop hu)⟩
  small := by rw [List.length_dropLast]; have := I.small; omega
theorem LedI.take {cs : List Th} {st sm L fd : List Int} {c : Th} (kn : (keys cs).Nodup) (f6 : c.fs.length ≤ 6) (I : LedI cs st sm L fd) (hc : c ∈ cs) (h : L[L.length - 1]? = some c.t) (ht : c.t ∉ fd) :
    LedI cs st sm (L.dropLast ++ (thsOf c.fs).filter fun u => decide (u ∈ sm)) (fd ++ [c.t]) where
  nd := nd_snoc I.nd ht
  sub := fun u hu => (List.mem_append.mp hu).elim (I.sub u) fun z => by
    rw [List.mem_singleton.mp z]
    exact I.subL _ (List.mem_of_getElem? h)
  subL := fun u hu => (List.mem_append.mp hu).elim (fun z => I.subL u (mem_drop z)) fun z => of_decide_eq_true (List.mem_filter.mp z).2
  base := fun u h1 h2 => by
    rcases I.base u h1 h2 with z | z
    · exact .inl (List.mem_append_left _ z)
    · rcases mem_last h z with e | z
      · exact .inl (List.mem_append_right _ (List.mem_singleton.mpr e))
      · exact .inr (List.mem_append_left _ z)
  step := fun d hd h1 u h2 h3 => by
    rcases List.mem_append.mp h1 with z | z
    · rcases I.step d hd z u h2 h3 with z | z
      · exact .inl (List.mem_append_left _ z)
      · rcases mem_last h z with e | z
        · exact .inl (List.mem_append_right _ (List.mem_singleton.mpr e))
        · exact .inr (List.mem_append_left _ z)
    · have e := key_inj kn hd hc (List.mem_singleton.mp z)
      rw [e] at h2
      exact .inr (List.mem_append_right _ (List.mem_filter.mpr ⟨mem_thsOf.mpr h2, decide_eq_true h3⟩))
  least := fun S h1 h2 => by
    obtain ⟨q1, q2⟩ := I.least S h1 h2
    have sc : S c.t := q2 _ (List.mem_of_getElem? h)
    refine ⟨fun u hu => (List.mem_append.mp hu).elim (q1 u) fun z => by rw [List.mem_singleton.mp z]; exact sc, fun u hu => (List.mem_append.mp hu).elim (fun z => q2 u (mem_drop z)) fun z => ?_⟩
    obtain ⟨z1, z2⟩ := List.mem_filter.mp z
    exact h2 c hc sc u (mem_thsOf.mp z1) (of_decide_eq_true z2)
  small := by
    have h1 := I.small
    have h2 : ((thsOf c.fs).filter fun u => decide (u ∈ sm)).length ≤ 6 := Nat.le_trans (List.length_filter_le _ _) (Nat.le_trans len_thsOf f6)
    rw [List.length_append, List.length_dropLast, List.length_append, List.length_singleton]
    omega
end SH
/-! Held things, and the defs that search them. -/
namespace SH
open PySem PySem.Spec PyProof.Rows L2
/-! ### dicts by int keys -/
def tk (ks : List Int) : List (Key × V) := ks.map fun t => (Sum.inl t, V.bl true)
/-- the dict at d may be read and has just these keys -/
def KeysAt (H : Hp) (d : Addr) (ks : List Int) : Prop := ∃ kvs : List (Key × V), Rd H d (.dK kvs) ∧ kvs.map (·.1) = ks.map Sum.inl
theorem tk_keys {ks : List Int} : (tk ks).map (·.1) = ks.map (Sum.inl : Int → Key) := by
  unfold tk
  rw [List.map_map]
  rfl
theorem tk_len {ks : List Int} : (tk ks).length = ks.length := by
  unfold tk
  rw [List.length_map]
theorem has_of {kvs : List (Key × V)} {ks : List Int} (h : kvs.map (·.1) = ks.map Sum.inl) (t : Int) : (valV kvs (Sum.inl t : Key)).isSome = decide (t ∈ ks) := by
  rw [← valV_any]
  have e : (kvs.any fun kv => decide (kv.1 = (Sum.inl t : Key))) = (kvs.map (·.1)).any fun k => decide (k = (Sum.inl t : Key)) := by rw [List.any_map]; rfl
  rw [e, h, List.any_map]
  by_cases q : t ∈ ks
  · rw [decide_eq_true q]
    exact List.any_eq_true.mpr ⟨t, q, decide_eq_true rfl⟩
  · rw [decide_eq_false q]
    refine List.any_eq_false.mpr fun u hu z => q ?_
    have z2 : (Sum.inl u : Key) = Sum.inl t := of_decide_eq_true z
    rw [← Sum.inl.inj z2]
    exact hu
theorem none_of {kvs : List (Key × V)} {ks : List Int} (h : kvs.map (·.1) = ks.map Sum.inl) {t : Int} (ht : t ∉ ks) : valV kvs (Sum.inl t : Key) = none := by
  have q := has_of h t
  rw [decide_eq_false ht] at q
  cases e : valV kvs (Sum.inl t : Key) with
  | none => rfl
  | some v => rw [e] at q; cases q
theorem some_of {kvs : List (Key × V)} {ks : List Int} (h : kvs.map (·.1) = ks.map Sum.inl) {t : Int} (ht : t ∈ ks) : ∃ v, valV kvs (Sum.inl t : Key) = some v := by
  have q := has_of h t
  rw [decide_eq_true ht] at q
  cases e : valV kvs (Sum.inl t : Key) with
  | none => rw [e] at q; cases q
  | some v => exact ⟨v, rfl⟩
theorem putK_tk {ks : List Int} {t : Int} : putK (tk ks) (Sum.inl t : Key) (.bl true) = tk (addI ks t) := by
  unfold addI
  by_cases q : t ∈ ks
  · rw [if_pos q]
    have hs : ((tk ks).any fun kv => decide (kv.1 = (Sum.inl t : Key))) = true := by
      rw [valV_any, has_of tk_keys]
      exact decide_eq_true q
    unfold putK
    rw [if_pos hs]
    unfold tk
    rw [List.map_map]
    refine List.map_congr_left fun u _ => ?_
    show (if (Sum.inl u : Key) = Sum.inl t then ((Sum.inl u : Key), V.bl true) else ((Sum.inl u : Key), V.bl true)) = _
    by_cases z : (Sum.inl u : Key) = Sum.inl t
    · rw [if_pos z]
    · rw [if_neg z]
  · rw [if_neg q, putK_new _ (none_of tk_keys q)]
    unfold tk
    rw [List.map_append]
    rfl
theorem KeysAt.same {H H' : Hp} {d : Addr} {ks : List Int} (s : Same H H') (h : KeysAt H d ks) : KeysAt H' d ks := by
  obtain ⟨kvs, r, e⟩ := h
  refine ⟨kvs, ?_, e⟩
  rcases r with r | ⟨o, r⟩
  · exact .inl (s _ _ r)
  · exact .inr ⟨o, s _ _ r⟩
theorem KeysAt.get {H : Hp} {d : Addr} {ks : List Int} (h : KeysAt H d ks) (t : Int) : ∃ o : Option V, DGet H d (.int t) o ∧ o.isSome = decide (t ∈ ks) := by
  obtain ⟨kvs, r, e⟩ := h
  exact ⟨valV kvs (Sum.inl t), .inl ⟨kvs, Sum.inl t, r, rfl, rfl⟩, has_of e t⟩
theorem KeysAt.of {H : Hp} {d : Addr} {ks : List Int} (h : H d = some (.dK (tk ks))) : KeysAt H d ks := ⟨_, .inl h, tk_keys⟩
/-! ### held things -/
structure ThAt (H : Hp) (c : Th) : Prop where
  ob : H c.a = some (.ins cIdealThing c.dx (thF c.il c.old c.lw))
  il : H c.il = some (.lst c.vs)
  rp : Rps H c.vs c.fs
def kvT (cs : List Th) : List (Key × V) := cs.map fun c => (Sum.inl c.t, V.ref c.a)
theorem kvT_keys {cs : List Th} : (kvT cs).map (·.1) = (keys cs).map (Sum.inl : Int → Key) := by
  unfold kvT keys
  rw [List.map_map, List.map_map]
  rfl
theorem kvT_len {cs : List Th} : (kvT cs).length = cs.length := by
  unfold kvT
  rw [List.length_map]
theorem kvT_val : ∀ {cs : List Th}, (keys cs).Nodup → ∀ {c : Th}, c ∈ cs → valV (kvT cs) (Sum.inl c.t : Key) = some (.ref c.a)
  | [], _, _, h => by cases h
  | x :: cs, hn, c, hc => by
    obtain ⟨h1, h2⟩ := List.nodup_cons.mp (show (x.t :: keys cs).Nodup from hn)
    rcases List.mem_cons.mp hc with e | hc
    · rw [e]
      exact valV_pos rfl
    · refine (valV_neg (p := ((Sum.inl x.t : Key), V.ref x.a)) fun z => ?_).trans (kvT_val h2 hc)
      have e : x.t = c.t := Sum.inl.inj z
      exact h1 (by rw [e]; exact key_of hc)
structure Held (H : Hp) (d : Addr) (cs : List Th) : Prop where
  rd : Rd H d (.dK (kvT cs))
  th : ∀ c ∈ cs, ThAt H c
  kn : (keys cs).Nodup
section
variable {H H' : Hp} {d : Addr} {cs : List Th} {c : Th}
theorem ThAt.same (s : Same H H') (h : ThAt H c) : ThAt H' c := ⟨s _ _ h.ob, s _ _ h.il, h.rp.tu (tu_same s)⟩
theorem rd_same {u : HO} (s : Same H H') (r : Rd H d u) : Rd H' d u := by
  rcases r with r | ⟨o, r⟩
  · exact .inl (s _ _ r)
  · exact .inr ⟨o, s _ _ r⟩
theorem Held.same (s : Same H H') (h : Held H d cs) : Held H' d cs := ⟨rd_same s h.rd, fun c hc => (h.th c hc).same s, h.kn⟩
theorem Held.get (h : Held H d cs) (hc : c ∈ cs) : DGet H d (.int c.t) (some (.ref c.a)) := .inl ⟨_, Sum.inl c.t, h.rd, rfl, (kvT_val h.kn hc).symm⟩
theorem Held.keys (h : Held H d cs) : KeysAt H d (keys cs) := ⟨_, h.rd, kvT_keys⟩
theorem thF_in {il : Addr} {old : Bool} {lw : Option Int} : (thF il old lw).lookup ("inside" : Str) = some (V.ref il) := by kernel_rfl
theorem thF_aged {il : Addr} {old : Bool} {lw : Option Int} : (thF il old lw).lookup ("aged" : Str) = some (V.bl old) := by kernel_rfl
theorem thF_lw {il : Addr} {old : Bool} {lw : Option Int} : (thF il old lw).lookup ("last_word" : Str) = some (lwV lw) := by kernel_rfl
end
/-! ### things_of -/
def sp_things_of (K : PySem.W.Frag) : Sp := fun vs H Q _ => ∃ (l : Addr) (us : List V) (xs : List Ab), vs = [.ref l] ∧ SqL K H l us ∧ Rps H us xs ∧ xs.length ≤ 1000 ∧
  ∀ (r : Addr) (H' : Hp), H r = none → Same H H' → H' r = some (.lst ((thsOf xs).map V.int)) → Q (.ref r) H'
theorem scf_things_of : FnScope ["values", "found", "value", "thing"] ["values"] (defScope sf_things_of) := ⟨rfl, rfl, rfl, by decide +kernel, rfl, by decide +kernel, by decide +kernel⟩
theorem ok_f_things_of {P : Program} {w : World} {K : PySem.W.Frag} {mg : Str → Option Value} {base : Heap} (T : Tx K mg) : Def P w K mg base CX0 3 af_things_of ["values"] (sp_things_of K) := by
  refine mk0 T.D_f_things_of scf_things_of (fun _ _ _ _ _ _ us hl => match us, hl with | [_], _ => rfl) (fun vs H Q E h => ?_) (fun cdv A outer s H vs Q E hr h => ?_)
  · first | (obtain ⟨_, rfl, _⟩ := h; rfl) | (obtain ⟨_, _, rfl, _⟩ := h; rfl) | (obtain ⟨_, _, _, rfl, _⟩ := h; rfl) | (obtain ⟨_, _, _, _, rfl, _⟩ := h; rfl) | (obtain ⟨_, _, _, _, _, rfl, _⟩ := h; rfl) | (obtain ⟨_, _, _, _, _, _, rfl, _⟩ := h; rfl) | (obtain ⟨_, _, _, _, _, _, _, rfl, _⟩ := h; rfl) | (obtain ⟨_, _, _, _, _, _, _, _, rfl, _⟩ := h; rfl)
  · have hu := hu_of hr
    refine ⟨_, (pss_cons (ps_set (i := 1) scf_things_of.nd rfl (by first | exact Or.inl rfl | exact Or.inr rfl) pe_dnewK)
      (pss_cons (ps_for PassesOwn.never rfl (pi_list (pv 0)) (pg_name (i := 2) scf_things_of.nd rfl (by first | exact Or.inl rfl | exact Or.inr rfl))
      (pss_cons (ps_set (i := 3) scf_things_of.nd rfl (by first | exact Or.inl rfl | exact Or.inr rfl) (c_call (ok_f_thing_of T) (hr.mono (by decide)) T.gf_thing_of pass0 (pa_cons (pv 2) pa_nil)))
      (pss_one (ps_if (pt_cmpR op_notN (pv 3) pe_non (nomark _)) (pss_one (ps_dput hu (pv 1) (pv 3) pe_bl rfl)) pss_nil))))
      (pss_one (ps_ret (pe_callTy (call_list_dK rfl) (by rfl) T.zlist (by decide +kernel) (pa_cons (pv 1) pa_nil)))))), ?_⟩
    obtain ⟨l, us, xs, rfl, hs, rp, hz, k⟩ := h
    intro d hd
    refine ⟨_, rfl, l, rfl, ⟨_, (same_new hd).seq hs⟩, for_list (K := K) (a := l) (xs := us) (fun i σ H' => ∃ v2 v3, σ = [some (.ref l), some (.ref d), v2, v3] ∧ H' d = some (.dK (tk (thsOf (xs.take i)))) ∧ Same H H')
      ⟨none, none, rfl, upd_same, same_new hd⟩ (fun i σ H' _ ⟨_, _, _, _, s⟩ => s.seq hs) ?_ ?_⟩
    · rintro i v σ H' hi ⟨v2, v3, rfl, hd', s⟩
      obtain ⟨x, hx, rx⟩ := pd_get rp hi
      have ex : thsOf (xs.take (i + 1)) = addT (thsOf (xs.take i)) x := foldl_take hx
      refine ⟨_, rfl, v, x, rfl, rx.tu (tu_same s), _, rfl, rfl, _, rfl, ?_⟩
      have lz : (tk (thsOf (xs.take i))).length < sizeLine := by
        rw [tk_len]
        have h1 := len_thsOf (xs := xs.take i)
        have h2 := len_take (l := xs) (i := i)
        exact litL (by omega)
      cases x with
      | non => exact nF rfl ⟨_, _, rfl, by rw [ex]; exact hd', s⟩
      | num j => exact nF rfl ⟨_, _, rfl, by rw [ex]; exact hd', s⟩
      | th t =>
        refine nT (by intro z; cases z) ⟨_, rfl, _, rfl, d, _, rfl, DPut.k (k := Sum.inl t) hd' lz, _, _, rfl, ?_, fun b o e => ?_⟩
        · rw [upd_same, ex, putK_tk]
          rfl
        · rw [upd_ne (ne_of_none e hd)]
          exact s b o e
    · rintro σ H' ⟨v2, v3, rfl, hd', s⟩
      have el : us.length = xs.length := pd_len rp
      rw [el, List.take_length] at hd'
      refine ⟨_, rfl, d, _, rfl, hd', fun q hq => ?_⟩
      refine k q _ (s.free hq) (s.trans (same_new hq)) ?_
      rw [upd_same]
      unfold tk
      rw [List.map_map]
      rfl
/-! ### led_within -/
def sp_led (K : PySem.W.Frag) : Sp := fun vs H Q _ => ∃ (dh ls ds : Addr) (cs : List Th) (st sm : List Int), vs = [.ref dh, .ref ls, .ref ds] ∧ Held H dh cs ∧ SqL K H ls (st.map V.int) ∧ KeysAt H ds sm ∧ (∀ t ∈ sm, t ∈ keys cs) ∧
  (∀ c ∈ cs, c.fs.length ≤ 6) ∧ cs.length ≤ 400 ∧ st.length ≤ 10000 ∧
  ∀ (fd : List Int) (r : Addr) (H' : Hp), H r = none → Same H H' → H' r = some (.dK (tk fd)) → Led cs st sm fd → Q (.ref r) H'
theorem fd_len {cs : List Th} {sm fd : List Int} (h1 : fd.Nodup) (h2 : ∀ t ∈ fd, t ∈ sm) (h3 : ∀ t ∈ sm, t ∈ keys cs) (h4 : cs.length ≤ 400) : fd.length ≤ 400 := by
  have h := nd_le h1 fun t ht => h3 t (h2 t ht)
  rw [List.length_map] at h
  omega
theorem scf_led_within : FnScope ["held", "starts", "some", "found", "left", "thing", "other"] ["held", "starts", "some"] (defScope sf_led_within) := ⟨rfl, rfl, rfl, by decide +kernel, rfl, by decide +kernel, by decide +kernel⟩
theorem ok_f_led_within {P : Program} {w : World} {K : PySem.W.Frag} {mg : Str → Option Value} {base : Heap} (T : Tx K mg) : Def P w K mg base CX0 4 af_led_within ["held", "starts", "some"] (sp_led K) := by
  refine mk0 T.D_f_led_within scf_led_within (fun _ _ _ _ _ _ us hl => match us, hl with | [_, _, _], _ => rfl) (fun vs H Q E h => ?_) (fun cdv A outer s H vs Q E hr h => ?_)
  · first | (obtain ⟨_, rfl, _⟩ := h; rfl) | (obtain ⟨_, _, rfl, _⟩ := h; rfl) | (obtain ⟨_, _, _, rfl, _⟩ := h; rfl) | (obtain ⟨_, _, _, _, rfl, _⟩ := h; rfl) | (obtain ⟨_, _, _, _, _, rfl, _⟩ := h; rfl) | (obtain ⟨_, _, _, _, _, _, rfl, _⟩ := h; rfl) | (obtain ⟨_, _, _, _, _, _, _, rfl, _⟩ := h; rfl) | (obtain ⟨_, _, _, _, _, _, _, _, rfl, _⟩ := h; rfl)
  · have hu := hu_of hr
    refine ⟨_, (pss_cons (ps_set (i := 3) scf_led_within.nd rfl (by first | exact Or.inl rfl | exact Or.inr rfl) pe_dnewK)
      (pss_cons (ps_setLc (i := 4) (own := [("thing", 5)]) rfl scf_led_within.nd rfl rfl (sw_true rfl rfl rfl (by decide +kernel)) (pi_list (pv 1)) (blkOk_by (own := [("thing", 5)]) (N := ["held", "starts", "some", "found", "left", "thing", "other"]) (sc := defScope sf_led_within) (by decide +kernel)) (fun _ _ _ _ _ => (pg_name (i := 5) scf_led_within.nd rfl (by first | exact Or.inl rfl | exact Or.inr rfl))) (fun _ _ _ _ _ => (pts_one (pt_cmp (pc_din hu (pv 5) (pv 2))))) (fun _ _ _ _ _ => (pv 5)))
      (pss_cons (ps_while PassesOwn.never (pt_truth (pv 4) (by intro _; rfl)) (pss_cons (ps_set (i := 5) scf_led_within.nd rfl (by first | exact Or.inl rfl | exact Or.inr rfl) (pe_bm0 PySem.F.plainAttrs_list PySem.F.slot_list_pop PySem.F.type_list_pop mt_pop (pv 4)))
      (pss_one (ps_if (pt_cmp (pc_dnotin hu (pv 5) (pv 3))) (pss_cons (ps_dput hu (pv 3) (pv 5) pe_bl rfl)
      (pss_one (ps_expr (pe_bm PySem.F.plainAttrs_list PySem.F.slot_list_extend PySem.F.type_list_extend mt_extend (pv 4) (pa_cons (pe_lc (own := [("other", 6)]) rfl scf_led_within.nd (pi_list (c_call (ok_f_things_of T) (hr.mono (by decide)) T.gf_things_of pass0 (pa_cons (pe_fldK (K := K) rfl (pe_dget hu (pv 0) (pv 5) (fun _ _ => rfl)) rfl) pa_nil))) (blkOk_by (own := [("other", 6)]) (N := ["held", "starts", "some", "found", "left", "thing", "other"]) (sc := defScope sf_led_within) (by decide +kernel)) (fun _ _ _ _ _ => (pg_name (i := 6) scf_led_within.nd rfl (by first | exact Or.inl rfl | exact Or.inr rfl))) (fun _ _ _ _ _ => (pts_one (pt_cmp (pc_din hu (pv 6) (pv 2))))) (fun _ _ _ _ _ => (pv 6))) pa_nil))))) pss_nil))))
      (pss_one (ps_ret (pv 3)))))), ?_⟩
    obtain ⟨dh, ls, ds, cs, st, sm, rfl, hh, hst, hsm, sub, f6, h400, hz, k⟩ := h
    intro d hd
    have s1 : Same H (upd H d (.dK [])) := same_new hd
    refine ⟨_, rfl, ls, rfl, ⟨_, s1.seq hst⟩, fun D hD => ?_⟩
    refine lc_list (K := K) (a := ls) (xs := st.map V.int) (fun i H' => H' = upd (upd H d (.dK [])) D (.lst (((st.take i).filter fun t => decide (t ∈ sm)).map V.int))) rfl
      (fun i H' _ e => by rw [e]; exact (s1.trans (same_new hD)).seq hst) (fun i v H' hi e => ?_) fun H' e => ?_
    · cases e
      obtain ⟨t, ht, rfl⟩ := map_get hi
      have s2 : Same H (upd (upd H d (.dK [])) D (.lst (((st.take i).filter fun t => decide (t ∈ sm)).map V.int))) := s1.trans (same_new hD)
      obtain ⟨o, ho, eo⟩ := (hsm.same s2).get t
      refine ⟨rfl, _, rfl, _, rfl, ds, o, rfl, ho, _, rfl, ?_⟩
      rw [eo]
      by_cases q : t ∈ sm
      · refine dT q ⟨_, rfl, _, upd_same, ?_, ?_⟩
        · rw [List.length_map]
          have := List.length_filter_le (fun t => decide (t ∈ sm)) (st.take i)
          have := len_take (l := st) (i := i)
          exact litL (by omega)
        · rw [upd_upd, filter_take ht, if_pos (decide_eq_true q), List.map_append]
          rfl
      · refine dF q ?_
        rw [filter_take ht, if_neg (fun z => q (of_decide_eq_true z)), List.append_nil]
    · cases e
      rw [List.length_map, List.take_length]
      have neD : D ≠ d := fun z => by rw [z, upd_same] at hD; cases hD
      have hDH : H D = none := s1.free hD
      refine gW (while_by (fun σ H' => ∃ v5 v6 L fd, σ = [some (.ref dh), some (.ref ls), some (.ref ds), some (.ref d), some (.ref D), v5, v6] ∧ Same H H' ∧ H' d = some (.dK (tk fd)) ∧ H' D = some (.lst (L.map V.int)) ∧ LedI cs st sm L fd)
        (fun σ H' => match H' d, H' D with
          | some (.dK kvs), some (.lst xs) => (sm.length + 1 - kvs.length) * 7 + xs.length
          | _, _ => 0) ⟨none, none, _, [], rfl, s1.trans (same_new hD), (by rw [upd_ne neD.symm, upd_same]; rfl), upd_same, LedI.start⟩ ?_ ?_)
      · rintro σ H' ⟨v5, v6, L, fd, rfl, s, hd', hD', I⟩
        have hfd := fd_len I.nd I.sub sub h400
        have hL : L.length ≤ 20000 := by have := I.small; omega
        refine ⟨_, rfl, _, Or.inl ⟨L.map V.int, SqL.of hD', rfl⟩, ?_⟩
        by_cases e0 : L = []
        · cases e0
          refine ifF rfl ⟨_, rfl, ?_⟩
          exact k fd d H' hd s hd' I.done
        · refine ifT (by cases L with | nil => exact absurd rfl e0 | cons a l => rfl) ?_
          have hlen : 0 < L.length := by cases L with | nil => exact absurd rfl e0 | cons a l => exact Nat.succ_pos _
          obtain ⟨t, ht⟩ : ∃ t, L[L.length - 1]? = some t := ⟨_, List.getElem?_eq_getElem (by omega)⟩
          have tsm : t ∈ sm := I.subL t (List.mem_of_getElem? ht)
          obtain ⟨c, hc, ec⟩ := key_at (sub t tsm)
          cases ec
          refine ⟨_, rfl, Or.inl ⟨rfl, _, SqL.of hD'⟩, D, L.map V.int, .int c.t, rfl, rfl, hD', ?_, ?_⟩
          · rw [List.length_map, List.getElem?_map, ht]
            rfl
          have eD : (L.map V.int).dropLast = L.dropLast.map V.int := List.map_dropLast.symm
          rw [eD]
          have s3 : Same H (upd H' D (.lst (L.dropLast.map V.int))) := fun b o e => by
            rw [upd_ne (ne_of_none e hDH)]
            exact s b o e
          have hd3 : upd H' D (.lst (L.dropLast.map V.int)) d = some (.dK (tk fd)) := by rw [upd_ne neD.symm]; exact hd'
          obtain ⟨o, ho, eo⟩ := (KeysAt.of hd3).get c.t
          refine ⟨_, rfl, _, rfl, d, o, rfl, ho, _, rfl, ?_⟩
          rw [eo]
          have drop : (upd H' D (.lst (L.dropLast.map V.int))) D = some (.lst (L.dropLast.map V.int)) := upd_same
          by_cases q : c.t ∈ fd
          · refine nF q ⟨⟨_, _, L.dropLast, fd, rfl, s3, hd3, drop, I.skip ht q⟩, ?_⟩
            show (match upd H' D (.lst (L.dropLast.map V.int)) d, upd H' D (.lst (L.dropLast.map V.int)) D with
              | some (.dK kvs), some (.lst xs) => (sm.length + 1 - kvs.length) * 7 + xs.length
              | _, _ => 0) < (match H' d, H' D with
              | some (.dK kvs), some (.lst xs) => (sm.length + 1 - kvs.length) * 7 + xs.length
              | _, _ => 0)
            rw [hd3, drop, hd', hD']
            show _ * 7 + (L.dropLast.map V.int).length < _ * 7 + (L.map V.int).length
            rw [List.length_map, List.length_map, List.length_dropLast]
            omega
          · refine nT q ?_
            refine ⟨_, rfl, _, rfl, d, _, rfl, DPut.k (k := Sum.inl c.t) hd3 (by rw [tk_len]; exact litL (by omega)), ?_⟩
            rw [putK_tk]
            have ea : addI fd c.t = fd ++ [c.t] := if_neg q
            rw [ea]
            have s4 : Same H (upd (upd H' D (.lst (L.dropLast.map V.int))) d (.dK (tk (fd ++ [c.t])))) := fun b o e => by
              rw [upd_ne (ne_of_none e hd)]
              exact s3 b o e
            have hd4 : upd (upd H' D (.lst (L.dropLast.map V.int))) d (.dK (tk (fd ++ [c.t]))) d = some (.dK (tk (fd ++ [c.t]))) := upd_same
            have hD4 : upd (upd H' D (.lst (L.dropLast.map V.int))) d (.dK (tk (fd ++ [c.t]))) D = some (.lst (L.dropLast.map V.int)) := by rw [upd_ne neD]; exact drop
            generalize upd (upd H' D (.lst (L.dropLast.map V.int))) d (.dK (tk (fd ++ [c.t]))) = H4 at s4 hd4 hD4
            have hh4 := hh.same s4
            have tc := hh4.th c hc
            have lc6 := f6 c hc
            refine ⟨_, rfl, Or.inl ⟨rfl, _, SqL.of hD4⟩, _, rfl, _, rfl, dh, .ref c.a, rfl, hh4.get hc, c.a, _, _, _, _, rfl, tc.ob, T.clIdealThing, T.nIdealThing_inside, thF_in, ?_⟩
            refine ⟨c.il, c.vs, c.fs, rfl, SqL.of tc.il, tc.rp, by omega, fun r H5 hr5 s5 h5 => ?_⟩
            refine ⟨r, rfl, ⟨_, SqL.of h5⟩, fun E5 hE5 => ?_⟩
            have s45 := s4.trans s5
            have lth := len_thsOf (xs := c.fs)
            refine lc_list (K := K) (a := r) (xs := (thsOf c.fs).map V.int) (fun i H' => H' = upd H5 E5 (.lst ((((thsOf c.fs).take i).filter fun t => decide (t ∈ sm)).map V.int))) rfl
              (fun i H' _ e => by rw [e]; exact (same_new hE5).seq (SqL.of h5)) (fun i v H' hi e => ?_) fun H' e => ?_
            · cases e
              obtain ⟨u, hu, rfl⟩ := map_get hi
              obtain ⟨o, ho, eo⟩ := (hsm.same (s45.trans (same_new (o := .lst ((((thsOf c.fs).take i).filter fun t => decide (t ∈ sm)).map V.int)) hE5))).get u
              refine ⟨rfl, _, rfl, _, rfl, ds, o, rfl, ho, _, rfl, ?_⟩
              rw [eo]
              by_cases q : u ∈ sm
              · refine dT q ⟨_, rfl, _, upd_same, ?_, ?_⟩
                · rw [List.length_map]
                  have := List.length_filter_le (fun t => decide (t ∈ sm)) ((thsOf c.fs).take i)
                  have := len_take (l := thsOf c.fs) (i := i)
                  exact litL (by omega)
                · rw [upd_upd, filter_take hu, if_pos (decide_eq_true q), List.map_append]
                  rfl
              · refine dF q ?_
                rw [filter_take hu, if_neg (fun z => q (of_decide_eq_true z)), List.append_nil]
            · cases e
              rw [List.length_map, List.take_length]
              have hD5 : H5 D = some (.lst (L.dropLast.map V.int)) := s5 _ _ hD4
              have neDE : D ≠ E5 := ne_of_none hD5 hE5
              have nedE : d ≠ E5 := ne_of_none (s5 _ _ hd4) hE5
              have nEH : H E5 = none := s45.free hE5
              have lflt := List.length_filter_le (fun t => decide (t ∈ sm)) (thsOf c.fs)
              refine ⟨D, E5, _, _, rfl, rfl, by rw [upd_ne neDE]; exact hD5, upd_same, ?_, ?_, ?_⟩
              · rw [List.length_map, List.length_map, List.length_dropLast]
                exact lit _ (by omega)
              · have hDf : upd (upd H5 E5 (.lst (((thsOf c.fs).filter fun t => decide (t ∈ sm)).map V.int))) D (.lst (L.dropLast.map V.int ++ ((thsOf c.fs).filter fun t => decide (t ∈ sm)).map V.int)) D =
                    some (.lst ((L.dropLast ++ (thsOf c.fs).filter fun t => decide (t ∈ sm)).map V.int)) := by rw [upd_same, List.map_append]
                refine ⟨_, _, _, _, rfl, fun b o e => ?_, ?_, hDf, I.take hh.kn lc6 hc ht q⟩
                · rw [upd_ne (ne_of_none e hDH), upd_ne (ne_of_none e nEH)]
                  exact s45 b o e
                · rw [upd_ne neD.symm, upd_ne nedE]
                  exact s5 _ _ hd4
              · have e1 : upd (upd H5 E5 (.lst (((thsOf c.fs).filter fun t => decide (t ∈ sm)).map V.int))) D (.lst (L.dropLast.map V.int ++ ((thsOf c.fs).filter fun t => decide (t ∈ sm)).map V.int)) d = some (.dK (tk (fd ++ [c.t]))) := by
                  rw [upd_ne neD.symm, upd_ne nedE]
                  exact s5 _ _ hd4
                have e2 : upd (upd H5 E5 (.lst (((thsOf c.fs).filter fun t => decide (t ∈ sm)).map V.int))) D (.lst (L.dropLast.map V.int ++ ((thsOf c.fs).filter fun t => decide (t ∈ sm)).map V.int)) D =
                    some (.lst (L.dropLast.map V.int ++ ((thsOf c.fs).filter fun t => decide (t ∈ sm)).map V.int)) := upd_same
                show (match upd (upd H5 E5 (.lst (((thsOf c.fs).filter fun t => decide (t ∈ sm)).map V.int))) D (.lst (L.dropLast.map V.int ++ ((thsOf c.fs).filter fun t => decide (t ∈ sm)).map V.int)) d,
                    upd (upd H5 E5 (.lst (((thsOf c.fs).filter fun t => decide (t ∈ sm)).map V.int))) D (.lst (L.dropLast.map V.int ++ ((thsOf c.fs).filter fun t => decide (t ∈ sm)).map V.int)) D with
                  | some (.dK kvs), some (.lst xs) => (sm.length + 1 - kvs.length) * 7 + xs.length
                  | _, _ => 0) < (match H' d, H' D with
                  | some (.dK kvs), some (.lst xs) => (sm.length + 1 - kvs.length) * 7 + xs.length
                  | _, _ => 0)
                rw [e1, e2, hd', hD']
                show (sm.length + 1 - (tk (fd ++ [c.t])).length) * 7 + _ < (sm.length + 1 - (tk fd).length) * 7 + _
                have h7 := nd_le I.nd I.sub
                simp only [tk_len, List.length_append, List.length_map, List.length_dropLast, List.length_singleton]
                omega
      · rintro σ H' Q1 Q2 im ⟨v, e, b, ht, q⟩
        exact ⟨v, e, b, ht, im _ _ q⟩
end SH
/-! young_things, words_in, young_kept. -/
namespace SH
open PySem PySem.Spec PyProof.Rows L2
/-! ### what stands but for one place -/
def SB (d : Addr) (H H' : Hp) : Prop := ∀ b o, b ≠ d → H b = some o → H' b = some o
section
variable {H H' H2 : Hp} {d p : Addr} {cs : List Th} {c : Th} {u o : HO} {kvs : List (Key × V)}
theorem SB.upd (d : Addr) (H : Hp) (u : HO) : SB d H (upd H d u) := fun b o h e => by
  rw [upd_ne h]
  exact e
theorem SB.trans (a : SB d H H') (b : SB d H' H2) : SB d H H2 := fun c o h e => b c o h (a c o h e)
theorem SB.same (a : SB d H H') (s : Same H' H2) : SB d H H2 := fun c o h e => s c o (a c o h e)
theorem SB.back (a : SB d H H') (h : H d = some u) : Same H (L2.upd H' d u) := fun b o e => by
  by_cases hb : b = d
  · rw [hb, upd_same]
    rw [hb, h] at e
    exact e
  · rw [upd_ne hb]
    exact a b o hb e
theorem SB.tu (a : SB d H H') (h : H d = some (.dK kvs)) : Tu H H' := fun b xs e => a b _ (ne_of e h (by intro z; cases z)) e
theorem ThAt.sb (a : SB d H H') (h : H d = some (.dK kvs)) (t : ThAt H c) : ThAt H' c :=
  ⟨a _ _ (ne_of t.ob h (by intro z; cases z)) t.ob, a _ _ (ne_of t.il h (by intro z; cases z)) t.il, t.rp.tu (a.tu h)⟩
theorem Held.lock {ds : Addr} {od : Obj} (h : H ds = some (.dK kvs)) (t : Held H d cs) : Held (L2.upd H ds (.frz od (.dK kvs))) d cs := by
  refine ⟨?_, fun c hc => (t.th c hc).sb (SB.upd ds H _) h, t.kn⟩
  by_cases e : d = ds
  · rw [e]
    refine .inr ⟨od, ?_⟩
    rcases t.rd with r | ⟨o, r⟩
    · rw [e, h] at r
      cases r
      exact upd_same
    · rw [e, h] at r
      cases r
  · rcases t.rd with r | ⟨o, r⟩
    · exact .inl (by rw [upd_ne e]; exact r)
    · exact .inr ⟨o, by rw [upd_ne e]; exact r⟩
end
theorem nt_take {cs : List Th} {i : Nat} {c : Th} (hn : (keys cs).Nodup) (h : cs[i]? = some c) : c.t ∉ keys (cs.take i) := by
  have e : (keys cs).take (i + 1) = (keys cs).take i ++ [c.t] := take_snoc (by rw [List.getElem?_map, h]; rfl)
  have q : ((keys cs).take (i + 1)).Nodup := hn.sublist (List.take_sublist _ _)
  rw [e] at q
  intro z
  have z2 : c.t ∈ (keys cs).take i := by
    unfold keys at z ⊢
    rw [← List.map_take]
    exact z
  exact (List.nodup_append.mp q).2.2 _ z2 _ (List.mem_singleton.mpr rfl) rfl
def young (cs : List Th) : List Th := cs.filter fun c => !c.old
theorem keys_filter_mem {cs : List Th} {p : Th → Bool} {t : Int} (h : t ∈ keys (cs.filter p)) : t ∈ keys cs := by
  obtain ⟨c, hc, e⟩ := key_at h
  rw [← e]
  exact key_of (List.mem_filter.mp hc).1
theorem kv_at {cs : List Th} {i : Nat} {k : Key} {v : V} (h : (kvT cs)[i]? = some (k, v)) : ∃ c, cs[i]? = some c ∧ k = Sum.inl c.t ∧ v = .ref c.a := by
  obtain ⟨c, hc, e⟩ := map_get h
  cases e
  exact ⟨c, hc, rfl, rfl⟩
def sp_young_things : Sp := fun vs H Q _ => ∃ (dh : Addr) (cs : List Th), vs = [.ref dh] ∧ H dh = some (.dK (kvT cs)) ∧ Held H dh cs ∧ cs.length ≤ 400 ∧
  ∀ (r : Addr) (H' : Hp), H r = none → Same H H' → H' r = some (.dK (tk (keys (young cs)))) → Q (.ref r) H'
theorem scf_young_things : FnScope ["held", "some", "thing"] ["held"] (defScope sf_young_things) := ⟨rfl, rfl, rfl, by decide +kernel, rfl, by decide +kernel, by decide +kernel⟩
theorem ok_f_young_things {P : Program} {w : World} {K : PySem.W.Frag} {mg : Str → Option Value} {base : Heap} (T : Tx K mg) : Def P w K mg base CX0 1 af_young_things ["held"] sp_young_things := by
  refine mk0 T.D_f_young_things scf_young_things (fun _ _ _ _ _ _ us hl => match us, hl with | [_], _ => rfl) (fun vs H Q E h => ?_) (fun cdv A outer s H vs Q E hr h => ?_)
  · first | (obtain ⟨_, rfl, _⟩ := h; rfl) | (obtain ⟨_, _, rfl, _⟩ := h; rfl) | (obtain ⟨_, _, _, rfl, _⟩ := h; rfl) | (obtain ⟨_, _, _, _, rfl, _⟩ := h; rfl) | (obtain ⟨_, _, _, _, _, rfl, _⟩ := h; rfl) | (obtain ⟨_, _, _, _, _, _, rfl, _⟩ := h; rfl) | (obtain ⟨_, _, _, _, _, _, _, rfl, _⟩ := h; rfl) | (obtain ⟨_, _, _, _, _, _, _, _, rfl, _⟩ := h; rfl)
  · have hu := hu_of hr
    refine ⟨_, (pss_cons (ps_set (i := 1) scf_young_things.nd rfl (by first | exact Or.inl rfl | exact Or.inr rfl) pe_dnewK)
      (pss_cons (ps_lock (ps_for PassesOwn.never rfl (pi_keys (pv 0)) (pg_name (i := 2) scf_young_things.nd rfl (by first | exact Or.inl rfl | exact Or.inr rfl))
      (pss_one (ps_if (pt_not (pt_val (pe_fldK (K := K) rfl (pe_dget hu (pv 0) (pv 2) (fun _ _ => rfl)) rfl))) (pss_one (ps_dput hu (pv 1) (pv 2) pe_bl rfl)) pss_nil))))
      (pss_one (ps_ret (pv 1))))), ?_⟩
    obtain ⟨dh, cs, rfl, hdh, hh, h400, k⟩ := h
    intro d hd
    have hdh1 : upd H d (.dK []) dh = some (.dK (kvT cs)) := same_new hd _ _ hdh
    have nd : d ≠ dh := fun z => by rw [z, hdh] at hd; cases hd
    refine ⟨dh, _, hdh1, trivial, fun od => ?_⟩
    have hh1 : Held (upd (upd H d (.dK [])) dh (.frz od (.dK (kvT cs)))) dh cs := (hh.same (same_new hd)).lock hdh1
    refine ⟨_, rfl, dh, od, rfl, Or.inl ⟨_, upd_same, for_it walk_keys (fun i σ H' => ∃ v2, σ = [some (.ref dh), some (.ref d), v2] ∧ H' d = some (.dK (tk (keys (young (cs.take i))))) ∧ SB d (upd (upd H d (.dK [])) dh (.frz od (.dK (kvT cs)))) H')
      ⟨none, rfl, by rw [upd_ne nd, upd_same]; rfl, fun _ _ _ e => e⟩ (fun i σ H' _ ⟨_, _, _, s⟩ => s _ _ nd.symm upd_same) ?_ ?_⟩⟩
    · rintro i x σ H0 H1 hi ⟨v2, rfl, hd', s⟩ ⟨rfl, k1, v1, hk, rfl⟩
      obtain ⟨c, hc, rfl, rfl⟩ := kv_at hk
      have hcm : c ∈ cs := List.mem_of_getElem? hc
      have hh2 : Held H1 dh cs := ⟨.inr ⟨od, s _ _ nd.symm upd_same⟩, fun e he => by
        have t := hh1.th e he
        have td : (upd (upd H d (.dK [])) dh (.frz od (.dK (kvT cs)))) d = some (.dK []) := by rw [upd_ne nd, upd_same]
        exact t.sb s td, hh.kn⟩
      have tc := hh2.th c hcm
      refine ⟨_, rfl, _, rfl, dh, .ref c.a, rfl, hh2.get hcm, c.a, _, _, _, _, rfl, tc.ob, T.clIdealThing, T.nIdealThing_aged, thF_aged, _, rfl, ?_⟩
      have et : cs.take (i + 1) = cs.take i ++ [c] := take_snoc hc
      have nt := nt_take hh.kn hc
      have ll := len_take (l := cs) (i := i)
      have ly := List.length_filter_le (fun c : Th => !c.old) (cs.take i)
      cases eo : c.old with
      | true =>
        refine ifF rfl ⟨_, rfl, ?_, s⟩
        rw [et]
        unfold young
        rw [List.filter_append, List.filter_cons, if_neg (by rw [eo]; decide), List.filter_nil, List.append_nil]
        exact hd'
      | false =>
        refine ifT rfl ⟨_, rfl, _, rfl, d, _, rfl, DPut.k (k := Sum.inl c.t) hd' (by rw [tk_len, List.length_map]; exact litL (by unfold young; omega)), _, rfl, ?_, s.trans (SB.upd d _ _)⟩
        rw [upd_same, putK_tk, et]
        have e1 : addI (keys (young (cs.take i))) c.t = keys (young (cs.take i)) ++ [c.t] := if_neg fun z => nt (keys_filter_mem z)
        rw [e1]
        unfold young keys
        rw [List.filter_append, List.filter_cons, if_pos (by rw [eo]; rfl), List.filter_nil, List.map_append]
        rfl
    · rintro σ H' ⟨v2, rfl, hd', s⟩
      rw [kvT_len, List.take_length] at hd'
      refine ⟨s _ _ nd.symm upd_same, _, rfl, ?_⟩
      refine k d _ hd (fun b o e => ?_) (by rw [upd_ne nd]; exact hd')
      have hbd := ne_of_none e hd
      by_cases hb : b = dh
      · rw [hb, upd_same]
        rw [hb, hdh] at e
        exact e
      · rw [upd_ne hb]
        refine s b o hbd ?_
        rw [upd_ne hb, upd_ne hbd]
        exact e
/-- the words of some things -/
def wd (cs : List Th) : Int := (cs.map fun c => (c.fs.length : Int) + 1).sum
def sp_words_in (K : PySem.W.Frag) : Sp := fun vs H Q _ => ∃ (dh ds : Addr) (cs ys : List Th) (kvs : List (Key × V)), vs = [.ref dh, .ref ds] ∧ Held H dh cs ∧ H ds = some (.dK kvs) ∧ kvs.map (·.1) = (keys ys).map Sum.inl ∧
  (∀ y ∈ ys, y ∈ cs) ∧ (∀ c ∈ cs, c.fs.length ≤ 6) ∧ ys.length ≤ 400 ∧ ∀ H', Same H H' → Q (.int (wd ys)) H'
theorem keys_at {ks : List Int} {kvs : List (Key × V)} (h : kvs.map (·.1) = ks.map Sum.inl) {i : Nat} {k : Key} {v : V} (hk : kvs[i]? = some (k, v)) : ∃ t, ks[i]? = some t ∧ k = Sum.inl t := by
  have e : (kvs.map (·.1))[i]? = some k := by rw [List.getElem?_map, hk]; rfl
  rw [h] at e
  obtain ⟨t, ht, e2⟩ := map_get e
  exact ⟨t, ht, e2⟩
theorem scf_words_in_ideal : FnScope ["held", "some", "thing"] ["held", "some"] (defScope sf_words_in_ideal) := ⟨rfl, rfl, rfl, by decide +kernel, rfl, by decide +kernel, by decide +kernel⟩
theorem ok_f_words_in_ideal {P : Program} {w : World} {K : PySem.W.Frag} {mg : Str → Option Value} {base : Heap} (T : Tx K mg) : Def P w K mg base CX0 2 af_words_in_ideal ["held", "some"] (sp_words_in K) := by
  refine mk0 T.D_f_words_in_ideal scf_words_in_ideal (fun _ _ _ _ _ _ us hl => match us, hl with | [_, _], _ => rfl) (fun vs H Q E h => ?_) (fun cdv A outer s H vs Q E hr h => ?_)
  · first | (obtain ⟨_, rfl, _⟩ := h; rfl) | (obtain ⟨_, _, rfl, _⟩ := h; rfl) | (obtain ⟨_, _, _, rfl, _⟩ := h; rfl) | (obtain ⟨_, _, _, _, rfl, _⟩ := h; rfl) | (obtain ⟨_, _, _, _, _, rfl, _⟩ := h; rfl) | (obtain ⟨_, _, _, _, _, _, rfl, _⟩ := h; rfl) | (obtain ⟨_, _, _, _, _, _, _, rfl, _⟩ := h; rfl) | (obtain ⟨_, _, _, _, _, _, _, _, rfl, _⟩ := h; rfl)
  · have hu := hu_of hr
    refine ⟨_, (pss_one (ps_ret (pe_callB (cr_sum rfl) (by rfl) T.zsum (by decide +kernel) (pa_cons (pe_lock (pe_lc (own := [("thing", 2)]) rfl scf_words_in_ideal.nd (pi_keys (pv 1)) (blkOk_by (own := [("thing", 2)]) (N := ["held", "some", "thing"]) (sc := defScope sf_words_in_ideal) (by decide +kernel)) (fun _ _ _ _ _ => (pg_name (i := 2) scf_words_in_ideal.nd rfl (by first | exact Or.inl rfl | exact Or.inr rfl))) (fun _ _ _ _ _ => pts_nil) (fun _ _ _ _ _ => (c_call (ok_f_words_of T) (hr.mono (by decide)) T.gf_words_of pass0 (pa_cons (pe_callB (r := rLenQ K) (call_lenQ rfl) (by rfl) T.zlen PySem.boot_len (pa_cons (pe_fldK (K := K) rfl (pe_dget hu (pv 0) (pv 2) (fun _ _ => rfl)) rfl) pa_nil)) pa_nil))))) pa_nil)))), ?_⟩
    obtain ⟨dh, ds, cs, ys, kvs, rfl, hh, hds, hk, sub, f6, h400, k⟩ := h
    refine ⟨ds, _, hds, trivial, fun od => ?_⟩
    have hh1 : Held (upd H ds (.frz od (.dK kvs))) dh cs := hh.lock hds
    have hlen : kvs.length = ys.length := by simpa using congrArg List.length hk
    refine ⟨_, rfl, ds, od, rfl, Or.inl ⟨_, upd_same, fun D hD => lc_it walk_keys (fun i H' => H' = upd (upd H ds (.frz od (.dK kvs))) D (.lst (((ys.take i).map fun c => (c.fs.length : Int) + 1).map V.int))) rfl
      (fun i H' _ e => by rw [e]; exact same_new hD _ _ upd_same) ?_ ?_⟩⟩
    · rintro i x H1 H' hi e ⟨rfl, k1, v1, hkk, rfl⟩
      cases e
      obtain ⟨t, ht, rfl⟩ := keys_at hk hkk
      obtain ⟨c, hc, rfl⟩ := map_get ht
      have hcs : c ∈ cs := sub c (List.mem_of_getElem? hc)
      have s1 : Same (upd H ds (.frz od (.dK kvs))) (upd (upd H ds (.frz od (.dK kvs))) D (.lst (((ys.take i).map fun c => (c.fs.length : Int) + 1).map V.int))) := same_new hD
      have hh2 := hh1.same s1
      have tc := hh2.th c hcs
      have l6 := f6 c hcs
      have el : c.vs.length = c.fs.length := pd_len tc.rp
      refine ⟨rfl, ?_⟩
      refine ⟨_, rfl, _, rfl, dh, .ref c.a, rfl, hh2.get hcs, c.a, _, _, _, _, rfl, tc.ob, T.clIdealThing, T.nIdealThing_inside, thF_in, c.il, c.vs, rfl, Or.inl (SqL.of tc.il), ?_⟩
      refine ⟨_, rfl, ⟨by omega, by omega⟩, _, upd_same, ?_, ?_⟩
      · have := len_take (l := ys) (i := i)
        rw [List.length_map, List.length_map]
        exact litL (by omega)
      · rw [upd_upd, take_snoc hc, List.map_append, List.map_append, el]
        rfl
    · rintro H' e
      cases e
      rw [hlen, List.take_length]
      have nD : D ≠ ds := fun z => by rw [z, upd_same] at hD; cases hD
      refine ⟨same_new hD _ _ upd_same, D, ys.map fun c => (c.fs.length : Int) + 1, rfl, SqL.of (by rw [upd_ne nD, upd_same]), ?_⟩
      exact k _ (((SB.upd ds H _).same (same_new hD)).back hds)
def olds (cs : List Th) : List Th := cs.filter fun c => c.old
/-- where the search of a small round begins -/
def startsOf (hx : List Ab) (cs : List Th) : List Int := thsOf hx ++ (olds cs).flatMap fun c => thsOf c.fs
theorem flat_len : ∀ {cs : List Th}, (∀ c ∈ cs, c.fs.length ≤ 6) → (cs.flatMap fun c => thsOf c.fs).length ≤ 6 * cs.length
  | [], _ => Nat.le_refl _
  | c :: cs, h => by
    have h1 := flat_len (cs := cs) fun d hd => h d (List.mem_cons_of_mem _ hd)
    have h2 := h c List.mem_cons_self
    have h3 := len_thsOf (xs := c.fs)
    rw [List.flatMap_cons, List.length_append, List.length_cons]
    omega
theorem starts_len {hx : List Ab} {cs : List Th} (h8 : hx.length ≤ 8) (f6 : ∀ c ∈ cs, c.fs.length ≤ 6) (h : cs.length ≤ 400) : (startsOf hx cs).length ≤ 2408 := by
  have h1 := len_thsOf (xs := hx)
  have h2 := flat_len (cs := olds cs) fun d hd => f6 d (List.mem_filter.mp hd).1
  have h3 := List.length_filter_le (fun c : Th => c.old) cs
  unfold startsOf
  unfold olds at h2 ⊢
  rw [List.length_append]
  omega
def sp_young_kept (K : PySem.W.Frag) : Sp := fun vs H Q _ => ∃ (dh lh : Addr) (cs : List Th) (hv : List V) (hx : List Ab), vs = [.ref dh, .ref lh] ∧ H dh = some (.dK (kvT cs)) ∧ Held H dh cs ∧ SqL K H lh hv ∧ Rps H hv hx ∧ hx.length ≤ 8 ∧
  (∀ c ∈ cs, c.fs.length ≤ 6) ∧ cs.length ≤ 400 ∧
  ∀ (fd : List Int) (r : Addr) (H' : Hp), H r = none → Same H H' → H' r = some (.dK (tk fd)) → Led cs (startsOf hx cs) (keys (young cs)) fd → Q (.ref r) H'
theorem scf_young_kept : FnScope ["held", "hands", "starts", "thing"] ["held", "hands"] (defScope sf_young_kept) := ⟨rfl, rfl, rfl, by decide +kernel, rfl, by decide +kernel, by decide +kernel⟩
theorem ok_f_young_kept {P : Program} {w : World} {K : PySem.W.Frag} {mg : Str → Option Value} {base : Heap} (T : Tx K mg) : Def P w K mg base CX0 5 af_young_kept ["held", "hands"] (sp_young_kept K) := by
  refine mk0 T.D_f_young_kept scf_young_kept (fun _ _ _ _ _ _ us hl => match us, hl with | [_, _], _ => rfl) (fun vs H Q E h => ?_) (fun cdv A outer s H vs Q E hr h => ?_)
  · first | (obtain ⟨_, rfl, _⟩ := h; rfl) | (obtain ⟨_, _, rfl, _⟩ := h; rfl) | (obtain ⟨_, _, _, rfl, _⟩ := h; rfl) | (obtain ⟨_, _, _, _, rfl, _⟩ := h; rfl) | (obtain ⟨_, _, _, _, _, rfl, _⟩ := h; rfl) | (obtain ⟨_, _, _, _, _, _, rfl, _⟩ := h; rfl) | (obtain ⟨_, _, _, _, _, _, _, rfl, _⟩ := h; rfl) | (obtain ⟨_, _, _, _, _, _, _, _, rfl, _⟩ := h; rfl)
  · have hu := hu_of hr
    refine ⟨_, (pss_cons (ps_set (i := 2) scf_young_kept.nd rfl (by first | exact Or.inl rfl | exact Or.inr rfl) (c_call (ok_f_things_of T) (hr.mono (by decide)) T.gf_things_of pass0 (pa_cons (pv 1) pa_nil)))
      (pss_cons (ps_lock (ps_for PassesOwn.never rfl (pi_keys (pv 0)) (pg_name (i := 3) scf_young_kept.nd rfl (by first | exact Or.inl rfl | exact Or.inr rfl))
      (pss_one (ps_if (pt_val (pe_fldK (K := K) rfl (pe_dget hu (pv 0) (pv 3) (fun _ _ => rfl)) rfl)) (pss_one (ps_expr (pe_bm PySem.F.plainAttrs_list PySem.F.slot_list_extend PySem.F.type_list_extend mt_extend (pv 2) (pa_cons (c_call (ok_f_things_of T) (hr.mono (by decide)) T.gf_things_of pass0 (pa_cons (pe_fldK (K := K) rfl (pe_dget hu (pv 0) (pv 3) (fun _ _ => rfl)) rfl) pa_nil)) pa_nil)))) pss_nil))))
      (pss_one (ps_ret (c_call (ok_f_led_within T) (hr.mono (by decide)) T.gf_led_within pass0 (pa_cons (pv 0) (pa_cons (pv 2) (pa_cons (c_call (ok_f_young_things T) (hr.mono (by decide)) T.gf_young_things pass0 (pa_cons (pv 0) pa_nil)) pa_nil)))))))), ?_⟩
    obtain ⟨dh, lh, cs, hv, hx, rfl, hdh, hh, hl, hr8, h8, f6, h400, k⟩ := h
    refine ⟨_, rfl, lh, hv, hx, rfl, hl, hr8, by omega, fun l H1 nl s1 hl1 => ?_⟩
    have hdh1 : H1 dh = some (.dK (kvT cs)) := s1 _ _ hdh
    have nd : l ≠ dh := fun z => by rw [z, hdh] at nl; cases nl
    refine ⟨dh, _, hdh1, trivial, fun od => ?_⟩
    have hh1 : Held (upd H1 dh (.frz od (.dK (kvT cs)))) dh cs := (hh.same s1).lock hdh1
    have hl2 : upd H1 dh (.frz od (.dK (kvT cs))) l = some (.lst ((thsOf hx).map V.int)) := by rw [upd_ne nd]; exact hl1
    refine ⟨_, rfl, dh, od, rfl, Or.inl ⟨_, upd_same, for_it walk_keys (fun i σ H' => ∃ v3, σ = [some (.ref dh), some (.ref lh), some (.ref l), v3] ∧ H' l = some (.lst ((startsOf hx (cs.take i)).map V.int)) ∧ SB l (upd H1 dh (.frz od (.dK (kvT cs)))) H')
      ⟨none, rfl, by rw [hl2]; unfold startsOf olds; simp, fun _ _ _ e => e⟩ (fun i σ H' _ ⟨_, _, _, s⟩ => s _ _ nd.symm upd_same) ?_ ?_⟩⟩
    · rintro i x σ H0 H3 hi ⟨v3, rfl, hl3, s⟩ ⟨rfl, k1, v1, hk, rfl⟩
      obtain ⟨c, hc, rfl, rfl⟩ := kv_at hk
      have hcm : c ∈ cs := List.mem_of_getElem? hc
      have slock : ∀ e ∈ cs, ThAt H3 e := fun e he => by
        have t := hh1.th e he
        have n1 : e.il ≠ l := fun z => by
          have q := ((hh.th e he).il)
          rw [z, nl] at q
          cases q
        refine ⟨s _ _ (ne_of t.ob hl2 (by intro z; cases z)) t.ob, s _ _ n1 t.il, t.rp.tu fun b xs e => s _ _ (ne_of e hl2 (by intro z; cases z)) e⟩
      have hh3 : Held H3 dh cs := ⟨.inr ⟨od, s _ _ nd.symm upd_same⟩, slock, hh.kn⟩
      have tc := hh3.th c hcm
      have l6 := f6 c hcm
      refine ⟨_, rfl, _, rfl, dh, .ref c.a, rfl, hh3.get hcm, c.a, _, _, _, _, rfl, tc.ob, T.clIdealThing, T.nIdealThing_aged, thF_aged, _, rfl, ?_⟩
      have et : cs.take (i + 1) = cs.take i ++ [c] := take_snoc hc
      cases eo : c.old with
      | false =>
        refine ifF rfl ⟨_, rfl, ?_, s⟩
        rw [et]
        unfold startsOf olds
        rw [List.filter_append, List.filter_cons, if_neg (by rw [eo]; decide), List.filter_nil, List.append_nil]
        exact hl3
      | true =>
        refine ifT rfl ?_
        refine ⟨_, rfl, Or.inl ⟨rfl, _, SqL.of hl3⟩, _, rfl, _, rfl, dh, .ref c.a, rfl, hh3.get hcm, c.a, _, _, _, _, rfl, tc.ob, T.clIdealThing, T.nIdealThing_inside, thF_in, ?_⟩
        refine ⟨c.il, c.vs, c.fs, rfl, SqL.of tc.il, tc.rp, by omega, fun r H4 nr s4 h4 => ?_⟩
        have hl4 := s4 _ _ hl3
        have ln := starts_len (hx := hx) (cs := cs.take i) h8 (fun d hd => f6 d (List.mem_of_mem_take hd)) (Nat.le_trans len_take h400)
        have lth := len_thsOf (xs := c.fs)
        refine ⟨l, r, _, _, rfl, rfl, hl4, h4, ?_, _, rfl, ?_, (s.same s4).trans (SB.upd l _ _)⟩
        · rw [List.length_map, List.length_map]
          exact lit _ (by omega)
        · rw [upd_same, et]
          unfold startsOf olds
          rw [List.filter_append, List.filter_cons, if_pos eo, List.filter_nil, List.flatMap_append, List.flatMap_cons, List.flatMap_nil, List.append_nil, ← List.append_assoc, List.map_append (l₁ := _ ++ _)]
    · rintro σ H' ⟨v3, rfl, hl3, s⟩
      rw [kvT_len, List.take_length] at hl3
      refine ⟨s _ _ nd.symm upd_same, ?_⟩
      have sf : Same H (upd H' dh (.dK (kvT cs))) := fun b o e => by
        have hbl := ne_of_none e nl
        by_cases hb : b = dh
        · rw [hb, upd_same]
          rw [hb, hdh] at e
          exact e
        · rw [upd_ne hb]
          refine s b o hbl ?_
          rw [upd_ne hb]
          exact s1 b o e
      have hlf : upd H' dh (.dK (kvT cs)) l = some (.lst ((startsOf hx cs).map V.int)) := by rw [upd_ne nd]; exact hl3
      generalize upd H' dh (.dK (kvT cs)) = H5 at sf hlf
      refine ⟨_, rfl, _, rfl, _, rfl, dh, cs, rfl, sf _ _ hdh, hh.same sf, h400, fun y H6 ny s6 h6 => ?_⟩
      have s06 := sf.trans s6
      have ln := starts_len (hx := hx) (cs := cs) h8 f6 h400
      exact ⟨dh, l, y, cs, _, _, rfl, hh.same s06, SqL.of (s6 _ _ hlf), KeysAt.of h6, fun t ht => keys_filter_mem ht, f6, h400, by omega, fun fd r H7 nr s7 h7 L => k fd r H7 (s06.free nr) (s06.trans s7) h7 L⟩
end SH
/-! The ideal heap's data, and what holds of it between two deeds. -/
namespace SH
open PySem L2
structure HS where
  dx : Addr
  lh : Addr
  ln : Addr
  dk : Addr
  ls : Addr
  room : Int
  hv : List V
  hx : List Ab
  nv : List (Option Int)
  cs : List Th
  n : Nat
  g : Option (Addr × List Int)
  sp : List Int
structure GoOk (s : HS) (g : List Int) : Prop where
  nd : g.Nodup
  sub : ∀ t ∈ g, t ∈ keys s.cs
  old : ∀ c ∈ s.cs, c.t ∈ g → c.old = true
  hand : ∀ t ∈ g, Ab.th t ∉ s.hx
  fld : ∀ c ∈ s.cs, c.t ∉ g → ∀ t ∈ g, Ab.th t ∉ c.fs
structure WF (m : Nat) (s : HS) : Prop where
  kn : (keys s.cs).Nodup
  kl : ∀ c ∈ s.cs, 0 ≤ c.t ∧ c.t < s.n
  nm : s.n ≤ m
  sl : s.sp.length + s.cs.length ≤ s.n
  wd : wd s.cs ≤ 400
  f6 : ∀ c ∈ s.cs, c.fs.length ≤ 6
  cl : ∀ c ∈ s.cs, ∀ t, Ab.th t ∈ c.fs → t ∈ keys s.cs
  hc : ∀ t, Ab.th t ∈ s.hx → t ∈ keys s.cs
  h8 : s.hx.length = 8
  nc : ∀ t, some t ∈ s.nv → t ∈ keys s.cs
  n8 : s.nv.length = 8
  rm : s.room = 0 ∨ s.room = 10
  go : ∀ d g, s.g = some (d, g) → GoOk s g
theorem wd_ge : ∀ cs : List Th, (cs.length : Int) ≤ wd cs
  | [] => Int.le_refl 0
  | c :: cs => by
    have h := wd_ge cs
    show ((cs.length + 1 : Nat) : Int) ≤ (c.fs.length : Int) + 1 + wd cs
    omega
theorem WF.c400 {m : Nat} {s : HS} (w : WF m s) : s.cs.length ≤ 400 := by
  have h := wd_ge s.cs
  have := w.wd
  omega
/-- a value that may be put anywhere -/
def Put (s : HS) (x : Ab) : Prop := ∀ t, x = .th t → t ∈ keys s.cs ∧ ∀ d g, s.g = some (d, g) → t ∉ g
theorem Put.non {s : HS} : Put s .non := fun t e => by cases e
theorem Put.num {s : HS} {i : Int} : Put s (.num i) := fun t e => by cases e
theorem WF.put_hand {m : Nat} {s : HS} (w : WF m s) {x : Ab} (h : x ∈ s.hx) : Put s x := fun t e => by
  cases e
  exact ⟨w.hc t h, fun d g e hg => (w.go d g e).hand t hg h⟩
/-- a thing that a hand holds -/
def InHand (s : HS) (c : Th) : Prop := c ∈ s.cs ∧ Ab.th c.t ∈ s.hx
theorem WF.put_fld {m : Nat} {s : HS} (w : WF m s) {c : Th} (hc : InHand s c) {x : Ab} (h : x ∈ c.fs) : Put s x := fun t e => by
  cases e
  exact ⟨w.cl c hc.1 t h, fun d g e hg => (w.go d g e).fld c hc.1 (fun z => (w.go d g e).hand c.t z hc.2) t hg h⟩
theorem mem_set {α : Type} : ∀ {l : List α} {i : Nat} {a b : α}, b ∈ l.set i a → b = a ∨ b ∈ l
  | [], _, _, _, h => by cases h
  | x :: l, 0, a, b, h => by
    rcases List.mem_cons.mp h with e | h
    · exact .inl e
    · exact .inr (List.mem_cons_of_mem _ h)
  | x :: l, i + 1, a, b, h => by
    rcases List.mem_cons.mp (show b ∈ x :: l.set i a from h) with e | h
    · exact .inr (by rw [e]; exact List.mem_cons_self)
    · exact (mem_set h).elim .inl fun z => .inr (List.mem_cons_of_mem _ z)
theorem WF.mono {m k : Nat} {s : HS} (w : WF m s) (h : m ≤ k) : WF k s := ⟨w.kn, w.kl, Nat.le_trans w.nm h, w.sl, w.wd, w.f6, w.cl, w.hc, w.h8, w.nc, w.n8, w.rm, w.go⟩
theorem WF.hand {m : Nat} {s : HS} (w : WF m s) {x : Ab} (hx : Put s x) (h : Nat) (vs : List V) : WF m { s with hv := vs, hx := s.hx.set h x } where
  kn := w.kn
  kl := w.kl
  nm := w.nm
  sl := w.sl
  wd := w.wd
  f6 := w.f6
  cl := w.cl
  hc := fun t ht => (mem_set ht).elim (fun e => (hx t e.symm).1) fun z => w.hc t z
  h8 := by
    show (s.hx.set h x).length = 8
    rw [List.length_set]
    exact w.h8
  nc := w.nc
  n8 := w.n8
  rm := w.rm
  go := fun d g e => by
    have q := w.go d g e
    exact ⟨q.nd, q.sub, q.old, fun t ht hm => (mem_set hm).elim (fun e2 => (hx t e2.symm).2 d g e ht) fun z => q.hand t ht z, q.fld⟩
theorem WF.name {m : Nat} {s : HS} (w : WF m s) {t : Int} (ht : t ∈ keys s.cs) (k : Nat) : WF m { s with nv := s.nv.set k (some t) } where
  kn := w.kn
  kl := w.kl
  nm := w.nm
  sl := w.sl
  wd := w.wd
  f6 := w.f6
  cl := w.cl
  hc := w.hc
  h8 := w.h8
  nc := fun u hu => (mem_set hu).elim (fun e => by cases e; exact ht) fun z => w.nc u z
  n8 := by
    show (s.nv.set k (some t)).length = 8
    rw [List.length_set]
    exact w.n8
  rm := w.rm
  go := fun d g e => let q := w.go d g e; ⟨q.nd, q.sub, q.old, q.hand, q.fld⟩
/-! ### one thing is changed -/
def updT (cs : List Th) (t : Int) (f : Th → Th) : List Th := cs.map fun c => if c.t = t then f c else c
section
variable {cs : List Th} {t : Int} {f : Th → Th}
theorem updT_keys (hf : ∀ c, (f c).t = c.t) : keys (updT cs t f) = keys cs := by
  unfold updT keys
  rw [List.map_map]
  refine List.map_congr_left fun c _ => ?_
  show (if c.t = t then f c else c).t = c.t
  by_cases h : c.t = t
  · rw [if_pos h, hf]
  · rw [if_neg h]
theorem updT_map {α : Type} {k : Th → α} (hf : ∀ c, k (f c) = k c) : (updT cs t f).map k = cs.map k := by
  unfold updT
  rw [List.map_map]
  refine List.map_congr_left fun c _ => ?_
  show k (if c.t = t then f c else c) = k c
  by_cases h : c.t = t
  · rw [if_pos h, hf]
  · rw [if_neg h]
theorem mem_updT {e : Th} (h : e ∈ updT cs t f) : ∃ c ∈ cs, (c.t = t ∧ e = f c) ∨ (c.t ≠ t ∧ c = e) := by
  obtain ⟨c, hc, e2⟩ := List.mem_map.mp h
  refine ⟨c, hc, ?_⟩
  by_cases q : c.t = t
  · rw [if_pos q] at e2
    exact .inl ⟨q, e2.symm⟩
  · rw [if_neg q] at e2
    exact .inr ⟨q, e2⟩
theorem updT_len : (updT cs t f).length = cs.length := by
  unfold updT
  rw [List.length_map]
end
theorem WF.field {m : Nat} {s : HS} (w : WF m s) {x : Ab} (hx : Put s x) {c : Th} (hc : InHand s c) (k : Nat) (us : List V) : WF m { s with cs := updT s.cs c.t fun e => { e with vs := us, fs := e.fs.set k x } } := by
  have ek : keys (updT s.cs c.t fun e => { e with vs := us, fs := e.fs.set k x }) = keys s.cs := updT_keys fun _ => rfl
  refine ⟨?_, fun e he => ?_, w.nm, ?_, ?_, fun e he => ?_, fun e he t ht => ?_, fun t ht => ?_, w.h8, fun t ht => ?_, w.n8, w.rm, fun d g e => ?_⟩
  · show (keys (updT s.cs c.t _)).Nodup
    rw [ek]
    exact w.kn
  · obtain ⟨c0, h0, ⟨_, rfl⟩ | ⟨_, rfl⟩⟩ := mem_updT he
    · exact w.kl c0 h0
    · exact w.kl c0 h0
  · show s.sp.length + (updT s.cs c.t _).length ≤ s.n
    rw [updT_len]
    exact w.sl
  · show ((updT s.cs c.t _).map fun c => (c.fs.length : Int) + 1).sum ≤ 400
    rw [updT_map fun e => by rw [List.length_set]]
    exact w.wd
  · obtain ⟨c0, h0, ⟨_, rfl⟩ | ⟨_, rfl⟩⟩ := mem_updT he
    · show (c0.fs.set k x).length ≤ 6
      rw [List.length_set]
      exact w.f6 c0 h0
    · exact w.f6 c0 h0
  · show t ∈ keys (updT s.cs c.t _)
    rw [ek]
    obtain ⟨c0, h0, ⟨_, rfl⟩ | ⟨_, rfl⟩⟩ := mem_updT he
    · exact (mem_set ht).elim (fun e => (hx t e.symm).1) fun z => w.cl c0 h0 t z
    · exact w.cl c0 h0 t ht
  · show t ∈ keys (updT s.cs c.t _)
    rw [ek]
    exact w.hc t ht
  · show t ∈ keys (updT s.cs c.t _)
    rw [ek]
    exact w.nc t ht
  · have q := w.go d g e
    refine ⟨q.nd, fun t ht => ?_, fun e2 he2 ht => ?_, q.hand, fun e2 he2 hn t ht hm => ?_⟩
    · show t ∈ keys (updT s.cs c.t _)
      rw [ek]
      exact q.sub t ht
    · obtain ⟨c0, h0, ⟨_, rfl⟩ | ⟨_, rfl⟩⟩ := mem_updT he2
      · exact q.old c0 h0 ht
      · exact q.old c0 h0 ht
    · obtain ⟨c0, h0, ⟨_, rfl⟩ | ⟨_, rfl⟩⟩ := mem_updT he2
      · exact (mem_set hm).elim (fun e3 => (hx t e3.symm).2 d g e ht) fun z => q.fld c0 h0 hn t ht z
      · exact q.fld c0 h0 hn t ht hm
theorem WF.lw {m : Nat} {s : HS} (w : WF m s) (t0 : Int) (x : Option Int) : WF m { s with cs := updT s.cs t0 fun e => { e with lw := x } } := by
  have ek : keys (updT s.cs t0 fun e => { e with lw := x }) = keys s.cs := updT_keys fun _ => rfl
  refine ⟨?_, fun e he => ?_, w.nm, ?_, ?_, fun e he => ?_, fun e he t ht => ?_, fun t ht => ?_, w.h8, fun t ht => ?_, w.n8, w.rm, fun d g e => ?_⟩
  · show (keys (updT s.cs t0 _)).Nodup
    rw [ek]
    exact w.kn
  · obtain ⟨c0, h0, ⟨_, rfl⟩ | ⟨_, rfl⟩⟩ := mem_updT he
    · exact w.kl c0 h0
    · exact w.kl c0 h0
  · show s.sp.length + (updT s.cs t0 _).length ≤ s.n
    rw [updT_len]
    exact w.sl
  · show ((updT s.cs t0 _).map fun c => (c.fs.length : Int) + 1).sum ≤ 400
    rw [updT_map (f := fun e => { e with lw := x }) fun e => rfl]
    exact w.wd
  · obtain ⟨c0, h0, ⟨_, rfl⟩ | ⟨_, rfl⟩⟩ := mem_updT he
    · exact w.f6 c0 h0
    · exact w.f6 c0 h0
  · show t ∈ keys (updT s.cs t0 _)
    rw [ek]
    obtain ⟨c0, h0, ⟨_, rfl⟩ | ⟨_, rfl⟩⟩ := mem_updT he
    · exact w.cl c0 h0 t ht
    · exact w.cl c0 h0 t ht
  · show t ∈ keys (updT s.cs t0 _)
    rw [ek]
    exact w.hc t ht
  · show t ∈ keys (updT s.cs t0 _)
    rw [ek]
    exact w.nc t ht
  · have q := w.go d g e
    refine ⟨q.nd, fun t ht => ?_, fun e2 he2 ht => ?_, q.hand, fun e2 he2 hn t ht hm => ?_⟩
    · show t ∈ keys (updT s.cs t0 _)
      rw [ek]
      exact q.sub t ht
    · obtain ⟨c0, h0, ⟨_, rfl⟩ | ⟨_, rfl⟩⟩ := mem_updT he2
      · exact q.old c0 h0 ht
      · exact q.old c0 h0 ht
    · obtain ⟨c0, h0, ⟨_, rfl⟩ | ⟨_, rfl⟩⟩ := mem_updT he2
      · exact q.fld c0 h0 hn t ht hm
      · exact q.fld c0 h0 hn t ht hm
/-! ### read: what is given back -/
theorem WF.back {m : Nat} {s : HS} (w : WF m s) {d : Addr} {g fd : List Int} (e : s.g = some (d, g)) {t : Int} (L : Led s.cs [t] g fd) : WF m { s with g := some (d, g.filter fun u => decide (u ∉ fd)) } := by
  have q := w.go d g e
  refine ⟨w.kn, w.kl, w.nm, w.sl, w.wd, w.f6, w.cl, w.hc, w.h8, w.nc, w.n8, w.rm, fun d2 g2 e2 => ?_⟩
  cases e2
  refine ⟨q.nd.filter _, fun u hu => q.sub u (List.mem_filter.mp hu).1, fun c hc hu => q.old c hc (List.mem_filter.mp hu).1, fun u hu => q.hand u (List.mem_filter.mp hu).1, fun c hc hn u hu hm => ?_⟩
  obtain ⟨u1, u2⟩ := List.mem_filter.mp hu
  have u3 : u ∉ fd := of_decide_eq_true u2
  by_cases hcg : c.t ∈ g
  · have hf : c.t ∈ fd := Decidable.byContradiction fun z => hn (List.mem_filter.mpr ⟨hcg, decide_eq_true z⟩)
    exact u3 (L.step c hc hf u hm u1)
  · exact q.fld c hc hcg u u1 hm
theorem put_back {s : HS} {d : Addr} {g fd : List Int} {t : Int} (L : Led s.cs [t] g fd) (ht : t ∈ keys s.cs) : Put { s with g := some (d, g.filter fun u => decide (u ∉ fd)) } (.th t) := fun u e => by
  cases e
  refine ⟨ht, fun d2 g2 e2 hm => ?_⟩
  cases e2
  obtain ⟨u1, u2⟩ := List.mem_filter.mp hm
  exact (of_decide_eq_true u2) (L.base t (List.mem_singleton.mpr rfl) u1)
/-! ### things go -/
/-- what is left -/
def left (cs : List Th) (g : List Int) : List Th := cs.filter fun c => decide (c.t ∉ g)
theorem mem_left {cs : List Th} {g : List Int} {c : Th} : c ∈ left cs g ↔ c ∈ cs ∧ c.t ∉ g := by
  unfold left
  rw [List.mem_filter]
  exact ⟨fun h => ⟨h.1, of_decide_eq_true h.2⟩, fun h => ⟨h.1, decide_eq_true h.2⟩⟩
theorem key_left {cs : List Th} {g : List Int} {t : Int} : t ∈ keys (left cs g) ↔ t ∈ keys cs ∧ t ∉ g := by
  constructor
  · intro h
    obtain ⟨c, hc, rfl⟩ := key_at h
    obtain ⟨h1, h2⟩ := mem_left.mp hc
    exact ⟨key_of h1, h2⟩
  · rintro ⟨h1, h2⟩
    obtain ⟨c, hc, rfl⟩ := key_at h1
    exact key_of (mem_left.mpr ⟨hc, h2⟩)
theorem wd_filter : ∀ (cs : List Th) (p : Th → Bool), wd (cs.filter p) ≤ wd cs
  | [], _ => Int.le_refl _
  | c :: cs, p => by
    have h := wd_filter cs p
    have e : wd (c :: cs) = (c.fs.length : Int) + 1 + wd cs := rfl
    by_cases q : p c = true
    · rw [List.filter_cons, if_pos q]
      show (c.fs.length : Int) + 1 + wd (cs.filter p) ≤ _
      omega
    · rw [List.filter_cons, if_neg q]
      omega
theorem wd_map {cs : List Th} {f : Th → Th} (hf : ∀ c, (f c).fs = c.fs) : wd (cs.map f) = wd cs := by
  unfold wd
  rw [List.map_map]
  refine congrArg List.sum (List.map_congr_left fun c _ => ?_)
  show ((f c).fs.length : Int) + 1 = _
  rw [hf]
/-- the names of what is left -/
def nameLeft (nv : List (Option Int)) (g : List Int) : List (Option Int) := nv.map fun o => match o with
  | some t => if t ∈ g then none else some t
  | none => none
theorem mem_nameLeft {nv : List (Option Int)} {g : List Int} {t : Int} (h : some t ∈ nameLeft nv g) : some t ∈ nv ∧ t ∉ g := by
  obtain ⟨o, ho, e⟩ := List.mem_map.mp h
  cases o with
  | none => cases e
  | some u =>
    by_cases q : u ∈ g
    · rw [show (match some u with | some t => if t ∈ g then (none : Option Int) else some t | none => none) = none from if_pos q] at e
      cases e
    · rw [show (match some u with | some t => if t ∈ g then (none : Option Int) else some t | none => none) = some u from if_neg q] at e
      cases e
      exact ⟨ho, q⟩
/-- the young ones that stay become old -/
def agedT (cs : List Th) (fd : List Int) : List Th := cs.map fun c => if c.t ∈ fd then { c with old := true } else c
theorem agedT_keys {cs : List Th} {fd : List Int} : keys (agedT cs fd) = keys cs := by
  unfold agedT keys
  rw [List.map_map]
  refine List.map_congr_left fun c _ => ?_
  show (if c.t ∈ fd then { c with old := true } else c).t = c.t
  by_cases h : c.t ∈ fd
  · rw [if_pos h]
  · rw [if_neg h]
theorem mem_agedT {cs : List Th} {fd : List Int} {e : Th} (h : e ∈ agedT cs fd) : ∃ c ∈ cs, e.t = c.t ∧ e.fs = c.fs ∧ (c.t ∈ fd → e.old = true) ∧ (c.old = true → e.old = true) := by
  obtain ⟨c, hc, e2⟩ := List.mem_map.mp h
  refine ⟨c, hc, ?_⟩
  by_cases q : c.t ∈ fd
  · rw [if_pos q] at e2
    rw [← e2]
    exact ⟨rfl, rfl, fun _ => rfl, fun _ => rfl⟩
  · rw [if_neg q] at e2
    rw [← e2]
    exact ⟨rfl, rfl, fun z => absurd z q, fun z => z⟩
/-- who goes in a small round -/
def smallGone (cs : List Th) (fd : List Int) : List Int := (keys (young cs)).filter fun t => decide (t ∉ fd)
/-- what holds behind a small round: all things are old, and no field leads nowhere -/
structure Small (s s' : HS) : Prop where
  hx : s'.hx = s.hx
  g : s'.g = s.g
  room : s'.room = s.room
  n : s'.n = s.n
  aged : ∀ c ∈ s'.cs, c.old = true
theorem WF.small {m : Nat} {s : HS} (w : WF m s) {fd : List Int} (L : Led s.cs (startsOf s.hx s.cs) (keys (young s.cs)) fd) {sp' : List Int} {ln' : Addr} (hsp : sp'.length + (left s.cs (smallGone s.cs fd)).length ≤ s.sp.length + s.cs.length) :
    WF m { s with ln := ln', nv := nameLeft s.nv (smallGone s.cs fd), sp := sp', cs := agedT (left s.cs (smallGone s.cs fd)) fd } ∧ Small s { s with ln := ln', nv := nameLeft s.nv (smallGone s.cs fd), sp := sp', cs := agedT (left s.cs (smallGone s.cs fd)) fd } := by
  have gy : ∀ {t : Int}, t ∈ smallGone s.cs fd → t ∈ keys (young s.cs) ∧ t ∉ fd := fun {t} h => ⟨(List.mem_filter.mp h).1, of_decide_eq_true (List.mem_filter.mp h).2⟩
  have notgone : ∀ {t : Int}, t ∈ keys s.cs → (t ∈ keys (young s.cs) → t ∈ fd) → t ∈ keys (left s.cs (smallGone s.cs fd)) := fun {t} h1 h2 => key_left.mpr ⟨h1, fun z => (gy z).2 (h2 (gy z).1)⟩
  have hstart : ∀ {t : Int}, Ab.th t ∈ s.hx → t ∈ keys (young s.cs) → t ∈ fd := fun {t} h1 h2 => L.base t (List.mem_append_left _ (mem_thsOf.mpr h1)) h2
  have fstart : ∀ {c : Th}, c ∈ left s.cs (smallGone s.cs fd) → ∀ {t : Int}, Ab.th t ∈ c.fs → t ∈ keys (young s.cs) → t ∈ fd := fun {c} hc {t} h1 h2 => by
    obtain ⟨c1, c2⟩ := mem_left.mp hc
    cases eo : c.old with
    | true => exact L.base t (List.mem_append_right _ (List.mem_flatMap.mpr ⟨c, List.mem_filter.mpr ⟨c1, eo⟩, mem_thsOf.mpr h1⟩)) h2
    | false =>
      have cy : c.t ∈ keys (young s.cs) := key_of (List.mem_filter.mpr ⟨c1, by rw [eo]; rfl⟩)
      have cf : c.t ∈ fd := Decidable.byContradiction fun z => c2 (List.mem_filter.mpr ⟨cy, decide_eq_true z⟩)
      exact L.step c c1 cf t h1 h2
  have knl : (keys (left s.cs (smallGone s.cs fd))).Nodup := w.kn.sublist (List.filter_sublist.map _)
  have aged : ∀ c ∈ agedT (left s.cs (smallGone s.cs fd)) fd, c.old = true := fun e he => by
    obtain ⟨c, hc, _, _, h3, h4⟩ := mem_agedT he
    obtain ⟨c1, c2⟩ := mem_left.mp hc
    cases eo : c.old with
    | true => exact h4 eo
    | false =>
      have cy : c.t ∈ keys (young s.cs) := key_of (List.mem_filter.mpr ⟨c1, by rw [eo]; rfl⟩)
      exact h3 (Decidable.byContradiction fun z => c2 (List.mem_filter.mpr ⟨cy, decide_eq_true z⟩))
  refine ⟨⟨?_, fun e he => ?_, w.nm, ?_, ?_, fun e he => ?_, fun e he t ht => ?_, fun t ht => ?_, w.h8, fun t ht => ?_, ?_, w.rm, fun d g e => ?_⟩, rfl, rfl, rfl, rfl, aged⟩
  · show (keys (agedT _ fd)).Nodup
    rw [agedT_keys]
    exact knl
  · obtain ⟨c, hc, e1, _⟩ := mem_agedT he
    rw [e1]
    exact w.kl c (mem_left.mp hc).1
  · show sp'.length + (agedT _ fd).length ≤ s.n
    unfold agedT
    rw [List.length_map]
    exact Nat.le_trans hsp w.sl
  · refine Int.le_trans (Int.le_of_eq (wd_map fun c => ?_)) (Int.le_trans (wd_filter _ _) w.wd)
    by_cases q : c.t ∈ fd
    · rw [if_pos q]
    · rw [if_neg q]
  · obtain ⟨c, hc, _, e2, _⟩ := mem_agedT he
    rw [e2]
    exact w.f6 c (mem_left.mp hc).1
  · obtain ⟨c, hc, _, e2, _⟩ := mem_agedT he
    rw [e2] at ht
    show t ∈ keys (agedT _ fd)
    rw [agedT_keys]
    exact notgone (w.cl c (mem_left.mp hc).1 t ht) (fstart hc ht)
  · show t ∈ keys (agedT _ fd)
    rw [agedT_keys]
    exact notgone (w.hc t ht) (hstart ht)
  · show t ∈ keys (agedT _ fd)
    rw [agedT_keys]
    obtain ⟨h1, h2⟩ := mem_nameLeft ht
    exact key_left.mpr ⟨w.nc t h1, h2⟩
  · show (nameLeft s.nv _).length = 8
    unfold nameLeft
    rw [List.length_map]
    exact w.n8
  · have q := w.go d g e
    refine ⟨q.nd, fun t ht => ?_, fun e2 he2 _ => aged e2 he2, q.hand, fun e2 he2 hn t ht hm => ?_⟩
    · show t ∈ keys (agedT _ fd)
      rw [agedT_keys]
      refine key_left.mpr ⟨q.sub t ht, fun z => ?_⟩
      obtain ⟨c, hc, e3⟩ := key_at (gy z).1
      obtain ⟨c1, c2⟩ := List.mem_filter.mp hc
      have := q.old c c1 (by rw [e3]; exact ht)
      rw [this] at c2
      cases c2
    · obtain ⟨c, hc, e1, e2', _⟩ := mem_agedT he2
      rw [e1] at hn
      rw [e2'] at hm
      exact q.fld c (mem_left.mp hc).1 hn t ht hm
/-- a great round begins -/
theorem WF.begin {m : Nat} {s : HS} (w : WF m s) (ho : ∀ c ∈ s.cs, c.old = true) {fd : List Int} (L : Led s.cs (thsOf s.hx) (keys s.cs) fd) (d : Addr) :
    WF m { s with g := some (d, (keys s.cs).filter fun t => decide (t ∉ fd)) } := by
  refine ⟨w.kn, w.kl, w.nm, w.sl, w.wd, w.f6, w.cl, w.hc, w.h8, w.nc, w.n8, w.rm, fun d2 g2 e2 => ?_⟩
  cases e2
  refine ⟨w.kn.filter _, fun t ht => (List.mem_filter.mp ht).1, fun c hc _ => ho c hc, fun t ht hm => ?_, fun c hc hn t ht hm => ?_⟩
  · exact (of_decide_eq_true (List.mem_filter.mp ht).2) (L.base t (mem_thsOf.mpr hm) (w.hc t hm))
  · have cf : c.t ∈ fd := Decidable.byContradiction fun z => hn (List.mem_filter.mpr ⟨key_of hc, decide_eq_true z⟩)
    exact (of_decide_eq_true (List.mem_filter.mp ht).2) (L.step c hc cf t hm (w.cl c hc t hm))
/-- all held things are reached from the hands -/
def Reached (s : HS) : Prop := ∀ S : Int → Prop, (∀ t, Ab.th t ∈ s.hx → S t) → (∀ c ∈ s.cs, S c.t → ∀ t, Ab.th t ∈ c.fs → S t) → ∀ c ∈ s.cs, S c.t
/-- those that aren't doomed are reached -/
def Live (s : HS) (g : List Int) : Prop := ∀ S : Int → Prop, (∀ t, Ab.th t ∈ s.hx → S t) → (∀ c ∈ s.cs, S c.t → ∀ t, Ab.th t ∈ c.fs → S t) → ∀ c ∈ s.cs, c.t ∉ g → S c.t
theorem begin_live {m : Nat} {s : HS} (w : WF m s) {fd : List Int} (L : Led s.cs (thsOf s.hx) (keys s.cs) fd) : Live s ((keys s.cs).filter fun t => decide (t ∉ fd)) := fun S h1 h2 c hc hn => by
  have cf : c.t ∈ fd := Decidable.byContradiction fun z => hn (List.mem_filter.mpr ⟨key_of hc, decide_eq_true z⟩)
  exact L.least S (fun t ht _ => h1 t (mem_thsOf.mp ht)) (fun c hc sc u hu _ => h2 c hc sc u hu) c.t cf
/-- a great round ends -/
theorem WF.ends {m : Nat} {s : HS} (w : WF m s) {d : Addr} {g : List Int} (e : s.g = some (d, g)) {sp' : List Int} {ln' : Addr} (hsp : sp'.length + (left s.cs g).length ≤ s.sp.length + s.cs.length) :
    WF m { s with g := none, ln := ln', nv := nameLeft s.nv g, sp := sp', cs := left s.cs g } := by
  have q := w.go d g e
  refine ⟨w.kn.sublist (List.filter_sublist.map _), fun c hc => w.kl c (mem_left.mp hc).1, w.nm, Nat.le_trans hsp w.sl, Int.le_trans (wd_filter _ _) w.wd, fun c hc => w.f6 c (mem_left.mp hc).1, fun c hc t ht => ?_, fun t ht => ?_, w.h8, fun t ht => ?_, ?_, w.rm, fun d2 g2 e2 => ?_⟩
  · obtain ⟨c1, c2⟩ := mem_left.mp hc
    exact key_left.mpr ⟨w.cl c c1 t ht, fun z => q.fld c c1 c2 t z ht⟩
  · exact key_left.mpr ⟨w.hc t ht, fun z => q.hand t z ht⟩
  · obtain ⟨h1, h2⟩ := mem_nameLeft ht
    exact key_left.mpr ⟨w.nc t h1, h2⟩
  · show (nameLeft s.nv _).length = 8
    unfold nameLeft
    rw [List.length_map]
    exact w.n8
  · cases e2
theorem ends_reached {m : Nat} {s : HS} (w : WF m s) {d : Addr} {g : List Int} (e : s.g = some (d, g)) (lv : Live s g) {s' : HS} (h1 : s'.hx = s.hx) (h2 : s'.cs = left s.cs g) : Reached s' := fun S a1 a2 c hc => by
  have q := w.go d g e
  rw [h2] at hc
  rw [h1] at a1
  rw [h2] at a2
  obtain ⟨c1, c2⟩ := mem_left.mp hc
  refine (lv (fun t => t ∉ g ∧ S t) (fun t ht => ⟨fun z => q.hand t z ht, a1 t ht⟩) (fun e he se t ht => ⟨fun z => q.fld e he se.1 t z ht, a2 e (mem_left.mpr ⟨he, se.1⟩) se.2 t ht⟩) c c1 c2).2
/-! ### make -/
theorem wd_app (cs : List Th) (c : Th) : wd (cs ++ [c]) = wd cs + ((c.fs.length : Int) + 1) := by
  unfold wd
  rw [List.map_append, List.sum_append]
  show _ + ((c.fs.length : Int) + 1 + 0) = _
  omega
theorem WF.make {m : Nat} {s : HS} (w : WF m s) {c : Th} (ht : c.t = s.n) {k : Nat} (hf : c.fs = List.replicate k .non) (h6 : k ≤ 6) (h400 : SH.wd s.cs + (k + 1) ≤ 400) (h : Nat) (vs : List V) :
    WF (m + 1) { s with cs := s.cs ++ [c], hv := vs, hx := s.hx.set h (.th c.t), n := s.n + 1 } := by
  have ek : keys (s.cs ++ [c]) = keys s.cs ++ [c.t] := by unfold keys; rw [List.map_append]; rfl
  have nk : c.t ∉ keys s.cs := fun z => by
    obtain ⟨e, he, e2⟩ := key_at z
    have := (w.kl e he).2
    omega
  have inl : ∀ {t : Int}, t ∈ keys s.cs → t ∈ keys (s.cs ++ [c]) := fun {t} z => by rw [ek]; exact List.mem_append_left _ z
  have inr : c.t ∈ keys (s.cs ++ [c]) := by rw [ek]; exact List.mem_append_right _ (List.mem_singleton.mpr rfl)
  have nof : ∀ t, Ab.th t ∉ c.fs := fun t z => by
    rw [hf] at z
    have := List.eq_of_mem_replicate z
    cases this
  refine ⟨?_, fun e he => ?_, Nat.succ_le_succ w.nm, ?_, ?_, fun e he => ?_, fun e he t htt => ?_, fun t htt => ?_, ?_, fun t htt => inl (w.nc t htt), w.n8, w.rm, fun d g e => ?_⟩
  · show (keys (s.cs ++ [c])).Nodup
    rw [ek]
    exact nd_snoc w.kn nk
  · show 0 ≤ e.t ∧ e.t < ((s.n + 1 : Nat) : Int)
    rcases List.mem_append.mp he with z | z
    · have := w.kl e z
      omega
    · rw [List.mem_singleton.mp z, ht]
      omega
  · show s.sp.length + (s.cs ++ [c]).length ≤ s.n + 1
    rw [List.length_append, List.length_singleton]
    have := w.sl
    omega
  · show SH.wd (s.cs ++ [c]) ≤ 400
    rw [wd_app, hf, List.length_replicate]
    exact h400
  · rcases List.mem_append.mp he with z | z
    · exact w.f6 e z
    · rw [List.mem_singleton.mp z, hf, List.length_replicate]
      exact h6
  · rcases List.mem_append.mp he with z | z
    · exact inl (w.cl e z t htt)
    · rw [List.mem_singleton.mp z] at htt
      exact absurd htt (nof t)
  · rcases mem_set htt with e | z
    · cases e
      exact inr
    · exact inl (w.hc t z)
  · show (s.hx.set h _).length = 8
    rw [List.length_set]
    exact w.h8
  · have q := w.go d g e
    refine ⟨q.nd, fun t htg => inl (q.sub t htg), fun e2 he2 htg => ?_, fun t htg hm => ?_, fun e2 he2 hn t htg hm => ?_⟩
    · rcases List.mem_append.mp he2 with z | z
      · exact q.old e2 z htg
      · rw [List.mem_singleton.mp z] at htg
        exact absurd (q.sub _ htg) nk
    · rcases mem_set hm with e3 | z
      · cases e3
        exact nk (q.sub _ htg)
      · exact q.hand t htg z
    · rcases List.mem_append.mp he2 with z | z
      · exact q.fld e2 z hn t htg hm
      · rw [List.mem_singleton.mp z] at hm
        exact nof t hm
end SH
/-! The ideal heap as it stands in memory, and its methods that change one place. -/
namespace SH
open PySem PySem.Spec PyProof.Rows L2
def nV : Option Int → V
  | none => .non
  | some t => .int t
def goV : Option (Addr × List Int) → V
  | none => .non
  | some (d, _) => .ref d
def hF (s : HS) : List (Str × V) := [("room", .int s.room), ("limit", .int 400), ("in_hands", .ref s.lh), ("naming", .ref s.ln), ("kept", .ref s.dk), ("count", .int s.n), ("going", goV s.g), ("spoken", .ref s.ls)]
section
variable {s : HS}
theorem hF_room : (hF s).lookup ("room" : Str) = some (V.int s.room) := by kernel_rfl
theorem hF_limit : (hF s).lookup ("limit" : Str) = some (V.int 400) := by kernel_rfl
theorem hF_hands : (hF s).lookup ("in_hands" : Str) = some (V.ref s.lh) := by kernel_rfl
theorem hF_naming : (hF s).lookup ("naming" : Str) = some (V.ref s.ln) := by kernel_rfl
theorem hF_kept : (hF s).lookup ("kept" : Str) = some (V.ref s.dk) := by kernel_rfl
theorem hF_count : (hF s).lookup ("count" : Str) = some (V.int s.n) := by kernel_rfl
theorem hF_going : (hF s).lookup ("going" : Str) = some (goV s.g) := by kernel_rfl
theorem hF_spoken : (hF s).lookup ("spoken" : Str) = some (V.ref s.ls) := by kernel_rfl
theorem hF_len : (hF s).length < 1000 := by show 8 < 1000; decide
theorem hF_putN {n : Nat} : putF "count" (.int ((s.n : Int) + 1)) (hF s) = hF { s with n := s.n + 1 } := by kernel_rfl
theorem hF_putG {g : Option (Addr × List Int)} : putF "going" (goV g) (hF s) = hF { s with g := g } := by kernel_rfl
theorem hF_putL {ln : Addr} : putF "naming" (.ref ln) (hF s) = hF { s with ln := ln } := by kernel_rfl
end
/-- no attribute of the heap bears a method's name -/
theorem hF_no {s : HS} {m : Str} (h : ([("room" : Str), "limit", "in_hands", "naming", "kept", "count", "going", "spoken"].contains m) = false) : (hF s).lookup m = none := by
  have q : ∀ l : List (Str × V), (l.map (·.1)).contains m = false → l.lookup m = none := by
    intro l
    induction l with
    | nil => intro _; rfl
    | cons a r ih =>
      intro z
      rw [List.map_cons, List.contains_cons, Bool.or_eq_false_iff] at z
      obtain ⟨k, v⟩ := a
      rw [List.lookup_cons, z.1]
      exact ih z.2
  exact q (hF s) h
structure HeapAt (H : Hp) (p : Addr) (s : HS) : Prop where
  ob : H p = some (.ins cIdealHeap s.dx (hF s))
  hl : H s.lh = some (.lst s.hv)
  hr : Rps H s.hv s.hx
  nl : H s.ln = some (.lst (s.nv.map nV))
  kd : H s.dk = some (.dK (kvT s.cs))
  th : ∀ c ∈ s.cs, ThAt H c
  gd : ∀ d g, s.g = some (d, g) → H d = some (.dK (tk g))
  sl : H s.ls = some (.lst (s.sp.map V.int))
  n1 : (s.lh :: s.ln :: s.ls :: s.cs.map (·.il)).Nodup
  n2 : (p :: s.cs.map (·.a)).Nodup
  n3 : ∀ d g, s.g = some (d, g) → d ≠ s.dk
/-- the heap's own places -/
def own (p : Addr) (s : HS) (b : Addr) : Prop := b = p ∨ b = s.lh ∨ b = s.ln ∨ b = s.dk ∨ b = s.ls ∨ (∃ c ∈ s.cs, b = c.a ∨ b = c.il) ∨ ∃ d g, s.g = some (d, g) ∧ b = d
/-- what a deed does to the rest: nothing; the heap's new places were free -/
structure Ext (p : Addr) (s s' : HS) (H H' : Hp) : Prop where
  fr : ∀ b o, H b = some o → ¬ own p s b → H' b = some o
  gr : ∀ b, own p s' b → own p s b ∨ H b = none
section
variable {H H' H2 : Hp} {p : Addr} {s s' s2 : HS} {c : Th}
theorem Ext.refl : Ext p s s H H := ⟨fun _ _ e _ => e, fun _ h => .inl h⟩
theorem Ext.trans (a : Ext p s s' H H') (b : Ext p s' s2 H' H2) : Ext p s s2 H H2 where
  fr := fun c o e n => by
    refine b.fr c o (a.fr c o e n) fun z => ?_
    rcases a.gr c z with q | q
    · exact n q
    · rw [e] at q; cases q
  gr := fun c h => by
    rcases b.gr c h with q | q
    · exact a.gr c q
    · by_cases z : own p s c
      · exact .inl z
      · refine .inr ?_
        cases e : H c with
        | none => rfl
        | some o =>
          rw [a.fr c o e z] at q
          cases q
theorem Ext.same (h : Same H H') : Ext p s s H H' := ⟨fun b o e _ => h b o e, fun _ q => .inl q⟩
/-- one own place is changed -/
theorem Ext.upd {a : Addr} {u : HO} (ha : own p s a) (h : ∀ b, own p s' b → own p s b) : Ext p s s' H (upd H a u) :=
  ⟨fun b o e n => by rw [upd_ne fun z => n (by rw [z]; exact ha)]; exact e, fun b q => .inl (h b q)⟩
theorem own_p : own p s p := .inl rfl
theorem own_lh : own p s s.lh := .inr (.inl rfl)
theorem own_ln : own p s s.ln := .inr (.inr (.inl rfl))
theorem own_dk : own p s s.dk := .inr (.inr (.inr (.inl rfl)))
theorem own_ls : own p s s.ls := .inr (.inr (.inr (.inr (.inl rfl))))
theorem own_a (h : c ∈ s.cs) : own p s c.a := .inr (.inr (.inr (.inr (.inr (.inl ⟨c, h, .inl rfl⟩)))))
theorem own_il (h : c ∈ s.cs) : own p s c.il := .inr (.inr (.inr (.inr (.inr (.inl ⟨c, h, .inr rfl⟩)))))
theorem own_g {d : Addr} {g : List Int} (h : s.g = some (d, g)) : own p s d := .inr (.inr (.inr (.inr (.inr (.inr ⟨d, g, h, rfl⟩)))))
/-- an object of another content stands as it was -/
theorem kp {a b : Addr} {o u x : HO} (h : H a = some o) (e : H b = some x) (hn : x ≠ o) : upd H a u b = some x := by
  rw [upd_ne (ne_of e h hn)]
  exact e
theorem HeapAt.same (q : Same H H') (h : HeapAt H p s) : HeapAt H' p s :=
  ⟨q _ _ h.ob, q _ _ h.hl, h.hr.tu (tu_same q), q _ _ h.nl, q _ _ h.kd, fun c hc => (h.th c hc).same q, fun d g e => q _ _ (h.gd d g e), q _ _ h.sl, h.n1, h.n2, h.n3⟩
theorem HeapAt.held (h : HeapAt H p s) (kn : (keys s.cs).Nodup) : Held H s.dk s.cs := ⟨.inl h.kd, h.th, kn⟩
theorem HeapAt.ne1 (h : HeapAt H p s) : s.lh ≠ s.ln := fun e => by
  have q := h.n1
  rw [e] at q
  exact (List.nodup_cons.mp q).1 List.mem_cons_self
theorem HeapAt.ne2 (h : HeapAt H p s) : s.lh ≠ s.ls := fun e => by
  have q := h.n1
  rw [e] at q
  exact (List.nodup_cons.mp q).1 (List.mem_cons_of_mem _ List.mem_cons_self)
theorem HeapAt.ne3 (h : HeapAt H p s) : s.ln ≠ s.ls := fun e => by
  have q := (List.nodup_cons.mp h.n1).2
  rw [e] at q
  exact (List.nodup_cons.mp q).1 List.mem_cons_self
theorem HeapAt.ne4 (h : HeapAt H p s) (hc : c ∈ s.cs) : c.il ≠ s.lh ∧ c.il ≠ s.ln ∧ c.il ≠ s.ls := by
  have hm : c.il ∈ s.cs.map (·.il) := List.mem_map.mpr ⟨c, hc, rfl⟩
  obtain ⟨q1, q2⟩ := List.nodup_cons.mp h.n1
  obtain ⟨q3, q4⟩ := List.nodup_cons.mp q2
  obtain ⟨q5, _⟩ := List.nodup_cons.mp q4
  exact ⟨fun e => q1 (by rw [← e]; exact List.mem_cons_of_mem _ (List.mem_cons_of_mem _ hm)), fun e => q3 (by rw [← e]; exact List.mem_cons_of_mem _ hm), fun e => q5 (by rw [← e]; exact hm)⟩
theorem nd_inj {α β : Type} {f : α → β} : ∀ {l : List α}, (l.map f).Nodup → ∀ {x y : α}, x ∈ l → y ∈ l → f x = f y → x = y
  | [], _, _, _, h, _, _ => by cases h
  | a :: l, hn, x, y, hx, hy, e => by
    obtain ⟨h1, h2⟩ := List.nodup_cons.mp (show (f a :: l.map f).Nodup from hn)
    rcases List.mem_cons.mp hx with e1 | hx
    · rcases List.mem_cons.mp hy with e2 | hy
      · exact e1.trans e2.symm
      · refine absurd ?_ h1
        rw [← e1, e]
        exact List.mem_map.mpr ⟨y, hy, rfl⟩
    · rcases List.mem_cons.mp hy with e2 | hy
      · refine absurd ?_ h1
        rw [← e2, ← e]
        exact List.mem_map.mpr ⟨x, hx, rfl⟩
      · exact nd_inj h2 hx hy e
theorem HeapAt.il_ne (h : HeapAt H p s) {d : Th} (hc : c ∈ s.cs) (hd : d ∈ s.cs) (n : d ≠ c) : d.il ≠ c.il := fun e => by
  have q := (List.nodup_cons.mp (List.nodup_cons.mp (List.nodup_cons.mp h.n1).2).2).2
  exact n (nd_inj q hd hc e)
theorem HeapAt.a_ne (h : HeapAt H p s) {d : Th} (hc : c ∈ s.cs) (hd : d ∈ s.cs) (n : d ≠ c) : d.a ≠ c.a := fun e => n (nd_inj (List.nodup_cons.mp h.n2).2 hd hc e)
theorem HeapAt.p_ne (h : HeapAt H p s) (hc : c ∈ s.cs) : c.a ≠ p := fun e => (List.nodup_cons.mp h.n2).1 (by rw [← e]; exact List.mem_map.mpr ⟨c, hc, rfl⟩)
theorem HeapAt.hands (h : HeapAt H p s) {vs : List V} {xs : List Ab} (r : Rps H vs xs) : HeapAt (upd H s.lh (.lst vs)) p { s with hv := vs, hx := xs } := by
  have tu : Tu H (upd H s.lh (.lst vs)) := tu_upd h.hl fun _ z => by cases z
  exact ⟨kp h.hl h.ob (by intro z; cases z), upd_same, r.tu tu, (upd_ne h.ne1.symm).trans h.nl, kp h.hl h.kd (by intro z; cases z),
    fun c hc => ⟨kp h.hl (h.th c hc).ob (by intro z; cases z), (upd_ne (h.ne4 hc).1).trans (h.th c hc).il, (h.th c hc).rp.tu tu⟩, fun d g e => kp h.hl (h.gd d g e) (by intro z; cases z), (upd_ne h.ne2.symm).trans h.sl, h.n1, h.n2, h.n3⟩
theorem HeapAt.names (h : HeapAt H p s) {nv : List (Option Int)} : HeapAt (upd H s.ln (.lst (nv.map nV))) p { s with nv := nv } := by
  have tu : Tu H (upd H s.ln (.lst (nv.map nV))) := tu_upd h.nl fun _ z => by cases z
  exact ⟨kp h.nl h.ob (by intro z; cases z), (upd_ne h.ne1).trans h.hl, h.hr.tu tu, upd_same, kp h.nl h.kd (by intro z; cases z),
    fun c hc => ⟨kp h.nl (h.th c hc).ob (by intro z; cases z), (upd_ne (h.ne4 hc).2.1).trans (h.th c hc).il, (h.th c hc).rp.tu tu⟩, fun d g e => kp h.nl (h.gd d g e) (by intro z; cases z), (upd_ne h.ne3.symm).trans h.sl, h.n1, h.n2, h.n3⟩
theorem HeapAt.says (h : HeapAt H p s) {sp : List Int} : HeapAt (upd H s.ls (.lst (sp.map V.int))) p { s with sp := sp } := by
  have tu : Tu H (upd H s.ls (.lst (sp.map V.int))) := tu_upd h.sl fun _ z => by cases z
  exact ⟨kp h.sl h.ob (by intro z; cases z), (upd_ne h.ne2).trans h.hl, h.hr.tu tu, (upd_ne h.ne3).trans h.nl, kp h.sl h.kd (by intro z; cases z),
    fun c hc => ⟨kp h.sl (h.th c hc).ob (by intro z; cases z), (upd_ne (h.ne4 hc).2.2).trans (h.th c hc).il, (h.th c hc).rp.tu tu⟩, fun d g e => kp h.sl (h.gd d g e) (by intro z; cases z), upd_same, h.n1, h.n2, h.n3⟩
/-- an attribute of the heap's own object -/
theorem HeapAt.attr (h : HeapAt H p s) {s' : HS} (e1 : s'.dx = s.dx) (e2 : s'.lh = s.lh) (e3 : s'.ln = s.ln) (e4 : s'.dk = s.dk) (e5 : s'.ls = s.ls) (e6 : s'.hv = s.hv) (e7 : s'.hx = s.hx) (e8 : s'.nv = s.nv) (e9 : s'.cs = s.cs) (e10 : s'.sp = s.sp)
    (hg : ∀ d g, s'.g = some (d, g) → H d = some (.dK (tk g)) ∧ d ≠ s.dk) : HeapAt (upd H p (.ins cIdealHeap s.dx (hF s'))) p s' := by
  have tu : Tu H (upd H p (.ins cIdealHeap s.dx (hF s'))) := tu_upd h.ob fun _ z => by cases z
  obtain ⟨dx, lh, ln, dk, ls, room, hv, hx, nv, cs, n, g, sp⟩ := s
  obtain ⟨dx', lh', ln', dk', ls', room', hv', hx', nv', cs', n', g', sp'⟩ := s'
  cases e1; cases e2; cases e3; cases e4; cases e5; cases e6; cases e7; cases e8; cases e9; cases e10
  exact ⟨upd_same, kp h.ob h.hl (by intro z; cases z), h.hr.tu tu, kp h.ob h.nl (by intro z; cases z), kp h.ob h.kd (by intro z; cases z),
    fun c hc => ⟨(upd_ne (h.p_ne hc)).trans (h.th c hc).ob, kp h.ob (h.th c hc).il (by intro z; cases z), (h.th c hc).rp.tu tu⟩, fun d g e => kp h.ob (hg d g e).1 (by intro z; cases z), kp h.ob h.sl (by intro z; cases z), h.n1, h.n2, fun d g e => (hg d g e).2⟩
theorem updT_mem {cs : List Th} {t : Int} {f : Th → Th} (kn : (keys cs).Nodup) (hc : c ∈ cs) (e : c.t = t) : ∀ {x : Th}, x ∈ updT cs t f → (x = f c) ∨ (x ∈ cs ∧ x ≠ c) := fun {x} hx => by
  obtain ⟨y, hy, ⟨h1, h2⟩ | ⟨h1, h2⟩⟩ := mem_updT hx
  · have := key_inj kn hy hc (h1.trans e.symm)
    rw [this] at h2
    exact .inl h2
  · refine .inr ⟨by rw [← h2]; exact hy, fun z => h1 ?_⟩
    rw [h2, z]
    exact e
/-- a thing's fields -/
theorem HeapAt.field (h : HeapAt H p s) (kn : (keys s.cs).Nodup) (hc : c ∈ s.cs) {k : Nat} {v : V} {x : Ab} (r : Rp H v x) : HeapAt (upd H c.il (.lst (c.vs.set k v))) p { s with cs := updT s.cs c.t fun e => { e with vs := c.vs.set k v, fs := e.fs.set k x } } := by
  have t := h.th c hc
  have tu : Tu H (upd H c.il (.lst (c.vs.set k v))) := tu_upd t.il fun _ z => by cases z
  have n4 := h.ne4 hc
  refine ⟨kp t.il h.ob (by intro z; cases z), (upd_ne n4.1.symm).trans h.hl, h.hr.tu tu, (upd_ne n4.2.1.symm).trans h.nl, ?_, fun e he => ?_, fun d g e => kp t.il (h.gd d g e) (by intro z; cases z), (upd_ne n4.2.2.symm).trans h.sl, ?_, ?_, h.n3⟩
  · have e : kvT (updT s.cs c.t fun e => { e with vs := c.vs.set k v, fs := e.fs.set k x }) = kvT s.cs := by
      unfold kvT updT
      rw [List.map_map]
      refine List.map_congr_left fun e _ => ?_
      show ((Sum.inl (if e.t = c.t then _ else e : Th).t : Key), V.ref (if e.t = c.t then _ else e : Th).a) = _
      by_cases q : e.t = c.t
      · rw [if_pos q]
      · rw [if_neg q]
    show upd H c.il _ s.dk = some (.dK (kvT (updT _ _ _)))
    rw [e]
    exact kp t.il h.kd (by intro z; cases z)
  · rcases updT_mem kn hc rfl he with e1 | ⟨h1, h2⟩
    · rw [e1]
      exact ⟨kp t.il t.ob (by intro z; cases z), upd_same, pd_set (r.tu tu) k (t.rp.tu tu)⟩
    · exact ⟨kp t.il (h.th e h1).ob (by intro z; cases z), (upd_ne (h.il_ne hc h1 h2)).trans (h.th e h1).il, (h.th e h1).rp.tu tu⟩
  · show (_ :: _ :: _ :: (updT s.cs c.t _).map (·.il)).Nodup
    rw [updT_map (f := fun e : Th => { e with vs := c.vs.set k v, fs := e.fs.set k x }) (k := fun e : Th => e.il) fun _ => rfl]
    exact h.n1
  · show (_ :: (updT s.cs c.t _).map (·.a)).Nodup
    rw [updT_map (f := fun e : Th => { e with vs := c.vs.set k v, fs := e.fs.set k x }) (k := fun e : Th => e.a) fun _ => rfl]
    exact h.n2
/-- a thing's age, its last word -/
theorem HeapAt.mark (h : HeapAt H p s) (kn : (keys s.cs).Nodup) (hc : c ∈ s.cs) {f : Th → Th} (f1 : ∀ e, (f e).t = e.t) (f2 : ∀ e, (f e).a = e.a) (f3 : ∀ e, (f e).il = e.il) (f4 : ∀ e, (f e).vs = e.vs) (f5 : ∀ e, (f e).fs = e.fs) (f6 : ∀ e, (f e).dx = e.dx) :
    HeapAt (upd H c.a (.ins cIdealThing c.dx (thF c.il (f c).old (f c).lw))) p { s with cs := updT s.cs c.t f } := by
  have t := h.th c hc
  have tu : Tu H (upd H c.a (.ins cIdealThing c.dx (thF c.il (f c).old (f c).lw))) := tu_upd t.ob fun _ z => by cases z
  refine ⟨(upd_ne (h.p_ne hc).symm).trans h.ob, kp t.ob h.hl (by intro z; cases z), h.hr.tu tu, kp t.ob h.nl (by intro z; cases z), ?_, fun e he => ?_, fun d g e => kp t.ob (h.gd d g e) (by intro z; cases z), kp t.ob h.sl (by intro z; cases z), ?_, ?_, h.n3⟩
  · have e : kvT (updT s.cs c.t f) = kvT s.cs := by
      unfold kvT updT
      rw [List.map_map]
      refine List.map_congr_left fun e _ => ?_
      show ((Sum.inl (if e.t = c.t then f e else e : Th).t : Key), V.ref (if e.t = c.t then f e else e : Th).a) = _
      by_cases q : e.t = c.t
      · rw [if_pos q, f1, f2]
      · rw [if_neg q]
    show upd H c.a _ s.dk = some (.dK (kvT (updT _ _ _)))
    rw [e]
    exact kp t.ob h.kd (by intro z; cases z)
  · rcases updT_mem kn hc rfl he with e1 | ⟨h1, h2⟩
    · rw [e1]
      refine ⟨?_, ?_, ?_⟩
      · rw [f2, f3, f6]
        exact upd_same
      · rw [f3, f4]
        exact kp t.ob t.il (by intro z; cases z)
      · rw [f4, f5]
        exact t.rp.tu tu
    · exact ⟨(upd_ne (h.a_ne hc h1 h2)).trans (h.th e h1).ob, kp t.ob (h.th e h1).il (by intro z; cases z), (h.th e h1).rp.tu tu⟩
  · show (_ :: _ :: _ :: (updT s.cs c.t f).map (·.il)).Nodup
    rw [updT_map (k := (·.il)) f3]
    exact h.n1
  · show (_ :: (updT s.cs c.t f).map (·.a)).Nodup
    rw [updT_map (k := (·.a)) f2]
    exact h.n2
/-- the doomed -/
theorem HeapAt.doom (h : HeapAt H p s) {d : Addr} {g g' : List Int} (e : s.g = some (d, g)) : HeapAt (upd H d (.dK (tk g'))) p { s with g := some (d, g') } := by
  have hd := h.gd d g e
  have tu : Tu H (upd H d (.dK (tk g'))) := tu_upd hd fun _ z => by cases z
  refine ⟨?_, kp hd h.hl (by intro z; cases z), h.hr.tu tu, kp hd h.nl (by intro z; cases z), (upd_ne (h.n3 d g e).symm).trans h.kd, fun c hc => ⟨kp hd (h.th c hc).ob (by intro z; cases z), kp hd (h.th c hc).il (by intro z; cases z), (h.th c hc).rp.tu tu⟩,
    fun d2 g2 e2 => ?_, kp hd h.sl (by intro z; cases z), h.n1, h.n2, fun d2 g2 e2 => ?_⟩
  · have ef : hF { s with g := some (d, g') } = hF s := by
      show [_, _, _, _, _, _, (("going" : Str), goV (some (d, g'))), _] = [_, _, _, _, _, _, (("going" : Str), goV s.g), _]
      rw [e]
      rfl
    show upd H d _ p = some (.ins cIdealHeap s.dx (hF { s with g := some (d, g') }))
    rw [ef]
    exact kp hd h.ob (by intro z; cases z)
  · cases e2
    exact upd_same
  · cases e2
    exact h.n3 d g e
theorem own_cs {s' : HS} {b : Addr} (h : own p s' b) (e1 : s'.lh = s.lh) (e2 : s'.ln = s.ln) (e3 : s'.dk = s.dk) (e4 : s'.ls = s.ls) (e5 : ∀ c ∈ s'.cs, ∃ d ∈ s.cs, c.a = d.a ∧ c.il = d.il) (e6 : ∀ d g, s'.g = some (d, g) → ∃ g', s.g = some (d, g')) : own p s b := by
  rcases h with h | h | h | h | h | ⟨c, hc, h⟩ | ⟨d, g, e, h⟩
  · exact .inl h
  · exact .inr (.inl (h.trans e1))
  · exact .inr (.inr (.inl (h.trans e2)))
  · exact .inr (.inr (.inr (.inl (h.trans e3))))
  · exact .inr (.inr (.inr (.inr (.inl (h.trans e4)))))
  · obtain ⟨d, hd, a1, a2⟩ := e5 c hc
    rcases h with h | h
    · rw [h, a1]; exact own_a hd
    · rw [h, a2]; exact own_il hd
  · obtain ⟨g', e'⟩ := e6 d g e
    rw [h]
    exact own_g e'
theorem updT_own {cs : List Th} {t : Int} {f : Th → Th} (f2 : ∀ e, (f e).a = e.a) (f3 : ∀ e, (f e).il = e.il) : ∀ c ∈ updT cs t f, ∃ d ∈ cs, c.a = d.a ∧ c.il = d.il := fun c hc => by
  obtain ⟨y, hy, ⟨h1, h2⟩ | ⟨h1, h2⟩⟩ := mem_updT hc
  · exact ⟨y, hy, by rw [h2, f2], by rw [h2, f3]⟩
  · exact ⟨y, hy, by rw [h2], by rw [h2]⟩
end
/-! ### small methods -/
def sp_round_on : Sp := fun vs H Q _ => ∃ (p : Addr) (s : HS), vs = [.ref p] ∧ HeapAt H p s ∧ Q (.bl s.g.isSome) H
theorem scm_IdealHeap_round_on : FnScope ["self"] ["self"] (defScope sm_IdealHeap_round_on) := ⟨rfl, rfl, rfl, by decide +kernel, rfl, by decide +kernel, by decide +kernel⟩
theorem ok_m_IdealHeap_round_on {P : Program} {w : World} {K : PySem.W.Frag} {mg : Str → Option Value} {base : Heap} (T : Tx K mg) : Def P w K mg base CX0 1 am_IdealHeap_round_on ["self"] sp_round_on := by
  refine mk0 T.D_m_IdealHeap_round_on scm_IdealHeap_round_on (fun _ _ _ _ _ _ us hl => match us, hl with | [_], _ => rfl) (fun vs H Q E h => ?_) (fun cdv A outer s H vs Q E hr h => ?_)
  · first | (obtain ⟨_, rfl, _⟩ := h; rfl) | (obtain ⟨_, _, rfl, _⟩ := h; rfl) | (obtain ⟨_, _, _, rfl, _⟩ := h; rfl) | (obtain ⟨_, _, _, _, rfl, _⟩ := h; rfl) | (obtain ⟨_, _, _, _, _, rfl, _⟩ := h; rfl) | (obtain ⟨_, _, _, _, _, _, rfl, _⟩ := h; rfl) | (obtain ⟨_, _, _, _, _, _, _, rfl, _⟩ := h; rfl) | (obtain ⟨_, _, _, _, _, _, _, _, rfl, _⟩ := h; rfl)
  · have hu := hu_of hr
    refine ⟨_, (pss_one (ps_ret (pe_cmpR op_notN (pe_fldK (K := K) rfl (pv 0) rfl) pe_non (nomark _)))), ?_⟩
    obtain ⟨p, z, rfl, hp, k⟩ := h
    refine ⟨_, rfl, p, _, _, _, _, rfl, hp.ob, T.clIdealHeap, T.nIdealHeap_going, hF_going, rfl, ?_⟩
    have e : (!decide (goV z.g = V.non)) = z.g.isSome := by
      cases z.g with
      | none => rfl
      | some q => rfl
    rw [e]
    exact k
def sp_hands : Sp := fun vs H Q _ => ∃ (p : Addr) (s : HS), vs = [.ref p] ∧ HeapAt H p s ∧ ∀ l, H l = none → Q (.ref l) (upd H l (.lst s.hv))
theorem scm_IdealHeap_hands : FnScope ["self"] ["self"] (defScope sm_IdealHeap_hands) := ⟨rfl, rfl, rfl, by decide +kernel, rfl, by decide +kernel, by decide +kernel⟩
theorem ok_m_IdealHeap_hands {P : Program} {w : World} {K : PySem.W.Frag} {mg : Str → Option Value} {base : Heap} (T : Tx K mg) : Def P w K mg base CX0 1 am_IdealHeap_hands ["self"] sp_hands := by
  refine mk0 T.D_m_IdealHeap_hands scm_IdealHeap_hands (fun _ _ _ _ _ _ us hl => match us, hl with | [_], _ => rfl) (fun vs H Q E h => ?_) (fun cdv A outer s H vs Q E hr h => ?_)
  · first | (obtain ⟨_, rfl, _⟩ := h; rfl) | (obtain ⟨_, _, rfl, _⟩ := h; rfl) | (obtain ⟨_, _, _, rfl, _⟩ := h; rfl) | (obtain ⟨_, _, _, _, rfl, _⟩ := h; rfl) | (obtain ⟨_, _, _, _, _, rfl, _⟩ := h; rfl) | (obtain ⟨_, _, _, _, _, _, rfl, _⟩ := h; rfl) | (obtain ⟨_, _, _, _, _, _, _, rfl, _⟩ := h; rfl) | (obtain ⟨_, _, _, _, _, _, _, _, rfl, _⟩ := h; rfl)
  · have hu := hu_of hr
    refine ⟨_, (pss_one (ps_ret (pe_callTy call_list_of (by rfl) T.zlist (by decide +kernel) (pa_cons (pe_fldK (K := K) rfl (pv 0) rfl) pa_nil)))), ?_⟩
    obtain ⟨p, z, rfl, hp, k⟩ := h
    exact ⟨_, rfl, p, _, _, _, _, rfl, hp.ob, T.clIdealHeap, T.nIdealHeap_in_hands, hF_hands, _, _, rfl, Or.inl (SqL.of hp.hl), k⟩
def sp_names : Sp := fun vs H Q _ => ∃ (p : Addr) (s : HS), vs = [.ref p] ∧ HeapAt H p s ∧ ∀ l, H l = none → Q (.ref l) (upd H l (.lst (s.nv.map nV)))
theorem scm_IdealHeap_names : FnScope ["self"] ["self"] (defScope sm_IdealHeap_names) := ⟨rfl, rfl, rfl, by decide +kernel, rfl, by decide +kernel, by decide +kernel⟩
theorem ok_m_IdealHeap_names {P : Program} {w : World} {K : PySem.W.Frag} {mg : Str → Option Value} {base : Heap} (T : Tx K mg) : Def P w K mg base CX0 1 am_IdealHeap_names ["self"] sp_names := by
  refine mk0 T.D_m_IdealHeap_names scm_IdealHeap_names (fun _ _ _ _ _ _ us hl => match us, hl with | [_], _ => rfl) (fun vs H Q E h => ?_) (fun cdv A outer s H vs Q E hr h => ?_)
  · first | (obtain ⟨_, rfl, _⟩ := h; rfl) | (obtain ⟨_, _, rfl, _⟩ := h; rfl) | (obtain ⟨_, _, _, rfl, _⟩ := h; rfl) | (obtain ⟨_, _, _, _, rfl, _⟩ := h; rfl) | (obtain ⟨_, _, _, _, _, rfl, _⟩ := h; rfl) | (obtain ⟨_, _, _, _, _, _, rfl, _⟩ := h; rfl) | (obtain ⟨_, _, _, _, _, _, _, rfl, _⟩ := h; rfl) | (obtain ⟨_, _, _, _, _, _, _, _, rfl, _⟩ := h; rfl)
  · have hu := hu_of hr
    refine ⟨_, (pss_one (ps_ret (pe_callTy call_list_of (by rfl) T.zlist (by decide +kernel) (pa_cons (pe_fldK (K := K) rfl (pv 0) rfl) pa_nil)))), ?_⟩
    obtain ⟨p, z, rfl, hp, k⟩ := h
    exact ⟨_, rfl, p, _, _, _, _, rfl, hp.ob, T.clIdealHeap, T.nIdealHeap_naming, hF_naming, _, _, rfl, Or.inl (SqL.of hp.nl), k⟩
def sp_things : Sp := fun vs H Q _ => ∃ (p : Addr) (s : HS), vs = [.ref p] ∧ HeapAt H p s ∧ ∀ (ts : List Int) (l : Addr), ts.Perm (keys s.cs) → ts.Pairwise (· ≤ ·) → H l = none → Q (.ref l) (upd H l (.lst (ts.map V.int)))
theorem scm_IdealHeap_things : FnScope ["self"] ["self"] (defScope sm_IdealHeap_things) := ⟨rfl, rfl, rfl, by decide +kernel, rfl, by decide +kernel, by decide +kernel⟩
theorem ok_m_IdealHeap_things {P : Program} {w : World} {K : PySem.W.Frag} {mg : Str → Option Value} {base : Heap} (T : Tx K mg) : Def P w K mg base CX0 1 am_IdealHeap_things ["self"] sp_things := by
  refine mk0 T.D_m_IdealHeap_things scm_IdealHeap_things (fun _ _ _ _ _ _ us hl => match us, hl with | [_], _ => rfl) (fun vs H Q E h => ?_) (fun cdv A outer s H vs Q E hr h => ?_)
  · first | (obtain ⟨_, rfl, _⟩ := h; rfl) | (obtain ⟨_, _, rfl, _⟩ := h; rfl) | (obtain ⟨_, _, _, rfl, _⟩ := h; rfl) | (obtain ⟨_, _, _, _, rfl, _⟩ := h; rfl) | (obtain ⟨_, _, _, _, _, rfl, _⟩ := h; rfl) | (obtain ⟨_, _, _, _, _, _, rfl, _⟩ := h; rfl) | (obtain ⟨_, _, _, _, _, _, _, rfl, _⟩ := h; rfl) | (obtain ⟨_, _, _, _, _, _, _, _, rfl, _⟩ := h; rfl)
  · have hu := hu_of hr
    refine ⟨_, (pss_one (ps_ret (pe_callB (call_sortedDI rfl) (by rfl) T.zsorted (by decide +kernel) (pa_cons (pe_fldK (K := K) rfl (pv 0) rfl) pa_nil)))), ?_⟩
    obtain ⟨p, z, rfl, hp, k⟩ := h
    exact ⟨_, rfl, p, _, _, _, _, rfl, hp.ob, T.clIdealHeap, T.nIdealHeap_kept, hF_kept, _, _, _, rfl, .inl hp.kd, kvT_keys, k⟩
def sp_thing_due : Sp := fun vs H Q _ => ∃ (p : Addr) (s : HS) (c : Th), vs = [.ref p, .int c.t] ∧ HeapAt H p s ∧ (keys s.cs).Nodup ∧ c ∈ s.cs ∧ Q (.ref c.a) H
theorem scm_IdealHeap_thing_due : FnScope ["self", "t"] ["self", "t"] (defScope sm_IdealHeap_thing_due) := ⟨rfl, rfl, rfl, by decide +kernel, rfl, by decide +kernel, by decide +kernel⟩
theorem ok_m_IdealHeap_thing_due {P : Program} {w : World} {K : PySem.W.Frag} {mg : Str → Option Value} {base : Heap} (T : Tx K mg) : Def P w K mg base CX0 1 am_IdealHeap_thing_due ["self", "t"] sp_thing_due := by
  refine mk0 T.D_m_IdealHeap_thing_due scm_IdealHeap_thing_due (fun _ _ _ _ _ _ us hl => match us, hl with | [_, _], _ => rfl) (fun vs H Q E h => ?_) (fun cdv A outer s H vs Q E hr h => ?_)
  · first | (obtain ⟨_, rfl, _⟩ := h; rfl) | (obtain ⟨_, _, rfl, _⟩ := h; rfl) | (obtain ⟨_, _, _, rfl, _⟩ := h; rfl) | (obtain ⟨_, _, _, _, rfl, _⟩ := h; rfl) | (obtain ⟨_, _, _, _, _, rfl, _⟩ := h; rfl) | (obtain ⟨_, _, _, _, _, _, rfl, _⟩ := h; rfl) | (obtain ⟨_, _, _, _, _, _, _, rfl, _⟩ := h; rfl) | (obtain ⟨_, _, _, _, _, _, _, _, rfl, _⟩ := h; rfl)
  · have hu := hu_of hr
    refine ⟨_, (pss_cons (ps_if (pt_cmp (pc_dnotin hu (pv 1) (pe_fldK (K := K) rfl (pv 0) rfl))) (pss_one ps_never) pss_nil)
      (pss_one (ps_ret (pe_dget hu (pe_fldK (K := K) rfl (pv 0) rfl) (pv 1) (fun _ _ => rfl))))), ?_⟩
    obtain ⟨p, z, c, rfl, hp, kn, hc, k⟩ := h
    have hh := hp.held kn
    refine ⟨_, rfl, _, rfl, p, _, _, _, _, rfl, hp.ob, T.clIdealHeap, T.nIdealHeap_kept, hF_kept, z.dk, _, rfl, hh.get hc, _, rfl, ifF rfl ?_⟩
    exact ⟨_, rfl, p, _, _, _, _, rfl, hp.ob, T.clIdealHeap, T.nIdealHeap_kept, hF_kept, _, rfl, z.dk, _, rfl, hh.get hc, k⟩
def sp_fields_of : Sp := fun vs H Q _ => ∃ (p : Addr) (s : HS) (c : Th), vs = [.ref p, .int c.t] ∧ HeapAt H p s ∧ (keys s.cs).Nodup ∧ c ∈ s.cs ∧ ∀ l, H l = none → Q (.ref l) (upd H l (.lst c.vs))
theorem scm_IdealHeap_fields_of : FnScope ["self", "t"] ["self", "t"] (defScope sm_IdealHeap_fields_of) := ⟨rfl, rfl, rfl, by decide +kernel, rfl, by decide +kernel, by decide +kernel⟩
theorem ok_m_IdealHeap_fields_of {P : Program} {w : World} {K : PySem.W.Frag} {mg : Str → Option Value} {base : Heap} (T : Tx K mg) : Def P w K mg base CX0 2 am_IdealHeap_fields_of ["self", "t"] sp_fields_of := by
  refine mk0 T.D_m_IdealHeap_fields_of scm_IdealHeap_fields_of (fun _ _ _ _ _ _ us hl => match us, hl with | [_, _], _ => rfl) (fun vs H Q E h => ?_) (fun cdv A outer s H vs Q E hr h => ?_)
  · first | (obtain ⟨_, rfl, _⟩ := h; rfl) | (obtain ⟨_, _, rfl, _⟩ := h; rfl) | (obtain ⟨_, _, _, rfl, _⟩ := h; rfl) | (obtain ⟨_, _, _, _, rfl, _⟩ := h; rfl) | (obtain ⟨_, _, _, _, _, rfl, _⟩ := h; rfl) | (obtain ⟨_, _, _, _, _, _, rfl, _⟩ := h; rfl) | (obtain ⟨_, _, _, _, _, _, _, rfl, _⟩ := h; rfl) | (obtain ⟨_, _, _, _, _, _, _, _, rfl, _⟩ := h; rfl)
  · have hu := hu_of hr
    refine ⟨_, (pss_one (ps_ret (pe_callTy call_list_of (by rfl) T.zlist (by decide +kernel) (pa_cons (pe_fldK (K := K) rfl (c_meth (ok_m_IdealHeap_thing_due T) (hr.mono (by decide)) T.clIdealHeap T.mIdealHeap_thing_due pass0 (pv 0) (pa_cons (pv 1) pa_nil)) rfl) pa_nil)))), ?_⟩
    obtain ⟨p, z, c, rfl, hp, kn, hc, k⟩ := h
    have t := hp.th c hc
    refine ⟨_, rfl, p, _, _, rfl, hp.ob, hF_no (by decide +kernel), _, rfl, p, z, c, rfl, hp, kn, hc, ?_⟩
    exact ⟨c.a, _, _, _, _, rfl, t.ob, T.clIdealThing, T.nIdealThing_inside, thF_in, c.il, _, rfl, Or.inl (SqL.of t.il), k⟩
def sp_held : Sp := fun vs H Q _ => ∃ (m : Nat) (p : Addr) (s : HS), vs = [.ref p] ∧ HeapAt H p s ∧ WF m s ∧ ∀ H', Same H H' → Q (.int (wd s.cs)) H'
theorem scm_IdealHeap_held : FnScope ["self"] ["self"] (defScope sm_IdealHeap_held) := ⟨rfl, rfl, rfl, by decide +kernel, rfl, by decide +kernel, by decide +kernel⟩
theorem ok_m_IdealHeap_held {P : Program} {w : World} {K : PySem.W.Frag} {mg : Str → Option Value} {base : Heap} (T : Tx K mg) : Def P w K mg base CX0 3 am_IdealHeap_held ["self"] sp_held := by
  refine mk0 T.D_m_IdealHeap_held scm_IdealHeap_held (fun _ _ _ _ _ _ us hl => match us, hl with | [_], _ => rfl) (fun vs H Q E h => ?_) (fun cdv A outer s H vs Q E hr h => ?_)
  · first | (obtain ⟨_, rfl, _⟩ := h; rfl) | (obtain ⟨_, _, rfl, _⟩ := h; rfl) | (obtain ⟨_, _, _, rfl, _⟩ := h; rfl) | (obtain ⟨_, _, _, _, rfl, _⟩ := h; rfl) | (obtain ⟨_, _, _, _, _, rfl, _⟩ := h; rfl) | (obtain ⟨_, _, _, _, _, _, rfl, _⟩ := h; rfl) | (obtain ⟨_, _, _, _, _, _, _, rfl, _⟩ := h; rfl) | (obtain ⟨_, _, _, _, _, _, _, _, rfl, _⟩ := h; rfl)
  · have hu := hu_of hr
    refine ⟨_, (pss_one (ps_ret (c_call (ok_f_words_in_ideal T) (hr.mono (by decide)) T.gf_words_in_ideal pass0 (pa_cons (pe_fldK (K := K) rfl (pv 0) rfl) (pa_cons (pe_fldK (K := K) rfl (pv 0) rfl) pa_nil))))), ?_⟩
    obtain ⟨m, p, z, rfl, hp, w, k⟩ := h
    refine ⟨_, rfl, p, _, _, _, _, rfl, hp.ob, T.clIdealHeap, T.nIdealHeap_kept, hF_kept, _, rfl, p, _, _, _, _, rfl, hp.ob, T.clIdealHeap, T.nIdealHeap_kept, hF_kept, ?_⟩
    exact ⟨z.dk, z.dk, z.cs, z.cs, _, rfl, hp.held w.kn, hp.kd, kvT_keys, fun _ h => h, w.f6, w.c400, k⟩
end SH
/-! The deeds but for rounds and make. -/
namespace SH
open PySem PySem.Spec PyProof.Rows L2
/-- a deed is done -/
def OkD (m : Nat) (p : Addr) (s : HS) (H : Hp) (Q : VK) : Prop := ∀ (H' : Hp) (s' : HS), HeapAt H' p s' → WF m s' → Ext p s s' H H' → Q .non H'
def ErrC (C : Addr) : Prop := C = cBadHand ∨ C = cBadField ∨ C = cNoRoom ∨ C = cTooManyWords
/-- a deed is refused -/
def OkE (m : Nat) (p : Addr) (s : HS) (H : Hp) (E : XK) : Prop := ∀ (C : Addr) (H' : Hp) (s' : HS), ErrC C → HeapAt H' p s' → WF m s' → Ext p s s' H H' → E (.ref C) none H'
theorem ixN_nn {n : Nat} {i : Int} (h0 : 0 ≤ i) (h1 : i < n) : ixN n i = some i.toNat := by
  unfold ixN
  rw [if_pos h0, if_pos h1]
theorem atI_nn {xs : List V} {i : Int} {v : V} (h0 : 0 ≤ i) (h : xs[i.toNat]? = some v) : atI xs i = some v := at_of (Int.toNat_of_nonneg h0).symm h
section
variable {H : Hp} {p : Addr} {s : HS} {m : Nat} {h : Int}
theorem hand_at (hp : HeapAt H p s) (w : WF m s) (h0 : 0 ≤ h) (h8 : h < 8) : ∃ v x, atI s.hv h = some v ∧ s.hx[h.toNat]? = some x ∧ Rp H v x ∧ ixN s.hv.length h = some h.toNat := by
  have el : s.hv.length = 8 := (pd_len hp.hr).trans w.h8
  have hl : h.toNat < s.hv.length := by omega
  obtain ⟨x, hx, r⟩ := pd_get hp.hr (List.getElem?_eq_getElem hl)
  exact ⟨_, x, atI_nn h0 (List.getElem?_eq_getElem hl), hx, r, ixN_nn h0 (show h < (s.hv.length : Int) by omega)⟩
/-- a hand is given a value -/
theorem hand_set (hp : HeapAt H p s) (w : WF m s) {v : V} {x : Ab} (r : Rp H v x) (px : Put s x) (j : Nat) :
    HeapAt (upd H s.lh (.lst (s.hv.set j v))) p { s with hv := s.hv.set j v, hx := s.hx.set j x } ∧ WF m { s with hv := s.hv.set j v, hx := s.hx.set j x } ∧ Ext p s { s with hv := s.hv.set j v, hx := s.hx.set j x } H (upd H s.lh (.lst (s.hv.set j v))) :=
  ⟨hp.hands (pd_set r j hp.hr), w.hand px j _, Ext.upd own_lh fun b q => own_cs (s := s) q rfl rfl rfl rfl (fun c hc => ⟨c, hc, rfl, rfl⟩) (fun d g e => ⟨g, e⟩)⟩
end
def sp_thing_in : Sp := fun vs H Q E => ∃ (m : Nat) (p : Addr) (s : HS) (h : Int), vs = [.ref p, .int h] ∧ (0 ≤ h ∧ h < 8) ∧ HeapAt H p s ∧ WF m s ∧ (∀ c, InHand s c → Q (.int c.t) H) ∧ E (.ref cBadHand) none H
theorem scm_IdealHeap_thing_in : FnScope ["self", "h", "thing"] ["self", "h"] (defScope sm_IdealHeap_thing_in) := ⟨rfl, rfl, rfl, by decide +kernel, rfl, by decide +kernel, by decide +kernel⟩
theorem ok_m_IdealHeap_thing_in {P : Program} {w : World} {K : PySem.W.Frag} {mg : Str → Option Value} {base : Heap} (T : Tx K mg) : Def P w K mg base (L2.CX P w) 3 am_IdealHeap_thing_in ["self", "h"] sp_thing_in := by
  refine mkX T.D_m_IdealHeap_thing_in scm_IdealHeap_thing_in (fun _ _ _ _ _ _ us hl => match us, hl with | [_, _], _ => rfl) (fun vs H Q E h => ?_) (fun cdv A outer s H vs Q E hr h => ?_)
  · first | (obtain ⟨_, rfl, _⟩ := h; rfl) | (obtain ⟨_, _, rfl, _⟩ := h; rfl) | (obtain ⟨_, _, _, rfl, _⟩ := h; rfl) | (obtain ⟨_, _, _, _, rfl, _⟩ := h; rfl) | (obtain ⟨_, _, _, _, _, rfl, _⟩ := h; rfl) | (obtain ⟨_, _, _, _, _, _, rfl, _⟩ := h; rfl) | (obtain ⟨_, _, _, _, _, _, _, rfl, _⟩ := h; rfl) | (obtain ⟨_, _, _, _, _, _, _, _, rfl, _⟩ := h; rfl)
  · have hu := hu_of hr
    have tk := takes_of (X := (cxOf (L2.CX P w) P w K mg base ["self", "h", "thing"] "IdealHeap.thing_in" (defScope sm_IdealHeap_thing_in) am_IdealHeap_thing_in cdv A outer s H E)) rfl rfl rfl rfl
    refine ⟨_, (pss_cons (ps_expr (c_call (ok_f_look_at_hand T) (hr.mono (by decide)) T.gf_look_at_hand pass0 (pa_cons (pv 1) pa_nil)))
      (pss_cons (ps_set (i := 2) scm_IdealHeap_thing_in.nd rfl (by first | exact Or.inl rfl | exact Or.inr rfl) (c_call (ok_f_thing_of T) (hr.mono (by decide)) T.gf_thing_of pass0 (pa_cons (pe_ix (r := rIxL K) (ix_listK rfl) (pe_fldK (K := K) rfl (pv 0) rfl) (pv 1) (fun _ _ => rfl)) pa_nil)))
      (pss_cons (ps_if (pt_cmpR op_isN (pv 2) pe_non (nomark _)) (pss_one (ps_raise rfl tk (pmk_own PySem.F.excBase_ValueError T.xBadHand.ex T.gcBadHand T.xBadHand.kp (raises_own T.xBadHand.sb T.xBadHand.ty) rfl))) pss_nil)
      (pss_one (ps_ret (pv 2)))))), ?_⟩
    obtain ⟨m, p, z, j, rfl, ⟨h0, h8⟩, hp, w, k, ke⟩ := h
    obtain ⟨v, x, a1, a2, a3, _⟩ := hand_at hp w h0 h8
    refine ⟨_, rfl, j, rfl, ⟨h0, h8⟩, ?_⟩
    refine ⟨_, rfl, p, _, _, _, _, rfl, hp.ob, T.clIdealHeap, T.nIdealHeap_in_hands, hF_hands, _, rfl, _, _, _, v, rfl, rfl, SqL.of hp.hl, a1, v, x, rfl, a3, ?_⟩
    refine ⟨_, rfl, rfl, _, rfl, ?_⟩
    cases x with
    | non => exact dT rfl ke
    | num i => exact dT rfl ke
    | th t =>
      refine dF (by intro z; cases z) ⟨_, rfl, ?_⟩
      have hm := List.mem_of_getElem? a2
      obtain ⟨c, hc, rfl⟩ := key_at (w.hc t hm)
      exact k c ⟨hc, hm⟩
def sp_field_due : Sp := fun vs H Q E => ∃ (p : Addr) (s : HS) (c : Th) (i : Int), vs = [.ref p, .int c.t, .int i] ∧ HeapAt H p s ∧ (keys s.cs).Nodup ∧ c ∈ s.cs ∧ (0 ≤ i → i < c.fs.length → Q .non H) ∧ E (.ref cBadField) none H
theorem scm_IdealHeap_field_due : FnScope ["self", "thing", "k"] ["self", "thing", "k"] (defScope sm_IdealHeap_field_due) := ⟨rfl, rfl, rfl, by decide +kernel, rfl, by decide +kernel, by decide +kernel⟩
theorem ok_m_IdealHeap_field_due {P : Program} {w : World} {K : PySem.W.Frag} {mg : Str → Option Value} {base : Heap} (T : Tx K mg) : Def P w K mg base (L2.CX P w) 1 am_IdealHeap_field_due ["self", "thing", "k"] sp_field_due := by
  refine mkX T.D_m_IdealHeap_field_due scm_IdealHeap_field_due (fun _ _ _ _ _ _ us hl => match us, hl with | [_, _, _], _ => rfl) (fun vs H Q E h => ?_) (fun cdv A outer s H vs Q E hr h => ?_)
  · first | (obtain ⟨_, rfl, _⟩ := h; rfl) | (obtain ⟨_, _, rfl, _⟩ := h; rfl) | (obtain ⟨_, _, _, rfl, _⟩ := h; rfl) | (obtain ⟨_, _, _, _, rfl, _⟩ := h; rfl) | (obtain ⟨_, _, _, _, _, rfl, _⟩ := h; rfl) | (obtain ⟨_, _, _, _, _, _, rfl, _⟩ := h; rfl) | (obtain ⟨_, _, _, _, _, _, _, rfl, _⟩ := h; rfl) | (obtain ⟨_, _, _, _, _, _, _, _, rfl, _⟩ := h; rfl)
  · have hu := hu_of hr
    have tk := takes_of (X := (cxOf (L2.CX P w) P w K mg base ["self", "thing", "k"] "IdealHeap.field_due" (defScope sm_IdealHeap_field_due) am_IdealHeap_field_due cdv A outer s H E)) rfl rfl rfl rfl
    refine ⟨_, (pss_one (ps_if (PW.pt (pw_or (pt_cmpR op_lt (pv 2) pe_int (nomark _)) (pw_or1 (pt_cmpR op_ge (pv 2) (pe_callB (r := rLenQ K) (call_lenQ rfl) (by rfl) T.zlen PySem.boot_len (pa_cons (pe_fldK (K := K) rfl (pe_dget hu (pe_fldK (K := K) rfl (pv 0) rfl) (pv 1) (fun _ _ => rfl)) rfl) pa_nil)) (nomark _))))) (pss_one (ps_raise rfl tk (pmk_own PySem.F.excBase_ValueError T.xBadField.ex T.gcBadField T.xBadField.kp (raises_own T.xBadField.sb T.xBadField.ty) rfl))) pss_nil)), ?_⟩
    obtain ⟨p, z, c, i, rfl, hp, kn, hc, k, ke⟩ := h
    have t := hp.th c hc
    have el : c.vs.length = c.fs.length := pd_len t.rp
    refine ⟨_, rfl, _, _, rfl, rfl, _, rfl, ?_⟩
    by_cases q : i < 0
    · exact dT q (iteT ke)
    · refine dF q ⟨_, rfl, _, rfl, p, _, _, _, _, rfl, hp.ob, T.clIdealHeap, T.nIdealHeap_kept, hF_kept, _, rfl, z.dk, _, rfl, (hp.held kn).get hc, c.a, _, _, _, _, rfl, t.ob, T.clIdealThing, T.nIdealThing_inside, thF_in, c.il, _, rfl, Or.inl (SqL.of t.il), _, _, rfl, rfl, _, rfl, ?_⟩
      by_cases q2 : (c.vs.length : Int) ≤ i
      · exact dT q2 ke
      · exact dF q2 (k (by omega) (by omega))
def sp_load : Sp := fun vs H Q E => ∃ (m : Nat) (p : Addr) (s : HS) (h g i : Int), vs = [.ref p, .int h, .int g, .int i] ∧ (0 ≤ h ∧ h < 8) ∧ (0 ≤ g ∧ g < 8) ∧ HeapAt H p s ∧ WF m s ∧ OkD m p s H Q ∧ OkE m p s H E
theorem scm_IdealHeap_load : FnScope ["self", "h", "g", "k", "thing"] ["self", "h", "g", "k"] (defScope sm_IdealHeap_load) := ⟨rfl, rfl, rfl, by decide +kernel, rfl, by decide +kernel, by decide +kernel⟩
theorem ok_m_IdealHeap_load {P : Program} {w : World} {K : PySem.W.Frag} {mg : Str → Option Value} {base : Heap} (T : Tx K mg) : Def P w K mg base (L2.CX P w) 4 am_IdealHeap_load ["self", "h", "g", "k"] sp_load := by
  refine mkX T.D_m_IdealHeap_load scm_IdealHeap_load (fun _ _ _ _ _ _ us hl => match us, hl with | [_, _, _, _], _ => rfl) (fun vs H Q E h => ?_) (fun cdv A outer s H vs Q E hr h => ?_)
  · first | (obtain ⟨_, rfl, _⟩ := h; rfl) | (obtain ⟨_, _, rfl, _⟩ := h; rfl) | (obtain ⟨_, _, _, rfl, _⟩ := h; rfl) | (obtain ⟨_, _, _, _, rfl, _⟩ := h; rfl) | (obtain ⟨_, _, _, _, _, rfl, _⟩ := h; rfl) | (obtain ⟨_, _, _, _, _, _, rfl, _⟩ := h; rfl) | (obtain ⟨_, _, _, _, _, _, _, rfl, _⟩ := h; rfl) | (obtain ⟨_, _, _, _, _, _, _, _, rfl, _⟩ := h; rfl)
  · have hu := hu_of hr
    have tk := takes_of (X := (cxOf (L2.CX P w) P w K mg base ["self", "h", "g", "k", "thing"] "IdealHeap.load" (defScope sm_IdealHeap_load) am_IdealHeap_load cdv A outer s H E)) rfl rfl rfl rfl
    refine ⟨_, (pss_cons (ps_expr (c_call (ok_f_look_at_hand T) (hr.mono (by decide)) T.gf_look_at_hand pass0 (pa_cons (pv 1) pa_nil)))
      (pss_cons (ps_set (i := 4) scm_IdealHeap_load.nd rfl (by first | exact Or.inl rfl | exact Or.inr rfl) (c_meth (ok_m_IdealHeap_thing_in T) (hr.mono (by decide)) T.clIdealHeap T.mIdealHeap_thing_in (passes_call tk (fun _ _ _ _ h => h)) (pv 0) (pa_cons (pv 2) pa_nil)))
      (pss_cons (ps_expr (c_meth (ok_m_IdealHeap_field_due T) (hr.mono (by decide)) T.clIdealHeap T.mIdealHeap_field_due (passes_call tk (fun _ _ _ _ h => h)) (pv 0) (pa_cons (pv 4) (pa_cons (pv 3) pa_nil))))
      (pss_one (ps_asg (pe_ix (r := rIxL K) (ix_listK rfl) (pe_fldK (K := K) rfl (pe_dget hu (pe_fldK (K := K) rfl (pv 0) rfl) (pv 4) (fun _ _ => rfl)) rfl) (pv 3) (fun _ _ => rfl)) (pg_sub (pe_fldK (K := K) rfl (pv 0) rfl) (pv 1) set_list)))))), ?_⟩
    obtain ⟨m, p, z, j, g, i, rfl, ⟨h0, h8⟩, ⟨g0, g8⟩, hp, w, k, ke⟩ := h
    refine ⟨_, rfl, j, rfl, ⟨h0, h8⟩, ?_⟩
    refine ⟨_, rfl, p, _, _, rfl, hp.ob, hF_no (by decide +kernel), _, rfl, m, p, z, g, rfl, ⟨g0, g8⟩, hp, w, fun c hc => ?_, ke _ _ z (.inl rfl) hp w .refl⟩
    have t := hp.th c hc.1
    refine ⟨_, rfl, p, _, _, rfl, hp.ob, hF_no (by decide +kernel), _, rfl, _, rfl, p, z, c, i, rfl, hp, w.kn, hc.1, fun i0 il => ?_, ke _ _ z (.inr (.inl rfl)) hp w .refl⟩
    obtain ⟨x, hx⟩ : ∃ x, c.fs[i.toNat]? = some x := ⟨_, List.getElem?_eq_getElem (by omega)⟩
    obtain ⟨v, hv, r⟩ := pd_get' t.rp hx
    obtain ⟨_, _, _, _, _, ix⟩ := hand_at hp w h0 h8
    obtain ⟨q1, q2, q3⟩ := hand_set hp w r (w.put_fld hc (List.mem_of_getElem? hx)) j.toNat
    refine ⟨_, rfl, p, _, _, _, _, rfl, hp.ob, T.clIdealHeap, T.nIdealHeap_kept, hF_kept, _, rfl, z.dk, _, rfl, (hp.held w.kn).get hc.1, c.a, _, _, _, _, rfl, t.ob, T.clIdealThing, T.nIdealThing_inside, thF_in, _, rfl, c.il, _, _, v, rfl, rfl, SqL.of t.il, atI_nn i0 hv, ?_⟩
    exact ⟨_, rfl, p, _, _, _, _, rfl, hp.ob, T.clIdealHeap, T.nIdealHeap_in_hands, hF_hands, _, rfl, _, _, _, _, rfl, rfl, hp.hl, ix, k _ _ q1 q2 q3⟩
def sp_store : Sp := fun vs H Q E => ∃ (m : Nat) (p : Addr) (s : HS) (g i h : Int), vs = [.ref p, .int g, .int i, .int h] ∧ (0 ≤ h ∧ h < 8) ∧ (0 ≤ g ∧ g < 8) ∧ HeapAt H p s ∧ WF m s ∧ OkD m p s H Q ∧ OkE m p s H E
theorem scm_IdealHeap_store : FnScope ["self", "g", "k", "h", "thing"] ["self", "g", "k", "h"] (defScope sm_IdealHeap_store) := ⟨rfl, rfl, rfl, by decide +kernel, rfl, by decide +kernel, by decide +kernel⟩
theorem ok_m_IdealHeap_store {P : Program} {w : World} {K : PySem.W.Frag} {mg : Str → Option Value} {base : Heap} (T : Tx K mg) : Def P w K mg base (L2.CX P w) 4 am_IdealHeap_store ["self", "g", "k", "h"] sp_store := by
  refine mkX T.D_m_IdealHeap_store scm_IdealHeap_store (fun _ _ _ _ _ _ us hl => match us, hl with | [_, _, _, _], _ => rfl) (fun vs H Q E h => ?_) (fun cdv A outer s H vs Q E hr h => ?_)
  · first | (obtain ⟨_, rfl, _⟩ := h; rfl) | (obtain ⟨_, _, rfl, _⟩ := h; rfl) | (obtain ⟨_, _, _, rfl, _⟩ := h; rfl) | (obtain ⟨_, _, _, _, rfl, _⟩ := h; rfl) | (obtain ⟨_, _, _, _, _, rfl, _⟩ := h; rfl) | (obtain ⟨_, _, _, _, _, _, rfl, _⟩ := h; rfl) | (obtain ⟨_, _, _, _, _, _, _, rfl, _⟩ := h; rfl) | (obtain ⟨_, _, _, _, _, _, _, _, rfl, _⟩ := h; rfl)
  · have hu := hu_of hr
    have tk := takes_of (X := (cxOf (L2.CX P w) P w K mg base ["self", "g", "k", "h", "thing"] "IdealHeap.store" (defScope sm_IdealHeap_store) am_IdealHeap_store cdv A outer s H E)) rfl rfl rfl rfl
    refine ⟨_, (pss_cons (ps_set (i := 4) scm_IdealHeap_store.nd rfl (by first | exact Or.inl rfl | exact Or.inr rfl) (c_meth (ok_m_IdealHeap_thing_in T) (hr.mono (by decide)) T.clIdealHeap T.mIdealHeap_thing_in (passes_call tk (fun _ _ _ _ h => h)) (pv 0) (pa_cons (pv 1) pa_nil)))
      (pss_cons (ps_expr (c_call (ok_f_look_at_hand T) (hr.mono (by decide)) T.gf_look_at_hand pass0 (pa_cons (pv 3) pa_nil)))
      (pss_cons (ps_expr (c_meth (ok_m_IdealHeap_field_due T) (hr.mono (by decide)) T.clIdealHeap T.mIdealHeap_field_due (passes_call tk (fun _ _ _ _ h => h)) (pv 0) (pa_cons (pv 4) (pa_cons (pv 2) pa_nil))))
      (pss_one (ps_asg (pe_ix (r := rIxL K) (ix_listK rfl) (pe_fldK (K := K) rfl (pv 0) rfl) (pv 3) (fun _ _ => rfl)) (pg_sub (pe_fldK (K := K) rfl (pe_dget hu (pe_fldK (K := K) rfl (pv 0) rfl) (pv 4) (fun _ _ => rfl)) rfl) (pv 2) set_list)))))), ?_⟩
    obtain ⟨m, p, z, g, i, j, rfl, ⟨h0, h8⟩, ⟨g0, g8⟩, hp, w, k, ke⟩ := h
    refine ⟨_, rfl, p, _, _, rfl, hp.ob, hF_no (by decide +kernel), _, rfl, m, p, z, g, rfl, ⟨g0, g8⟩, hp, w, fun c hc => ?_, ke _ _ z (.inl rfl) hp w .refl⟩
    have t := hp.th c hc.1
    refine ⟨_, rfl, j, rfl, ⟨h0, h8⟩, ?_⟩
    refine ⟨_, rfl, p, _, _, rfl, hp.ob, hF_no (by decide +kernel), _, rfl, _, rfl, p, z, c, i, rfl, hp, w.kn, hc.1, fun i0 il => ?_, ke _ _ z (.inr (.inl rfl)) hp w .refl⟩
    obtain ⟨v, x, a1, a2, a3, _⟩ := hand_at hp w h0 h8
    have el : c.vs.length = c.fs.length := pd_len t.rp
    refine ⟨_, rfl, p, _, _, _, _, rfl, hp.ob, T.clIdealHeap, T.nIdealHeap_in_hands, hF_hands, _, rfl, _, _, _, v, rfl, rfl, SqL.of hp.hl, a1, ?_⟩
    refine ⟨_, rfl, p, _, _, _, _, rfl, hp.ob, T.clIdealHeap, T.nIdealHeap_kept, hF_kept, _, rfl, z.dk, _, rfl, (hp.held w.kn).get hc.1, c.a, _, _, _, _, rfl, t.ob, T.clIdealThing, T.nIdealThing_inside, thF_in, _, rfl, c.il, _, _, i.toNat, rfl, rfl, t.il, ixN_nn i0 (by omega), ?_⟩
    exact k _ _ (hp.field w.kn hc.1 (k := i.toNat) a3) (w.field (w.put_hand (List.mem_of_getElem? a2)) hc i.toNat _) (Ext.upd (own_il hc.1) fun b q => own_cs (s := z) q rfl rfl rfl rfl (updT_own (fun _ => rfl) fun _ => rfl) (fun d g e => ⟨g, e⟩))
def sp_copy : Sp := fun vs H Q _ => ∃ (m : Nat) (p : Addr) (s : HS) (h g : Int), vs = [.ref p, .int h, .int g] ∧ (0 ≤ h ∧ h < 8) ∧ (0 ≤ g ∧ g < 8) ∧ HeapAt H p s ∧ WF m s ∧ OkD m p s H Q
theorem scm_IdealHeap_copy : FnScope ["self", "h", "g"] ["self", "h", "g"] (defScope sm_IdealHeap_copy) := ⟨rfl, rfl, rfl, by decide +kernel, rfl, by decide +kernel, by decide +kernel⟩
theorem ok_m_IdealHeap_copy {P : Program} {w : World} {K : PySem.W.Frag} {mg : Str → Option Value} {base : Heap} (T : Tx K mg) : Def P w K mg base CX0 2 am_IdealHeap_copy ["self", "h", "g"] sp_copy := by
  refine mk0 T.D_m_IdealHeap_copy scm_IdealHeap_copy (fun _ _ _ _ _ _ us hl => match us, hl with | [_, _, _], _ => rfl) (fun vs H Q E h => ?_) (fun cdv A outer s H vs Q E hr h => ?_)
  · first | (obtain ⟨_, rfl, _⟩ := h; rfl) | (obtain ⟨_, _, rfl, _⟩ := h; rfl) | (obtain ⟨_, _, _, rfl, _⟩ := h; rfl) | (obtain ⟨_, _, _, _, rfl, _⟩ := h; rfl) | (obtain ⟨_, _, _, _, _, rfl, _⟩ := h; rfl) | (obtain ⟨_, _, _, _, _, _, rfl, _⟩ := h; rfl) | (obtain ⟨_, _, _, _, _, _, _, rfl, _⟩ := h; rfl) | (obtain ⟨_, _, _, _, _, _, _, _, rfl, _⟩ := h; rfl)
  · have hu := hu_of hr
    refine ⟨_, (pss_cons (ps_expr (c_call (ok_f_look_at_hand T) (hr.mono (by decide)) T.gf_look_at_hand pass0 (pa_cons (pv 1) pa_nil)))
      (pss_cons (ps_expr (c_call (ok_f_look_at_hand T) (hr.mono (by decide)) T.gf_look_at_hand pass0 (pa_cons (pv 2) pa_nil)))
      (pss_one (ps_asg (pe_ix (r := rIxL K) (ix_listK rfl) (pe_fldK (K := K) rfl (pv 0) rfl) (pv 2) (fun _ _ => rfl)) (pg_sub (pe_fldK (K := K) rfl (pv 0) rfl) (pv 1) set_list))))), ?_⟩
    obtain ⟨m, p, z, j, g, rfl, ⟨h0, h8⟩, ⟨g0, g8⟩, hp, w, k⟩ := h
    refine ⟨_, rfl, j, rfl, ⟨h0, h8⟩, ?_⟩
    refine ⟨_, rfl, g, rfl, ⟨g0, g8⟩, ?_⟩
    obtain ⟨v, x, a1, a2, a3, _⟩ := hand_at hp w g0 g8
    obtain ⟨_, _, _, _, _, ix⟩ := hand_at hp w h0 h8
    obtain ⟨q1, q2, q3⟩ := hand_set hp w a3 (w.put_hand (List.mem_of_getElem? a2)) j.toNat
    refine ⟨_, rfl, p, _, _, _, _, rfl, hp.ob, T.clIdealHeap, T.nIdealHeap_in_hands, hF_hands, _, rfl, _, _, _, v, rfl, rfl, SqL.of hp.hl, a1, ?_⟩
    exact ⟨_, rfl, p, _, _, _, _, rfl, hp.ob, T.clIdealHeap, T.nIdealHeap_in_hands, hF_hands, _, rfl, _, _, _, _, rfl, rfl, hp.hl, ix, k _ _ q1 q2 q3⟩
def sp_drop : Sp := fun vs H Q _ => ∃ (m : Nat) (p : Addr) (s : HS) (h : Int), vs = [.ref p, .int h] ∧ (0 ≤ h ∧ h < 8) ∧ HeapAt H p s ∧ WF m s ∧ OkD m p s H Q
theorem scm_IdealHeap_drop : FnScope ["self", "h"] ["self", "h"] (defScope sm_IdealHeap_drop) := ⟨rfl, rfl, rfl, by decide +kernel, rfl, by decide +kernel, by decide +kernel⟩
theorem ok_m_IdealHeap_drop {P : Program} {w : World} {K : PySem.W.Frag} {mg : Str → Option Value} {base : Heap} (T : Tx K mg) : Def P w K mg base CX0 2 am_IdealHeap_drop ["self", "h"] sp_drop := by
  refine mk0 T.D_m_IdealHeap_drop scm_IdealHeap_drop (fun _ _ _ _ _ _ us hl => match us, hl with | [_, _], _ => rfl) (fun vs H Q E h => ?_) (fun cdv A outer s H vs Q E hr h => ?_)
  · first | (obtain ⟨_, rfl, _⟩ := h; rfl) | (obtain ⟨_, _, rfl, _⟩ := h; rfl) | (obtain ⟨_, _, _, rfl, _⟩ := h; rfl) | (obtain ⟨_, _, _, _, rfl, _⟩ := h; rfl) | (obtain ⟨_, _, _, _, _, rfl, _⟩ := h; rfl) | (obtain ⟨_, _, _, _, _, _, rfl, _⟩ := h; rfl) | (obtain ⟨_, _, _, _, _, _, _, rfl, _⟩ := h; rfl) | (obtain ⟨_, _, _, _, _, _, _, _, rfl, _⟩ := h; rfl)
  · have hu := hu_of hr
    refine ⟨_, (pss_cons (ps_expr (c_call (ok_f_look_at_hand T) (hr.mono (by decide)) T.gf_look_at_hand pass0 (pa_cons (pv 1) pa_nil)))
      (pss_one (ps_asg pe_non (pg_sub (pe_fldK (K := K) rfl (pv 0) rfl) (pv 1) set_list)))), ?_⟩
    obtain ⟨m, p, z, j, rfl, ⟨h0, h8⟩, hp, w, k⟩ := h
    refine ⟨_, rfl, j, rfl, ⟨h0, h8⟩, ?_⟩
    obtain ⟨_, _, _, _, _, ix⟩ := hand_at hp w h0 h8
    obtain ⟨q1, q2, q3⟩ := hand_set hp w (v := .non) (x := .non) trivial Put.non j.toNat
    exact ⟨_, rfl, p, _, _, _, _, rfl, hp.ob, T.clIdealHeap, T.nIdealHeap_in_hands, hF_hands, _, rfl, _, _, _, _, rfl, rfl, hp.hl, ix, k _ _ q1 q2 q3⟩
def sp_number : Sp := fun vs H Q _ => ∃ (m : Nat) (p : Addr) (s : HS) (h x : Int), vs = [.ref p, .int h, .int x] ∧ (0 ≤ h ∧ h < 8) ∧ (-(10 ^ 60) ≤ x ∧ x ≤ 10 ^ 60) ∧ HeapAt H p s ∧ WF m s ∧ OkD m p s H Q
theorem scm_IdealHeap_number : FnScope ["self", "h", "x"] ["self", "h", "x"] (defScope sm_IdealHeap_number) := ⟨rfl, rfl, rfl, by decide +kernel, rfl, by decide +kernel, by decide +kernel⟩
theorem ok_m_IdealHeap_number {P : Program} {w : World} {K : PySem.W.Frag} {mg : Str → Option Value} {base : Heap} (T : Tx K mg) : Def P w K mg base CX0 2 am_IdealHeap_number ["self", "h", "x"] sp_number := by
  refine mk0 T.D_m_IdealHeap_number scm_IdealHeap_number (fun _ _ _ _ _ _ us hl => match us, hl with | [_, _, _], _ => rfl) (fun vs H Q E h => ?_) (fun cdv A outer s H vs Q E hr h => ?_)
  · first | (obtain ⟨_, rfl, _⟩ := h; rfl) | (obtain ⟨_, _, rfl, _⟩ := h; rfl) | (obtain ⟨_, _, _, rfl, _⟩ := h; rfl) | (obtain ⟨_, _, _, _, rfl, _⟩ := h; rfl) | (obtain ⟨_, _, _, _, _, rfl, _⟩ := h; rfl) | (obtain ⟨_, _, _, _, _, _, rfl, _⟩ := h; rfl) | (obtain ⟨_, _, _, _, _, _, _, rfl, _⟩ := h; rfl) | (obtain ⟨_, _, _, _, _, _, _, _, rfl, _⟩ := h; rfl)
  · have hu := hu_of hr
    refine ⟨_, (pss_cons (ps_expr (c_call (ok_f_look_at_hand T) (hr.mono (by decide)) T.gf_look_at_hand pass0 (pa_cons (pv 1) pa_nil)))
      (pss_one (ps_asg (c_call (ok_f_number_value T) (hr.mono (by decide)) T.gf_number_value pass0 (pa_cons (pv 2) pa_nil)) (pg_sub (pe_fldK (K := K) rfl (pv 0) rfl) (pv 1) set_list)))), ?_⟩
    obtain ⟨m, p, z, j, x, rfl, ⟨h0, h8⟩, hx, hp, w, k⟩ := h
    refine ⟨_, rfl, j, rfl, ⟨h0, h8⟩, ?_⟩
    refine ⟨_, rfl, x, rfl, hx, fun q hq => ?_⟩
    have s1 : Same H (upd H q (.tup [.str "number", .int x])) := same_new hq
    have hp1 := hp.same s1
    obtain ⟨_, _, _, _, _, ix⟩ := hand_at hp1 w h0 h8
    obtain ⟨q1, q2, q3⟩ := hand_set hp1 w (v := .ref q) (x := .num x) upd_same Put.num j.toNat
    exact ⟨_, rfl, p, _, _, _, _, rfl, hp1.ob, T.clIdealHeap, T.nIdealHeap_in_hands, hF_hands, _, rfl, _, _, _, _, rfl, rfl, hp1.hl, ix, k _ _ q1 q2 ((Ext.same s1).trans q3)⟩
def sp_name : Sp := fun vs H Q E => ∃ (m : Nat) (p : Addr) (s : HS) (n h : Int), vs = [.ref p, .int n, .int h] ∧ (0 ≤ n ∧ n < 8) ∧ (0 ≤ h ∧ h < 8) ∧ HeapAt H p s ∧ WF m s ∧ OkD m p s H Q ∧ OkE m p s H E
theorem scm_IdealHeap_name : FnScope ["self", "w", "h", "thing"] ["self", "w", "h"] (defScope sm_IdealHeap_name) := ⟨rfl, rfl, rfl, by decide +kernel, rfl, by decide +kernel, by decide +kernel⟩
theorem ok_m_IdealHeap_name {P : Program} {w : World} {K : PySem.W.Frag} {mg : Str → Option Value} {base : Heap} (T : Tx K mg) : Def P w K mg base (L2.CX P w) 4 am_IdealHeap_name ["self", "w", "h"] sp_name := by
  refine mkX T.D_m_IdealHeap_name scm_IdealHeap_name (fun _ _ _ _ _ _ us hl => match us, hl with | [_, _, _], _ => rfl) (fun vs H Q E h => ?_) (fun cdv A outer s H vs Q E hr h => ?_)
  · first | (obtain ⟨_, rfl, _⟩ := h; rfl) | (obtain ⟨_, _, rfl, _⟩ := h; rfl) | (obtain ⟨_, _, _, rfl, _⟩ := h; rfl) | (obtain ⟨_, _, _, _, rfl, _⟩ := h; rfl) | (obtain ⟨_, _, _, _, _, rfl, _⟩ := h; rfl) | (obtain ⟨_, _, _, _, _, _, rfl, _⟩ := h; rfl) | (obtain ⟨_, _, _, _, _, _, _, rfl, _⟩ := h; rfl) | (obtain ⟨_, _, _, _, _, _, _, _, rfl, _⟩ := h; rfl)
  · have hu := hu_of hr
    have tk := takes_of (X := (cxOf (L2.CX P w) P w K mg base ["self", "w", "h", "thing"] "IdealHeap.name" (defScope sm_IdealHeap_name) am_IdealHeap_name cdv A outer s H E)) rfl rfl rfl rfl
    refine ⟨_, (pss_cons (ps_set (i := 3) scm_IdealHeap_name.nd rfl (by first | exact Or.inl rfl | exact Or.inr rfl) (c_meth (ok_m_IdealHeap_thing_in T) (hr.mono (by decide)) T.clIdealHeap T.mIdealHeap_thing_in (passes_call tk (fun _ _ _ _ h => h)) (pv 0) (pa_cons (pv 2) pa_nil)))
      (pss_cons (ps_expr (c_call (ok_f_look_at_name T) (hr.mono (by decide)) T.gf_look_at_name pass0 (pa_cons (pv 1) pa_nil)))
      (pss_one (ps_asg (pv 3) (pg_sub (pe_fldK (K := K) rfl (pv 0) rfl) (pv 1) set_list))))), ?_⟩
    obtain ⟨m, p, z, n, j, rfl, ⟨n0, n8⟩, ⟨h0, h8⟩, hp, w, k, ke⟩ := h
    refine ⟨_, rfl, p, _, _, rfl, hp.ob, hF_no (by decide +kernel), _, rfl, m, p, z, j, rfl, ⟨h0, h8⟩, hp, w, fun c hc => ?_, ke _ _ z (.inl rfl) hp w .refl⟩
    refine ⟨_, rfl, n, rfl, ⟨n0, n8⟩, ?_⟩
    have el : (z.nv.map nV).length = 8 := by rw [List.length_map]; exact w.n8
    refine ⟨_, rfl, _, rfl, p, _, _, _, _, rfl, hp.ob, T.clIdealHeap, T.nIdealHeap_naming, hF_naming, _, rfl, _, _, _, n.toNat, rfl, rfl, hp.nl, ixN_nn n0 (by omega), ?_⟩
    have e : (z.nv.map nV).set n.toNat (V.int c.t) = (z.nv.set n.toNat (some c.t)).map nV := (show (z.nv.map nV).set n.toNat (nV (some c.t)) = _ from List.map_set.symm)
    rw [e]
    exact k _ _ hp.names (w.name (key_of hc.1) n.toNat) (Ext.upd own_ln fun b q => own_cs (s := z) q rfl rfl rfl rfl (fun c hc => ⟨c, hc, rfl, rfl⟩) (fun d g e => ⟨g, e⟩))
theorem dropK_tk {ks : List Int} {t : Int} : dropK (tk ks) (Sum.inl t : Key) = tk (ks.filter fun u => decide (u ≠ t)) := by
  unfold dropK tk
  rw [List.filter_map]
  refine congrArg _ (List.filter_congr fun u _ => ?_)
  show decide ((Sum.inl u : Key) ≠ Sum.inl t) = decide (u ≠ t)
  by_cases e : u = t
  · rw [e]
    simp
  · rw [decide_eq_true e, decide_eq_true (show (Sum.inl u : Key) ≠ Sum.inl t from fun z => e (Sum.inl.inj z))]
theorem tk_val : ∀ {ks : List Int} {t : Int}, t ∈ ks → valV (tk ks) (Sum.inl t : Key) = some (.bl true)
  | a :: ks, t, h => by
    by_cases e : a = t
    · rw [e]
      exact valV_pos rfl
    · have h2 : t ∈ ks := (List.mem_cons.mp h).resolve_left fun z => e z.symm
      exact (valV_neg (p := ((Sum.inl a : Key), V.bl true)) fun z => e (Sum.inl.inj z)).trans (tk_val h2)
theorem tk_at {ks : List Int} {i : Nat} {k : Key} {v : V} (h : (tk ks)[i]? = some (k, v)) : ∃ t, ks[i]? = some t ∧ k = Sum.inl t := by
  obtain ⟨t, ht, e⟩ := map_get h
  cases e
  exact ⟨t, ht, rfl⟩
theorem filt_all {g fd : List Int} : (g.filter fun u => decide (u ∉ ([] : List Int))) = g := List.filter_eq_self.mpr fun u _ => decide_eq_true (by simp)
theorem filt_take {g fd : List Int} {i : Nat} {t : Int} (h : fd[i]? = some t) : ((g.filter fun u => decide (u ∉ fd.take i)).filter fun u => decide (u ≠ t)) = g.filter fun u => decide (u ∉ fd.take (i + 1)) := by
  rw [List.filter_filter]
  refine List.filter_congr fun u _ => ?_
  rw [take_snoc h]
  by_cases h1 : u ∈ fd.take i
  · simp [h1]
  · by_cases h2 : u = t
    · simp [h2]
    · simp [h1, h2]
theorem putL_lw {il : Addr} {old : Bool} {lw : Option Int} {x : Int} : putF "last_word" (.int x) (thF il old lw) = thF il old (some x) := by kernel_rfl
theorem putL_old {il : Addr} {old : Bool} {lw : Option Int} : putF "aged" (.bl true) (thF il old lw) = thF il true lw := by kernel_rfl
theorem thF_len {il : Addr} {old : Bool} {lw : Option Int} : (thF il old lw).length < 1000 := by show 3 < 1000; decide
/-- s but for the doomed -/
abbrev zg (s : HS) (d : Addr) (g : List Int) : HS := { s with g := some (d, g) }
abbrev but (g fd : List Int) : List Int := g.filter fun u => decide (u ∉ fd)
theorem own_zg {p : Addr} {s : HS} {d : Addr} {g g' : List Int} (e : s.g = some (d, g)) {b : Addr} (h : own p (zg s d g') b) : own p s b :=
  own_cs (s := s) h rfl rfl rfl rfl (fun c hc => ⟨c, hc, rfl, rfl⟩) (fun d2 g2 e2 => by cases e2; exact ⟨g, e⟩)
def sp_give_back (K : PySem.W.Frag) : Sp := fun vs H Q _ => ∃ (m : Nat) (p : Addr) (s : HS) (t : Int) (hv0 : List V) (hx0 : List Ab), vs = [.ref p, .int t] ∧ HeapAt H p s ∧ WF m { s with hv := hv0, hx := hx0 } ∧
  (s.g = none → ∀ H', Same H H' → Q .non H') ∧ (∀ d g fd H', s.g = some (d, g) → Led s.cs [t] g fd → HeapAt H' p (zg s d (but g fd)) → Ext p s (zg s d (but g fd)) H H' → Q .non H')
theorem scm_IdealHeap_give_back : FnScope ["self", "thing", "other"] ["self", "thing"] (defScope sm_IdealHeap_give_back) := ⟨rfl, rfl, rfl, by decide +kernel, rfl, by decide +kernel, by decide +kernel⟩
theorem ok_m_IdealHeap_give_back {P : Program} {w : World} {K : PySem.W.Frag} {mg : Str → Option Value} {base : Heap} (T : Tx K mg) : Def P w K mg base CX0 5 am_IdealHeap_give_back ["self", "thing"] (sp_give_back K) := by
  refine mk0 T.D_m_IdealHeap_give_back scm_IdealHeap_give_back (fun _ _ _ _ _ _ us hl => match us, hl with | [_, _], _ => rfl) (fun vs H Q E h => ?_) (fun cdv A outer s H vs Q E hr h => ?_)
  · first | (obtain ⟨_, rfl, _⟩ := h; rfl) | (obtain ⟨_, _, rfl, _⟩ := h; rfl) | (obtain ⟨_, _, _, rfl, _⟩ := h; rfl) | (obtain ⟨_, _, _, _, rfl, _⟩ := h; rfl) | (obtain ⟨_, _, _, _, _, rfl, _⟩ := h; rfl) | (obtain ⟨_, _, _, _, _, _, rfl, _⟩ := h; rfl) | (obtain ⟨_, _, _, _, _, _, _, rfl, _⟩ := h; rfl) | (obtain ⟨_, _, _, _, _, _, _, _, rfl, _⟩ := h; rfl)
  · have hu := hu_of hr
    refine ⟨_, (pss_one (ps_if (pt_cmpR op_notN (pe_fldK (K := K) rfl (pv 0) rfl) pe_non (nomark _)) (pss_one (ps_for PassesOwn.never rfl (pi_keysL (c_call (ok_f_led_within T) (hr.mono (by decide)) T.gf_led_within pass0 (pa_cons (pe_fldK (K := K) rfl (pv 0) rfl) (pa_cons (pe_lst (pa_cons (pv 1) pa_nil)) (pa_cons (pe_fldK (K := K) rfl (pv 0) rfl) pa_nil))))) (pg_name (i := 2) scm_IdealHeap_give_back.nd rfl (by first | exact Or.inl rfl | exact Or.inr rfl))
      (pss_one (ps_expr (pe_dpop1 (pe_fldK (K := K) rfl (pv 0) rfl) (pv 2) ⟨rfl, rfl, rfl, rfl⟩))))) pss_nil)), ?_⟩
    obtain ⟨m, p, z, t, hv0, hx0, rfl, hp, w, k0, k1⟩ := h
    refine ⟨_, rfl, p, _, _, _, _, rfl, hp.ob, T.clIdealHeap, T.nIdealHeap_going, hF_going, rfl, _, rfl, ?_⟩
    cases eg : z.g with
    | none => exact nF rfl (k0 eg H (Same.refl H))
    | some dg =>
      obtain ⟨d, g⟩ := dg
      refine nT (by intro q; cases q) ?_
      have G := w.go d g eg
      have hdg := hp.gd d g eg
      have eF : (hF z).lookup ("going" : Str) = some (V.ref d) := by rw [hF_going, eg]; rfl
      refine ⟨_, rfl, p, _, _, _, _, rfl, hp.ob, T.clIdealHeap, T.nIdealHeap_kept, hF_kept, ?_⟩
      refine ⟨_, rfl, lit 1 (by decide), fun l hl => ?_⟩
      have s1 : Same H (upd H l (.lst [.int t])) := same_new hl
      have hp1 := hp.same s1
      refine ⟨_, rfl, p, _, _, _, _, rfl, hp1.ob, T.clIdealHeap, T.nIdealHeap_going, eF, ?_⟩
      refine ⟨z.dk, l, d, z.cs, [t], g, rfl, hp1.held w.kn, SqL.of upd_same, KeysAt.of (hp1.gd d g eg), G.sub, w.f6, w.c400, by show 1 ≤ 10000; decide, fun fd r H2 nr s2 h2 L => ?_⟩
      have nrH : H r = none := s1.free nr
      have s02 := s1.trans s2
      have e0 : zg z d (but g (fd.take 0)) = z := by
        show ({ z with g := some (d, but g (fd.take 0)) } : HS) = z
        rw [List.take_zero, show but g [] = g from filt_all (fd := g), ← eg]
      refine ⟨r, _, rfl, h2, fun od => ?_⟩
      have s3 : Same H (upd H2 r (.frz od (.dK (tk fd)))) := fun b o e => by
        rw [upd_ne (ne_of_none e nrH)]
        exact s02 b o e
      refine for_it walk_keys (fun i σ H3 => ∃ v2, σ = [some (.ref p), some (.int t), v2] ∧ H3 r = some (.frz od (.dK (tk fd))) ∧ HeapAt H3 p (zg z d (but g (fd.take i))) ∧ Ext p z (zg z d (but g (fd.take i))) H H3) ?_ (fun i σ H3 _ ⟨_, _, q, _⟩ => q) ?_ ?_
      · rw [e0]
        exact ⟨none, rfl, upd_same, hp.same s3, Ext.same s3⟩
      · rintro i x σ H0 H3 hi ⟨v2, rfl, hr3, hp3, x3⟩ ⟨rfl, k1, v1, hk, rfl⟩
        obtain ⟨u, hu, rfl⟩ := tk_at hk
        have hd3 := hp3.gd d _ rfl
        have uf : u ∉ fd.take i := fun q => by
          have e := take_snoc hu
          have nd := L.nd.sublist (List.take_sublist (i + 1) fd)
          rw [e] at nd
          exact (List.nodup_append.mp nd).2.2 _ q _ (List.mem_singleton.mpr rfl) rfl
        have um : u ∈ but g (fd.take i) := List.mem_filter.mpr ⟨L.sub u (List.mem_of_getElem? hu), decide_eq_true uf⟩
        refine ⟨_, rfl, p, _, _, _, _, rfl, hp3.ob, T.clIdealHeap, T.nIdealHeap_going, hF_going, d, rfl, Or.inl ⟨_, .inl hd3⟩, _, rfl, _, Sum.inl u, .bl true, hd3, rfl, tk_val um, ?_⟩
        rw [dropK_tk, filt_take hu]
        have hp4 := hp3.doom (g' := but g (fd.take (i + 1))) (d := d) (g := but g (fd.take i)) rfl
        exact ⟨_, rfl, (upd_ne (ne_of hr3 hd3 (by intro q; cases q))).trans hr3, hp4, x3.trans (Ext.upd (own_g (g := but g (fd.take i)) rfl) fun b q => own_zg (g := but g (fd.take i)) rfl q)⟩
      · rintro σ H3 ⟨v2, rfl, hr3, hp3, x3⟩
        rw [tk_len, List.take_length] at hp3 x3
        exact k1 d g fd H3 eg L hp3 x3
def sp_read : Sp := fun vs H Q _ => ∃ (m : Nat) (p : Addr) (s : HS) (h n : Int), vs = [.ref p, .int h, .int n] ∧ (0 ≤ h ∧ h < 8) ∧ (0 ≤ n ∧ n < 8) ∧ HeapAt H p s ∧ WF m s ∧ OkD m p s H Q
theorem scm_IdealHeap_read : FnScope ["self", "h", "w", "thing"] ["self", "h", "w"] (defScope sm_IdealHeap_read) := ⟨rfl, rfl, rfl, by decide +kernel, rfl, by decide +kernel, by decide +kernel⟩
theorem ok_m_IdealHeap_read {P : Program} {w : World} {K : PySem.W.Frag} {mg : Str → Option Value} {base : Heap} (T : Tx K mg) : Def P w K mg base CX0 6 am_IdealHeap_read ["self", "h", "w"] sp_read := by
  refine mk0 T.D_m_IdealHeap_read scm_IdealHeap_read (fun _ _ _ _ _ _ us hl => match us, hl with | [_, _, _], _ => rfl) (fun vs H Q E h => ?_) (fun cdv A outer s H vs Q E hr h => ?_)
  · first | (obtain ⟨_, rfl, _⟩ := h; rfl) | (obtain ⟨_, _, rfl, _⟩ := h; rfl) | (obtain ⟨_, _, _, rfl, _⟩ := h; rfl) | (obtain ⟨_, _, _, _, rfl, _⟩ := h; rfl) | (obtain ⟨_, _, _, _, _, rfl, _⟩ := h; rfl) | (obtain ⟨_, _, _, _, _, _, rfl, _⟩ := h; rfl) | (obtain ⟨_, _, _, _, _, _, _, rfl, _⟩ := h; rfl) | (obtain ⟨_, _, _, _, _, _, _, _, rfl, _⟩ := h; rfl)
  · have hu := hu_of hr
    refine ⟨_, (pss_cons (ps_expr (c_call (ok_f_look_at_hand T) (hr.mono (by decide)) T.gf_look_at_hand pass0 (pa_cons (pv 1) pa_nil)))
      (pss_cons (ps_expr (c_call (ok_f_look_at_name T) (hr.mono (by decide)) T.gf_look_at_name pass0 (pa_cons (pv 2) pa_nil)))
      (pss_cons (ps_set (i := 3) scm_IdealHeap_read.nd rfl (by first | exact Or.inl rfl | exact Or.inr rfl) (pe_ix (r := rIxL K) (ix_listK rfl) (pe_fldK (K := K) rfl (pv 0) rfl) (pv 2) (fun _ _ => rfl)))
      (pss_cons (ps_asg pe_non (pg_sub (pe_fldK (K := K) rfl (pv 0) rfl) (pv 1) set_list))
      (pss_one (ps_if (pt_cmpR op_notN (pv 3) pe_non (nomark _)) (pss_cons (ps_asg (c_call (ok_f_thing_value T) (hr.mono (by decide)) T.gf_thing_value pass0 (pa_cons (pv 3) pa_nil)) (pg_sub (pe_fldK (K := K) rfl (pv 0) rfl) (pv 1) set_list))
      (pss_one (ps_expr (c_meth (ok_m_IdealHeap_give_back T) (hr.mono (by decide)) T.clIdealHeap T.mIdealHeap_give_back pass0 (pv 0) (pa_cons (pv 3) pa_nil))))) pss_nil)))))), ?_⟩
    obtain ⟨m, p, z, j, n, rfl, ⟨h0, h8⟩, ⟨n0, n8⟩, hp, w, k⟩ := h
    refine ⟨_, rfl, j, rfl, ⟨h0, h8⟩, ?_⟩
    refine ⟨_, rfl, n, rfl, ⟨n0, n8⟩, ?_⟩
    have en := w.n8
    obtain ⟨o, ho⟩ : ∃ o, z.nv[n.toNat]? = some o := ⟨_, List.getElem?_eq_getElem (by omega)⟩
    have ho2 : (z.nv.map nV)[n.toNat]? = some (nV o) := by rw [List.getElem?_map, ho]; rfl
    refine ⟨_, rfl, p, _, _, _, _, rfl, hp.ob, T.clIdealHeap, T.nIdealHeap_naming, hF_naming, _, rfl, _, _, _, nV o, rfl, rfl, SqL.of hp.nl, atI_nn n0 ho2, ?_⟩
    obtain ⟨_, _, _, _, _, ix⟩ := hand_at hp w h0 h8
    obtain ⟨q1, q2, q3⟩ := hand_set hp w (v := .non) (x := .non) trivial Put.non j.toNat
    refine ⟨_, rfl, p, _, _, _, _, rfl, hp.ob, T.clIdealHeap, T.nIdealHeap_in_hands, hF_hands, _, rfl, _, _, _, _, rfl, rfl, hp.hl, ix, ?_⟩
    generalize upd H z.lh (.lst (z.hv.set j.toNat .non)) = H1 at q1 q3
    refine ⟨_, rfl, rfl, _, rfl, ?_⟩
    cases o with
    | none => exact nF rfl (k _ _ q1 q2 q3)
    | some t =>
      have ht : t ∈ keys z.cs := w.nc t (List.mem_of_getElem? ho)
      refine nT (by intro q; cases q) ⟨_, rfl, t, rfl, fun q hq => ?_⟩
      have s1 : Same H1 (upd H1 q (.tup [.str "thing", .int t])) := same_new hq
      have hp1 := q1.same s1
      obtain ⟨_, _, _, _, _, ix2⟩ := hand_at hp1 q2 h0 h8
      refine ⟨_, rfl, p, _, _, _, _, rfl, hp1.ob, T.clIdealHeap, T.nIdealHeap_in_hands, hF_hands, _, rfl, _, _, _, _, rfl, rfl, hp1.hl, ix2, ?_⟩
      have hp2 := hp1.hands (pd_set (show Rp (upd H1 q (.tup [.str "thing", .int t])) (.ref q) (.th t) from upd_same) j.toNat hp1.hr)
      have x2 : Ext p z _ H (upd (upd H1 q (.tup [.str "thing", .int t])) z.lh (.lst ((z.hv.set j.toNat .non).set j.toNat (.ref q)))) :=
        (q3.trans (Ext.same s1)).trans (Ext.upd (s' := { z with hv := (z.hv.set j.toNat .non).set j.toNat (.ref q), hx := (z.hx.set j.toNat .non).set j.toNat (.th t) }) own_lh fun b q => own_cs (s := { z with hv := z.hv.set j.toNat .non, hx := z.hx.set j.toNat .non }) q rfl rfl rfl rfl (fun c hc => ⟨c, hc, rfl, rfl⟩) (fun d g e => ⟨g, e⟩))
      generalize upd (upd H1 q (.tup [.str "thing", .int t])) z.lh (.lst ((z.hv.set j.toNat .non).set j.toNat (.ref q))) = H2 at hp2 x2
      refine ⟨_, rfl, p, _, _, rfl, hp2.ob, hF_no (by decide +kernel), _, rfl, m, p, _, t, z.hv.set j.toNat .non, z.hx.set j.toNat .non, rfl, hp2, q2, fun e H3 s3 => ?_, fun d g fd H3 e L hp3 x3 => ?_⟩
      · refine k _ _ (hp2.same s3) (q2.hand (x := .th t) (fun u e2 => ?_) j.toNat _) (x2.trans (Ext.same s3))
        cases e2
        exact ⟨ht, fun d g e3 => by
          have e4 : z.g = none := e
          have e5 : z.g = some (d, g) := e3
          rw [e4] at e5
          cases e5⟩
      · exact k _ _ hp3 ((q2.back e L).hand (put_back L ht) j.toNat _) (x2.trans x3)
def sp_word : Sp := fun vs H Q E => ∃ (m : Nat) (p : Addr) (s : HS) (h x : Int), vs = [.ref p, .int h, .int x] ∧ (0 ≤ h ∧ h < 8) ∧ (-(10 ^ 60) ≤ x ∧ x ≤ 10 ^ 60) ∧ HeapAt H p s ∧ WF m s ∧ OkD m p s H Q ∧ OkE m p s H E
theorem scm_IdealHeap_word : FnScope ["self", "h", "x", "thing", "bearers", "other"] ["self", "h", "x"] (defScope sm_IdealHeap_word) := ⟨rfl, rfl, rfl, by decide +kernel, rfl, by decide +kernel, by decide +kernel⟩
theorem ok_m_IdealHeap_word {P : Program} {w : World} {K : PySem.W.Frag} {mg : Str → Option Value} {base : Heap} (T : Tx K mg) : Def P w K mg base (L2.CX P w) 4 am_IdealHeap_word ["self", "h", "x"] sp_word := by
  obtain ⟨tMOST_WORDS, gMOST_WORDS⟩ := T.iMOST_WORDS
  refine mkX T.D_m_IdealHeap_word scm_IdealHeap_word (fun _ _ _ _ _ _ us hl => match us, hl with | [_, _, _], _ => rfl) (fun vs H Q E h => ?_) (fun cdv A outer s H vs Q E hr h => ?_)
  · first | (obtain ⟨_, rfl, _⟩ := h; rfl) | (obtain ⟨_, _, rfl, _⟩ := h; rfl) | (obtain ⟨_, _, _, rfl, _⟩ := h; rfl) | (obtain ⟨_, _, _, _, rfl, _⟩ := h; rfl) | (obtain ⟨_, _, _, _, _, rfl, _⟩ := h; rfl) | (obtain ⟨_, _, _, _, _, _, rfl, _⟩ := h; rfl) | (obtain ⟨_, _, _, _, _, _, _, rfl, _⟩ := h; rfl) | (obtain ⟨_, _, _, _, _, _, _, _, rfl, _⟩ := h; rfl)
  · have hu := hu_of hr
    have tk := takes_of (X := (cxOf (L2.CX P w) P w K mg base ["self", "h", "x", "thing", "bearers", "other"] "IdealHeap.word" (defScope sm_IdealHeap_word) am_IdealHeap_word cdv A outer s H E)) rfl rfl rfl rfl
    refine ⟨_, (pss_cons (ps_set (i := 3) scm_IdealHeap_word.nd rfl (by first | exact Or.inl rfl | exact Or.inr rfl) (c_meth (ok_m_IdealHeap_thing_in T) (hr.mono (by decide)) T.clIdealHeap T.mIdealHeap_thing_in (passes_call tk (fun _ _ _ _ h => h)) (pv 0) (pa_cons (pv 1) pa_nil)))
      (pss_cons (ps_expr (c_call (ok_f_number_value T) (hr.mono (by decide)) T.gf_number_value pass0 (pa_cons (pv 2) pa_nil)))
      (pss_cons (ps_lock (ps_setLc (i := 4) (own := [("other", 5)]) rfl scm_IdealHeap_word.nd rfl rfl (sw_true rfl rfl rfl (by decide +kernel)) (pi_keys (pe_fldK (K := K) rfl (pv 0) rfl)) (blkOk_by (own := [("other", 5)]) (N := ["self", "h", "x", "thing", "bearers", "other"]) (sc := defScope sm_IdealHeap_word) (by decide +kernel)) (fun _ _ _ _ _ => (pg_name (i := 5) scm_IdealHeap_word.nd rfl (by first | exact Or.inl rfl | exact Or.inr rfl))) (fun _ _ _ _ _ => (pts_one (pt_cmpR op_notN (pe_fldK (K := K) rfl (pe_dget hu (pe_fldK (K := K) rfl (pv 0) rfl) (pv 5) (fun _ _ => rfl)) rfl) pe_non (nomark _)))) (fun _ _ _ _ _ => (pv 5))))
      (pss_cons (ps_if (PW.pt (pw_and (pt_cmpR op_isN (pe_fldK (K := K) rfl (pe_dget hu (pe_fldK (K := K) rfl (pv 0) rfl) (pv 3) (fun _ _ => rfl)) rfl) pe_non (nomark _)) (pw_and1 (pt_cmpR op_ge (pe_callB (r := rLenQ K) (call_lenQ rfl) (by rfl) T.zlen PySem.boot_len (pa_cons (pv 4) pa_nil)) (pe_glob (v := .int (12)) rfl gMOST_WORDS ⟨_, rfl⟩) (nomark _))))) (pss_one (ps_raise rfl tk (pmk_own PySem.F.excBase_ValueError T.xTooManyWords.ex T.gcTooManyWords T.xTooManyWords.kp (raises_own T.xTooManyWords.sb T.xTooManyWords.ty) rfl))) pss_nil)
      (pss_one (ps_fld (pe_dget hu (pe_fldK (K := K) rfl (pv 0) rfl) (pv 3) (fun _ _ => rfl)) (pv 2) rfl)))))), ?_⟩
    obtain ⟨m, p, z, j, x, rfl, ⟨h0, h8⟩, hx, hp, w, k, ke⟩ := h
    refine ⟨_, rfl, p, _, _, rfl, hp.ob, hF_no (by decide +kernel), _, rfl, m, p, z, j, rfl, ⟨h0, h8⟩, hp, w, fun c hc => ?_, ke _ _ z (.inl rfl) hp w .refl⟩
    refine ⟨_, rfl, x, rfl, hx, fun q hq => ?_⟩
    have s1 : Same H (upd H q (.tup [.str "number", .int x])) := same_new hq
    generalize upd H q (.tup [.str "number", .int x]) = H1 at s1
    have hp1 := hp.same s1
    refine ⟨z.dk, _, hp1.kd, trivial, fun od => ?_⟩
    have hh1 : Held (upd H1 z.dk (.frz od (.dK (kvT z.cs)))) z.dk z.cs := (hp1.held w.kn).lock hp1.kd
    have ob1 : upd H1 z.dk (.frz od (.dK (kvT z.cs))) p = some (.ins cIdealHeap z.dx (hF z)) := kp hp1.kd hp1.ob (by intro q; cases q)
    refine ⟨_, rfl, p, _, _, _, _, rfl, ob1, T.clIdealHeap, T.nIdealHeap_kept, hF_kept, z.dk, od, rfl, Or.inl ⟨_, upd_same, fun D hD => lc_it walk_keys (fun i H' => Same (upd H1 z.dk (.frz od (.dK (kvT z.cs)))) H' ∧ ∃ ys, H' D = some (.lst ys) ∧ ys.length ≤ i)
      ⟨same_new hD, [], upd_same, Nat.le_refl _⟩ (fun i H' _ ⟨s, _⟩ => s _ _ upd_same) ?_ ?_⟩⟩
    · rintro i y H0 H2 hi ⟨s2, ys, hys, hl⟩ ⟨rfl, k1, v1, hk, rfl⟩
      obtain ⟨e, he, rfl, rfl⟩ := kv_at hk
      have hem : e ∈ z.cs := List.mem_of_getElem? he
      have hh2 := hh1.same s2
      have te := hh2.th e hem
      rw [kvT_len] at hi
      have h400 := w.c400
      refine ⟨rfl, ?_⟩
      refine ⟨_, rfl, p, _, _, _, _, rfl, s2 _ _ ob1, T.clIdealHeap, T.nIdealHeap_kept, hF_kept, _, rfl, z.dk, _, rfl, hh2.get hem, e.a, _, _, _, _, rfl, te.ob, T.clIdealThing, T.nIdealThing_last_word, thF_lw, rfl, _, rfl, ?_⟩
      refine ite2 (fun _ => ⟨_, rfl, ys, hys, litL (by omega), ?_, _, upd_same, ?_⟩) (fun _ => ⟨s2, ys, hys, Nat.le_succ_of_le hl⟩)
      · exact fun b o q => by
          rw [upd_ne (fun zz => by rw [zz, hD] at q; cases q)]
          exact s2 b o q
      · rw [List.length_append, List.length_singleton]
        omega
    · rintro H2 ⟨s2, ys, hys, hl⟩
      have nD : D ≠ z.dk := fun q => by rw [q, upd_same] at hD; cases hD
      refine ⟨s2 _ _ upd_same, ?_⟩
      have s3 : Same H (upd H2 z.dk (.dK (kvT z.cs))) := fun b o e => (((SB.upd z.dk H1 _).same s2).back hp1.kd) b o (s1 b o e)
      have hys3 : upd H2 z.dk (.dK (kvT z.cs)) D = some (.lst ys) := by rw [upd_ne nD]; exact hys
      generalize upd H2 z.dk (.dK (kvT z.cs)) = H3 at s3 hys3
      have hp3 := hp.same s3
      have hh3 := hp3.held w.kn
      have tc := hh3.th c hc.1
      refine ⟨_, rfl, p, _, _, _, _, rfl, hp3.ob, T.clIdealHeap, T.nIdealHeap_kept, hF_kept, _, rfl, z.dk, _, rfl, hh3.get hc.1, c.a, _, _, _, _, rfl, tc.ob, T.clIdealThing, T.nIdealThing_last_word, thF_lw, rfl, _, rfl, ?_⟩
      have fin : Q .non (upd H3 c.a (.ins cIdealThing c.dx (putF "last_word" (.int x) (thF c.il c.old c.lw)))) := by
        rw [putL_lw]
        exact k _ _ (hp3.mark w.kn hc.1 (f := fun e => { e with lw := some x }) (fun _ => rfl) (fun _ => rfl) (fun _ => rfl) (fun _ => rfl) (fun _ => rfl) fun _ => rfl) (w.lw c.t (some x))
          ((Ext.same s3).trans (Ext.upd (own_a hc.1) fun b q => own_cs (s := z) q rfl rfl rfl rfl (updT_own (fun _ => rfl) fun _ => rfl) (fun d g e => ⟨g, e⟩)))
      have last : ∃ v, ([some (V.ref p), some (.int j), some (.int x), some (.int c.t), some (.ref D), none] : L2.St)[2]? = some (some v) ∧ v = .int x := ⟨_, rfl, rfl⟩
      have go : _ := fin
      refine ite2 (fun _ => ⟨_, rfl, _, _, rfl, Or.inl (SqL.of hys3), _, _, rfl, rfl, _, rfl, ?_⟩) fun _ => ?_
      · refine ite2 (fun _ => ke _ _ z (.inr (.inr (.inr rfl))) hp3 w (Ext.same s3)) fun _ => ?_
        exact ⟨_, rfl, _, rfl, p, _, _, _, _, rfl, hp3.ob, T.clIdealHeap, T.nIdealHeap_kept, hF_kept, _, rfl, z.dk, _, rfl, hh3.get hc.1, c.a, _, _, _, rfl, tc.ob, T.clIdealThing, T.nIdealThing_last_word, thF_len, fin⟩
      · refine iteF ?_
        exact ⟨_, rfl, _, rfl, p, _, _, _, _, rfl, hp3.ob, T.clIdealHeap, T.nIdealHeap_kept, hF_kept, _, rfl, z.dk, _, rfl, hh3.get hc.1, c.a, _, _, _, rfl, tc.ob, T.clIdealThing, T.nIdealThing_last_word, thF_len, fin⟩
end SH
/-! Rounds: settle, small, begin, end. -/
namespace SH
open PySem PySem.Spec PyProof.Rows L2
section
variable {H H' H2 : Hp} {p : Addr} {s s' s2 : HS} {c : Th}
theorem own_some (h : HeapAt H p s) {b : Addr} (q : own p s b) : ∃ o, H b = some o := by
  rcases q with q | q | q | q | q | ⟨c, hc, q⟩ | ⟨d, g, e, q⟩
  · exact ⟨_, by rw [q]; exact h.ob⟩
  · exact ⟨_, by rw [q]; exact h.hl⟩
  · exact ⟨_, by rw [q]; exact h.nl⟩
  · exact ⟨_, by rw [q]; exact h.kd⟩
  · exact ⟨_, by rw [q]; exact h.sl⟩
  · rcases q with q | q
    · exact ⟨_, by rw [q]; exact (h.th c hc).ob⟩
    · exact ⟨_, by rw [q]; exact (h.th c hc).il⟩
  · exact ⟨_, by rw [q]; exact h.gd d g e⟩
theorem not_own (h : HeapAt H p s) {b : Addr} (e : H b = none) : ¬ own p s b := fun q => by
  obtain ⟨o, z⟩ := own_some h q
  rw [e] at z
  cases z
/-- things are taken out of the dict -/
theorem HeapAt.pop (h : HeapAt H p s) (f : Th → Bool) : HeapAt (upd H s.dk (.dK (kvT (s.cs.filter f)))) p { s with cs := s.cs.filter f } := by
  have tu : Tu H (upd H s.dk (.dK (kvT (s.cs.filter f)))) := tu_upd h.kd fun _ z => by cases z
  refine ⟨kp h.kd h.ob (by intro z; cases z), kp h.kd h.hl (by intro z; cases z), h.hr.tu tu, kp h.kd h.nl (by intro z; cases z), upd_same, fun c hc => ?_, fun d g e => (upd_ne (h.n3 d g e)).trans (h.gd d g e), kp h.kd h.sl (by intro z; cases z), ?_, ?_, h.n3⟩
  · have t := h.th c (List.mem_filter.mp hc).1
    exact ⟨kp h.kd t.ob (by intro z; cases z), kp h.kd t.il (by intro z; cases z), t.rp.tu tu⟩
  · exact h.n1.sublist ((((List.filter_sublist (p := f) (l := s.cs)).map _).cons_cons _).cons_cons _ |>.cons_cons _)
  · exact h.n2.sublist (((List.filter_sublist (p := f) (l := s.cs)).map _).cons_cons _)
theorem dropK_kvT {cs : List Th} {t : Int} : dropK (kvT cs) (Sum.inl t : Key) = kvT (cs.filter fun c => decide (c.t ≠ t)) := by
  unfold dropK kvT
  rw [List.filter_map]
  refine congrArg _ (List.filter_congr fun c _ => ?_)
  show decide ((Sum.inl c.t : Key) ≠ Sum.inl t) = decide (c.t ≠ t)
  by_cases e : c.t = t
  · rw [e]
    simp
  · rw [decide_eq_true e, decide_eq_true (show (Sum.inl c.t : Key) ≠ Sum.inl t from fun z => e (Sum.inl.inj z))]
theorem left_take {cs : List Th} {ns : List Int} {i : Nat} {t : Int} (h : ns[i]? = some t) : (left cs (ns.take i)).filter (fun c => decide (c.t ≠ t)) = left cs (ns.take (i + 1)) := by
  unfold left
  rw [List.filter_filter]
  refine List.filter_congr fun c _ => ?_
  rw [take_snoc h]
  by_cases h1 : c.t ∈ ns.take i
  · simp [h1]
  · by_cases h2 : c.t = t
    · simp [h2]
    · simp [h1, h2]
theorem left_perm {cs : List Th} {a b : List Int} (h : a.Perm b) : left cs a = left cs b := List.filter_congr fun c _ => decide_eq_decide.mpr (not_congr h.mem_iff)
theorem left_nil {cs : List Th} : left cs [] = cs := List.filter_eq_self.mpr fun c _ => decide_eq_true (by simp)
theorem inV_int {t : Int} : ∀ {ks : List Int}, inV (.int t) (ks.map V.int) = decide (t ∈ ks)
  | [] => rfl
  | a :: ks => by
    have ih := inV_int (t := t) (ks := ks)
    show (eqV (.int a) (.int t) || inV (.int t) (ks.map V.int)) = _
    rw [ih]
    show ((a == t) || decide (t ∈ ks)) = _
    by_cases e : a = t
    · subst e
      simp
    · rw [beq_eq_false_iff_ne.mpr e, Bool.false_or]
      by_cases q : t ∈ ks
      · rw [decide_eq_true q, decide_eq_true (List.mem_cons_of_mem _ q)]
      · rw [decide_eq_false q, decide_eq_false (fun z => (List.mem_cons.mp z).elim (fun y => e y.symm) q)]
theorem inV_non : ∀ {ks : List Int}, inV .non (ks.map V.int) = false
  | [] => rfl
  | a :: ks => inV_non (ks := ks)
theorem flat_ints : ∀ {ks : List Int}, (ks.map V.int).all flatV = true
  | [] => rfl
  | a :: ks => flat_ints (ks := ks)
/-- the names are laid anew -/
theorem HeapAt.rename (h : HeapAt H p s) {D : Addr} {nv : List (Option Int)} (hD : H D = none) : HeapAt (upd (upd H D (.lst (nv.map nV))) p (.ins cIdealHeap s.dx (hF { s with ln := D }))) p { s with ln := D, nv := nv } := by
  have h1 := h.same (same_new (o := .lst (nv.map nV)) hD)
  have nD : ∀ {b o}, H b = some o → b ≠ D := fun e => ne_of_none e hD
  have hDl : upd H D (.lst (nv.map nV)) D = some (.lst (nv.map nV)) := upd_same
  have tu : Tu (upd H D (.lst (nv.map nV))) (upd (upd H D (.lst (nv.map nV))) p (.ins cIdealHeap s.dx (hF { s with ln := D }))) := tu_upd h1.ob fun _ z => by cases z
  refine ⟨upd_same, kp h1.ob h1.hl (by intro z; cases z), h1.hr.tu tu, kp h1.ob hDl (by intro z; cases z), kp h1.ob h1.kd (by intro z; cases z),
    fun c hc => ⟨(upd_ne (h1.p_ne hc)).trans (h1.th c hc).ob, kp h1.ob (h1.th c hc).il (by intro z; cases z), (h1.th c hc).rp.tu tu⟩, fun d g e => kp h1.ob (h1.gd d g e) (by intro z; cases z), kp h1.ob h1.sl (by intro z; cases z), ?_, h.n2, h.n3⟩
  obtain ⟨q1, q2⟩ := List.nodup_cons.mp h.n1
  obtain ⟨q3, q4⟩ := List.nodup_cons.mp q2
  refine List.nodup_cons.mpr ⟨fun z => ?_, List.nodup_cons.mpr ⟨fun z => ?_, q4⟩⟩
  · rcases List.mem_cons.mp z with e | z
    · exact nD h.hl e
    · exact q1 (List.mem_cons_of_mem _ z)
  · rcases List.mem_cons.mp z with e | z
    · exact nD h.sl e.symm
    · obtain ⟨c, hc, e⟩ := List.mem_map.mp z
      exact nD (h.th c hc).il e
end
/-- the heap behind settle -/
abbrev settled (s : HS) (g : List Int) (ln' : Addr) (sp' : List Int) : HS := { s with ln := ln', nv := nameLeft s.nv g, sp := sp', cs := left s.cs g }
def sp_settle : Sp := fun vs H Q _ => ∃ (p : Addr) (s : HS) (l : Addr) (gone : List Int), vs = [.ref p, .ref l] ∧ HeapAt H p s ∧ (keys s.cs).Nodup ∧ H l = some (.lst (gone.map V.int)) ∧ ¬ own p s l ∧ gone.Nodup ∧ (∀ t ∈ gone, t ∈ keys s.cs) ∧
  (s.sp.length + s.cs.length ≤ 1000 ∧ s.nv.length ≤ 1000) ∧ ∀ (H' : Hp) (ln' : Addr) (sp' : List Int), HeapAt H' p (settled s gone ln' sp') → Ext p s (settled s gone ln' sp') H H' → sp'.length + (left s.cs gone).length ≤ s.sp.length + s.cs.length → Q .non H'
theorem scm_IdealHeap_settle : FnScope ["self", "gone", "thing"] ["self", "gone"] (defScope sm_IdealHeap_settle) := ⟨rfl, rfl, rfl, by decide +kernel, rfl, by decide +kernel, by decide +kernel⟩
theorem ok_m_IdealHeap_settle {P : Program} {w : World} {K : PySem.W.Frag} {mg : Str → Option Value} {base : Heap} (T : Tx K mg) : Def P w K mg base CX0 1 am_IdealHeap_settle ["self", "gone"] sp_settle := by
  refine mk0 T.D_m_IdealHeap_settle scm_IdealHeap_settle (fun _ _ _ _ _ _ us hl => match us, hl with | [_, _], _ => rfl) (fun vs H Q E h => ?_) (fun cdv A outer s H vs Q E hr h => ?_)
  · first | (obtain ⟨_, rfl, _⟩ := h; rfl) | (obtain ⟨_, _, rfl, _⟩ := h; rfl) | (obtain ⟨_, _, _, rfl, _⟩ := h; rfl) | (obtain ⟨_, _, _, _, rfl, _⟩ := h; rfl) | (obtain ⟨_, _, _, _, _, rfl, _⟩ := h; rfl) | (obtain ⟨_, _, _, _, _, _, rfl, _⟩ := h; rfl) | (obtain ⟨_, _, _, _, _, _, _, rfl, _⟩ := h; rfl) | (obtain ⟨_, _, _, _, _, _, _, _, rfl, _⟩ := h; rfl)
  · have hu := hu_of hr
    refine ⟨_, (pss_cons (ps_for PassesOwn.never rfl (pi_list (pe_callB cr_sortedI (by rfl) T.zsorted (by decide +kernel) (pa_cons (pv 1) pa_nil))) (pg_name (i := 2) scm_IdealHeap_settle.nd rfl (by first | exact Or.inl rfl | exact Or.inr rfl))
      (pss_cons (ps_if (pt_cmpR op_notN (pe_fldK (K := K) rfl (pe_dget hu (pe_fldK (K := K) rfl (pv 0) rfl) (pv 2) (fun _ _ => rfl)) rfl) pe_non (nomark _)) (pss_one (ps_expr (pe_bm PySem.F.plainAttrs_list PySem.F.slot_list_append PySem.F.type_list_append mt_append (pe_fldK (K := K) rfl (pv 0) rfl) (pa_cons (pe_fldK (K := K) rfl (pe_dget hu (pe_fldK (K := K) rfl (pv 0) rfl) (pv 2) (fun _ _ => rfl)) rfl) pa_nil)))) pss_nil)
      (pss_one (ps_expr (pe_dpop1 (pe_fldK (K := K) rfl (pv 0) rfl) (pv 2) ⟨rfl, rfl, rfl, rfl⟩)))))
      (pss_one (ps_fld (pv 0) (pe_lc (own := [("thing", 2)]) rfl scm_IdealHeap_settle.nd (pi_list (pe_fldK (K := K) rfl (pv 0) rfl)) (blkOk_by (own := [("thing", 2)]) (N := ["self", "gone", "thing"]) (sc := defScope sm_IdealHeap_settle) (by decide +kernel)) (fun _ _ _ _ _ => (pg_name (i := 2) scm_IdealHeap_settle.nd rfl (by first | exact Or.inl rfl | exact Or.inr rfl))) (fun _ _ _ _ _ => pts_nil) (fun _ _ _ _ _ => (pe_ifExp (pt_cmpR (r := rIn K false) (op_inK rfl) (pv 2) (pv 1) (by rfl)) pe_non (pv 2)))) rfl))), ?_⟩
    obtain ⟨p, z, l, gone, rfl, hp, kn, hl, nl, gnd, gsub, ⟨hz1, hz2⟩, k⟩ := h
    refine ⟨_, rfl, l, gone, rfl, SqL.of hl, fun ns q hperm _ hq => ?_⟩
    have s1 : Same H (upd H q (.lst (ns.map V.int))) := same_new hq
    have hq1 : upd H q (.lst (ns.map V.int)) q = some (.lst (ns.map V.int)) := upd_same
    have nq : ¬ own p z q := not_own hp hq
    have hp1 := hp.same s1
    have hl1 := s1 _ _ hl
    have x1 : Ext p z z H (upd H q (.lst (ns.map V.int))) := Ext.same s1
    generalize upd H q (.lst (ns.map V.int)) = H1 at s1 hq1 hp1 hl1 x1
    refine ⟨q, rfl, ⟨_, SqL.of hq1⟩, for_list (K := K) (a := q) (xs := ns.map V.int) (fun i σ H3 => ∃ v2 sp3, σ = [some (.ref p), some (.ref l), v2] ∧ HeapAt H3 p { z with sp := sp3, cs := left z.cs (ns.take i) } ∧ Ext p z { z with sp := sp3, cs := left z.cs (ns.take i) } H1 H3 ∧ sp3.length + (left z.cs (ns.take i)).length ≤ z.sp.length + z.cs.length)
      ⟨none, z.sp, rfl, by rw [List.take_zero, left_nil]; exact hp1, by rw [List.take_zero, left_nil]; exact .refl, by rw [List.take_zero, left_nil]; exact Nat.le_refl _⟩ (fun i σ H3 _ ⟨_, _, _, _, x, _⟩ => SqL.of (x.fr _ _ hq1 nq)) ?_ ?_⟩
    · rintro i v σ H3 hi ⟨v2, sp3, rfl, hp3, x3, hz3⟩
      obtain ⟨t, ht, rfl⟩ := map_get hi
      have tg : t ∈ gone := hperm.mem_iff.mp (List.mem_of_getElem? ht)
      have nd : ns.Nodup := hperm.nodup_iff.mpr gnd
      have tn : t ∉ ns.take i := fun y => by
        have e := take_snoc ht
        have nd2 := nd.sublist (List.take_sublist (i + 1) ns)
        rw [e] at nd2
        exact (List.nodup_append.mp nd2).2.2 _ y _ (List.mem_singleton.mpr rfl) rfl
      obtain ⟨c, hc, rfl⟩ := key_at (key_left.mpr ⟨gsub t tg, tn⟩)
      have kn3 : (keys (left z.cs (ns.take i))).Nodup := kn.sublist (List.filter_sublist.map _)
      have hh3 := hp3.held kn3
      have tc := hh3.th c hc
      have lt : (left z.cs (ns.take (i + 1))).length + 1 ≤ (left z.cs (ns.take i)).length := by
        rw [← left_take ht]
        have h2 : ((left z.cs (ns.take i)).filter fun e => decide (e.t ≠ c.t)).length < (left z.cs (ns.take i)).length := List.length_filter_lt_length_iff_exists.mpr ⟨c, hc, by simp⟩
        exact h2
      have popped : ∀ (H4 : Hp) (sp4 : List Int), HeapAt H4 p { z with sp := sp4, cs := left z.cs (ns.take i) } → Ext p z { z with sp := sp4, cs := left z.cs (ns.take i) } H1 H4 → sp4.length + (left z.cs (ns.take (i + 1))).length ≤ z.sp.length + z.cs.length →
          ∃ v2 sp3, ([some (.ref p), some (.ref l), some (.int c.t)] : L2.St) = [some (.ref p), some (.ref l), v2] ∧ HeapAt (upd H4 z.dk (.dK (dropK (kvT (left z.cs (ns.take i))) (Sum.inl c.t)))) p { z with sp := sp3, cs := left z.cs (ns.take (i + 1)) } ∧
            Ext p z { z with sp := sp3, cs := left z.cs (ns.take (i + 1)) } H1 (upd H4 z.dk (.dK (dropK (kvT (left z.cs (ns.take i))) (Sum.inl c.t)))) ∧ sp3.length + (left z.cs (ns.take (i + 1))).length ≤ z.sp.length + z.cs.length := fun H4 sp4 hp4 x4 hz4 => by
        have q5 := hp4.pop fun e => decide (e.t ≠ c.t)
        rw [dropK_kvT]
        refine ⟨_, sp4, rfl, ?_, ?_, hz4⟩
        · rw [← left_take ht]
          exact q5
        · rw [← left_take ht]
          exact x4.trans (Ext.upd (own_dk (s := { z with sp := sp4, cs := left z.cs (ns.take i) })) fun b y => own_cs (s := { z with sp := sp4, cs := left z.cs (ns.take i) }) y rfl rfl rfl rfl (fun e he => ⟨e, (List.mem_filter.mp he).1, rfl, rfl⟩) (fun d g e => ⟨g, e⟩))
      refine ⟨_, rfl, p, _, _, _, _, rfl, hp3.ob, T.clIdealHeap, T.nIdealHeap_kept, hF_kept, _, rfl, z.dk, _, rfl, hh3.get hc, c.a, _, _, _, _, rfl, tc.ob, T.clIdealThing, T.nIdealThing_last_word, thF_lw, rfl, _, rfl, ?_⟩
      cases elw : c.lw with
      | none =>
        refine nF rfl ?_
        exact ⟨_, rfl, p, _, _, _, _, rfl, hp3.ob, T.clIdealHeap, T.nIdealHeap_kept, hF_kept, z.dk, rfl, Or.inl ⟨_, .inl hp3.kd⟩, _, rfl, _, Sum.inl c.t, .ref c.a, hp3.kd, rfl, kvT_val kn3 hc, popped H3 sp3 hp3 x3 (by omega)⟩
      | some x =>
        refine nT (by intro y; cases y) ?_
        refine ⟨_, rfl, p, _, _, _, _, rfl, hp3.ob, T.clIdealHeap, T.nIdealHeap_spoken, hF_spoken, Or.inl ⟨rfl, _, SqL.of hp3.sl⟩, ?_⟩
        refine ⟨_, rfl, p, _, _, _, _, rfl, hp3.ob, T.clIdealHeap, T.nIdealHeap_kept, hF_kept, _, rfl, z.dk, _, rfl, hh3.get hc, c.a, _, _, _, _, rfl, tc.ob, T.clIdealThing, T.nIdealThing_last_word, thF_lw, _, _, _, rfl, rfl, hp3.sl, ?_, ?_⟩
        · rw [List.length_map]
          exact litL (show sp3.length < 1000000 by omega)
        · rw [elw]
          have e5 : sp3.map V.int ++ [lwV (some x)] = (sp3 ++ [x]).map V.int := by rw [List.map_append]; rfl
          have hp4 := hp3.says (sp := sp3 ++ [x])
          have ob4 := hp4.ob
          refine ⟨_, rfl, p, cIdealHeap, z.dx, hF { z with sp := sp3 ++ [x], cs := left z.cs (ns.take i) }, _, rfl, (by rw [e5]; exact ob4), T.clIdealHeap, T.nIdealHeap_kept, hF_kept, z.dk, rfl, Or.inl ⟨_, .inl (by rw [e5]; exact hp4.kd)⟩, _, rfl, _, Sum.inl c.t, .ref c.a, (by rw [e5]; exact hp4.kd), rfl, kvT_val kn3 hc, ?_⟩
          rw [e5]
          refine popped _ (sp3 ++ [x]) hp4 (x3.trans (Ext.upd (own_ls (s := { z with sp := sp3, cs := left z.cs (ns.take i) })) fun b y => own_cs (s := { z with sp := sp3, cs := left z.cs (ns.take i) }) y rfl rfl rfl rfl (fun e he => ⟨e, he, rfl, rfl⟩) (fun d g e => ⟨g, e⟩))) ?_
          rw [List.length_append, List.length_singleton]
          omega
    · rintro σ H3 ⟨v2, sp3, rfl, hp3, x3, hz3⟩
      rw [List.length_map, List.take_length, left_perm hperm] at hp3 x3 hz3
      have hl3 := x3.fr _ _ hl1 nl
      refine ⟨_, rfl, p, _, _, _, _, rfl, hp3.ob, T.clIdealHeap, T.nIdealHeap_naming, hF_naming, z.ln, rfl, ⟨_, SqL.of hp3.nl⟩, fun D hD => ?_⟩
      refine lc_list (K := K) (a := z.ln) (xs := z.nv.map nV) (fun i H' => H' = upd H3 D (.lst ((nameLeft (z.nv.take i) gone).map nV))) rfl (fun i H' _ e => by rw [e]; exact (same_new hD).seq (SqL.of hp3.nl)) (fun i v H' hi e => ?_) fun H' e => ?_
      · cases e
        obtain ⟨o, ho, rfl⟩ := map_get hi
        have hl4 : upd H3 D (.lst ((nameLeft (z.nv.take i) gone).map nV)) l = some (.lst (gone.map V.int)) := same_new hD _ _ hl3
        have lz : ((nameLeft (z.nv.take i) gone).map nV).length < sizeLine := by
          unfold nameLeft
          rw [List.length_map, List.length_map]
          have := len_take (l := z.nv) (i := i)
          exact litL (by omega)
        have tk1 : nameLeft (z.nv.take (i + 1)) gone = nameLeft (z.nv.take i) gone ++ nameLeft [o] gone := by
          unfold nameLeft
          rw [take_snoc ho, List.map_append]
        refine ⟨rfl, ?_⟩
        refine ⟨_, rfl, _, rfl, l, _, rfl, Or.inl (SqL.of hl4), by cases o <;> rfl, flat_ints, _, rfl, ?_⟩
        cases o with
        | none =>
          refine ifF inV_non ⟨_, rfl, _, upd_same, lz, ?_⟩
          rw [upd_upd, tk1, List.map_append]
          rfl
        | some t =>
          refine if e : t ∈ gone then ?_ else ?_
          · refine ifT (by show inV (.int t) _ = true; rw [inV_int]; exact decide_eq_true e) ⟨_, upd_same, lz, ?_⟩
            rw [upd_upd, tk1, List.map_append]
            have e2 : nameLeft [some t] gone = [none] := by show [if t ∈ gone then none else some t] = _; rw [if_pos e]
            rw [e2]
            rfl
          · refine ifF (by show inV (.int t) _ = false; rw [inV_int]; exact decide_eq_false e) ⟨_, rfl, _, upd_same, lz, ?_⟩
            rw [upd_upd, tk1, List.map_append]
            have e2 : nameLeft [some t] gone = [some t] := by show [if t ∈ gone then none else some t] = _; rw [if_neg e]
            rw [e2]
            rfl
      · cases e
        rw [List.length_map, List.take_length]
        have obD : upd H3 D (.lst ((nameLeft z.nv gone).map nV)) p = some (.ins cIdealHeap z.dx (hF { z with sp := sp3, cs := left z.cs gone })) := same_new hD _ _ hp3.ob
        refine ⟨_, rfl, p, _, _, _, rfl, obD, T.clIdealHeap, T.nIdealHeap_naming, hF_len, ?_⟩
        rw [hF_putL]
        have q6 := hp3.rename (nv := nameLeft z.nv gone) hD
        refine k _ D sp3 q6 ((x1.trans x3).trans ⟨fun b o e n => ?_, fun b y => ?_⟩) hz3
        · rw [upd_ne (fun zz => n (by rw [zz]; exact own_p)), upd_ne (ne_of_none e hD)]
          exact e
        · rcases y with y | y | y | y | y | y | y
          · exact .inl (.inl y)
          · exact .inl (.inr (.inl y))
          · exact .inr (by rw [y]; exact hD)
          · exact .inl (.inr (.inr (.inr (.inl y))))
          · exact .inl (.inr (.inr (.inr (.inr (.inl y)))))
          · exact .inl (.inr (.inr (.inr (.inr (.inr (.inl y))))))
          · exact .inl (.inr (.inr (.inr (.inr (.inr (.inr y))))))
end SH
/-! small, begin, end. -/
namespace SH
open PySem PySem.Spec PyProof.Rows L2
section
variable {H H' H2 : Hp} {p a : Addr} {s s' s2 : HS} {c : Th} {o u : HO}
/-- a place that isn't the heap's is changed -/
theorem HeapAt.other (h : HeapAt H p s) (na : ¬ own p s a) (ha : H a = some o) (hn : ∀ xs, o ≠ .tup xs) : HeapAt (upd H a u) p s := by
  have ne : ∀ {b}, own p s b → b ≠ a := fun q z => na (by rw [← z]; exact q)
  have tu : Tu H (upd H a u) := tu_upd ha hn
  exact ⟨(upd_ne (ne own_p)).trans h.ob, (upd_ne (ne own_lh)).trans h.hl, h.hr.tu tu, (upd_ne (ne own_ln)).trans h.nl, (upd_ne (ne own_dk)).trans h.kd,
    fun c hc => ⟨(upd_ne (ne (own_a hc))).trans (h.th c hc).ob, (upd_ne (ne (own_il hc))).trans (h.th c hc).il, (h.th c hc).rp.tu tu⟩, fun d g e => (upd_ne (ne (own_g e))).trans (h.gd d g e), (upd_ne (ne own_ls)).trans h.sl, h.n1, h.n2, h.n3⟩
theorem Ext.skip (x : Ext p s s' H H') (ha : H a = none) : Ext p s s' H (L2.upd H' a u) :=
  ⟨fun b o e n => by rw [upd_ne (ne_of_none e ha)]; exact x.fr b o e n, x.gr⟩
theorem Ext.nown (x : Ext p s s' H H') (ha : H a = some o) (n : ¬ own p s a) : ¬ own p s' a := fun q => by
  rcases x.gr a q with z | z
  · exact n z
  · rw [ha] at z; cases z
end
theorem agedT_step {cs : List Th} {fd : List Int} {i : Nat} {t : Int} (h : fd[i]? = some t) : updT (agedT cs (fd.take i)) t (fun e => { e with old := true }) = agedT cs (fd.take (i + 1)) := by
  unfold updT agedT
  rw [List.map_map, take_snoc h]
  refine List.map_congr_left fun c _ => ?_
  by_cases h2 : c.t = t
  · subst h2
    by_cases h1 : c.t ∈ fd.take i <;> simp [Function.comp, h1]
  · by_cases h1 : c.t ∈ fd.take i <;> simp [Function.comp, h1, h2]
theorem agedT_nil {cs : List Th} : agedT cs [] = cs := by
  unfold agedT
  have e : (fun c : Th => if c.t ∈ ([] : List Int) then { c with old := true } else c) = id := funext fun c => by simp
  rw [e, List.map_id]
theorem agedT_own {cs : List Th} {fd : List Int} : ∀ c ∈ agedT cs fd, ∃ d ∈ cs, c.a = d.a ∧ c.il = d.il := fun c hc => by
  obtain ⟨e, he, q⟩ := List.mem_map.mp hc
  refine ⟨e, he, ?_⟩
  rw [← q]
  by_cases z : e.t ∈ fd
  · rw [if_pos z]; exact ⟨rfl, rfl⟩
  · rw [if_neg z]; exact ⟨rfl, rfl⟩
def sp_small (K : PySem.W.Frag) : Sp := fun vs H Q _ => ∃ (m : Nat) (p : Addr) (s : HS), vs = [.ref p] ∧ HeapAt H p s ∧ WF m s ∧ m ≤ 1000 ∧ ∀ (H' : Hp) (s' : HS), HeapAt H' p s' → WF m s' → Small s s' → Ext p s s' H H' → Q .non H'
theorem scm_IdealHeap_small : FnScope ["self", "stay", "thing"] ["self"] (defScope sm_IdealHeap_small) := ⟨rfl, rfl, rfl, by decide +kernel, rfl, by decide +kernel, by decide +kernel⟩
theorem ok_m_IdealHeap_small {P : Program} {w : World} {K : PySem.W.Frag} {mg : Str → Option Value} {base : Heap} (T : Tx K mg) : Def P w K mg base CX0 6 am_IdealHeap_small ["self"] (sp_small K) := by
  refine mk0 T.D_m_IdealHeap_small scm_IdealHeap_small (fun _ _ _ _ _ _ us hl => match us, hl with | [_], _ => rfl) (fun vs H Q E h => ?_) (fun cdv A outer s H vs Q E hr h => ?_)
  · first | (obtain ⟨_, rfl, _⟩ := h; rfl) | (obtain ⟨_, _, rfl, _⟩ := h; rfl) | (obtain ⟨_, _, _, rfl, _⟩ := h; rfl) | (obtain ⟨_, _, _, _, rfl, _⟩ := h; rfl) | (obtain ⟨_, _, _, _, _, rfl, _⟩ := h; rfl) | (obtain ⟨_, _, _, _, _, _, rfl, _⟩ := h; rfl) | (obtain ⟨_, _, _, _, _, _, _, rfl, _⟩ := h; rfl) | (obtain ⟨_, _, _, _, _, _, _, _, rfl, _⟩ := h; rfl)
  · have hu := hu_of hr
    refine ⟨_, (pss_cons (ps_set (i := 1) scm_IdealHeap_small.nd rfl (by first | exact Or.inl rfl | exact Or.inr rfl) (c_call (ok_f_young_kept T) (hr.mono (by decide)) T.gf_young_kept pass0 (pa_cons (pe_fldK (K := K) rfl (pv 0) rfl) (pa_cons (pe_fldK (K := K) rfl (pv 0) rfl) pa_nil))))
      (pss_cons (ps_expr (c_meth (ok_m_IdealHeap_settle T) (hr.mono (by decide)) T.clIdealHeap T.mIdealHeap_settle pass0 (pv 0) (pa_cons (pe_lc (own := [("thing", 2)]) rfl scm_IdealHeap_small.nd (pi_keysL (c_call (ok_f_young_things T) (hr.mono (by decide)) T.gf_young_things pass0 (pa_cons (pe_fldK (K := K) rfl (pv 0) rfl) pa_nil))) (blkOk_by (own := [("thing", 2)]) (N := ["self", "stay", "thing"]) (sc := defScope sm_IdealHeap_small) (by decide +kernel)) (fun _ _ _ _ _ => (pg_name (i := 2) scm_IdealHeap_small.nd rfl (by first | exact Or.inl rfl | exact Or.inr rfl))) (fun _ _ _ _ _ => (pts_one (pt_cmp (pc_dnotin hu (pv 2) (pv 1))))) (fun _ _ _ _ _ => (pv 2))) pa_nil)))
      (pss_one (ps_lock (ps_for PassesOwn.never rfl (pi_keys (pv 1)) (pg_name (i := 2) scm_IdealHeap_small.nd rfl (by first | exact Or.inl rfl | exact Or.inr rfl))
      (pss_one (ps_fld (pe_dget hu (pe_fldK (K := K) rfl (pv 0) rfl) (pv 2) (fun _ _ => rfl)) pe_bl rfl))))))), ?_⟩
    obtain ⟨m, p, z, rfl, hp, w, hm, k⟩ := h
    have h8 := w.h8
    refine ⟨_, rfl, p, _, _, _, _, rfl, hp.ob, T.clIdealHeap, T.nIdealHeap_kept, hF_kept, _, rfl, p, _, _, _, _, rfl, hp.ob, T.clIdealHeap, T.nIdealHeap_in_hands, hF_hands, ?_⟩
    refine ⟨z.dk, z.lh, z.cs, z.hv, z.hx, rfl, hp.kd, hp.held w.kn, SqL.of hp.hl, hp.hr, by omega, w.f6, w.c400, fun fd r H1 nr s1 h1 L => ?_⟩
    have nrH : ¬ own p z r := not_own hp nr
    have hp1 := hp.same s1
    refine ⟨_, rfl, p, _, _, rfl, hp1.ob, hF_no (by decide +kernel), _, rfl, p, _, _, _, _, rfl, hp1.ob, T.clIdealHeap, T.nIdealHeap_kept, hF_kept, ?_⟩
    refine ⟨z.dk, z.cs, rfl, hp1.kd, hp1.held w.kn, w.c400, fun y H2 ny s2 h2 => ⟨y, _, rfl, h2, fun od => fun D hD => ?_⟩⟩
    have sb : Same H1 (upd H2 y (.frz od (.dK (tk (keys (young z.cs)))))) := fun b o e => by
      rw [upd_ne (ne_of_none e ny)]
      exact s2 b o e
    have hyb : upd H2 y (.frz od (.dK (tk (keys (young z.cs))))) y = some (.frz od (.dK (tk (keys (young z.cs))))) := upd_same
    generalize upd H2 y (.frz od (.dK (tk (keys (young z.cs))))) = Hb at sb hD hyb
    have hrb := sb _ _ h1
    have hpb := hp1.same sb
    have young_sub : ∀ t ∈ smallGone z.cs fd, t ∈ keys z.cs := fun t ht => keys_filter_mem (List.mem_filter.mp ht).1
    have ly : (keys (young z.cs)).length ≤ 400 := by
      have q := w.c400
      have q2 := List.length_filter_le (fun c : Th => !c.old) z.cs
      unfold keys young
      rw [List.length_map]
      omega
    refine lc_it walk_keys (fun i H' => H' = upd Hb D (.lst ((((keys (young z.cs)).take i).filter fun t => decide (t ∉ fd)).map V.int))) rfl (fun i H' _ e => by rw [e]; exact same_new hD _ _ hyb) ?_ ?_
    · rintro i x H0 H3 hi e ⟨rfl, k1, v1, hk, rfl⟩
      cases e
      obtain ⟨t, ht, rfl⟩ := tk_at hk
      obtain ⟨o, ho, eo⟩ := (KeysAt.of (same_new (o := .lst ((((keys (young z.cs)).take i).filter fun t => decide (t ∉ fd)).map V.int)) hD _ _ hrb)).get t
      refine ⟨rfl, _, rfl, _, rfl, r, o, rfl, ho, _, rfl, ?_⟩
      rw [eo]
      by_cases q : t ∈ fd
      · refine nF q ?_
        rw [filter_take ht, if_neg (fun zz => (of_decide_eq_true zz) q), List.append_nil]
      · refine nT q ⟨_, rfl, _, upd_same, ?_, ?_⟩
        · rw [List.length_map]
          have := List.length_filter_le (fun t => decide (t ∉ fd)) ((keys (young z.cs)).take i)
          have := len_take (l := keys (young z.cs)) (i := i)
          exact litL (by omega)
        · rw [upd_upd, filter_take ht, if_pos (decide_eq_true q), List.map_append]
          rfl
    · rintro H3 e
      cases e
      rw [tk_len, List.take_length]
      have hp3 := hpb.same (same_new (o := .lst ((smallGone z.cs fd).map V.int)) hD)
      have hr3 : upd Hb D (.lst ((smallGone z.cs fd).map V.int)) r = some (.dK (tk fd)) := same_new hD _ _ hrb
      have s03 : Same H (upd Hb D (.lst ((smallGone z.cs fd).map V.int))) := (s1.trans sb).trans (same_new hD)
      refine ⟨p, z, D, smallGone z.cs fd, rfl, hp3, w.kn, upd_same, not_own hpb hD, (w.kn.sublist (List.filter_sublist.map _)).filter _, young_sub, ⟨?_, ?_⟩, fun H4 ln' sp' hp4 x4 hz4 => ?_⟩
      · have := w.sl
        have := w.nm
        omega
      · have := w.n8
        omega
      have hr4 := x4.fr _ _ hr3 nrH
      have nr4 := x4.nown hr3 nrH
      obtain ⟨w5, S5⟩ := w.small L (ln' := ln') hz4
      have x04 : Ext p z (settled z (smallGone z.cs fd) ln' sp') H H4 := (Ext.same s03).trans x4
      generalize hs4 : settled z (smallGone z.cs fd) ln' sp' = s4 at hp4 x04 nr4
      have ecs : s4.cs = left z.cs (smallGone z.cs fd) := by rw [← hs4]
      have edk : s4.dk = z.dk := by rw [← hs4]
      have kn4 : (keys s4.cs).Nodup := by
        rw [ecs]
        exact w.kn.sublist (List.filter_sublist.map _)
      refine ⟨r, _, hr4, trivial, fun od2 => ?_⟩
      have hp4l : HeapAt (upd H4 r (.frz od2 (.dK (tk fd)))) p s4 := hp4.other nr4 hr4 (by intro _ q; cases q)
      have x4l : Ext p z s4 H (upd H4 r (.frz od2 (.dK (tk fd)))) := x04.skip nr
      refine ⟨_, rfl, r, od2, rfl, Or.inl ⟨_, upd_same, for_it walk_keys (fun i σ H5 => ∃ v2, σ = [some (.ref p), some (.ref r), v2] ∧ H5 r = some (.frz od2 (.dK (tk fd))) ∧ HeapAt H5 p { s4 with cs := agedT s4.cs (fd.take i) } ∧ Ext p z { s4 with cs := agedT s4.cs (fd.take i) } H H5 ∧ ¬ own p { s4 with cs := agedT s4.cs (fd.take i) } r)
        ⟨none, rfl, upd_same, by rw [List.take_zero, agedT_nil]; exact hp4l, by rw [List.take_zero, agedT_nil]; exact x4l, by rw [List.take_zero, agedT_nil]; exact nr4⟩ (fun i σ H5 _ ⟨_, _, q, _⟩ => q) ?_ ?_⟩⟩
      · rintro i x σ H0 H5 hi ⟨v2, rfl, hr5, hp5, x5, nr5⟩ ⟨rfl, k1, v1, hk, rfl⟩
        obtain ⟨t, ht, rfl⟩ := tk_at hk
        have tf := List.mem_of_getElem? ht
        have tk4 : t ∈ keys (agedT s4.cs (fd.take i)) := by
          rw [agedT_keys, ecs]
          exact key_left.mpr ⟨keys_filter_mem (L.sub t tf), fun zz => (of_decide_eq_true (List.mem_filter.mp zz).2) tf⟩
        obtain ⟨c, hc, rfl⟩ := key_at tk4
        have kn5 : (keys (agedT s4.cs (fd.take i))).Nodup := by rw [agedT_keys]; exact kn4
        have hh5 := hp5.held kn5
        have tc := hh5.th c hc
        refine ⟨_, rfl, p, _, _, _, _, rfl, hp5.ob, T.clIdealHeap, T.nIdealHeap_kept, hF_kept, _, rfl, s4.dk, _, rfl, hh5.get hc, c.a, _, _, _, rfl, tc.ob, T.clIdealThing, T.nIdealThing_aged, thF_len, ?_⟩
        rw [putL_old]
        have hp6 := hp5.mark kn5 hc (f := fun e => { e with old := true }) (fun _ => rfl) (fun _ => rfl) (fun _ => rfl) (fun _ => rfl) (fun _ => rfl) fun _ => rfl
        have x6 : Ext p z { s4 with cs := updT (agedT s4.cs (fd.take i)) c.t fun e => { e with old := true } } H (upd H5 c.a (.ins cIdealThing c.dx (thF c.il true c.lw))) :=
          x5.trans (Ext.upd (own_a (s := { s4 with cs := agedT s4.cs (fd.take i) }) hc) fun b y => own_cs (s := { s4 with cs := agedT s4.cs (fd.take i) }) y rfl rfl rfl rfl (updT_own (fun _ => rfl) fun _ => rfl) (fun d g e => ⟨g, e⟩))
        have n6 : ¬ own p { s4 with cs := updT (agedT s4.cs (fd.take i)) c.t fun e => { e with old := true } } r := fun y => nr5 (own_cs (s := { s4 with cs := agedT s4.cs (fd.take i) }) y rfl rfl rfl rfl (updT_own (fun _ => rfl) fun _ => rfl) (fun d g e => ⟨g, e⟩))
        rw [agedT_step ht] at hp6 x6 n6
        exact ⟨_, rfl, (upd_ne fun y => nr5 (by rw [y]; exact own_a (s := { s4 with cs := agedT s4.cs (fd.take i) }) hc)).trans hr5, hp6, x6, n6⟩
      · rintro σ H5 ⟨v2, rfl, hr5, hp5, x5, nr5⟩
        rw [tk_len, List.take_length] at hp5 x5 nr5
        refine ⟨hr5, ?_⟩
        have hp6 : HeapAt (upd H5 r (.dK (tk fd))) p { s4 with cs := agedT s4.cs fd } := hp5.other nr5 hr5 (by intro _ q; cases q)
        have x6 : Ext p z { s4 with cs := agedT s4.cs fd } H (upd H5 r (.dK (tk fd))) := x5.skip nr
        rw [← hs4] at hp6 x6
        exact k _ _ hp6 w5 S5 x6
end SH
/-! begin, end, make, the heap's making. -/
namespace SH
open PySem PySem.Spec PyProof.Rows L2
/-- one attribute's way -/
theorem eqHF {s : HS} {g : Option (Addr × List Int)} (e : s.g = g) : (hF s).lookup ("going" : Str) = some (goV g) := by rw [hF_going, e]
theorem zg_self {s : HS} {d : Addr} {g : List Int} (e : s.g = some (d, g)) : zg s d g = s := by
  show ({ s with g := some (d, g) } : HS) = s
  rw [← e]
def sp_begin (K : PySem.W.Frag) : Sp := fun vs H Q _ => ∃ (m : Nat) (p : Addr) (s : HS), vs = [.ref p] ∧ HeapAt H p s ∧ WF m s ∧ m ≤ 1000 ∧ s.g = none ∧
  ∀ (H' : Hp) (s' : HS) (d : Addr) (g : List Int), HeapAt H' p s' → WF m s' → s'.g = some (d, g) → Live s' g → Ext p s s' H H' → Q .non H'
theorem scm_IdealHeap_begin : FnScope ["self", "reached", "thing"] ["self"] (defScope sm_IdealHeap_begin) := ⟨rfl, rfl, rfl, by decide +kernel, rfl, by decide +kernel, by decide +kernel⟩
theorem ok_m_IdealHeap_begin {P : Program} {w : World} {K : PySem.W.Frag} {mg : Str → Option Value} {base : Heap} (T : Tx K mg) : Def P w K mg base CX0 7 am_IdealHeap_begin ["self"] (sp_begin K) := by
  refine mk0 T.D_m_IdealHeap_begin scm_IdealHeap_begin (fun _ _ _ _ _ _ us hl => match us, hl with | [_], _ => rfl) (fun vs H Q E h => ?_) (fun cdv A outer s H vs Q E hr h => ?_)
  · first | (obtain ⟨_, rfl, _⟩ := h; rfl) | (obtain ⟨_, _, rfl, _⟩ := h; rfl) | (obtain ⟨_, _, _, rfl, _⟩ := h; rfl) | (obtain ⟨_, _, _, _, rfl, _⟩ := h; rfl) | (obtain ⟨_, _, _, _, _, rfl, _⟩ := h; rfl) | (obtain ⟨_, _, _, _, _, _, rfl, _⟩ := h; rfl) | (obtain ⟨_, _, _, _, _, _, _, rfl, _⟩ := h; rfl) | (obtain ⟨_, _, _, _, _, _, _, _, rfl, _⟩ := h; rfl)
  · have hu := hu_of hr
    refine ⟨_, (pss_cons (ps_if (pt_cmpR op_notN (pe_fldK (K := K) rfl (pv 0) rfl) pe_non (nomark _)) (pss_one ps_never) pss_nil)
      (pss_cons (ps_expr (c_meth0 (ok_m_IdealHeap_small T) (hr.mono (by decide)) T.clIdealHeap T.mIdealHeap_small pass0 (pv 0)))
      (pss_cons (ps_set (i := 1) scm_IdealHeap_begin.nd rfl (by first | exact Or.inl rfl | exact Or.inr rfl) (c_call (ok_f_led_within T) (hr.mono (by decide)) T.gf_led_within pass0 (pa_cons (pe_fldK (K := K) rfl (pv 0) rfl) (pa_cons (c_call (ok_f_things_of T) (hr.mono (by decide)) T.gf_things_of pass0 (pa_cons (pe_fldK (K := K) rfl (pv 0) rfl) pa_nil)) (pa_cons (pe_fldK (K := K) rfl (pv 0) rfl) pa_nil)))))
      (pss_cons (ps_fld (pv 0) pe_dnewK rfl)
      (pss_one (ps_lock (ps_for PassesOwn.never rfl (pi_keys (pe_fldK (K := K) rfl (pv 0) rfl)) (pg_name (i := 2) scm_IdealHeap_begin.nd rfl (by first | exact Or.inl rfl | exact Or.inr rfl))
      (pss_one (ps_if (pt_cmp (pc_dnotin hu (pv 2) (pv 1))) (pss_one (ps_dput hu (pe_fldK (K := K) rfl (pv 0) rfl) (pv 2) pe_bl rfl)) pss_nil))))))))), ?_⟩
    obtain ⟨m, p, z, rfl, hp, w, hm, eg, k⟩ := h
    refine ⟨_, rfl, p, _, _, _, _, rfl, hp.ob, T.clIdealHeap, T.nIdealHeap_going, eqHF eg, rfl, _, rfl, nF rfl ?_⟩
    refine ⟨_, rfl, p, _, _, rfl, hp.ob, hF_no (by decide +kernel), m, p, z, rfl, hp, w, hm, fun H1 z1 hp1 w1 S1 x1 => ?_⟩
    have eg1 : z1.g = none := S1.g.trans eg
    have h8 := w1.h8
    refine ⟨_, rfl, p, _, _, _, _, rfl, hp1.ob, T.clIdealHeap, T.nIdealHeap_kept, hF_kept, _, rfl, p, _, _, _, _, rfl, hp1.ob, T.clIdealHeap, T.nIdealHeap_in_hands, hF_hands, ?_⟩
    refine ⟨z1.lh, z1.hv, z1.hx, rfl, SqL.of hp1.hl, hp1.hr, by omega, fun l H2 nl s2 h2 => ?_⟩
    have hp2 := hp1.same s2
    have ll := len_thsOf (xs := z1.hx)
    refine ⟨_, rfl, p, _, _, _, _, rfl, hp2.ob, T.clIdealHeap, T.nIdealHeap_kept, hF_kept, ?_⟩
    refine ⟨z1.dk, l, z1.dk, z1.cs, thsOf z1.hx, keys z1.cs, rfl, hp2.held w1.kn, SqL.of h2, (hp2.held w1.kn).keys, fun _ q => q, w1.f6, w1.c400, by omega, fun fd r H3 nr s3 h3 L => ?_⟩
    have hp3 := hp2.same s3
    intro d hd
    have s4 : Same H3 (upd H3 d (.dK [])) := same_new hd
    have hp4 := hp3.same s4
    refine ⟨_, rfl, p, _, _, _, rfl, hp4.ob, T.clIdealHeap, T.nIdealHeap_going, hF_len, ?_⟩
    have eput : putF "going" (.ref d) (hF z1) = hF (zg z1 d []) := hF_putG (g := some (d, []))
    rw [eput]
    have ndk : d ≠ z1.dk := fun q => by
      have e := hp3.kd
      rw [← q, hd] at e
      cases e
    have ndp : d ≠ p := fun q => by
      have e := hp3.ob
      rw [← q, hd] at e
      cases e
    have hp5 : HeapAt (upd (upd H3 d (.dK [])) p (.ins cIdealHeap z1.dx (hF (zg z1 d [])))) p (zg z1 d []) := hp4.attr (s' := zg z1 d []) rfl rfl rfl rfl rfl rfl rfl rfl rfl rfl (fun d2 g2 e => by cases e; exact ⟨upd_same, ndk⟩)
    have x5 : Ext p z1 (zg z1 d []) H1 (upd (upd H3 d (.dK [])) p (.ins cIdealHeap z1.dx (hF (zg z1 d [])))) := by
      refine (Ext.same (s2.trans s3)).trans ⟨fun b o e n => ?_, fun b y => ?_⟩
      · rw [upd_ne (fun q => n (by rw [q]; exact own_p)), upd_ne (ne_of_none e hd)]
        exact e
      · rcases y with y | y | y | y | y | y | ⟨d2, g2, e2, y⟩
        · exact .inl (.inl y)
        · exact .inl (.inr (.inl y))
        · exact .inl (.inr (.inr (.inl y)))
        · exact .inl (.inr (.inr (.inr (.inl y))))
        · exact .inl (.inr (.inr (.inr (.inr (.inl y)))))
        · exact .inl (.inr (.inr (.inr (.inr (.inr (.inl y))))))
        · cases e2
          exact .inr (by rw [y]; exact hd)
    have hr5 : upd (upd H3 d (.dK [])) p (.ins cIdealHeap z1.dx (hF (zg z1 d []))) r = some (.dK (tk fd)) := kp hp4.ob (s4 _ _ h3) (by intro q; cases q)
    have hd5 : upd (upd H3 d (.dK [])) p (.ins cIdealHeap z1.dx (hF (zg z1 d []))) d = some (.dK []) := by rw [upd_ne ndp, upd_same]
    have nrdk : r ≠ z1.dk := fun q => by
      have e := hp2.kd
      rw [← q, nr] at e
      cases e
    have nrd : r ≠ d := fun q => by rw [q, hd] at h3; cases h3
    generalize upd (upd H3 d (.dK [])) p (.ins cIdealHeap z1.dx (hF (zg z1 d []))) = H5 at hp5 x5 hr5 hd5
    refine ⟨z1.dk, _, hp5.kd, trivial, fun od => ?_⟩
    have obL : upd H5 z1.dk (.frz od (.dK (kvT z1.cs))) p = some (.ins cIdealHeap z1.dx (hF (zg z1 d []))) := kp hp5.kd hp5.ob (by intro q; cases q)
    refine ⟨_, rfl, p, _, _, _, _, rfl, obL, T.clIdealHeap, T.nIdealHeap_kept, hF_kept, z1.dk, od, rfl, Or.inl ⟨_, upd_same, for_it walk_keys (fun i σ H6 => ∃ v2, σ = [some (.ref p), some (.ref r), v2] ∧ H6 d = some (.dK (tk (((keys z1.cs).take i).filter fun t => decide (t ∉ fd)))) ∧ SB d (upd H5 z1.dk (.frz od (.dK (kvT z1.cs)))) H6)
      ⟨none, rfl, by rw [upd_ne ndk]; exact hd5, fun _ _ _ e => e⟩ (fun i σ H6 _ ⟨_, _, _, s⟩ => s _ _ ndk.symm upd_same) ?_ ?_⟩⟩
    · rintro i x σ H0 H6 hi ⟨v2, rfl, hd6, s6⟩ ⟨rfl, k1, v1, hk, rfl⟩
      obtain ⟨c, hc, rfl, rfl⟩ := kv_at hk
      have ht : (keys z1.cs)[i]? = some c.t := by unfold keys; rw [List.getElem?_map, hc]; rfl
      have hr6 : H6 r = some (.dK (tk fd)) := s6 _ _ nrd (by rw [upd_ne nrdk]; exact hr5)
      obtain ⟨o, ho, eo⟩ := (KeysAt.of hr6).get c.t
      refine ⟨_, rfl, _, rfl, r, o, rfl, ho, _, rfl, ?_⟩
      rw [eo]
      by_cases q : c.t ∈ fd
      · refine nF q ⟨_, rfl, ?_, s6⟩
        rw [filter_take ht, if_neg (fun zz => (of_decide_eq_true zz) q), List.append_nil]
        exact hd6
      · have ob6 : H6 p = some (.ins cIdealHeap z1.dx (hF (zg z1 d []))) := s6 _ _ ndp.symm obL
        have ll2 := List.length_filter_le (fun t => decide (t ∉ fd)) ((keys z1.cs).take i)
        have ll3 := len_take (l := keys z1.cs) (i := i)
        have ll4 : (keys z1.cs).length ≤ 400 := by rw [List.length_map]; exact w1.c400
        refine nT q ⟨_, rfl, p, _, _, _, _, rfl, ob6, T.clIdealHeap, T.nIdealHeap_going, hF_going, _, rfl, d, _, rfl, DPut.k (k := Sum.inl c.t) hd6 (by rw [tk_len]; exact litL (by omega)), _, rfl, ?_, s6.trans (SB.upd d _ _)⟩
        have nt : c.t ∉ ((keys z1.cs).take i).filter fun t => decide (t ∉ fd) := fun y => by
          have q2 := nt_take w1.kn hc
          refine q2 ?_
          unfold keys
          rw [List.map_take]
          exact (List.mem_filter.mp y).1
        have ea : addI (((keys z1.cs).take i).filter fun t => decide (t ∉ fd)) c.t = (((keys z1.cs).take i).filter fun t => decide (t ∉ fd)) ++ [c.t] := if_neg nt
        rw [upd_same, putK_tk, ea, filter_take ht, if_pos (decide_eq_true q)]
    · rintro σ H6 ⟨v2, rfl, hd6, s6⟩
      have el : (kvT z1.cs).length = (keys z1.cs).length := by rw [kvT_len, List.length_map]
      rw [el, List.take_length] at hd6
      refine ⟨s6 _ _ ndk.symm upd_same, ?_⟩
      have hp7 := hp5.doom (d := d) (g := []) (g' := (keys z1.cs).filter fun t => decide (t ∉ fd)) rfl
      have s7 : Same (upd H5 d (.dK (tk ((keys z1.cs).filter fun t => decide (t ∉ fd))))) (upd H6 z1.dk (.dK (kvT z1.cs))) := fun b o e => by
        by_cases hb : b = d
        · rw [hb, upd_same] at e
          rw [hb, upd_ne ndk, hd6]
          exact e
        · rw [upd_ne hb] at e
          by_cases hb2 : b = z1.dk
          · rw [hb2, upd_same]
            rw [hb2, hp5.kd] at e
            exact e
          · rw [upd_ne hb2]
            refine s6 b o hb ?_
            rw [upd_ne hb2]
            exact e
      have hp8 := hp7.same s7
      have x8 : Ext p (zg z1 d []) (zg z1 d ((keys z1.cs).filter fun t => decide (t ∉ fd))) H5 (upd H6 z1.dk (.dK (kvT z1.cs))) :=
        (Ext.upd (own_g (s := zg z1 d []) (g := []) rfl) fun b q => own_zg (s := zg z1 d []) (g := []) rfl q).trans (Ext.same s7)
      exact k _ _ d _ hp8 (w1.begin S1.aged L d) rfl (begin_live w1 L) (x1.trans (x5.trans x8))
def sp_end : Sp := fun vs H Q _ => ∃ (m : Nat) (p : Addr) (s : HS) (d : Addr) (g : List Int), vs = [.ref p] ∧ HeapAt H p s ∧ WF m s ∧ m ≤ 1000 ∧ s.g = some (d, g) ∧
  ∀ (H' : Hp) (s' : HS), HeapAt H' p s' → WF m s' → s'.g = none → s'.hx = s.hx → s'.cs = left s.cs g → Ext p s s' H H' → Q .non H'
theorem scm_IdealHeap_end : FnScope ["self", "gone"] ["self"] (defScope sm_IdealHeap_end) := ⟨rfl, rfl, rfl, by decide +kernel, rfl, by decide +kernel, by decide +kernel⟩
theorem ok_m_IdealHeap_end {P : Program} {w : World} {K : PySem.W.Frag} {mg : Str → Option Value} {base : Heap} (T : Tx K mg) : Def P w K mg base CX0 2 am_IdealHeap_end ["self"] sp_end := by
  refine mk0 T.D_m_IdealHeap_end scm_IdealHeap_end (fun _ _ _ _ _ _ us hl => match us, hl with | [_], _ => rfl) (fun vs H Q E h => ?_) (fun cdv A outer s H vs Q E hr h => ?_)
  · first | (obtain ⟨_, rfl, _⟩ := h; rfl) | (obtain ⟨_, _, rfl, _⟩ := h; rfl) | (obtain ⟨_, _, _, rfl, _⟩ := h; rfl) | (obtain ⟨_, _, _, _, rfl, _⟩ := h; rfl) | (obtain ⟨_, _, _, _, _, rfl, _⟩ := h; rfl) | (obtain ⟨_, _, _, _, _, _, rfl, _⟩ := h; rfl) | (obtain ⟨_, _, _, _, _, _, _, rfl, _⟩ := h; rfl) | (obtain ⟨_, _, _, _, _, _, _, _, rfl, _⟩ := h; rfl)
  · have hu := hu_of hr
    refine ⟨_, (pss_cons (ps_if (pt_cmpR op_isN (pe_fldK (K := K) rfl (pv 0) rfl) pe_non (nomark _)) (pss_one ps_never) pss_nil)
      (pss_cons (ps_set (i := 1) scm_IdealHeap_end.nd rfl (by first | exact Or.inl rfl | exact Or.inr rfl) (pe_callTy (call_list_dK rfl) (by rfl) T.zlist (by decide +kernel) (pa_cons (pe_fldK (K := K) rfl (pv 0) rfl) pa_nil)))
      (pss_cons (ps_fld (pv 0) pe_non rfl)
      (pss_one (ps_expr (c_meth (ok_m_IdealHeap_settle T) (hr.mono (by decide)) T.clIdealHeap T.mIdealHeap_settle pass0 (pv 0) (pa_cons (pv 1) pa_nil))))))), ?_⟩
    obtain ⟨m, p, z, d, g, rfl, hp, w, hm, eg, k⟩ := h
    have G := w.go d g eg
    have hdg := hp.gd d g eg
    refine ⟨_, rfl, p, _, _, _, _, rfl, hp.ob, T.clIdealHeap, T.nIdealHeap_going, eqHF eg, rfl, _, rfl, dF (by intro q; cases q) ?_⟩
    refine ⟨_, rfl, p, _, _, _, _, rfl, hp.ob, T.clIdealHeap, T.nIdealHeap_going, eqHF eg, d, _, rfl, hdg, fun l hl => ?_⟩
    have el : (tk g).map (fun kv => kV kv.1) = g.map V.int := by
      unfold tk
      rw [List.map_map]
      rfl
    rw [el]
    have s1 : Same H (upd H l (.lst (g.map V.int))) := same_new hl
    have hl1 : upd H l (.lst (g.map V.int)) l = some (.lst (g.map V.int)) := upd_same
    have nl : ¬ own p z l := not_own hp hl
    have hp1 := hp.same s1
    have x1 : Ext p z z H (upd H l (.lst (g.map V.int))) := Ext.same s1
    generalize upd H l (.lst (g.map V.int)) = H1 at s1 hl1 hp1 x1
    refine ⟨_, rfl, p, _, _, _, rfl, hp1.ob, T.clIdealHeap, T.nIdealHeap_going, hF_len, ?_⟩
    have eput : putF "going" .non (hF z) = hF { z with g := none } := hF_putG (g := none)
    rw [eput]
    have hp2 : HeapAt (upd H1 p (.ins cIdealHeap z.dx (hF { z with g := none }))) p { z with g := none } := hp1.attr (s' := { z with g := none }) rfl rfl rfl rfl rfl rfl rfl rfl rfl rfl (fun d2 g2 e => by cases e)
    have hl2 : upd H1 p (.ins cIdealHeap z.dx (hF { z with g := none })) l = some (.lst (g.map V.int)) := kp hp1.ob hl1 (by intro q; cases q)
    have own2 : ∀ b, own p { z with g := none } b → own p z b := fun b y => own_cs (s := z) y rfl rfl rfl rfl (fun c hc => ⟨c, hc, rfl, rfl⟩) (fun d2 g2 e => by cases e)
    have x2 : Ext p z { z with g := none } H (upd H1 p (.ins cIdealHeap z.dx (hF { z with g := none }))) := x1.trans (Ext.upd own_p own2)
    generalize upd H1 p (.ins cIdealHeap z.dx (hF { z with g := none })) = H2 at hp2 hl2 x2
    have n8 := w.n8
    have sl := w.sl
    have nm := w.nm
    refine ⟨_, rfl, p, _, _, rfl, hp2.ob, hF_no (by decide +kernel), _, rfl, p, _, l, g, rfl, hp2, w.kn, hl2, fun y => nl (own2 l y), G.nd, G.sub, ⟨by show z.sp.length + z.cs.length ≤ 1000; omega, by show z.nv.length ≤ 1000; omega⟩, fun H3 ln' sp' hp3 x3 hz3 => ?_⟩
    exact k _ _ hp3 (w.ends eg hz3) rfl rfl rfl (x2.trans x3)
end SH
/-! make, and the heap's making. -/
namespace SH
open PySem PySem.Spec PyProof.Rows L2
theorem HeapAt.add {H : Hp} {p : Addr} {s : HS} {c : Th} (h : HeapAt H p s) (t : ThAt H c) (na : ¬ own p s c.a) (ni : ¬ own p s c.il) : HeapAt (upd H s.dk (.dK (kvT (s.cs ++ [c])))) p { s with cs := s.cs ++ [c] } := by
  have tu : Tu H (upd H s.dk (.dK (kvT (s.cs ++ [c])))) := tu_upd h.kd fun _ z => by cases z
  refine ⟨kp h.kd h.ob (by intro z; cases z), kp h.kd h.hl (by intro z; cases z), h.hr.tu tu, kp h.kd h.nl (by intro z; cases z), upd_same, fun e he => ?_, fun d g e => (upd_ne (h.n3 d g e)).trans (h.gd d g e), kp h.kd h.sl (by intro z; cases z), ?_, ?_, h.n3⟩
  · have te : ThAt H e := by
      rcases List.mem_append.mp he with z | z
      · exact h.th e z
      · rw [List.mem_singleton.mp z]
        exact t
    exact ⟨kp h.kd te.ob (by intro z; cases z), kp h.kd te.il (by intro z; cases z), te.rp.tu tu⟩
  · show (s.lh :: s.ln :: s.ls :: (s.cs ++ [c]).map (·.il)).Nodup
    rw [List.map_append]
    refine nd_snoc (l := s.lh :: s.ln :: s.ls :: s.cs.map (·.il)) h.n1 fun z => ni ?_
    rcases List.mem_cons.mp z with e | z
    · exact .inr (.inl e)
    rcases List.mem_cons.mp z with e | z
    · exact .inr (.inr (.inl e))
    rcases List.mem_cons.mp z with e | z
    · exact .inr (.inr (.inr (.inr (.inl e))))
    obtain ⟨d, hd, e⟩ := List.mem_map.mp z
    have e2 : d.il = c.il := e
    rw [← e2]
    exact own_il hd
  · show (p :: (s.cs ++ [c]).map (·.a)).Nodup
    rw [List.map_append]
    refine nd_snoc (l := p :: s.cs.map (·.a)) h.n2 fun z => na ?_
    rcases List.mem_cons.mp z with e | z
    · exact .inl e
    obtain ⟨d, hd, e⟩ := List.mem_map.mp z
    have e2 : d.a = c.a := e
    rw [← e2]
    exact own_a hd
theorem putK_kvT {cs : List Th} {c : Th} (h : c.t ∉ keys cs) : putK (kvT cs) (Sum.inl c.t : Key) (.ref c.a) = kvT (cs ++ [c]) := by
  rw [putK_new _ (none_of kvT_keys h)]
  unfold kvT
  rw [List.map_append]
  rfl
theorem own_add {p : Addr} {s : HS} {c : Th} {b : Addr} (h : own p { s with cs := s.cs ++ [c] } b) : own p s b ∨ b = c.a ∨ b = c.il := by
  rcases h with y | y | y | y | y | ⟨e, he, y⟩ | y
  · exact .inl (.inl y)
  · exact .inl (.inr (.inl y))
  · exact .inl (.inr (.inr (.inl y)))
  · exact .inl (.inr (.inr (.inr (.inl y))))
  · exact .inl (.inr (.inr (.inr (.inr (.inl y)))))
  · rcases List.mem_append.mp he with z | z
    · rcases y with y | y
      · exact .inl (by rw [y]; exact own_a z)
      · exact .inl (by rw [y]; exact own_il z)
    · rw [List.mem_singleton.mp z] at y
      exact .inr y
  · exact .inl (.inr (.inr (.inr (.inr (.inr (.inr y))))))
/-- two ways that meet: what is left is read once -/
theorem byRest {S : Prop} {R : Hp → Prop} {Pr : Hp → HS → Prop} (f : (∀ H1 z1, Pr H1 z1 → R H1) → S) (g : ∀ H1 z1, Pr H1 z1 → R H1) : S := f g
def sp_make (K : PySem.W.Frag) : Sp := fun vs H Q E => ∃ (m : Nat) (p : Addr) (s : HS) (h : Int) (k : Nat), vs = [.ref p, .int h, .int k] ∧ (0 ≤ h ∧ h < 8) ∧ k ≤ 6 ∧ HeapAt H p s ∧ WF m s ∧ m ≤ 999 ∧ OkD (m + 1) p s H Q ∧ OkE (m + 1) p s H E
theorem scm_IdealHeap_make : FnScope ["self", "h", "n", "words"] ["self", "h", "n"] (defScope sm_IdealHeap_make) := ⟨rfl, rfl, rfl, by decide +kernel, rfl, by decide +kernel, by decide +kernel⟩
theorem ok_m_IdealHeap_make {P : Program} {w : World} {K : PySem.W.Frag} {mg : Str → Option Value} {base : Heap} (T : Tx K mg) : Def P w K mg base (L2.CX P w) 7 am_IdealHeap_make ["self", "h", "n"] (sp_make K) := by
  refine mkX T.D_m_IdealHeap_make scm_IdealHeap_make (fun _ _ _ _ _ _ us hl => match us, hl with | [_, _, _], _ => rfl) (fun vs H Q E h => ?_) (fun cdv A outer s H vs Q E hr h => ?_)
  · first | (obtain ⟨_, rfl, _⟩ := h; rfl) | (obtain ⟨_, _, rfl, _⟩ := h; rfl) | (obtain ⟨_, _, _, rfl, _⟩ := h; rfl) | (obtain ⟨_, _, _, _, rfl, _⟩ := h; rfl) | (obtain ⟨_, _, _, _, _, rfl, _⟩ := h; rfl) | (obtain ⟨_, _, _, _, _, _, rfl, _⟩ := h; rfl) | (obtain ⟨_, _, _, _, _, _, _, rfl, _⟩ := h; rfl) | (obtain ⟨_, _, _, _, _, _, _, _, rfl, _⟩ := h; rfl)
  · have hu := hu_of hr
    have tk := takes_of (X := (cxOf (L2.CX P w) P w K mg base ["self", "h", "n", "words"] "IdealHeap.make" (defScope sm_IdealHeap_make) am_IdealHeap_make cdv A outer s H E)) rfl rfl rfl rfl
    refine ⟨_, (pss_cons (ps_expr (c_call (ok_f_look_at_hand T) (hr.mono (by decide)) T.gf_look_at_hand pass0 (pa_cons (pv 1) pa_nil)))
      (pss_cons (ps_set (i := 3) scm_IdealHeap_make.nd rfl (by first | exact Or.inl rfl | exact Or.inr rfl) (c_call (ok_f_words_of T) (hr.mono (by decide)) T.gf_words_of pass0 (pa_cons (pv 2) pa_nil)))
      (pss_cons (ps_if (PW.pt (pw_and (pt_cmpR op_gt (pe_fldK (K := K) rfl (pv 0) rfl) pe_int (nomark _)) (pw_and1 (pt_cmpR op_gt (pe_op op_add (c_call (ok_f_words_in_ideal T) (hr.mono (by decide)) T.gf_words_in_ideal pass0 (pa_cons (pe_fldK (K := K) rfl (pv 0) rfl) (pa_cons (c_call (ok_f_young_things T) (hr.mono (by decide)) T.gf_young_things pass0 (pa_cons (pe_fldK (K := K) rfl (pv 0) rfl) pa_nil)) pa_nil))) (pv 3)) (pe_fldK (K := K) rfl (pv 0) rfl) (nomark _))))) (pss_one (ps_expr (c_meth0 (ok_m_IdealHeap_small T) (hr.mono (by decide)) T.clIdealHeap T.mIdealHeap_small pass0 (pv 0)))) pss_nil)
      (pss_cons (ps_if (pt_cmpR op_gt (pe_op op_add (c_meth0 (ok_m_IdealHeap_held T) (hr.mono (by decide)) T.clIdealHeap T.mIdealHeap_held pass0 (pv 0)) (pv 3)) (pe_fldK (K := K) rfl (pv 0) rfl) (nomark _)) (pss_one (ps_raise rfl tk (pmk_own PySem.F.excBase_ValueError T.xNoRoom.ex T.gcNoRoom T.xNoRoom.kp (raises_own T.xNoRoom.sb T.xNoRoom.ty) rfl))) pss_nil)
      (pss_cons (ps_dput hu (pe_fldK (K := K) rfl (pv 0) rfl) (pe_fldK (K := K) rfl (pv 0) rfl) (c_make (ok_m_IdealThing_init T) T.mkIdealThing (hr.mono (by decide)) T.gcIdealThing pass0 (pa_cons (pv 2) (pa_cons (pe_cmpR op_eq (pe_fldK (K := K) rfl (pv 0) rfl) pe_int (nomark _)) pa_nil))) rfl)
      (pss_cons (ps_asg (c_call (ok_f_thing_value T) (hr.mono (by decide)) T.gf_thing_value pass0 (pa_cons (pe_fldK (K := K) rfl (pv 0) rfl) pa_nil)) (pg_sub (pe_fldK (K := K) rfl (pv 0) rfl) (pv 1) set_list))
      (pss_one (ps_fld (pv 0) (pe_op op_add (pe_fldK (K := K) rfl (pv 0) rfl) pe_int) rfl)))))))), ?_⟩
    obtain ⟨m, p, z, j, n, rfl, ⟨h0, h8⟩, hn, hp, w, hm, k, ke⟩ := h
    refine ⟨_, rfl, j, rfl, ⟨h0, h8⟩, ?_⟩
    refine ⟨_, rfl, n, rfl, ⟨by omega, by omega⟩, ?_⟩
    apply byRest (Pr := fun (H1 : Hp) (z1 : HS) => HeapAt H1 p z1 ∧ WF m z1 ∧ Ext p z z1 H H1)
    · intro rest
      refine ⟨_, rfl, p, _, _, _, _, rfl, hp.ob, T.clIdealHeap, T.nIdealHeap_room, hF_room, _, _, rfl, rfl, _, rfl, ?_⟩
      by_cases q : (0 : Int) < z.room
      · refine dT q ⟨_, rfl, p, _, _, _, _, rfl, hp.ob, T.clIdealHeap, T.nIdealHeap_kept, hF_kept, _, rfl, p, _, _, _, _, rfl, hp.ob, T.clIdealHeap, T.nIdealHeap_kept, hF_kept, ?_⟩
        refine ⟨z.dk, z.cs, rfl, hp.kd, hp.held w.kn, w.c400, fun y H2 ny s2 h2 => ?_⟩
        refine ⟨z.dk, y, z.cs, young z.cs, _, rfl, (hp.same s2).held w.kn, h2, tk_keys, fun c hc => (List.mem_filter.mp hc).1, w.f6, Nat.le_trans (List.length_filter_le _ _) w.c400, fun H3 s3 => ?_⟩
        have s03 := s2.trans s3
        have hp3 := hp.same s03
        refine ⟨_, rfl, _, _, rfl, rfl, _, rfl, p, _, _, _, _, rfl, hp3.ob, T.clIdealHeap, T.nIdealHeap_room, hF_room, _, _, rfl, rfl, _, rfl, ?_⟩
        refine ite2 (fun _ => ?_) fun _ => rest H3 z ⟨hp3, w, Ext.same s03⟩
        exact ⟨_, rfl, p, _, _, rfl, hp3.ob, hF_no (by decide +kernel), m, p, z, rfl, hp3, w, by omega, fun H4 z4 hp4 w4 _ x4 => rest H4 z4 ⟨hp4, w4, (Ext.same s03).trans x4⟩⟩
      · exact dF q (iteF (rest H z ⟨hp, w, .refl⟩))
    · rintro H1 z1 ⟨hp1, w1, x1⟩
      refine ⟨_, rfl, p, _, _, rfl, hp1.ob, hF_no (by decide +kernel), m, p, z1, rfl, hp1, w1, fun H2 s2 => ?_⟩
      have hp2 := hp1.same s2
      have x2 := x1.trans (Ext.same (p := p) (s := z1) s2)
      refine ⟨_, rfl, _, _, rfl, rfl, _, rfl, p, _, _, _, _, rfl, hp2.ob, T.clIdealHeap, T.nIdealHeap_limit, hF_limit, _, _, rfl, rfl, _, rfl, ?_⟩
      by_cases q : (400 : Int) < wd z1.cs + ((n : Int) + 1)
      · exact dT q (ke _ _ z1 (.inr (.inr (.inl rfl))) hp2 (w1.mono (Nat.le_succ _)) x2)
      refine dF q ?_
      refine ⟨_, rfl, _, rfl, p, _, _, _, _, rfl, hp2.ob, T.clIdealHeap, T.nIdealHeap_room, hF_room, rfl, fun x dx hx hdx ne => ?_⟩
      refine ⟨x, dx, n, _, rfl, hn, upd_same, fun il H3 nil h3i h3x fr => ⟨rfl, ?_⟩⟩
      have s23 : Same H2 H3 := fun b o e => fr b o (by rw [upd_ne (ne_of_none e hx), upd_ne (ne_of_none e hdx)]; exact e) (ne_of_none e hx)
      have hil : H2 il = none := by
        cases e : H2 il with
        | none => rfl
        | some o =>
          rw [upd_ne (ne_of_none e hx), upd_ne (ne_of_none e hdx), e] at nil
          cases nil
      have hp3 := hp2.same s23
      have nx : ¬ own p z1 x := not_own hp2 hx
      have ni : ¬ own p z1 il := not_own hp2 hil
      let c : Th := ⟨z1.n, x, dx, il, List.replicate n .non, List.replicate n .non, decide (V.int z1.room = V.int 0), none⟩
      have tc : ThAt H3 c := ⟨h3x, h3i, pd_rep trivial n⟩
      have nk : c.t ∉ keys z1.cs := fun y => by
        obtain ⟨e, he, e2⟩ := key_at y
        have := (w1.kl e he).2
        have e3 : e.t = (z1.n : Int) := e2
        omega
      have h400 := w1.c400
      refine ⟨_, rfl, p, _, _, _, _, rfl, hp3.ob, T.clIdealHeap, T.nIdealHeap_kept, hF_kept, _, rfl, p, _, _, _, _, rfl, hp3.ob, T.clIdealHeap, T.nIdealHeap_count, hF_count, z1.dk, _, rfl, DPut.k (k := Sum.inl (z1.n : Int)) hp3.kd (by rw [kvT_len]; exact litL (by omega)), ?_⟩
      have ep : putK (kvT z1.cs) (Sum.inl (z1.n : Int) : Key) (.ref x) = kvT (z1.cs ++ [c]) := putK_kvT (c := c) nk
      rw [ep]
      have hp4 := hp3.add tc nx ni
      have x4 : Ext p z { z1 with cs := z1.cs ++ [c] } H (upd H3 z1.dk (.dK (kvT (z1.cs ++ [c])))) := by
        refine x2.trans ⟨fun b o e n => ?_, fun b y => ?_⟩
        · rw [upd_ne fun y => n (by rw [y]; exact own_dk)]
          exact s23 b o e
        · rcases own_add y with y | y | y
          · exact .inl y
          · exact .inr (by rw [y]; exact hx)
          · exact .inr (by rw [y]; exact hil)
      generalize upd H3 z1.dk (.dK (kvT (z1.cs ++ [c]))) = H4 at hp4 x4
      refine ⟨_, rfl, p, _, _, _, _, rfl, hp4.ob, T.clIdealHeap, T.nIdealHeap_count, hF_count, (z1.n : Int), rfl, fun q hq => ?_⟩
      have s5 : Same H4 (upd H4 q (.tup [.str "thing", .int (z1.n : Int)])) := same_new hq
      have rq : Rp (upd H4 q (.tup [.str "thing", .int (z1.n : Int)])) (.ref q) (.th c.t) := upd_same
      have hp5 := hp4.same s5
      have x5 := x4.trans (Ext.same (p := p) (s := { z1 with cs := z1.cs ++ [c] }) s5)
      generalize upd H4 q (.tup [.str "thing", .int (z1.n : Int)]) = H5 at hp5 x5 rq
      have e8 := w1.h8
      have el : z1.hv.length = 8 := (pd_len hp5.hr).trans e8
      refine ⟨_, rfl, p, _, _, _, _, rfl, hp5.ob, T.clIdealHeap, T.nIdealHeap_in_hands, hF_hands, _, rfl, _, _, _, j.toNat, rfl, rfl, hp5.hl, ixN_nn h0 (show j < (z1.hv.length : Int) by omega), ?_⟩
      have hp6 := hp5.hands (pd_set rq j.toNat hp5.hr)
      have x6 : Ext p z { z1 with cs := z1.cs ++ [c], hv := z1.hv.set j.toNat (.ref q), hx := z1.hx.set j.toNat (.th c.t) } H (upd H5 z1.lh (.lst (z1.hv.set j.toNat (.ref q)))) :=
        x5.trans (Ext.upd (own_lh (s := { z1 with cs := z1.cs ++ [c] })) fun b y => own_cs (s := { z1 with cs := z1.cs ++ [c] }) y rfl rfl rfl rfl (fun e he => ⟨e, he, rfl, rfl⟩) (fun d g e => ⟨g, e⟩))
      generalize upd H5 z1.lh (.lst (z1.hv.set j.toNat (.ref q))) = H6 at hp6 x6
      refine ⟨_, rfl, p, _, _, _, _, rfl, hp6.ob, T.clIdealHeap, T.nIdealHeap_count, hF_count, _, _, rfl, rfl, _, rfl, p, _, _, _, rfl, hp6.ob, T.clIdealHeap, T.nIdealHeap_count, hF_len, ?_⟩
      have e7 := hF_putN (s := { z1 with cs := z1.cs ++ [c], hv := z1.hv.set j.toNat (.ref q), hx := z1.hx.set j.toNat (.th c.t) }) (n := 0)
      rw [e7]
      have hp7 := hp6.attr (s' := { z1 with cs := z1.cs ++ [c], hv := z1.hv.set j.toNat (.ref q), hx := z1.hx.set j.toNat (.th c.t), n := z1.n + 1 }) rfl rfl rfl rfl rfl rfl rfl rfl rfl rfl (fun d g e => ⟨hp6.gd d g e, hp6.n3 d g e⟩)
      refine k _ _ hp7 (w1.make (c := c) rfl (k := n) rfl hn (by omega) j.toNat _) (x6.trans (Ext.upd own_p fun b y => ?_))
      exact own_cs (s := { z1 with cs := z1.cs ++ [c], hv := z1.hv.set j.toNat (.ref q), hx := z1.hx.set j.toNat (.th c.t) }) y rfl rfl rfl rfl (fun e he => ⟨e, he, rfl, rfl⟩) (fun d g e => ⟨g, e⟩)
def sp_heap_init : Sp := fun vs H Q _ => ∃ (p dx : Addr) (y : Int), vs = [.ref p, .int y, .int 400] ∧ (y = 0 ∨ y = 10) ∧ H p = some (.ins cIdealHeap dx []) ∧
  ∀ (H' : Hp) (s : HS), HeapAt H' p s → WF 0 s → s.g = none → (∀ c o, c ≠ p → H c = some o → H' c = some o) → (∀ b, own p s b → b = p ∨ H b = none) → Q .non H'
theorem scm_IdealHeap_init : FnScope ["self", "young", "limit", "hand", "name"] ["self", "young", "limit"] (defScope sm_IdealHeap_init) := ⟨rfl, rfl, rfl, by decide +kernel, rfl, by decide +kernel, by decide +kernel⟩
theorem ok_m_IdealHeap_init {P : Program} {w : World} {K : PySem.W.Frag} {mg : Str → Option Value} {base : Heap} (T : Tx K mg) : Def P w K mg base CX0 2 am_IdealHeap_init ["self", "young", "limit"] sp_heap_init := by
  obtain ⟨tHANDS, gHANDS⟩ := T.iHANDS
  obtain ⟨tNAMES, gNAMES⟩ := T.iNAMES
  refine mk0 T.D_m_IdealHeap_init scm_IdealHeap_init (fun _ _ _ _ _ _ us hl => match us, hl with | [_, _, _], _ => rfl) (fun vs H Q E h => ?_) (fun cdv A outer s H vs Q E hr h => ?_)
  · first | (obtain ⟨_, rfl, _⟩ := h; rfl) | (obtain ⟨_, _, rfl, _⟩ := h; rfl) | (obtain ⟨_, _, _, rfl, _⟩ := h; rfl) | (obtain ⟨_, _, _, _, rfl, _⟩ := h; rfl) | (obtain ⟨_, _, _, _, _, rfl, _⟩ := h; rfl) | (obtain ⟨_, _, _, _, _, _, rfl, _⟩ := h; rfl) | (obtain ⟨_, _, _, _, _, _, _, rfl, _⟩ := h; rfl) | (obtain ⟨_, _, _, _, _, _, _, _, rfl, _⟩ := h; rfl)
  · have hu := hu_of hr
    refine ⟨_, (pss_cons (ps_expr (c_call (ok_f_look_at_limits T) (hr.mono (by decide)) T.gf_look_at_limits pass0 (pa_cons (pv 1) (pa_cons (pv 2) pa_nil))))
      (pss_cons (ps_fld (pv 0) (pv 1) rfl)
      (pss_cons (ps_fld (pv 0) (pv 2) rfl)
      (pss_cons (ps_fld (pv 0) (pe_lc (own := [("hand", 3)]) rfl scm_IdealHeap_init.nd (pi_range1 (by rfl) T.zrange (pa_cons (pe_glob (v := .int (8)) rfl gHANDS ⟨_, rfl⟩) pa_nil)) (blkOk_by (own := [("hand", 3)]) (N := ["self", "young", "limit", "hand", "name"]) (sc := defScope sm_IdealHeap_init) (by decide +kernel)) (fun _ _ _ _ _ => (pg_name (i := 3) scm_IdealHeap_init.nd rfl (by first | exact Or.inl rfl | exact Or.inr rfl))) (fun _ _ _ _ _ => pts_nil) (fun _ _ _ _ _ => pe_non)) rfl)
      (pss_cons (ps_fld (pv 0) (pe_lc (own := [("name", 4)]) rfl scm_IdealHeap_init.nd (pi_range1 (by rfl) T.zrange (pa_cons (pe_glob (v := .int (8)) rfl gNAMES ⟨_, rfl⟩) pa_nil)) (blkOk_by (own := [("name", 4)]) (N := ["self", "young", "limit", "hand", "name"]) (sc := defScope sm_IdealHeap_init) (by decide +kernel)) (fun _ _ _ _ _ => (pg_name (i := 4) scm_IdealHeap_init.nd rfl (by first | exact Or.inl rfl | exact Or.inr rfl))) (fun _ _ _ _ _ => pts_nil) (fun _ _ _ _ _ => pe_non)) rfl)
      (pss_cons (ps_fld (pv 0) pe_dnewK rfl)
      (pss_cons (ps_fld (pv 0) pe_int rfl)
      (pss_cons (ps_fld (pv 0) pe_non rfl)
      (pss_one (ps_fld (pv 0) (pe_lst pa_nil) rfl)))))))))), ?_⟩
    obtain ⟨p, dx, y, rfl, hy, hp, k⟩ := h
    refine ⟨_, rfl, _, rfl, y, rfl, hy, ?_⟩
    -- room, limit
    refine ⟨_, rfl, _, rfl, p, _, dx, _, rfl, hp, T.clIdealHeap, T.nIdealHeap_room, by decide, ?_⟩
    refine ⟨_, rfl, _, rfl, p, _, dx, _, rfl, upd_same, T.clIdealHeap, T.nIdealHeap_limit, pf1 (pf (Nat.le_refl 0)), ?_⟩
    rw [upd_upd]
    have b1 := SB.upd p H (.ins cIdealHeap dx (putF "limit" (.int 400) (putF "room" (.int y) [])))
    have o1 : upd H p (.ins cIdealHeap dx (putF "limit" (.int 400) (putF "room" (.int y) []))) p = some (.ins cIdealHeap dx (putF "limit" (.int 400) (putF "room" (.int y) []))) := upd_same
    generalize upd H p (.ins cIdealHeap dx (putF "limit" (.int 400) (putF "room" (.int y) []))) = H1 at b1 o1
    -- in_hands
    refine ⟨8, rfl, by decide, by decide, fun lh hlh => ?_⟩
    refine lc_range (lo := 0) (n := (8 : Int).toNat) (fun i H' => H' = upd H1 lh (.lst (List.replicate i .non))) rfl (fun i H' hi e => ?_) fun H' e => ?_
    · cases e
      have hi8 : i < 8 := hi
      exact ⟨rfl, List.replicate i .non, upd_same, by rw [List.length_replicate]; exact litL (by omega), by rw [upd_upd, List.replicate_succ']⟩
    cases e
    have nlh : lh ≠ p := fun q => by rw [q, o1] at hlh; cases hlh
    refine ⟨_, rfl, p, _, dx, _, rfl, (by rw [upd_ne nlh.symm]; exact o1), T.clIdealHeap, T.nIdealHeap_in_hands, pf1 (pf (pf (Nat.le_refl 0))), ?_⟩
    generalize hF2 : putF "in_hands" (.ref lh) (putF "limit" (.int 400) (putF "room" (.int y) [])) = F2
    have b2 : SB p H1 (upd (upd H1 lh (.lst (List.replicate (Int.toNat 8) .non))) p (.ins cIdealHeap dx F2)) := fun c o h e => by
      rw [upd_ne h, upd_ne (ne_of_none e hlh)]
      exact e
    have l2 : upd (upd H1 lh (.lst (List.replicate (Int.toNat 8) .non))) p (.ins cIdealHeap dx F2) lh = some (.lst (List.replicate (Int.toNat 8) .non)) := by rw [upd_ne nlh, upd_same]
    have o2 : upd (upd H1 lh (.lst (List.replicate (Int.toNat 8) .non))) p (.ins cIdealHeap dx F2) p = some (.ins cIdealHeap dx F2) := upd_same
    have z2 : F2.length ≤ 3 := by rw [← hF2]; exact pf (pf (pf (Nat.le_refl 0)))
    generalize upd (upd H1 lh (.lst (List.replicate (Int.toNat 8) .non))) p (.ins cIdealHeap dx F2) = H2 at b2 l2 o2
    -- naming
    refine ⟨8, rfl, by decide, by decide, fun ln hln => ?_⟩
    refine lc_range (lo := 0) (n := (8 : Int).toNat) (fun i H' => H' = upd H2 ln (.lst (List.replicate i .non))) rfl (fun i H' hi e => ?_) fun H' e => ?_
    · cases e
      have hi8 : i < 8 := hi
      exact ⟨rfl, List.replicate i .non, upd_same, by rw [List.length_replicate]; exact litL (by omega), by rw [upd_upd, List.replicate_succ']⟩
    cases e
    have nln : ln ≠ p := fun q => by rw [q, o2] at hln; cases hln
    refine ⟨_, rfl, p, _, dx, _, rfl, (by rw [upd_ne nln.symm]; exact o2), T.clIdealHeap, T.nIdealHeap_naming, pf1 z2, ?_⟩
    generalize hF3 : putF "naming" (.ref ln) F2 = F3
    have z3 : F3.length ≤ 4 := by rw [← hF3]; exact pf z2
    have b3 : SB p H2 (upd (upd H2 ln (.lst (List.replicate (Int.toNat 8) .non))) p (.ins cIdealHeap dx F3)) := fun c o h e => by
      rw [upd_ne h, upd_ne (ne_of_none e hln)]
      exact e
    have l3 : upd (upd H2 ln (.lst (List.replicate (Int.toNat 8) .non))) p (.ins cIdealHeap dx F3) ln = some (.lst (List.replicate (Int.toNat 8) .non)) := by rw [upd_ne nln, upd_same]
    have o3 : upd (upd H2 ln (.lst (List.replicate (Int.toNat 8) .non))) p (.ins cIdealHeap dx F3) p = some (.ins cIdealHeap dx F3) := upd_same
    generalize upd (upd H2 ln (.lst (List.replicate (Int.toNat 8) .non))) p (.ins cIdealHeap dx F3) = H3 at b3 l3 o3
    -- kept
    intro dk hdk
    have ndk : dk ≠ p := fun q => by rw [q, o3] at hdk; cases hdk
    refine ⟨_, rfl, p, _, dx, _, rfl, (by rw [upd_ne ndk.symm]; exact o3), T.clIdealHeap, T.nIdealHeap_kept, pf1 z3, ?_⟩
    generalize hF4 : putF "kept" (.ref dk) F3 = F4
    have z4 : F4.length ≤ 5 := by rw [← hF4]; exact pf z3
    have b4 : SB p H3 (upd (upd H3 dk (.dK [])) p (.ins cIdealHeap dx F4)) := fun c o h e => by
      rw [upd_ne h, upd_ne (ne_of_none e hdk)]
      exact e
    have l4 : upd (upd H3 dk (.dK [])) p (.ins cIdealHeap dx F4) dk = some (.dK []) := by rw [upd_ne ndk, upd_same]
    have o4 : upd (upd H3 dk (.dK [])) p (.ins cIdealHeap dx F4) p = some (.ins cIdealHeap dx F4) := upd_same
    generalize upd (upd H3 dk (.dK [])) p (.ins cIdealHeap dx F4) = H4 at b4 l4 o4
    -- count, going
    refine ⟨_, rfl, p, _, dx, _, rfl, o4, T.clIdealHeap, T.nIdealHeap_count, pf1 z4, ?_⟩
    refine ⟨_, rfl, p, _, dx, _, rfl, upd_same, T.clIdealHeap, T.nIdealHeap_going, pf1 (pf z4), ?_⟩
    rw [upd_upd]
    generalize hF5 : putF "going" .non (putF "count" (.int 0) F4) = F5
    have z5 : F5.length ≤ 7 := by rw [← hF5]; exact pf (pf z4)
    have b5 := SB.upd p H4 (.ins cIdealHeap dx F5)
    have o5 : upd H4 p (.ins cIdealHeap dx F5) p = some (.ins cIdealHeap dx F5) := upd_same
    generalize upd H4 p (.ins cIdealHeap dx F5) = H5 at b5 o5
    -- spoken
    refine ⟨lit 0 (by decide), fun ls hls => ?_⟩
    have nls : ls ≠ p := fun q => by rw [q, o5] at hls; cases hls
    refine ⟨_, rfl, p, _, dx, _, rfl, (by rw [upd_ne nls.symm]; exact o5), T.clIdealHeap, T.nIdealHeap_spoken, pf1 z5, ?_⟩
    have b6 : SB p H5 (upd (upd H5 ls (.lst [])) p (.ins cIdealHeap dx (putF "spoken" (.ref ls) F5))) := fun c o h e => by
      rw [upd_ne h, upd_ne (ne_of_none e hls)]
      exact e
    have l6 : upd (upd H5 ls (.lst [])) p (.ins cIdealHeap dx (putF "spoken" (.ref ls) F5)) ls = some (.lst []) := by rw [upd_ne nls, upd_same]
    have o6 : upd (upd H5 ls (.lst [])) p (.ins cIdealHeap dx (putF "spoken" (.ref ls) F5)) p = some (.ins cIdealHeap dx (putF "spoken" (.ref ls) F5)) := upd_same
    generalize upd (upd H5 ls (.lst [])) p (.ins cIdealHeap dx (putF "spoken" (.ref ls) F5)) = H6 at b6 l6 o6
    let s : HS := ⟨dx, lh, ln, dk, ls, y, List.replicate 8 .non, List.replicate 8 .non, List.replicate 8 none, [], 0, none, []⟩
    have ef : putF "spoken" (.ref ls) F5 = hF s := by
      rw [← hF5, ← hF4, ← hF3, ← hF2]
      kernel_rfl
    rw [ef] at o6
    have lh6 : H6 lh = some (.lst (List.replicate 8 .non)) := b6 _ _ nlh (b5 _ _ nlh (b4 _ _ nlh (b3 _ _ nlh l2)))
    have ln6 : H6 ln = some (.lst (List.replicate 8 .non)) := b6 _ _ nln (b5 _ _ nln (b4 _ _ nln l3))
    have dk6 : H6 dk = some (.dK []) := b6 _ _ ndk (b5 _ _ ndk l4)
    have n12 : lh ≠ ln := fun q => by rw [← q, l2] at hln; cases hln
    have n13 : lh ≠ ls := fun q => by rw [← q, b5 _ _ nlh (b4 _ _ nlh (b3 _ _ nlh l2))] at hls; cases hls
    have n23 : ln ≠ ls := fun q => by rw [← q, b5 _ _ nln (b4 _ _ nln l3)] at hls; cases hls
    have b06 : SB p H H6 := ((((b1.trans b2).trans b3).trans b4).trans b5).trans b6
    have fresh : ∀ {b : Addr} {H' : Hp}, b ≠ p → SB p H H' → H' b = none → H b = none := fun {b H'} h q e => by
      cases e2 : H b with
      | none => rfl
      | some o =>
        rw [q b o h e2] at e
        cases e
    refine k H6 s ⟨o6, lh6, pd_rep trivial 8, ln6, dk6, fun c hc => (by cases hc), fun d g e => (by cases e), l6, ?_, ?_, fun d g e => (by cases e)⟩ ?_ rfl b06 fun b q => ?_
    · show [lh, ln, ls].Nodup
      simp [n12, n13, n23]
    · show [p].Nodup
      simp
    · refine ⟨List.nodup_nil, fun c hc => (by cases hc), Nat.le_refl 0, Nat.le_refl 0, (show (0 : Int) ≤ 400 by decide), fun c hc => (by cases hc), fun c hc => (by cases hc), fun t ht => ?_, rfl, fun t ht => ?_, rfl, hy, fun d g e => (by cases e)⟩
      · have := List.eq_of_mem_replicate (show Ab.th t ∈ List.replicate 8 Ab.non from ht)
        cases this
      · have := List.eq_of_mem_replicate (show some t ∈ List.replicate 8 (none : Option Int) from ht)
        cases this
    · rcases q with q | q | q | q | q | ⟨c, hc, _⟩ | ⟨d, g, e, _⟩
      · exact .inl q
      · exact .inr (by rw [q]; exact fresh nlh b1 hlh)
      · exact .inr (by rw [q]; exact fresh nln (b1.trans b2) hln)
      · exact .inr (by rw [q]; exact fresh ndk ((b1.trans b2).trans b3) hdk)
      · exact .inr (by rw [q]; exact fresh nls ((((b1.trans b2).trans b3).trans b4).trans b5) hls)
      · cases hc
      · cases e
end SH
/-! The law's numbers and deeds. -/
namespace SH
open PySem PySem.Spec PyProof.Rows L2
def sp_law_cell (K : PySem.W.Frag) : Sp := fun vs H Q _ => ∃ (l : Addr) (ns : List Int), vs = [.ref l, .int 0] ∧ SqL K H l (ns.map V.int) ∧ ∀ x : Int, Q (.int x) H
theorem scf__law_cell : FnScope ["script", "k"] ["script", "k"] (defScope sf__law_cell) := ⟨rfl, rfl, rfl, by decide +kernel, rfl, by decide +kernel, by decide +kernel⟩
theorem ok_f__law_cell {P : Program} {w : World} {K : PySem.W.Frag} {mg : Str → Option Value} {base : Heap} (T : Tx K mg) : Def P w K mg base CX0 1 af__law_cell ["script", "k"] (sp_law_cell K) := by
  refine mk0 T.D_f__law_cell scf__law_cell (fun _ _ _ _ _ _ us hl => match us, hl with | [_, _], _ => rfl) (fun vs H Q E h => ?_) (fun cdv A outer s H vs Q E hr h => ?_)
  · first | (obtain ⟨_, rfl, _⟩ := h; rfl) | (obtain ⟨_, _, rfl, _⟩ := h; rfl) | (obtain ⟨_, _, _, rfl, _⟩ := h; rfl) | (obtain ⟨_, _, _, _, rfl, _⟩ := h; rfl) | (obtain ⟨_, _, _, _, _, rfl, _⟩ := h; rfl) | (obtain ⟨_, _, _, _, _, _, rfl, _⟩ := h; rfl) | (obtain ⟨_, _, _, _, _, _, _, rfl, _⟩ := h; rfl) | (obtain ⟨_, _, _, _, _, _, _, _, rfl, _⟩ := h; rfl)
  · have hu := hu_of hr
    refine ⟨_, (pss_cons (ps_if (pt_cmpR op_lt (pv 1) (pe_callB (r := rLenQ K) (call_lenQ rfl) (by rfl) T.zlen PySem.boot_len (pa_cons (pv 0) pa_nil)) (nomark _)) (pss_one (ps_ret (pe_ix (r := rIxL K) (ix_listK rfl) (pv 0) (pv 1) (fun _ _ => rfl)))) pss_nil)
      (pss_one (ps_ret pe_int))), ?_⟩
    obtain ⟨l, ns, rfl, hl, k⟩ := h
    refine ⟨_, rfl, _, rfl, l, _, rfl, .inl hl, _, _, rfl, rfl, _, rfl, ?_⟩
    cases ns with
    | nil =>
      have q : ¬ ((0 : Int) < ((List.map V.int []).length : Nat)) := by decide
      exact dF q (k 0)
    | cons n ns =>
      have q : (0 : Int) < ((List.map V.int (n :: ns)).length : Nat) := by rw [List.map_cons, List.length_cons]; omega
      exact dT q ⟨_, rfl, _, rfl, l, _, 0, .int n, rfl, rfl, hl, atI_nat (j := 0) rfl, k n⟩
theorem cut70 (fs : List Int) : ∃ gs : List Int, cutV (fs.map V.int) none (some 70) = gs.map V.int ∧ gs.length ≤ 70 ∧ ∀ x ∈ gs, x ∈ fs := by
  have e : cutV (fs.map V.int) none (some 70) = (fs.take (min 70 fs.length)).map V.int := by
    unfold cutV
    rw [HT.sIx_none, show (some 70 : Option Int) = some ((70 : Nat) : Int) from rfl, HT.sIx_nat, List.drop_zero, Nat.sub_zero, List.map_take, List.length_map]
  exact ⟨_, e, by rw [List.length_take]; omega, fun x hx => List.mem_of_mem_take hx⟩
def U16 (x : Int) : Prop := 0 ≤ x ∧ x < 65536
def sp_law_numbers (K : PySem.W.Frag) : Sp := fun vs H Q _ => ∃ (l : Addr) (ns : List Int), vs = [.ref l, .int 70] ∧ SqL K H l (ns.map V.int) ∧ ns.length ≤ 1000 ∧
  ∀ (r : Addr) (H' : Hp) (fs : List Int), fs.length ≤ 70 → (∀ x ∈ fs, U16 x) → Same H H' → H r = none → H' r = some (.lst (fs.map V.int)) → Q (.ref r) H'
theorem same_skip {H H' : Hp} {a : Addr} {u : HO} (s : Same H H') (ha : H a = none) : Same H (upd H' a u) := fun b o e => (upd_ne (ne_of_none e ha)).trans (s b o e)
def LNI (H : Hp) (l fl : Addr) (n : Nat) (H' : Hp) : Prop := ∃ fs : List Int, H' fl = some (.lst (fs.map V.int)) ∧ fs.length ≤ n ∧ (∀ x ∈ fs, U16 x) ∧ Same H H'
theorem LNI.add {H H' : Hp} {l fl : Addr} {n : Nat} {x : Int} (hfl : H fl = none) (q : LNI H l fl n H') (hx : U16 x) (hn : n < 5000) : ∃ xs, H' fl = some (.lst xs) ∧ xs.length < sizeLine ∧ LNI H l fl (n + 1) (upd H' fl (.lst (xs ++ [.int x]))) := by
  obtain ⟨fs, h1, h2, h3, h4⟩ := q
  refine ⟨_, h1, by rw [List.length_map]; exact litL (by omega), fs ++ [x], ?_, by rw [List.length_append]; exact Nat.succ_le_succ h2, fun y hy => ?_, same_skip h4 hfl⟩
  · rw [upd_same, List.map_append]
    rfl
  · rcases List.mem_append.mp hy with z | z
    · exact h3 y z
    · rw [List.mem_singleton.mp z]
      exact hx
theorem LNI.mono {H H' : Hp} {l fl : Addr} {n m : Nat} (q : LNI H l fl n H') (h : n ≤ m) : LNI H l fl m H' := by
  obtain ⟨fs, h1, h2, h3, h4⟩ := q
  exact ⟨fs, h1, Nat.le_trans h2 h, h3, h4⟩
theorem scf__law_numbers : FnScope ["script", "most", "found", "k", "near", "turn"] ["script", "most"] (defScope sf__law_numbers) := ⟨rfl, rfl, rfl, by decide +kernel, rfl, by decide +kernel, by decide +kernel⟩
theorem ok_f__law_numbers {P : Program} {w : World} {K : PySem.W.Frag} {mg : Str → Option Value} {base : Heap} (T : Tx K mg) : Def P w K mg base CX0 1 af__law_numbers ["script", "most"] (sp_law_numbers K) := by
  refine mk0 T.D_f__law_numbers scf__law_numbers (fun _ _ _ _ _ _ us hl => match us, hl with | [_, _], _ => rfl) (fun vs H Q E h => ?_) (fun cdv A outer s H vs Q E hr h => ?_)
  · first | (obtain ⟨_, rfl, _⟩ := h; rfl) | (obtain ⟨_, _, rfl, _⟩ := h; rfl) | (obtain ⟨_, _, _, rfl, _⟩ := h; rfl) | (obtain ⟨_, _, _, _, rfl, _⟩ := h; rfl) | (obtain ⟨_, _, _, _, _, rfl, _⟩ := h; rfl) | (obtain ⟨_, _, _, _, _, _, rfl, _⟩ := h; rfl) | (obtain ⟨_, _, _, _, _, _, _, rfl, _⟩ := h; rfl) | (obtain ⟨_, _, _, _, _, _, _, _, rfl, _⟩ := h; rfl)
  · have hu := hu_of hr
    refine ⟨_, (pss_cons (ps_set (i := 2) scf__law_numbers.nd rfl (by first | exact Or.inl rfl | exact Or.inr rfl) (pe_lst pa_nil))
      (pss_cons (ps_for PassesOwn.never rfl (pi_range1 (by rfl) T.zrange (pa_cons (pe_callB (r := rLenQ K) (call_lenQ rfl) (by rfl) T.zlen PySem.boot_len (pa_cons (pv 0) pa_nil)) pa_nil)) (pg_name (i := 3) scf__law_numbers.nd rfl (by first | exact Or.inl rfl | exact Or.inr rfl))
      (pss_cons (ps_set (i := 4) scf__law_numbers.nd rfl (by first | exact Or.inl rfl | exact Or.inr rfl) (pe_op op_mod (pe_ix (r := rIxL K) (ix_listK rfl) (pv 0) (pv 3) (fun _ _ => rfl)) pe_int))
      (pss_cons (ps_if (pt_cmpR op_eq (pe_op op_mod (pe_ix (r := rIxL K) (ix_listK rfl) (pv 0) pe_int (fun _ _ => rfl)) pe_int) pe_int (nomark _)) (pss_cons (ps_set (i := 4) scf__law_numbers.nd rfl (by first | exact Or.inl rfl | exact Or.inr rfl) (pe_op op_mod (pe_op op_mul (pe_op op_add (pe_op op_add (pv 4) (pe_op op_mul pe_int (pv 3))) pe_int) pe_int) pe_int))
      (pss_one (ps_set (i := 4) scf__law_numbers.nd rfl (by first | exact Or.inl rfl | exact Or.inr rfl) (pe_op op_mod (pe_op op_mul (pv 4) (pv 4)) pe_int)))) pss_nil)
      (pss_one (ps_for PassesOwn.never rfl (pi_range1 (by rfl) T.zrange (pa_cons pe_int pa_nil)) (pg_name (i := 5) scf__law_numbers.nd rfl (by first | exact Or.inl rfl | exact Or.inr rfl))
      (pss_cons (ps_if (PW.pt (pw_or (pt_cmpR op_eq (pv 5) pe_int (nomark _)) (pw_or1 (pt_cmpR op_gt (pv 4) pe_int (nomark _))))) (pss_one (ps_expr (pe_bm PySem.F.plainAttrs_list PySem.F.slot_list_append PySem.F.type_list_append mt_append (pv 2) (pa_cons (pe_op op_mod (pv 4) pe_int) pa_nil)))) pss_nil)
      (pss_one (ps_set (i := 4) scf__law_numbers.nd rfl (by first | exact Or.inl rfl | exact Or.inr rfl) (pe_op op_fdiv (pv 4) pe_int)))))))))
      (pss_one (ps_ret (pe_slice sl_list (pv 2) po_none (po_some (pv 1))))))), ?_⟩
    obtain ⟨l, ns, rfl, hl, hn, k⟩ := h
    refine ⟨lit 0 (by decide), fun fl hfl => ?_⟩
    refine ⟨_, rfl, l, ns.map V.int, rfl, .inl ((same_new hfl).seq hl), _, rfl, by omega, by rw [List.length_map]; omega, ?_⟩
    rw [List.length_map, Int.toNat_natCast]
    refine for_range (lo := 0) (n := ns.length) (fun i σ H' => ∃ a b c, σ = [some (.ref l), some (.int 70), some (.ref fl), a, b, c] ∧ LNI H l fl (3 * i) H') ⟨none, none, none, rfl, [], upd_same, Nat.zero_le _, fun x hx => (by cases hx), same_new hfl⟩ ?_ ?_
    · rintro i σ H1 hi ⟨a, b, c, rfl, q⟩
      have hl1 : SqL K H1 l (ns.map V.int) := by
        obtain ⟨fs, h1, h2, h3, h4⟩ := q
        exact h4.seq hl
      have e0 : atI (ns.map V.int) (0 + (i : Int)) = some (.int ns[i]) := by
        rw [Int.zero_add]
        exact atI_nat (by rw [List.getElem?_map, List.getElem?_eq_getElem hi]; rfl)
      have e1 : ∃ n0, atI (ns.map V.int) 0 = some (.int n0) := ⟨ns[0]'(by omega), atI_nat (j := 0) (by rw [List.getElem?_map, List.getElem?_eq_getElem (by omega : 0 < ns.length)]; rfl)⟩
      obtain ⟨n0, e1⟩ := e1
      refine ⟨_, rfl, _, rfl, l, _, _, _, rfl, rfl, hl1, e0, _, _, rfl, rfl, (by show (0 : Int) < 281474976710656; decide), ?_⟩
      refine ⟨_, rfl, l, _, 0, _, rfl, rfl, hl1, e1, _, _, rfl, rfl, (by show (0 : Int) < 2; decide), rfl, _, rfl, ?_⟩
      by_cases q2 : V.int (n0 % 2) = V.int 1
      case pos =>
        refine dT q2 ?_
        refine ⟨_, rfl, _, rfl, _, _, rfl, rfl, .inl ⟨by decide, by decide⟩, _, _, rfl, rfl, _, _, rfl, rfl, _, _, rfl, rfl, .inr ⟨by decide, by decide⟩, _, _, rfl, rfl, (by show (0 : Int) < 2147483647; decide), ?_⟩
        refine ⟨_, rfl, _, rfl, _, _, rfl, rfl, .inl ⟨by omega, by omega⟩, _, _, rfl, rfl, (by show (0 : Int) < 281474976710597; decide), ?_⟩
        refine ⟨3, rfl, by decide, by decide, ?_⟩
        refine for_range (lo := 0) (n := 3) (fun j σ H' => ∃ a x c, σ = [some (.ref l), some (.int 70), some (.ref fl), a, some (.int x), c] ∧ LNI H l fl (3 * i + j) H') ⟨_, _, _, rfl, q⟩ ?_ ?_
        · rintro j σ H2 hj ⟨a, x, c, rfl, r⟩
          refine ⟨_, rfl, rfl, _, rfl, ite2 (fun _ => ?_) (fun _ => ⟨_, rfl, _, _, rfl, rfl, _, rfl, ite2 (fun _ => ?_) (fun _ => ?_)⟩)⟩
          · obtain ⟨xs, r1, r2, r3⟩ := r.add hfl (x := x % 65536) ⟨by omega, by omega⟩ (by omega)
            exact ⟨_, rfl, Or.inl ⟨rfl, _, SqL.of r1⟩, _, rfl, _, _, rfl, rfl, (by show (0 : Int) < 65536; decide), fl, xs, _, rfl, rfl, r1, r2, _, rfl, _, _, rfl, rfl, ⟨by decide, by decide⟩, _, _, _, rfl, r3⟩
          · obtain ⟨xs, r1, r2, r3⟩ := r.add hfl (x := x % 65536) ⟨by omega, by omega⟩ (by omega)
            exact ⟨_, rfl, Or.inl ⟨rfl, _, SqL.of r1⟩, _, rfl, _, _, rfl, rfl, (by show (0 : Int) < 65536; decide), fl, xs, _, rfl, rfl, r1, r2, _, rfl, _, _, rfl, rfl, ⟨by decide, by decide⟩, _, _, _, rfl, r3⟩
          · exact ⟨_, rfl, _, _, rfl, rfl, ⟨by decide, by decide⟩, _, _, _, rfl, r.mono (Nat.le_succ _)⟩
        · rintro σ H2 ⟨a, x, c, rfl, r⟩
          exact ⟨_, _, _, rfl, r⟩
      case neg =>
        refine dF q2 ?_
        refine ⟨3, rfl, by decide, by decide, ?_⟩
        refine for_range (lo := 0) (n := 3) (fun j σ H' => ∃ a x c, σ = [some (.ref l), some (.int 70), some (.ref fl), a, some (.int x), c] ∧ LNI H l fl (3 * i + j) H') ⟨_, _, _, rfl, q⟩ ?_ ?_
        · rintro j σ H2 hj ⟨a, x, c, rfl, r⟩
          refine ⟨_, rfl, rfl, _, rfl, ite2 (fun _ => ?_) (fun _ => ⟨_, rfl, _, _, rfl, rfl, _, rfl, ite2 (fun _ => ?_) (fun _ => ?_)⟩)⟩
          · obtain ⟨xs, r1, r2, r3⟩ := r.add hfl (x := x % 65536) ⟨by omega, by omega⟩ (by omega)
            exact ⟨_, rfl, Or.inl ⟨rfl, _, SqL.of r1⟩, _, rfl, _, _, rfl, rfl, (by show (0 : Int) < 65536; decide), fl, xs, _, rfl, rfl, r1, r2, _, rfl, _, _, rfl, rfl, ⟨by decide, by decide⟩, _, _, _, rfl, r3⟩
          · obtain ⟨xs, r1, r2, r3⟩ := r.add hfl (x := x % 65536) ⟨by omega, by omega⟩ (by omega)
            exact ⟨_, rfl, Or.inl ⟨rfl, _, SqL.of r1⟩, _, rfl, _, _, rfl, rfl, (by show (0 : Int) < 65536; decide), fl, xs, _, rfl, rfl, r1, r2, _, rfl, _, _, rfl, rfl, ⟨by decide, by decide⟩, _, _, _, rfl, r3⟩
          · exact ⟨_, rfl, _, _, rfl, rfl, ⟨by decide, by decide⟩, _, _, _, rfl, r.mono (Nat.le_succ _)⟩
        · rintro σ H2 ⟨a, x, c, rfl, r⟩
          exact ⟨_, _, _, rfl, r⟩
    · rintro σ H1 ⟨a, b, c, rfl, fs, h1, h2, h3, h4⟩
      obtain ⟨gs, e, g1, g2⟩ := cut70 fs
      refine ⟨_, rfl, _, rfl, 70, rfl, fl, _, rfl, SqL.of h1, fun r hr => ?_⟩
      rw [e]
      exact k r _ gs g1 (fun x hx => h3 x (g2 x hx)) (h4.trans (same_new hr)) (h4.free hr) upd_same
def H8 (a : Int) : Prop := 0 ≤ a ∧ a < 8
inductive Deed : List V → Prop
  | make (a : Int) (k : Nat) : H8 a → k ≤ 6 → Deed [.str "make", .int a, .int k]
  | store (a k b : Int) : H8 a → H8 b → Deed [.str "store", .int a, .int k, .int b]
  | load (a b k : Int) : H8 a → H8 b → Deed [.str "load", .int a, .int b, .int k]
  | copy (a b : Int) : H8 a → H8 b → Deed [.str "copy", .int a, .int b]
  | drop (a : Int) : H8 a → Deed [.str "drop", .int a]
  | number (a x : Int) : H8 a → (-(10 ^ 60) ≤ x ∧ x ≤ 10 ^ 60) → Deed [.str "number", .int a, .int x]
  | name (b a : Int) : H8 b → H8 a → Deed [.str "name", .int b, .int a]
  | read (a b : Int) : H8 a → H8 b → Deed [.str "read", .int a, .int b]
  | word (a x : Int) : H8 a → (-(10 ^ 60) ≤ x ∧ x ≤ 10 ^ 60) → Deed [.str "word", .int a, .int x]
  | small : Deed [.str "small"]
  | turn : Deed [.str "turn"]
/-- a list of deeds, in a heap that has grown from H -/
structure DL (H H' : Hp) (ts : List V) : Prop where
  same : Same H H'
  all : ∀ t ∈ ts, ∃ p xs, t = .ref p ∧ H p = none ∧ H' p = some (.tup xs) ∧ Deed xs
theorem DL.nil {H : Hp} : DL H H [] := ⟨.refl H, fun t ht => by cases ht⟩
theorem DL.new {H H' : Hp} {ts : List V} {p : Addr} {o : HO} (d : DL H H' ts) (hp : H' p = none) : DL H (upd H' p o) ts :=
  ⟨d.same.trans (same_new hp), fun t ht => by
    obtain ⟨q, xs, e, n, h, z⟩ := d.all t ht
    exact ⟨q, xs, e, n, same_new hp _ _ h, z⟩⟩
theorem DL.add {H H' : Hp} {ts : List V} {p : Addr} {xs : List V} (d : DL H H' ts) (hp : H' p = none) (z : Deed xs) : DL H (upd H' p (.tup xs)) (ts ++ [.ref p]) :=
  ⟨(d.new hp).same, fun t ht => by
    rcases List.mem_append.mp ht with q | q
    · exact (d.new hp).all t q
    · rw [List.mem_singleton.mp q]
      exact ⟨p, xs, rfl, d.same.free hp, upd_same, z⟩⟩
def sp_law_deed : Sp := fun vs H Q _ => ∃ n : Int, vs = [.int n] ∧ U16 n ∧ ∀ (p : Addr) (H' : Hp) (xs : List V), Deed xs → Same H H' → H p = none → H' p = some (.tup xs) → Q (.ref p) H'
theorem table_at {c : Int} (h : H8 c) : ∃ k : Nat, k ≤ 6 ∧ atI [V.int 2, .int 3, .int 1, .int 4, .int 2, .int 0, .int 6, .int 3] c = some (.int k) := by
  have e : c = 0 ∨ c = 1 ∨ c = 2 ∨ c = 3 ∨ c = 4 ∨ c = 5 ∨ c = 6 ∨ c = 7 := by
    obtain ⟨h0, h1⟩ := h
    omega
  rcases e with rfl | rfl | rfl | rfl | rfl | rfl | rfl | rfl
  · exact ⟨2, by decide, rfl⟩
  · exact ⟨3, by decide, rfl⟩
  · exact ⟨1, by decide, rfl⟩
  · exact ⟨4, by decide, rfl⟩
  · exact ⟨2, by decide, rfl⟩
  · exact ⟨0, by decide, rfl⟩
  · exact ⟨6, by decide, rfl⟩
  · exact ⟨3, by decide, rfl⟩
theorem scf__law_deed : FnScope ["number", "a", "b", "c", "kind", "some"] ["number"] (defScope sf__law_deed) := ⟨rfl, rfl, rfl, by decide +kernel, rfl, by decide +kernel, by decide +kernel⟩
theorem ok_f__law_deed {P : Program} {w : World} {K : PySem.W.Frag} {mg : Str → Option Value} {base : Heap} (T : Tx K mg) : Def P w K mg base CX0 1 af__law_deed ["number"] sp_law_deed := by
  refine mk0 T.D_f__law_deed scf__law_deed (fun _ _ _ _ _ _ us hl => match us, hl with | [_], _ => rfl) (fun vs H Q E h => ?_) (fun cdv A outer s H vs Q E hr h => ?_)
  · first | (obtain ⟨_, rfl, _⟩ := h; rfl) | (obtain ⟨_, _, rfl, _⟩ := h; rfl) | (obtain ⟨_, _, _, rfl, _⟩ := h; rfl) | (obtain ⟨_, _, _, _, rfl, _⟩ := h; rfl) | (obtain ⟨_, _, _, _, _, rfl, _⟩ := h; rfl) | (obtain ⟨_, _, _, _, _, _, rfl, _⟩ := h; rfl) | (obtain ⟨_, _, _, _, _, _, _, rfl, _⟩ := h; rfl) | (obtain ⟨_, _, _, _, _, _, _, _, rfl, _⟩ := h; rfl)
  · have hu := hu_of hr
    refine ⟨_, (pss_cons (ps_set (i := 1) scf__law_deed.nd rfl (by first | exact Or.inl rfl | exact Or.inr rfl) (pe_op op_mod (pe_op op_fdiv (pv 0) pe_int) pe_int))
      (pss_cons (ps_set (i := 2) scf__law_deed.nd rfl (by first | exact Or.inl rfl | exact Or.inr rfl) (pe_op op_mod (pe_op op_fdiv (pv 0) pe_int) pe_int))
      (pss_cons (ps_set (i := 3) scf__law_deed.nd rfl (by first | exact Or.inl rfl | exact Or.inr rfl) (pe_op op_mod (pe_op op_fdiv (pv 0) pe_int) pe_int))
      (pss_cons (ps_set (i := 4) scf__law_deed.nd rfl (by first | exact Or.inl rfl | exact Or.inr rfl) (pe_op op_mod (pv 0) pe_int))
      (pss_cons (ps_if (pt_cmpR op_lt (pv 4) pe_int (nomark _)) (pss_one (ps_ret (pe_tup (pa_cons pe_str (pa_cons (pv 1) (pa_cons (pe_ix (r := rIxL K) (ix_listK rfl) (pe_lst (pa_cons pe_int (pa_cons pe_int (pa_cons pe_int (pa_cons pe_int (pa_cons pe_int (pa_cons pe_int (pa_cons pe_int (pa_cons pe_int pa_nil))))))))) (pv 3) (fun _ _ => rfl)) pa_nil)))))) pss_nil)
      (pss_cons (ps_if (pt_cmpR op_lt (pv 4) pe_int (nomark _)) (pss_one (ps_ret (pe_tup (pa_cons pe_str (pa_cons (pv 1) (pa_cons (pe_op op_mod (pv 3) pe_int) (pa_cons (pv 2) pa_nil))))))) pss_nil)
      (pss_cons (ps_if (pt_cmpR op_lt (pv 4) pe_int (nomark _)) (pss_one (ps_ret (pe_tup (pa_cons pe_str (pa_cons (pv 1) (pa_cons (pv 2) (pa_cons (pe_op op_mod (pv 3) pe_int) pa_nil))))))) pss_nil)
      (pss_cons (ps_set (i := 5) scf__law_deed.nd rfl (by first | exact Or.inl rfl | exact Or.inr rfl) (pe_lst (pa_cons (pe_tup (pa_cons pe_str (pa_cons (pv 1) (pa_cons (pv 2) pa_nil)))) (pa_cons (pe_tup (pa_cons pe_str (pa_cons (pv 1) pa_nil))) (pa_cons (pe_tup (pa_cons pe_str (pa_cons (pv 1) (pa_cons (pe_op op_sub (pe_op op_mul (pv 2) pe_int) (pv 3)) pa_nil)))) (pa_cons (pe_tup (pa_cons pe_str (pa_cons (pv 2) (pa_cons (pv 1) pa_nil)))) pa_nil))))))
      (pss_one (ps_ret (pe_ix (r := rIxL K) (ix_listK rfl) (pe_op op_cat (pv 5) (pe_lst (pa_cons (pe_tup (pa_cons pe_str (pa_cons (pv 1) (pa_cons (pv 2) pa_nil)))) (pa_cons (pe_tup (pa_cons pe_str (pa_cons (pv 1) (pa_cons (pe_op op_sub (pv 0) pe_int) pa_nil)))) (pa_cons (pe_tup (pa_cons pe_str pa_nil)) (pa_cons (pe_tup (pa_cons pe_str pa_nil)) pa_nil)))))) (pe_op op_sub (pv 4) pe_int) (fun _ _ => rfl)))))))))))), ?_⟩
    obtain ⟨n, rfl, ⟨n0, n1⟩, k⟩ := h
    refine ⟨_, rfl, _, _, rfl, rfl, ⟨by decide, by decide⟩, _, _, rfl, rfl, (by show (0 : Int) < 8; decide), ?_⟩
    refine ⟨_, rfl, _, _, rfl, rfl, ⟨by decide, by decide⟩, _, _, rfl, rfl, (by show (0 : Int) < 8; decide), ?_⟩
    refine ⟨_, rfl, _, _, rfl, rfl, ⟨by decide, by decide⟩, _, _, rfl, rfl, (by show (0 : Int) < 8; decide), ?_⟩
    refine ⟨_, rfl, _, _, rfl, rfl, (by show (0 : Int) < 16; decide), ?_⟩
    have ha : H8 (n / 16 % 8) := ⟨by omega, by omega⟩
    have hb : H8 (n / 128 % 8) := ⟨by omega, by omega⟩
    have hc : H8 (n / 1024 % 8) := ⟨by omega, by omega⟩
    have hk : 0 ≤ n % 16 ∧ n % 16 < 16 := ⟨by omega, by omega⟩
    refine ⟨_, rfl, _, _, rfl, rfl, _, rfl, ite2 (fun _ => ?_) (fun q3 => ?_)⟩
    · obtain ⟨m, m6, hm⟩ := table_at hc
      refine ⟨_, rfl, lit 8 (by decide), fun l hl => ⟨_, rfl, l, _, _, _, rfl, rfl, SqL.of upd_same, hm, lit 3 (by decide), fun p hp => ?_⟩⟩
      exact k p _ _ (.make _ m ha m6) ((same_new hl).trans (same_new hp)) ((same_new hl).free hp) upd_same
    refine ⟨_, rfl, _, _, rfl, rfl, _, rfl, ite2 (fun _ => ?_) (fun q6 => ?_)⟩
    · refine ⟨_, rfl, _, rfl, _, _, rfl, rfl, (by show (0 : Int) < 3; decide), _, rfl, lit 4 (by decide), fun p hp => ?_⟩
      exact k p _ _ (.store _ _ _ ha hb) (same_new hp) hp upd_same
    refine ⟨_, rfl, _, _, rfl, rfl, _, rfl, ite2 (fun _ => ?_) (fun q8 => ?_)⟩
    · refine ⟨_, rfl, _, rfl, _, rfl, _, _, rfl, rfl, (by show (0 : Int) < 3; decide), lit 4 (by decide), fun p hp => ?_⟩
      exact k p _ _ (.load _ _ _ ha hb) (same_new hp) hp upd_same
    have d0 : DL H H [] := .nil
    refine ⟨_, rfl, _, rfl, lit 3 (by decide), fun p1 hp1 => ?_⟩
    have d1 := d0.add hp1 (.copy _ _ ha hb)
    generalize upd H p1 _ = H1 at d1
    refine ⟨_, rfl, lit 2 (by decide), fun p2 hp2 => ?_⟩
    have d2 := d1.add hp2 (.drop _ ha)
    generalize upd H1 p2 _ = H2 at d2
    refine ⟨_, rfl, _, rfl, _, _, rfl, rfl, .inr ⟨by decide, by decide⟩, _, rfl, _, _, rfl, rfl, lit 3 (by decide), fun p3 hp3 => ?_⟩
    have d3 := d2.add hp3 (.number _ (n / 128 % 8 * 1000 - n / 1024 % 8) ha (by obtain ⟨b0, b1⟩ := hb; obtain ⟨c0, c1⟩ := hc; constructor <;> omega))
    generalize upd H2 p3 _ = H3 at d3
    refine ⟨_, rfl, _, rfl, lit 3 (by decide), fun p4 hp4 => ?_⟩
    have d4 := d3.add hp4 (.name _ _ hb ha)
    generalize upd H3 p4 _ = H4 at d4
    refine ⟨lit 4 (by decide), fun l1 hl1 => ?_⟩
    have d5 := d4.new (o := .lst [.ref p1, .ref p2, .ref p3, .ref p4]) hl1
    have g5 : upd H4 l1 (.lst [.ref p1, .ref p2, .ref p3, .ref p4]) l1 = some (.lst [.ref p1, .ref p2, .ref p3, .ref p4]) := upd_same
    generalize upd H4 l1 _ = H5 at d5 g5
    refine ⟨_, rfl, _, rfl, _, rfl, lit 3 (by decide), fun p5 hp5 => ?_⟩
    have d6 := d5.add hp5 (.read _ _ ha hb)
    have g6 := same_new (o := .tup [.str "read", .int (n / 16 % 8), .int (n / 128 % 8)]) hp5 _ _ g5
    generalize upd H5 p5 _ = H6 at d6 g6
    refine ⟨_, rfl, _, rfl, _, _, rfl, rfl, lit 3 (by decide), fun p6 hp6 => ?_⟩
    have d7 := d6.add hp6 (.word _ (n - 30000) ha (by constructor <;> omega))
    have g7 := same_new (o := .tup [.str "word", .int (n / 16 % 8), .int (n - 30000)]) hp6 _ _ g6
    generalize upd H6 p6 _ = H7 at d7 g7
    refine ⟨lit 1 (by decide), fun p7 hp7 => ?_⟩
    have d8 := d7.add hp7 .small
    have g8 := same_new (o := .tup [.str "small"]) hp7 _ _ g7
    generalize upd H7 p7 _ = H8' at d8 g8
    refine ⟨lit 1 (by decide), fun p8 hp8 => ?_⟩
    have d9 := d8.add hp8 .turn
    have g9 := same_new (o := .tup [.str "turn"]) hp8 _ _ g8
    generalize upd H8' p8 _ = H9 at d9 g9
    refine ⟨lit 4 (by decide), fun l2 hl2 => ?_⟩
    have g10 := same_new (o := .lst [.ref p5, .ref p6, .ref p7, .ref p8]) hl2 _ _ g9
    have d10 := d9.new (o := .lst [.ref p5, .ref p6, .ref p7, .ref p8]) hl2
    refine ⟨l1, l2, _, _, rfl, rfl, g10, upd_same, lit 8 (by decide), fun l3 hl3 => ?_⟩
    have d11 := d10.new (o := .lst [.ref p1, .ref p2, .ref p3, .ref p4, .ref p5, .ref p6, .ref p7, .ref p8]) hl3
    have e9 : ∃ v, atI [V.ref p1, .ref p2, .ref p3, .ref p4, .ref p5, .ref p6, .ref p7, .ref p8] ((n % 16) - 8) = some v ∧ v ∈ [V.ref p1, .ref p2, .ref p3, .ref p4, .ref p5, .ref p6, .ref p7, .ref p8] := by
      have q9 : ¬ (n % 16 < 8) := of_decide_eq_false (Bool.not_eq_true _ ▸ q8)
      have h0 : 0 ≤ (n % 16) - 8 := by omega
      have h1 : ((n % 16) - 8).toNat < 8 := by omega
      exact ⟨_, atI_nn h0 (List.getElem?_eq_getElem h1), List.getElem_mem _⟩
    obtain ⟨v, e9, hv⟩ := e9
    refine ⟨_, rfl, _, _, rfl, rfl, l3, _, _, v, rfl, rfl, SqL.of upd_same, e9, ?_⟩
    obtain ⟨q, xs, rfl, nq, hq, z⟩ := d11.all v hv
    exact k q _ xs z d11.same nq hq
end SH
/-! One deed, and its try. -/
namespace SH
open PySem PySem.Spec PyProof.Rows L2
def sp_law_plain : Sp := fun vs H Q E => ∃ (m : Nat) (p d : Addr) (s : HS) (xs : List V), vs = [.ref p, .ref d] ∧ H d = some (.tup xs) ∧ Deed xs ∧ HeapAt H p s ∧ WF m s ∧ m ≤ 999 ∧ OkD (m + 1) p s H Q ∧ OkE (m + 1) p s H E
theorem OkD.up {m : Nat} {p : Addr} {s : HS} {H : Hp} {Q : VK} (k : OkD (m + 1) p s H Q) : OkD m p s H Q := fun H' s' a b c => k H' s' a (b.mono (Nat.le_succ _)) c
theorem OkE.up {m : Nat} {p : Addr} {s : HS} {H : Hp} {E : XK} (k : OkE (m + 1) p s H E) : OkE m p s H E := fun C H' s' e a b c => k C H' s' e a (b.mono (Nat.le_succ _)) c
theorem scf__law_plain : FnScope ["hall", "deed"] ["hall", "deed"] (defScope sf__law_plain) := ⟨rfl, rfl, rfl, by decide +kernel, rfl, by decide +kernel, by decide +kernel⟩
theorem ok_f__law_plain {P : Program} {w : World} {K : PySem.W.Frag} {mg : Str → Option Value} {base : Heap} (T : Tx K mg) : Def P w K mg base (L2.CX P w) 8 af__law_plain ["hall", "deed"] sp_law_plain := by
  refine mkX T.D_f__law_plain scf__law_plain (fun _ _ _ _ _ _ us hl => match us, hl with | [_, _], _ => rfl) (fun vs H Q E h => ?_) (fun cdv A outer s H vs Q E hr h => ?_)
  · first | (obtain ⟨_, rfl, _⟩ := h; rfl) | (obtain ⟨_, _, rfl, _⟩ := h; rfl) | (obtain ⟨_, _, _, rfl, _⟩ := h; rfl) | (obtain ⟨_, _, _, _, rfl, _⟩ := h; rfl) | (obtain ⟨_, _, _, _, _, rfl, _⟩ := h; rfl) | (obtain ⟨_, _, _, _, _, _, rfl, _⟩ := h; rfl) | (obtain ⟨_, _, _, _, _, _, _, rfl, _⟩ := h; rfl) | (obtain ⟨_, _, _, _, _, _, _, _, rfl, _⟩ := h; rfl)
  · have hu := hu_of hr
    have tk := takes_of (X := (cxOf (L2.CX P w) P w K mg base ["hall", "deed"] "_law_plain" (defScope sf__law_plain) af__law_plain cdv A outer s H E)) rfl rfl rfl rfl
    refine ⟨_, (pss_one (ps_if (pt_cmpR op_eq (pe_ix (r := rIxT K) (ix_tupK rfl) (pv 1) pe_int (fun _ _ => rfl)) pe_str (nomark _)) (pss_one (ps_expr (c_meth (ok_m_IdealHeap_make T) (hr.mono (by decide)) T.clIdealHeap T.mIdealHeap_make (passes_call tk (fun _ _ _ _ h => h)) (pv 0) (pa_cons (pe_ix (r := rIxT K) (ix_tupK rfl) (pv 1) pe_int (fun _ _ => rfl)) (pa_cons (pe_ix (r := rIxT K) (ix_tupK rfl) (pv 1) pe_int (fun _ _ => rfl)) pa_nil))))) (pss_one (ps_if (pt_cmpR op_eq (pe_ix (r := rIxT K) (ix_tupK rfl) (pv 1) pe_int (fun _ _ => rfl)) pe_str (nomark _)) (pss_one (ps_expr (c_meth (ok_m_IdealHeap_store T) (hr.mono (by decide)) T.clIdealHeap T.mIdealHeap_store (passes_call tk (fun _ _ _ _ h => h)) (pv 0) (pa_cons (pe_ix (r := rIxT K) (ix_tupK rfl) (pv 1) pe_int (fun _ _ => rfl)) (pa_cons (pe_ix (r := rIxT K) (ix_tupK rfl) (pv 1) pe_int (fun _ _ => rfl)) (pa_cons (pe_ix (r := rIxT K) (ix_tupK rfl) (pv 1) pe_int (fun _ _ => rfl)) pa_nil)))))) (pss_one (ps_if (pt_cmpR op_eq (pe_ix (r := rIxT K) (ix_tupK rfl) (pv 1) pe_int (fun _ _ => rfl)) pe_str (nomark _)) (pss_one (ps_expr (c_meth (ok_m_IdealHeap_load T) (hr.mono (by decide)) T.clIdealHeap T.mIdealHeap_load (passes_call tk (fun _ _ _ _ h => h)) (pv 0) (pa_cons (pe_ix (r := rIxT K) (ix_tupK rfl) (pv 1) pe_int (fun _ _ => rfl)) (pa_cons (pe_ix (r := rIxT K) (ix_tupK rfl) (pv 1) pe_int (fun _ _ => rfl)) (pa_cons (pe_ix (r := rIxT K) (ix_tupK rfl) (pv 1) pe_int (fun _ _ => rfl)) pa_nil)))))) (pss_one (ps_if (pt_cmpR op_eq (pe_ix (r := rIxT K) (ix_tupK rfl) (pv 1) pe_int (fun _ _ => rfl)) pe_str (nomark _)) (pss_one (ps_expr (c_meth (ok_m_IdealHeap_copy T) (hr.mono (by decide)) T.clIdealHeap T.mIdealHeap_copy pass0 (pv 0) (pa_cons (pe_ix (r := rIxT K) (ix_tupK rfl) (pv 1) pe_int (fun _ _ => rfl)) (pa_cons (pe_ix (r := rIxT K) (ix_tupK rfl) (pv 1) pe_int (fun _ _ => rfl)) pa_nil))))) (pss_one (ps_if (pt_cmpR op_eq (pe_ix (r := rIxT K) (ix_tupK rfl) (pv 1) pe_int (fun _ _ => rfl)) pe_str (nomark _)) (pss_one (ps_expr (c_meth (ok_m_IdealHeap_drop T) (hr.mono (by decide)) T.clIdealHeap T.mIdealHeap_drop pass0 (pv 0) (pa_cons (pe_ix (r := rIxT K) (ix_tupK rfl) (pv 1) pe_int (fun _ _ => rfl)) pa_nil)))) (pss_one (ps_if (pt_cmpR op_eq (pe_ix (r := rIxT K) (ix_tupK rfl) (pv 1) pe_int (fun _ _ => rfl)) pe_str (nomark _)) (pss_one (ps_expr (c_meth (ok_m_IdealHeap_number T) (hr.mono (by decide)) T.clIdealHeap T.mIdealHeap_number pass0 (pv 0) (pa_cons (pe_ix (r := rIxT K) (ix_tupK rfl) (pv 1) pe_int (fun _ _ => rfl)) (pa_cons (pe_ix (r := rIxT K) (ix_tupK rfl) (pv 1) pe_int (fun _ _ => rfl)) pa_nil))))) (pss_one (ps_if (pt_cmpR op_eq (pe_ix (r := rIxT K) (ix_tupK rfl) (pv 1) pe_int (fun _ _ => rfl)) pe_str (nomark _)) (pss_one (ps_expr (c_meth (ok_m_IdealHeap_name T) (hr.mono (by decide)) T.clIdealHeap T.mIdealHeap_name (passes_call tk (fun _ _ _ _ h => h)) (pv 0) (pa_cons (pe_ix (r := rIxT K) (ix_tupK rfl) (pv 1) pe_int (fun _ _ => rfl)) (pa_cons (pe_ix (r := rIxT K) (ix_tupK rfl) (pv 1) pe_int (fun _ _ => rfl)) pa_nil))))) (pss_one (ps_if (pt_cmpR op_eq (pe_ix (r := rIxT K) (ix_tupK rfl) (pv 1) pe_int (fun _ _ => rfl)) pe_str (nomark _)) (pss_one (ps_expr (c_meth (ok_m_IdealHeap_read T) (hr.mono (by decide)) T.clIdealHeap T.mIdealHeap_read pass0 (pv 0) (pa_cons (pe_ix (r := rIxT K) (ix_tupK rfl) (pv 1) pe_int (fun _ _ => rfl)) (pa_cons (pe_ix (r := rIxT K) (ix_tupK rfl) (pv 1) pe_int (fun _ _ => rfl)) pa_nil))))) (pss_one (ps_if (pt_cmpR op_eq (pe_ix (r := rIxT K) (ix_tupK rfl) (pv 1) pe_int (fun _ _ => rfl)) pe_str (nomark _)) (pss_one (ps_expr (c_meth (ok_m_IdealHeap_word T) (hr.mono (by decide)) T.clIdealHeap T.mIdealHeap_word (passes_call tk (fun _ _ _ _ h => h)) (pv 0) (pa_cons (pe_ix (r := rIxT K) (ix_tupK rfl) (pv 1) pe_int (fun _ _ => rfl)) (pa_cons (pe_ix (r := rIxT K) (ix_tupK rfl) (pv 1) pe_int (fun _ _ => rfl)) pa_nil))))) (pss_one (ps_if (pt_cmpR op_eq (pe_ix (r := rIxT K) (ix_tupK rfl) (pv 1) pe_int (fun _ _ => rfl)) pe_str (nomark _)) (pss_one (ps_expr (c_meth0 (ok_m_IdealHeap_small T) (hr.mono (by decide)) T.clIdealHeap T.mIdealHeap_small pass0 (pv 0)))) (pss_one (ps_if (pt_val (c_meth0 (ok_m_IdealHeap_round_on T) (hr.mono (by decide)) T.clIdealHeap T.mIdealHeap_round_on pass0 (pv 0))) (pss_one (ps_expr (c_meth0 (ok_m_IdealHeap_end T) (hr.mono (by decide)) T.clIdealHeap T.mIdealHeap_end pass0 (pv 0)))) (pss_one (ps_expr (c_meth0 (ok_m_IdealHeap_begin T) (hr.mono (by decide)) T.clIdealHeap T.mIdealHeap_begin pass0 (pv 0)))))))))))))))))))))))))), ?_⟩
    obtain ⟨m, p, d, z, xs, rfl, hd, dd, hp, w, hm, k, ke⟩ := h
    cases dd with
    | make a n ha hn =>
      refine ⟨_, rfl, d, _, 0, _, rfl, rfl, SqT.of hd, atI_nat rfl, rfl, _, rfl, dT rfl ?_⟩
      exact ⟨_, rfl, p, _, _, rfl, hp.ob, hF_no (by decide +kernel), _, rfl, d, _, 1, _, rfl, rfl, SqT.of hd, atI_nat rfl, _, rfl, d, _, 2, _, rfl, rfl, SqT.of hd, atI_nat rfl, m, p, z, a, n, rfl, ha, hn, hp, w, hm, k, ke⟩
    | store a i b ha hb =>
      refine ⟨_, rfl, d, _, 0, _, rfl, rfl, SqT.of hd, atI_nat rfl, rfl, _, rfl, dF (by decide +kernel) ?_⟩
      refine ⟨_, rfl, d, _, 0, _, rfl, rfl, SqT.of hd, atI_nat rfl, rfl, _, rfl, dT rfl ?_⟩
      exact ⟨_, rfl, p, _, _, rfl, hp.ob, hF_no (by decide +kernel), _, rfl, d, _, 1, _, rfl, rfl, SqT.of hd, atI_nat rfl, _, rfl, d, _, 2, _, rfl, rfl, SqT.of hd, atI_nat rfl, _, rfl, d, _, 3, _, rfl, rfl, SqT.of hd, atI_nat rfl, m, p, z, a, i, b, rfl, hb, ha, hp, w, k.up, ke.up⟩
    | load a b i ha hb =>
      refine ⟨_, rfl, d, _, 0, _, rfl, rfl, SqT.of hd, atI_nat rfl, rfl, _, rfl, dF (by decide +kernel) ?_⟩
      refine ⟨_, rfl, d, _, 0, _, rfl, rfl, SqT.of hd, atI_nat rfl, rfl, _, rfl, dF (by decide +kernel) ?_⟩
      refine ⟨_, rfl, d, _, 0, _, rfl, rfl, SqT.of hd, atI_nat rfl, rfl, _, rfl, dT rfl ?_⟩
      exact ⟨_, rfl, p, _, _, rfl, hp.ob, hF_no (by decide +kernel), _, rfl, d, _, 1, _, rfl, rfl, SqT.of hd, atI_nat rfl, _, rfl, d, _, 2, _, rfl, rfl, SqT.of hd, atI_nat rfl, _, rfl, d, _, 3, _, rfl, rfl, SqT.of hd, atI_nat rfl, m, p, z, a, b, i, rfl, ha, hb, hp, w, k.up, ke.up⟩
    | copy a b ha hb =>
      refine ⟨_, rfl, d, _, 0, _, rfl, rfl, SqT.of hd, atI_nat rfl, rfl, _, rfl, dF (by decide +kernel) ?_⟩
      refine ⟨_, rfl, d, _, 0, _, rfl, rfl, SqT.of hd, atI_nat rfl, rfl, _, rfl, dF (by decide +kernel) ?_⟩
      refine ⟨_, rfl, d, _, 0, _, rfl, rfl, SqT.of hd, atI_nat rfl, rfl, _, rfl, dF (by decide +kernel) ?_⟩
      refine ⟨_, rfl, d, _, 0, _, rfl, rfl, SqT.of hd, atI_nat rfl, rfl, _, rfl, dT rfl ?_⟩
      exact ⟨_, rfl, p, _, _, rfl, hp.ob, hF_no (by decide +kernel), _, rfl, d, _, 1, _, rfl, rfl, SqT.of hd, atI_nat rfl, _, rfl, d, _, 2, _, rfl, rfl, SqT.of hd, atI_nat rfl, m, p, z, a, b, rfl, ha, hb, hp, w, k.up⟩
    | drop a ha =>
      refine ⟨_, rfl, d, _, 0, _, rfl, rfl, SqT.of hd, atI_nat rfl, rfl, _, rfl, dF (by decide +kernel) ?_⟩
      refine ⟨_, rfl, d, _, 0, _, rfl, rfl, SqT.of hd, atI_nat rfl, rfl, _, rfl, dF (by decide +kernel) ?_⟩
      refine ⟨_, rfl, d, _, 0, _, rfl, rfl, SqT.of hd, atI_nat rfl, rfl, _, rfl, dF (by decide +kernel) ?_⟩
      refine ⟨_, rfl, d, _, 0, _, rfl, rfl, SqT.of hd, atI_nat rfl, rfl, _, rfl, dF (by decide +kernel) ?_⟩
      refine ⟨_, rfl, d, _, 0, _, rfl, rfl, SqT.of hd, atI_nat rfl, rfl, _, rfl, dT rfl ?_⟩
      exact ⟨_, rfl, p, _, _, rfl, hp.ob, hF_no (by decide +kernel), _, rfl, d, _, 1, _, rfl, rfl, SqT.of hd, atI_nat rfl, m, p, z, a, rfl, ha, hp, w, k.up⟩
    | number a x ha hx =>
      refine ⟨_, rfl, d, _, 0, _, rfl, rfl, SqT.of hd, atI_nat rfl, rfl, _, rfl, dF (by decide +kernel) ?_⟩
      refine ⟨_, rfl, d, _, 0, _, rfl, rfl, SqT.of hd, atI_nat rfl, rfl, _, rfl, dF (by decide +kernel) ?_⟩
      refine ⟨_, rfl, d, _, 0, _, rfl, rfl, SqT.of hd, atI_nat rfl, rfl, _, rfl, dF (by decide +kernel) ?_⟩
      refine ⟨_, rfl, d, _, 0, _, rfl, rfl, SqT.of hd, atI_nat rfl, rfl, _, rfl, dF (by decide +kernel) ?_⟩
      refine ⟨_, rfl, d, _, 0, _, rfl, rfl, SqT.of hd, atI_nat rfl, rfl, _, rfl, dF (by decide +kernel) ?_⟩
      refine ⟨_, rfl, d, _, 0, _, rfl, rfl, SqT.of hd, atI_nat rfl, rfl, _, rfl, dT rfl ?_⟩
      exact ⟨_, rfl, p, _, _, rfl, hp.ob, hF_no (by decide +kernel), _, rfl, d, _, 1, _, rfl, rfl, SqT.of hd, atI_nat rfl, _, rfl, d, _, 2, _, rfl, rfl, SqT.of hd, atI_nat rfl, m, p, z, a, x, rfl, ha, hx, hp, w, k.up⟩
    | name b a hb ha =>
      refine ⟨_, rfl, d, _, 0, _, rfl, rfl, SqT.of hd, atI_nat rfl, rfl, _, rfl, dF (by decide +kernel) ?_⟩
      refine ⟨_, rfl, d, _, 0, _, rfl, rfl, SqT.of hd, atI_nat rfl, rfl, _, rfl, dF (by decide +kernel) ?_⟩
      refine ⟨_, rfl, d, _, 0, _, rfl, rfl, SqT.of hd, atI_nat rfl, rfl, _, rfl, dF (by decide +kernel) ?_⟩
      refine ⟨_, rfl, d, _, 0, _, rfl, rfl, SqT.of hd, atI_nat rfl, rfl, _, rfl, dF (by decide +kernel) ?_⟩
      refine ⟨_, rfl, d, _, 0, _, rfl, rfl, SqT.of hd, atI_nat rfl, rfl, _, rfl, dF (by decide +kernel) ?_⟩
      refine ⟨_, rfl, d, _, 0, _, rfl, rfl, SqT.of hd, atI_nat rfl, rfl, _, rfl, dF (by decide +kernel) ?_⟩
      refine ⟨_, rfl, d, _, 0, _, rfl, rfl, SqT.of hd, atI_nat rfl, rfl, _, rfl, dT rfl ?_⟩
      exact ⟨_, rfl, p, _, _, rfl, hp.ob, hF_no (by decide +kernel), _, rfl, d, _, 1, _, rfl, rfl, SqT.of hd, atI_nat rfl, _, rfl, d, _, 2, _, rfl, rfl, SqT.of hd, atI_nat rfl, m, p, z, b, a, rfl, hb, ha, hp, w, k.up, ke.up⟩
    | read a b ha hb =>
      refine ⟨_, rfl, d, _, 0, _, rfl, rfl, SqT.of hd, atI_nat rfl, rfl, _, rfl, dF (by decide +kernel) ?_⟩
      refine ⟨_, rfl, d, _, 0, _, rfl, rfl, SqT.of hd, atI_nat rfl, rfl, _, rfl, dF (by decide +kernel) ?_⟩
      refine ⟨_, rfl, d, _, 0, _, rfl, rfl, SqT.of hd, atI_nat rfl, rfl, _, rfl, dF (by decide +kernel) ?_⟩
      refine ⟨_, rfl, d, _, 0, _, rfl, rfl, SqT.of hd, atI_nat rfl, rfl, _, rfl, dF (by decide +kernel) ?_⟩
      refine ⟨_, rfl, d, _, 0, _, rfl, rfl, SqT.of hd, atI_nat rfl, rfl, _, rfl, dF (by decide +kernel) ?_⟩
      refine ⟨_, rfl, d, _, 0, _, rfl, rfl, SqT.of hd, atI_nat rfl, rfl, _, rfl, dF (by decide +kernel) ?_⟩
      refine ⟨_, rfl, d, _, 0, _, rfl, rfl, SqT.of hd, atI_nat rfl, rfl, _, rfl, dF (by decide +kernel) ?_⟩
      refine ⟨_, rfl, d, _, 0, _, rfl, rfl, SqT.of hd, atI_nat rfl, rfl, _, rfl, dT rfl ?_⟩
      exact ⟨_, rfl, p, _, _, rfl, hp.ob, hF_no (by decide +kernel), _, rfl, d, _, 1, _, rfl, rfl, SqT.of hd, atI_nat rfl, _, rfl, d, _, 2, _, rfl, rfl, SqT.of hd, atI_nat rfl, m, p, z, a, b, rfl, ha, hb, hp, w, k.up⟩
    | word a x ha hx =>
      refine ⟨_, rfl, d, _, 0, _, rfl, rfl, SqT.of hd, atI_nat rfl, rfl, _, rfl, dF (by decide +kernel) ?_⟩
      refine ⟨_, rfl, d, _, 0, _, rfl, rfl, SqT.of hd, atI_nat rfl, rfl, _, rfl, dF (by decide +kernel) ?_⟩
      refine ⟨_, rfl, d, _, 0, _, rfl, rfl, SqT.of hd, atI_nat rfl, rfl, _, rfl, dF (by decide +kernel) ?_⟩
      refine ⟨_, rfl, d, _, 0, _, rfl, rfl, SqT.of hd, atI_nat rfl, rfl, _, rfl, dF (by decide +kernel) ?_⟩
      refine ⟨_, rfl, d, _, 0, _, rfl, rfl, SqT.of hd, atI_nat rfl, rfl, _, rfl, dF (by decide +kernel) ?_⟩
      refine ⟨_, rfl, d, _, 0, _, rfl, rfl, SqT.of hd, atI_nat rfl, rfl, _, rfl, dF (by decide +kernel) ?_⟩
      refine ⟨_, rfl, d, _, 0, _, rfl, rfl, SqT.of hd, atI_nat rfl, rfl, _, rfl, dF (by decide +kernel) ?_⟩
      refine ⟨_, rfl, d, _, 0, _, rfl, rfl, SqT.of hd, atI_nat rfl, rfl, _, rfl, dF (by decide +kernel) ?_⟩
      refine ⟨_, rfl, d, _, 0, _, rfl, rfl, SqT.of hd, atI_nat rfl, rfl, _, rfl, dT rfl ?_⟩
      exact ⟨_, rfl, p, _, _, rfl, hp.ob, hF_no (by decide +kernel), _, rfl, d, _, 1, _, rfl, rfl, SqT.of hd, atI_nat rfl, _, rfl, d, _, 2, _, rfl, rfl, SqT.of hd, atI_nat rfl, m, p, z, a, x, rfl, ha, hx, hp, w, k.up, ke.up⟩
    | small  =>
      refine ⟨_, rfl, d, _, 0, _, rfl, rfl, SqT.of hd, atI_nat rfl, rfl, _, rfl, dF (by decide +kernel) ?_⟩
      refine ⟨_, rfl, d, _, 0, _, rfl, rfl, SqT.of hd, atI_nat rfl, rfl, _, rfl, dF (by decide +kernel) ?_⟩
      refine ⟨_, rfl, d, _, 0, _, rfl, rfl, SqT.of hd, atI_nat rfl, rfl, _, rfl, dF (by decide +kernel) ?_⟩
      refine ⟨_, rfl, d, _, 0, _, rfl, rfl, SqT.of hd, atI_nat rfl, rfl, _, rfl, dF (by decide +kernel) ?_⟩
      refine ⟨_, rfl, d, _, 0, _, rfl, rfl, SqT.of hd, atI_nat rfl, rfl, _, rfl, dF (by decide +kernel) ?_⟩
      refine ⟨_, rfl, d, _, 0, _, rfl, rfl, SqT.of hd, atI_nat rfl, rfl, _, rfl, dF (by decide +kernel) ?_⟩
      refine ⟨_, rfl, d, _, 0, _, rfl, rfl, SqT.of hd, atI_nat rfl, rfl, _, rfl, dF (by decide +kernel) ?_⟩
      refine ⟨_, rfl, d, _, 0, _, rfl, rfl, SqT.of hd, atI_nat rfl, rfl, _, rfl, dF (by decide +kernel) ?_⟩
      refine ⟨_, rfl, d, _, 0, _, rfl, rfl, SqT.of hd, atI_nat rfl, rfl, _, rfl, dF (by decide +kernel) ?_⟩
      refine ⟨_, rfl, d, _, 0, _, rfl, rfl, SqT.of hd, atI_nat rfl, rfl, _, rfl, dT rfl ?_⟩
      exact ⟨_, rfl, p, _, _, rfl, hp.ob, hF_no (by decide +kernel), m, p, z, rfl, hp, w, Nat.le_trans hm (by decide), fun H' s' a b c e => k.up H' s' a b e⟩
    | turn  =>
      refine ⟨_, rfl, d, _, 0, _, rfl, rfl, SqT.of hd, atI_nat rfl, rfl, _, rfl, dF (by decide +kernel) ?_⟩
      refine ⟨_, rfl, d, _, 0, _, rfl, rfl, SqT.of hd, atI_nat rfl, rfl, _, rfl, dF (by decide +kernel) ?_⟩
      refine ⟨_, rfl, d, _, 0, _, rfl, rfl, SqT.of hd, atI_nat rfl, rfl, _, rfl, dF (by decide +kernel) ?_⟩
      refine ⟨_, rfl, d, _, 0, _, rfl, rfl, SqT.of hd, atI_nat rfl, rfl, _, rfl, dF (by decide +kernel) ?_⟩
      refine ⟨_, rfl, d, _, 0, _, rfl, rfl, SqT.of hd, atI_nat rfl, rfl, _, rfl, dF (by decide +kernel) ?_⟩
      refine ⟨_, rfl, d, _, 0, _, rfl, rfl, SqT.of hd, atI_nat rfl, rfl, _, rfl, dF (by decide +kernel) ?_⟩
      refine ⟨_, rfl, d, _, 0, _, rfl, rfl, SqT.of hd, atI_nat rfl, rfl, _, rfl, dF (by decide +kernel) ?_⟩
      refine ⟨_, rfl, d, _, 0, _, rfl, rfl, SqT.of hd, atI_nat rfl, rfl, _, rfl, dF (by decide +kernel) ?_⟩
      refine ⟨_, rfl, d, _, 0, _, rfl, rfl, SqT.of hd, atI_nat rfl, rfl, _, rfl, dF (by decide +kernel) ?_⟩
      refine ⟨_, rfl, d, _, 0, _, rfl, rfl, SqT.of hd, atI_nat rfl, rfl, _, rfl, dF (by decide +kernel) ?_⟩
      refine ⟨_, rfl, p, _, _, rfl, hp.ob, hF_no (by decide +kernel), p, z, rfl, hp, _, rfl, ?_⟩
      cases eg : z.g with
      | none => exact ifF rfl ⟨_, rfl, p, _, _, rfl, hp.ob, hF_no (by decide +kernel), m, p, z, rfl, hp, w, Nat.le_trans hm (by decide), eg, fun H' s' _ _ a b _ _ e => k.up H' s' a b e⟩
      | some dg => exact ifT rfl ⟨_, rfl, p, _, _, rfl, hp.ob, hF_no (by decide +kernel), m, p, z, dg.1, dg.2, rfl, hp, w, Nat.le_trans hm (by decide), eg, fun H' s' a b _ _ _ e => k.up H' s' a b e⟩
theorem says_BadHand {K : PySem.W.Frag} {mg : Str → Option Value} (T : Tx K mg) : Says K am_BadHand_called "called" "BadHand" := by
  obtain ⟨fd, F⟩ := T.D_m_BadHand_called
  exact ⟨_, _, _, _, _, _, fd, F, ⟨rfl, rfl, rfl⟩, fun _ _ _ _ _ _ us hl => (match us, hl with | [_], _ => rfl), by decide +kernel⟩
theorem says_BadField {K : PySem.W.Frag} {mg : Str → Option Value} (T : Tx K mg) : Says K am_BadField_called "called" "BadField" := by
  obtain ⟨fd, F⟩ := T.D_m_BadField_called
  exact ⟨_, _, _, _, _, _, fd, F, ⟨rfl, rfl, rfl⟩, fun _ _ _ _ _ _ us hl => (match us, hl with | [_], _ => rfl), by decide +kernel⟩
theorem says_NoRoom {K : PySem.W.Frag} {mg : Str → Option Value} (T : Tx K mg) : Says K am_NoRoom_called "called" "NoRoom" := by
  obtain ⟨fd, F⟩ := T.D_m_NoRoom_called
  exact ⟨_, _, _, _, _, _, fd, F, ⟨rfl, rfl, rfl⟩, fun _ _ _ _ _ _ us hl => (match us, hl with | [_], _ => rfl), by decide +kernel⟩
theorem says_TooManyWords {K : PySem.W.Frag} {mg : Str → Option Value} (T : Tx K mg) : Says K am_TooManyWords_called "called" "TooManyWords" := by
  obtain ⟨fd, F⟩ := T.D_m_TooManyWords_called
  exact ⟨_, _, _, _, _, _, fd, F, ⟨rfl, rfl, rfl⟩, fun _ _ _ _ _ _ us hl => (match us, hl with | [_], _ => rfl), by decide +kernel⟩
def sp_law_done : Sp := fun vs H Q _ => ∃ (m : Nat) (p d : Addr) (s : HS) (xs : List V), vs = [.ref p, .ref d] ∧ H d = some (.tup xs) ∧ Deed xs ∧ HeapAt H p s ∧ WF m s ∧ m ≤ 999 ∧
  ∀ (v : V) (H' : Hp) (s' : HS), HeapAt H' p s' → WF (m + 1) s' → Ext p s s' H H' → Q v H'
theorem scf__law_done : FnScope ["hall", "deed", "word", "e"] ["hall", "deed"] (defScope sf__law_done) := ⟨rfl, rfl, rfl, by decide +kernel, rfl, by decide +kernel, by decide +kernel⟩
theorem ok_f__law_done {P : Program} {w : World} {K : PySem.W.Frag} {mg : Str → Option Value} {base : Heap} (T : Tx K mg) : Def P w K mg base CX0 9 af__law_done ["hall", "deed"] sp_law_done := by
  refine mk0 T.D_f__law_done scf__law_done (fun _ _ _ _ _ _ us hl => match us, hl with | [_, _], _ => rfl) (fun vs H Q E h => ?_) (fun cdv A outer s H vs Q E hr h => ?_)
  · first | (obtain ⟨_, rfl, _⟩ := h; rfl) | (obtain ⟨_, _, rfl, _⟩ := h; rfl) | (obtain ⟨_, _, _, rfl, _⟩ := h; rfl) | (obtain ⟨_, _, _, _, rfl, _⟩ := h; rfl) | (obtain ⟨_, _, _, _, _, rfl, _⟩ := h; rfl) | (obtain ⟨_, _, _, _, _, _, rfl, _⟩ := h; rfl) | (obtain ⟨_, _, _, _, _, _, _, rfl, _⟩ := h; rfl) | (obtain ⟨_, _, _, _, _, _, _, _, rfl, _⟩ := h; rfl)
  · have hu := hu_of hr
    refine ⟨_, (pss_cons (ps_set (i := 2) scf__law_done.nd rfl (by first | exact Or.inl rfl | exact Or.inr rfl) pe_non)
      (pss_cons (ps_try_as (i := 3) rfl rfl scf__law_done.nd rfl rfl ⟨rfl, by decide, .inl T.gcHeapError⟩ takes0
      (fun W pn xe tk _ => (pss_one (ps_expr (c_callS (ok_f__law_plain T) (hr.mono (by decide)) T.gf__law_plain (fun σ => passAt tk σ) (pa_cons (pv 0) (pa_cons (pv 1) pa_nil))))))
      (fun a oe cls d pn hz hf => (pss_one (ps_set (i := 2) scf__law_done.nd rfl (by first | exact Or.inl rfl | exact Or.inr rfl) (pe_said hr hz hf (pv 3))))))
      (pss_one (ps_ret (pv 2))))), ?_⟩
    obtain ⟨m, p, d, z, xs, rfl, hd, dd, hp, w, hm, k⟩ := h
    refine ⟨_, rfl, _, rfl, ?_⟩
    refine ⟨m, p, d, z, xs, rfl, hd, dd, hp, w, hm, fun H' s' a b e => ⟨_, rfl, k _ _ _ a b e⟩, fun C H' s' ec a b e => ?_⟩
    rcases ec with rfl | rfl | rfl | rfl
    · exact ⟨true, T.xmBadHand, fun _ x hx => ⟨_, rfl, rfl, rfl, cBadHand, am_BadHand_called, "BadHand", rfl, T.xBadHand, T.mBadHand_called, says_BadHand T, _, rfl, k _ _ _ a b e⟩, fun q => nomatch q⟩
    · exact ⟨true, T.xmBadField, fun _ x hx => ⟨_, rfl, rfl, rfl, cBadField, am_BadField_called, "BadField", rfl, T.xBadField, T.mBadField_called, says_BadField T, _, rfl, k _ _ _ a b e⟩, fun q => nomatch q⟩
    · exact ⟨true, T.xmNoRoom, fun _ x hx => ⟨_, rfl, rfl, rfl, cNoRoom, am_NoRoom_called, "NoRoom", rfl, T.xNoRoom, T.mNoRoom_called, says_NoRoom T, _, rfl, k _ _ _ a b e⟩, fun q => nomatch q⟩
    · exact ⟨true, T.xmTooManyWords, fun _ x hx => ⟨_, rfl, rfl, rfl, cTooManyWords, am_TooManyWords_called, "TooManyWords", rfl, T.xTooManyWords, T.mTooManyWords_called, says_TooManyWords T, _, rfl, k _ _ _ a b e⟩, fun q => nomatch q⟩
end SH
/-! Words, and a memory of them. -/
namespace SH
open PySem PySem.Spec PyProof.Rows L2
inductive Wd where
  | non | num (i : Int) | at (a : Nat) | head (t : Int) (n : Nat) | moved (a n : Nat)
def RW (H : Hp) : V → Wd → Prop
  | .non, .non => True
  | .ref q, .num i => H q = some (.tup [.str "number", .int i])
  | .ref q, .at a => H q = some (.tup [.str "at", .int (a : Nat)])
  | .ref q, .head t n => H q = some (.tup [.str "head", .int t, .int (n : Nat)])
  | .ref q, .moved a n => H q = some (.tup [.str "moved", .int (a : Nat), .int (n : Nat)])
  | _, _ => False
theorem RW.tu {H H' : Hp} (s : Tu H H') {v : V} {x : Wd} (r : RW H v x) : RW H' v x := by
  cases x <;> cases v <;> first | exact r | exact s _ _ r | exact r.elim
theorem RW.non {H : Hp} {v : V} (r : RW H v .non) : v = .non := by
  cases v <;> first | rfl | exact False.elim r
theorem RW.num {H : Hp} {v : V} {i : Int} (r : RW H v (.num i)) : ∃ q, v = .ref q ∧ H q = some (.tup [.str "number", .int i]) := by
  cases v <;> first | exact ⟨_, rfl, r⟩ | exact False.elim r
theorem RW.at {H : Hp} {v : V} {a : Nat} (r : RW H v (.at a)) : ∃ q, v = .ref q ∧ H q = some (.tup [.str "at", .int (a : Nat)]) := by
  cases v <;> first | exact ⟨_, rfl, r⟩ | exact False.elim r
theorem RW.head {H : Hp} {v : V} {t : Int} {n : Nat} (r : RW H v (.head t n)) : ∃ q, v = .ref q ∧ H q = some (.tup [.str "head", .int t, .int (n : Nat)]) := by
  cases v <;> first | exact ⟨_, rfl, r⟩ | exact False.elim r
/-- one object may change, no tuple -/
structure Chg (a : Addr) (H H' : Hp) : Prop where
  keep : ∀ b o, b ≠ a → H b = some o → H' b = some o
  tu : Tu H H'
theorem Chg.refl {a : Addr} {H : Hp} : Chg a H H := ⟨fun _ _ _ e => e, .refl H⟩
theorem Chg.trans {a : Addr} {H H1 H2 : Hp} (x : Chg a H H1) (y : Chg a H1 H2) : Chg a H H2 := ⟨fun b o n e => y.keep b o n (x.keep b o n e), x.tu.trans y.tu⟩
theorem Chg.same {a : Addr} {H H' : Hp} (s : Same H H') : Chg a H H' := ⟨fun b o _ e => s b o e, tu_same s⟩
theorem Chg.upd {a : Addr} {H : Hp} {o u : HO} (h : H a = some o) (hn : ∀ xs, o ≠ .tup xs) : Chg a H (upd H a u) := ⟨fun b o n e => (upd_ne n).trans e, tu_upd h hn⟩
theorem Chg.free {a : Addr} {H H' : Hp} (x : Chg a H H') {b : Addr} (n : b ≠ a) (e : H' b = none) : H b = none := by
  cases e2 : H b with
  | none => rfl
  | some o =>
    rw [x.keep b o n e2] at e
    cases e
structure Mem where
  dx : Addr
  wl : Addr
  vs : List V
  f : Nat → Wd
def mF (wl : Addr) : List (Str × V) := [("words", .ref wl)]
theorem mF_words {wl : Addr} : (mF wl).lookup ("words" : Str) = some (V.ref wl) := by kernel_rfl
theorem mF_no {wl : Addr} {m : Str} (h : ([("words" : Str)].contains m) = false) : (mF wl).lookup m = none := by
  unfold mF
  rw [List.lookup_cons]
  rw [List.contains_cons, Bool.or_eq_false_iff] at h
  rw [h.1]
  rfl
structure MemAt (H : Hp) (p : Addr) (M : Mem) : Prop where
  ob : H p = some (.ins cMemory M.dx (mF M.wl))
  wl : H M.wl = some (.lst M.vs)
  r : ∀ i v, M.vs[i]? = some v → RW H v (M.f i)
  z : M.vs.length ≤ 1000
section
variable {H H' : Hp} {p : Addr} {M : Mem}
theorem MemAt.ne (h : MemAt H p M) : p ≠ M.wl := fun e => by
  have q := h.ob
  rw [e, h.wl] at q
  cases q
theorem MemAt.same (s : Same H H') (h : MemAt H p M) : MemAt H' p M := ⟨s _ _ h.ob, s _ _ h.wl, fun i v e => (h.r i v e).tu (tu_same s), h.z⟩
theorem MemAt.chg {a : Addr} (s : Chg a H H') (h : MemAt H p M) (n1 : p ≠ a) (n2 : M.wl ≠ a) : MemAt H' p M := ⟨s.keep _ _ n1 h.ob, s.keep _ _ n2 h.wl, fun i v e => (h.r i v e).tu s.tu, h.z⟩
/-- a memory with one word put -/
def Mem.put (M : Mem) (i : Nat) (v : V) (x : Wd) : Mem := { M with vs := M.vs.set i v, f := fun j => if j = i then x else M.f j }
theorem MemAt.chgd (h : MemAt H p M) {u : HO} : Chg M.wl H (upd H M.wl u) := .upd h.wl fun xs e => by cases e
theorem MemAt.put (h : MemAt H p M) {i : Nat} {v : V} {x : Wd} (r : RW H v x) : MemAt (upd H M.wl (.lst (M.vs.set i v))) p (M.put i v x) := by
  have tu := (h.chgd (u := .lst (M.vs.set i v))).tu
  refine ⟨(upd_ne h.ne).trans h.ob, upd_same, fun j w e => ?_, by show (M.vs.set i v).length ≤ 1000; rw [List.length_set]; exact h.z⟩
  have e2 : (M.vs.set i v)[j]? = some w := e
  show RW _ w (if j = i then x else M.f j)
  by_cases q : j = i
  · rw [if_pos q]
    rw [q, List.getElem?_set_self'] at e2
    cases e3 : M.vs[i]? with
    | none => rw [e3] at e2; cases e2
    | some y =>
      rw [e3] at e2
      cases e2
      exact r.tu tu
  · rw [if_neg q]
    rw [List.getElem?_set_ne (Ne.symm q)] at e2
    exact (h.r j w e2).tu tu
theorem Mem.put_len {i : Nat} {v : V} {x : Wd} : (M.put i v x).vs.length = M.vs.length := List.length_set
end
theorem flat_rep : ∀ n : Nat, (List.replicate n [V.non]).flatten = List.replicate n .non
  | 0 => rfl
  | n + 1 => by
    rw [List.replicate_succ, List.flatten_cons, flat_rep n, List.replicate_succ]
    rfl
def sp_mem_init : Sp := fun vs H Q _ => ∃ (p dx : Addr) (n : Nat), vs = [.ref p, .int n] ∧ n ≤ 1000 ∧ H p = some (.ins cMemory dx []) ∧
  ∀ (H' : Hp) (M : Mem), MemAt H' p M → M.vs.length = n → H M.wl = none → SB p H H' → Q .non H'
theorem scm_Memory_init : FnScope ["self", "size"] ["self", "size"] (defScope sm_Memory_init) := ⟨rfl, rfl, rfl, by decide +kernel, rfl, by decide +kernel, by decide +kernel⟩
theorem ok_m_Memory_init {P : Program} {w : World} {K : PySem.W.Frag} {mg : Str → Option Value} {base : Heap} (T : Tx K mg) : Def P w K mg base CX0 1 am_Memory_init ["self", "size"] sp_mem_init := by
  refine mk0 T.D_m_Memory_init scm_Memory_init (fun _ _ _ _ _ _ us hl => match us, hl with | [_, _], _ => rfl) (fun vs H Q E h => ?_) (fun cdv A outer s H vs Q E hr h => ?_)
  · first | (obtain ⟨_, rfl, _⟩ := h; rfl) | (obtain ⟨_, _, rfl, _⟩ := h; rfl) | (obtain ⟨_, _, _, rfl, _⟩ := h; rfl) | (obtain ⟨_, _, _, _, rfl, _⟩ := h; rfl) | (obtain ⟨_, _, _, _, _, rfl, _⟩ := h; rfl) | (obtain ⟨_, _, _, _, _, _, rfl, _⟩ := h; rfl) | (obtain ⟨_, _, _, _, _, _, _, rfl, _⟩ := h; rfl) | (obtain ⟨_, _, _, _, _, _, _, _, rfl, _⟩ := h; rfl)
  · have hu := hu_of hr
    refine ⟨_, (pss_one (ps_fld (pv 0) (pe_op op_rep (pe_lst (pa_cons pe_non pa_nil)) (pv 1)) rfl)), ?_⟩
    obtain ⟨p, dx, n, rfl, hn, hp, k⟩ := h
    refine ⟨lit 1 (by decide), fun l hl => ⟨_, rfl, l, n, [.non], rfl, rfl, upd_same, by omega, by omega, lit _ (by rw [List.length_singleton, Int.toNat_natCast]; omega), fun w hw => ?_⟩⟩
    have nw : w ≠ l := fun e => by rw [e, upd_same] at hw; cases hw
    rw [upd_ne nw] at hw
    have nl : p ≠ l := ne_of_none hp hl
    have np : p ≠ w := ne_of_none hp hw
    refine ⟨_, rfl, p, _, dx, _, rfl, (by rw [upd_ne np, upd_ne nl]; exact hp), T.clMemory, T.nMemory_words, by decide, ?_⟩
    refine k _ ⟨dx, w, List.replicate n .non, fun _ => .non⟩ ⟨upd_same, ?_, fun i v e => ?_, by rw [List.length_replicate]; exact hn⟩ List.length_replicate hw fun c o h e => ?_
    · rw [upd_ne np.symm, upd_same]
      rw [Int.toNat_natCast, flat_rep]
    · have := List.getElem?_replicate (a := V.non) (n := n) (i := i)
      rw [show (List.replicate n V.non)[i]? = some v from e] at this
      by_cases q : i < n
      · rw [if_pos q] at this
        cases this
        trivial
      · rw [if_neg q] at this
        cases this
    · rw [upd_ne h, upd_ne (ne_of_none e hw), upd_ne (ne_of_none e hl)]
      exact e
def sp_mem_size : Sp := fun vs H Q _ => ∃ (p : Addr) (M : Mem), vs = [.ref p] ∧ MemAt H p M ∧ Q (.int (M.vs.length : Nat)) H
theorem scm_Memory_size : FnScope ["self"] ["self"] (defScope sm_Memory_size) := ⟨rfl, rfl, rfl, by decide +kernel, rfl, by decide +kernel, by decide +kernel⟩
theorem ok_m_Memory_size {P : Program} {w : World} {K : PySem.W.Frag} {mg : Str → Option Value} {base : Heap} (T : Tx K mg) : Def P w K mg base CX0 1 am_Memory_size ["self"] sp_mem_size := by
  refine mk0 T.D_m_Memory_size scm_Memory_size (fun _ _ _ _ _ _ us hl => match us, hl with | [_], _ => rfl) (fun vs H Q E h => ?_) (fun cdv A outer s H vs Q E hr h => ?_)
  · first | (obtain ⟨_, rfl, _⟩ := h; rfl) | (obtain ⟨_, _, rfl, _⟩ := h; rfl) | (obtain ⟨_, _, _, rfl, _⟩ := h; rfl) | (obtain ⟨_, _, _, _, rfl, _⟩ := h; rfl) | (obtain ⟨_, _, _, _, _, rfl, _⟩ := h; rfl) | (obtain ⟨_, _, _, _, _, _, rfl, _⟩ := h; rfl) | (obtain ⟨_, _, _, _, _, _, _, rfl, _⟩ := h; rfl) | (obtain ⟨_, _, _, _, _, _, _, _, rfl, _⟩ := h; rfl)
  · have hu := hu_of hr
    refine ⟨_, (pss_one (ps_ret (pe_callB (r := rLenQ K) (call_lenQ rfl) (by rfl) T.zlen PySem.boot_len (pa_cons (pe_fldK (K := K) rfl (pv 0) rfl) pa_nil)))), ?_⟩
    obtain ⟨p, M, rfl, hm, k⟩ := h
    exact ⟨_, rfl, p, _, _, _, _, rfl, hm.ob, T.clMemory, T.nMemory_words, mF_words, _, _, rfl, .inl (SqL.of hm.wl), k⟩
def sp_mem_look : Sp := fun vs H Q _ => ∃ (p : Addr) (M : Mem) (i : Int) (n : Nat), vs = [.ref p, .int i] ∧ i = (n : Int) ∧ n < M.vs.length ∧ MemAt H p M ∧ Q .non H
theorem scm_Memory_look_at : FnScope ["self", "a"] ["self", "a"] (defScope sm_Memory_look_at) := ⟨rfl, rfl, rfl, by decide +kernel, rfl, by decide +kernel, by decide +kernel⟩
theorem ok_m_Memory_look_at {P : Program} {w : World} {K : PySem.W.Frag} {mg : Str → Option Value} {base : Heap} (T : Tx K mg) : Def P w K mg base CX0 1 am_Memory_look_at ["self", "a"] sp_mem_look := by
  refine mk0 T.D_m_Memory_look_at scm_Memory_look_at (fun _ _ _ _ _ _ us hl => match us, hl with | [_, _], _ => rfl) (fun vs H Q E h => ?_) (fun cdv A outer s H vs Q E hr h => ?_)
  · first | (obtain ⟨_, rfl, _⟩ := h; rfl) | (obtain ⟨_, _, rfl, _⟩ := h; rfl) | (obtain ⟨_, _, _, rfl, _⟩ := h; rfl) | (obtain ⟨_, _, _, _, rfl, _⟩ := h; rfl) | (obtain ⟨_, _, _, _, _, rfl, _⟩ := h; rfl) | (obtain ⟨_, _, _, _, _, _, rfl, _⟩ := h; rfl) | (obtain ⟨_, _, _, _, _, _, _, rfl, _⟩ := h; rfl) | (obtain ⟨_, _, _, _, _, _, _, _, rfl, _⟩ := h; rfl)
  · have hu := hu_of hr
    refine ⟨_, (pss_one (ps_if (PW.pt (pw_or (pt_cmpR op_lt (pv 1) pe_int (nomark _)) (pw_or1 (pt_cmpR op_ge (pv 1) (pe_callB (r := rLenQ K) (call_lenQ rfl) (by rfl) T.zlen PySem.boot_len (pa_cons (pe_fldK (K := K) rfl (pv 0) rfl) pa_nil)) (nomark _))))) (pss_one ps_never) pss_nil)), ?_⟩
    obtain ⟨p, M, i, n, rfl, ei, hn, hm, k⟩ := h
    refine ⟨_, rfl, _, _, rfl, rfl, _, rfl, dF (show ¬ i < 0 by omega) ?_⟩
    refine ⟨_, rfl, _, rfl, p, _, _, _, _, rfl, hm.ob, T.clMemory, T.nMemory_words, mF_words, _, _, rfl, .inl (SqL.of hm.wl), _, _, rfl, rfl, _, rfl, dF (show ¬ (M.vs.length : Int) ≤ i by omega) k⟩
def sp_mem_at : Sp := fun vs H Q _ => ∃ (p : Addr) (M : Mem) (i : Int) (n : Nat) (v : V), vs = [.ref p, .int i] ∧ i = (n : Int) ∧ M.vs[n]? = some v ∧ MemAt H p M ∧ Q v H
theorem scm_Memory_at : FnScope ["self", "a"] ["self", "a"] (defScope sm_Memory_at) := ⟨rfl, rfl, rfl, by decide +kernel, rfl, by decide +kernel, by decide +kernel⟩
theorem ok_m_Memory_at {P : Program} {w : World} {K : PySem.W.Frag} {mg : Str → Option Value} {base : Heap} (T : Tx K mg) : Def P w K mg base CX0 2 am_Memory_at ["self", "a"] sp_mem_at := by
  refine mk0 T.D_m_Memory_at scm_Memory_at (fun _ _ _ _ _ _ us hl => match us, hl with | [_, _], _ => rfl) (fun vs H Q E h => ?_) (fun cdv A outer s H vs Q E hr h => ?_)
  · first | (obtain ⟨_, rfl, _⟩ := h; rfl) | (obtain ⟨_, _, rfl, _⟩ := h; rfl) | (obtain ⟨_, _, _, rfl, _⟩ := h; rfl) | (obtain ⟨_, _, _, _, rfl, _⟩ := h; rfl) | (obtain ⟨_, _, _, _, _, rfl, _⟩ := h; rfl) | (obtain ⟨_, _, _, _, _, _, rfl, _⟩ := h; rfl) | (obtain ⟨_, _, _, _, _, _, _, rfl, _⟩ := h; rfl) | (obtain ⟨_, _, _, _, _, _, _, _, rfl, _⟩ := h; rfl)
  · have hu := hu_of hr
    refine ⟨_, (pss_cons (ps_expr (c_meth (ok_m_Memory_look_at T) (hr.mono (by decide)) T.clMemory T.mMemory_look_at pass0 (pv 0) (pa_cons (pv 1) pa_nil)))
      (pss_one (ps_ret (pe_ix (r := rIxL K) (ix_listK rfl) (pe_fldK (K := K) rfl (pv 0) rfl) (pv 1) (fun _ _ => rfl))))), ?_⟩
    obtain ⟨p, M, i, n, v, rfl, ei, hn, hm, k⟩ := h
    refine ⟨_, rfl, p, _, _, rfl, hm.ob, mF_no (by decide +kernel), _, rfl, p, M, i, n, rfl, ei, get_lt hn, hm, ?_⟩
    exact ⟨_, rfl, p, _, _, _, _, rfl, hm.ob, T.clMemory, T.nMemory_words, mF_words, _, rfl, M.wl, _, i, v, rfl, rfl, SqL.of hm.wl, at_of ei hn, k⟩
def sp_mem_put : Sp := fun vs H Q _ => ∃ (p : Addr) (M : Mem) (i : Int) (n : Nat) (v : V), vs = [.ref p, .int i, v] ∧ i = (n : Int) ∧ n < M.vs.length ∧ MemAt H p M ∧ Q .non (upd H M.wl (.lst (M.vs.set n v)))
theorem scm_Memory_put : FnScope ["self", "a", "word"] ["self", "a", "word"] (defScope sm_Memory_put) := ⟨rfl, rfl, rfl, by decide +kernel, rfl, by decide +kernel, by decide +kernel⟩
theorem ok_m_Memory_put {P : Program} {w : World} {K : PySem.W.Frag} {mg : Str → Option Value} {base : Heap} (T : Tx K mg) : Def P w K mg base CX0 2 am_Memory_put ["self", "a", "word"] sp_mem_put := by
  refine mk0 T.D_m_Memory_put scm_Memory_put (fun _ _ _ _ _ _ us hl => match us, hl with | [_, _, _], _ => rfl) (fun vs H Q E h => ?_) (fun cdv A outer s H vs Q E hr h => ?_)
  · first | (obtain ⟨_, rfl, _⟩ := h; rfl) | (obtain ⟨_, _, rfl, _⟩ := h; rfl) | (obtain ⟨_, _, _, rfl, _⟩ := h; rfl) | (obtain ⟨_, _, _, _, rfl, _⟩ := h; rfl) | (obtain ⟨_, _, _, _, _, rfl, _⟩ := h; rfl) | (obtain ⟨_, _, _, _, _, _, rfl, _⟩ := h; rfl) | (obtain ⟨_, _, _, _, _, _, _, rfl, _⟩ := h; rfl) | (obtain ⟨_, _, _, _, _, _, _, _, rfl, _⟩ := h; rfl)
  · have hu := hu_of hr
    refine ⟨_, (pss_cons (ps_expr (c_meth (ok_m_Memory_look_at T) (hr.mono (by decide)) T.clMemory T.mMemory_look_at pass0 (pv 0) (pa_cons (pv 1) pa_nil)))
      (pss_one (ps_asg (pv 2) (pg_sub (pe_fldK (K := K) rfl (pv 0) rfl) (pv 1) set_list)))), ?_⟩
    obtain ⟨p, M, i, n, v, rfl, ei, hn, hm, k⟩ := h
    refine ⟨_, rfl, p, _, _, rfl, hm.ob, mF_no (by decide +kernel), _, rfl, p, M, i, n, rfl, ei, hn, hm, ?_⟩
    refine ⟨_, rfl, _, rfl, p, _, _, _, _, rfl, hm.ob, T.clMemory, T.nMemory_words, mF_words, _, rfl, _, _, _, n, rfl, rfl, hm.wl, ?_, k⟩
    have := ixN_nn (n := M.vs.length) (i := i) (by omega) (by omega)
    rw [this, ei]
    rfl
end SH
/-! The defs on words and things in a memory. -/
namespace SH
open PySem PySem.Spec PyProof.Rows L2
def sp_is_word : Sp := fun vs H Q _ => ∃ (q : Addr) (a b : Str) (xs : List V), vs = [.ref q, .str b] ∧ H q = some (.tup (.str a :: xs)) ∧ Q (.bl (decide (V.str a = V.str b))) H
theorem scf_is_word : FnScope ["word", "kind"] ["word", "kind"] (defScope sf_is_word) := ⟨rfl, rfl, rfl, by decide +kernel, rfl, by decide +kernel, by decide +kernel⟩
theorem ok_f_is_word {P : Program} {w : World} {K : PySem.W.Frag} {mg : Str → Option Value} {base : Heap} (T : Tx K mg) : Def P w K mg base CX0 1 af_is_word ["word", "kind"] sp_is_word := by
  refine mk0 T.D_f_is_word scf_is_word (fun _ _ _ _ _ _ us hl => match us, hl with | [_, _], _ => rfl) (fun vs H Q E h => ?_) (fun cdv A outer s H vs Q E hr h => ?_)
  · first | (obtain ⟨_, rfl, _⟩ := h; rfl) | (obtain ⟨_, _, rfl, _⟩ := h; rfl) | (obtain ⟨_, _, _, rfl, _⟩ := h; rfl) | (obtain ⟨_, _, _, _, rfl, _⟩ := h; rfl) | (obtain ⟨_, _, _, _, _, rfl, _⟩ := h; rfl) | (obtain ⟨_, _, _, _, _, _, rfl, _⟩ := h; rfl) | (obtain ⟨_, _, _, _, _, _, _, rfl, _⟩ := h; rfl) | (obtain ⟨_, _, _, _, _, _, _, _, rfl, _⟩ := h; rfl)
  · have hu := hu_of hr
    refine ⟨_, (pss_one (ps_ret (pe_and (pe_cmpR op_notN (pv 0) pe_non (nomark _)) (pe_one (pe_cmpR op_eq (pe_ix (r := rIxT K) (ix_tupK rfl) (pv 0) pe_int (fun _ _ => rfl)) (pv 1) (nomark _)))))), ?_⟩
    obtain ⟨q, a, b, xs, rfl, hq, k⟩ := h
    exact ⟨_, rfl, rfl, _, rfl, nT (by nofun) ⟨_, rfl, q, _, 0, _, rfl, rfl, SqT.of hq, atI_nat (j := 0) rfl, _, rfl, rfl, k⟩⟩
def sp_head_at : Sp := fun vs H Q _ => ∃ (p : Addr) (M : Mem) (i : Int) (n : Nat) (t : Int) (c : Nat) (q : Addr), vs = [.ref p, .int i] ∧ i = (n : Int) ∧ M.vs[n]? = some (.ref q) ∧ H q = some (.tup [.str "head", .int t, .int (c : Nat)]) ∧ n + c < M.vs.length ∧ MemAt H p M ∧ Q (.ref q) H
theorem scf_head_at : FnScope ["memory", "a", "word"] ["memory", "a"] (defScope sf_head_at) := ⟨rfl, rfl, rfl, by decide +kernel, rfl, by decide +kernel, by decide +kernel⟩
theorem ok_f_head_at {P : Program} {w : World} {K : PySem.W.Frag} {mg : Str → Option Value} {base : Heap} (T : Tx K mg) : Def P w K mg base CX0 3 af_head_at ["memory", "a"] sp_head_at := by
  refine mk0 T.D_f_head_at scf_head_at (fun _ _ _ _ _ _ us hl => match us, hl with | [_, _], _ => rfl) (fun vs H Q E h => ?_) (fun cdv A outer s H vs Q E hr h => ?_)
  · first | (obtain ⟨_, rfl, _⟩ := h; rfl) | (obtain ⟨_, _, rfl, _⟩ := h; rfl) | (obtain ⟨_, _, _, rfl, _⟩ := h; rfl) | (obtain ⟨_, _, _, _, rfl, _⟩ := h; rfl) | (obtain ⟨_, _, _, _, _, rfl, _⟩ := h; rfl) | (obtain ⟨_, _, _, _, _, _, rfl, _⟩ := h; rfl) | (obtain ⟨_, _, _, _, _, _, _, rfl, _⟩ := h; rfl) | (obtain ⟨_, _, _, _, _, _, _, _, rfl, _⟩ := h; rfl)
  · have hu := hu_of hr
    refine ⟨_, (pss_cons (ps_set (i := 2) scf_head_at.nd rfl (by first | exact Or.inl rfl | exact Or.inr rfl) (c_meth (ok_m_Memory_at T) (hr.mono (by decide)) T.clMemory T.mMemory_at pass0 (pv 0) (pa_cons (pv 1) pa_nil)))
      (pss_cons (ps_if (pt_not (pt_val (c_call (ok_f_is_word T) (hr.mono (by decide)) T.gf_is_word pass0 (pa_cons (pv 2) (pa_cons pe_str pa_nil))))) (pss_one ps_never) pss_nil)
      (pss_cons (ps_if (pt_cmpR op_ge (pe_op op_add (pv 1) (pe_ix (r := rIxT K) (ix_tupK rfl) (pv 2) pe_int (fun _ _ => rfl))) (c_meth0 (ok_m_Memory_size T) (hr.mono (by decide)) T.clMemory T.mMemory_size pass0 (pv 0)) (nomark _)) (pss_one ps_never) pss_nil)
      (pss_one (ps_ret (pv 2)))))), ?_⟩
    obtain ⟨p, M, i, n, t, c, q, rfl, ei, hv, hq, hl, hm, k⟩ := h
    refine ⟨_, rfl, p, _, _, rfl, hm.ob, mF_no (by decide +kernel), _, rfl, p, M, i, n, _, rfl, ei, hv, hm, ?_⟩
    refine ⟨_, rfl, q, "head", "head", _, rfl, hq, _, rfl, nF rfl ?_⟩
    refine ⟨_, rfl, _, rfl, q, _, 2, _, rfl, rfl, SqT.of hq, atI_nat (j := 2) rfl, _, _, rfl, rfl, _, rfl, p, _, _, rfl, hm.ob, mF_no (by decide +kernel), p, M, rfl, hm, _, _, rfl, rfl, _, rfl, dF (show ¬ ((M.vs.length : Nat) : Int) ≤ i + (c : Int) by omega) ?_⟩
    exact ⟨_, rfl, k⟩
def sp_thing_at : Sp := fun vs H Q _ => ∃ (p : Addr) (M : Mem) (i : Int) (n : Nat) (t : Int) (c : Nat) (q : Addr), vs = [.ref p, .int i] ∧ i = (n : Int) ∧ M.vs[n]? = some (.ref q) ∧ H q = some (.tup [.str "head", .int t, .int (c : Nat)]) ∧ n + c < M.vs.length ∧ c ≤ 1000 ∧ MemAt H p M ∧
  ∀ (r fl : Addr) (H' : Hp), Same H H' → H r = none → H fl = none → H' r = some (.tup [.int t, .ref fl]) → H' fl = some (.lst ((M.vs.drop (n + 1)).take c)) → Q (.ref r) H'
theorem scf_thing_at : FnScope ["memory", "a", "head", "k"] ["memory", "a"] (defScope sf_thing_at) := ⟨rfl, rfl, rfl, by decide +kernel, rfl, by decide +kernel, by decide +kernel⟩
theorem ok_f_thing_at {P : Program} {w : World} {K : PySem.W.Frag} {mg : Str → Option Value} {base : Heap} (T : Tx K mg) : Def P w K mg base CX0 4 af_thing_at ["memory", "a"] sp_thing_at := by
  refine mk0 T.D_f_thing_at scf_thing_at (fun _ _ _ _ _ _ us hl => match us, hl with | [_, _], _ => rfl) (fun vs H Q E h => ?_) (fun cdv A outer s H vs Q E hr h => ?_)
  · first | (obtain ⟨_, rfl, _⟩ := h; rfl) | (obtain ⟨_, _, rfl, _⟩ := h; rfl) | (obtain ⟨_, _, _, rfl, _⟩ := h; rfl) | (obtain ⟨_, _, _, _, rfl, _⟩ := h; rfl) | (obtain ⟨_, _, _, _, _, rfl, _⟩ := h; rfl) | (obtain ⟨_, _, _, _, _, _, rfl, _⟩ := h; rfl) | (obtain ⟨_, _, _, _, _, _, _, rfl, _⟩ := h; rfl) | (obtain ⟨_, _, _, _, _, _, _, _, rfl, _⟩ := h; rfl)
  · have hu := hu_of hr
    refine ⟨_, (pss_cons (ps_set (i := 2) scf_thing_at.nd rfl (by first | exact Or.inl rfl | exact Or.inr rfl) (c_call (ok_f_head_at T) (hr.mono (by decide)) T.gf_head_at pass0 (pa_cons (pv 0) (pa_cons (pv 1) pa_nil))))
      (pss_one (ps_ret (pe_tup (pa_cons (pe_ix (r := rIxT K) (ix_tupK rfl) (pv 2) pe_int (fun _ _ => rfl)) (pa_cons (pe_lc (own := [("k", 3)]) rfl scf_thing_at.nd (pi_range1 (by rfl) T.zrange (pa_cons (pe_ix (r := rIxT K) (ix_tupK rfl) (pv 2) pe_int (fun _ _ => rfl)) pa_nil)) (blkOk_by (own := [("k", 3)]) (N := ["memory", "a", "head", "k"]) (sc := defScope sf_thing_at) (by decide +kernel)) (fun _ _ _ _ _ => (pg_name (i := 3) scf_thing_at.nd rfl (by first | exact Or.inl rfl | exact Or.inr rfl))) (fun _ _ _ _ _ => pts_nil) (fun _ _ _ _ _ => (c_meth (ok_m_Memory_at T) (hr.mono (by decide)) T.clMemory T.mMemory_at pass0 (pv 0) (pa_cons (pe_op op_add (pe_op op_add (pv 1) pe_int) (pv 3)) pa_nil)))) pa_nil)))))), ?_⟩
    obtain ⟨p, M, i, n, t, c, q, rfl, ei, hv, hq, hl, hc, hm, k⟩ := h
    refine ⟨_, rfl, _, rfl, p, M, i, n, t, c, q, rfl, ei, hv, hq, hl, hm, ?_⟩
    refine ⟨_, rfl, q, _, 1, _, rfl, rfl, SqT.of hq, atI_nat (j := 1) rfl, _, rfl, q, _, 2, _, rfl, rfl, SqT.of hq, atI_nat (j := 2) rfl, _, rfl, by omega, by omega, fun D hD => ?_⟩
    rw [Int.toNat_natCast]
    refine lc_range (lo := 0) (n := c) (fun j H' => H' = upd H D (.lst (((M.vs.drop (n + 1)).take c).take j))) rfl (fun j H' hj e => ?_) fun H' e => ?_
    · rw [e]
      have hj2 : n + 1 + j < M.vs.length := by omega
      have e1 : M.vs[n + 1 + j]? = some M.vs[n + 1 + j] := List.getElem?_eq_getElem hj2
      refine ⟨rfl, _, rfl, p, _, _, rfl, (hm.same (same_new hD)).ob, mF_no (by decide +kernel), _, rfl, _, _, rfl, rfl, _, rfl, _, _, rfl, rfl, p, M, _, n + 1 + j, _, rfl, by omega, e1, hm.same (same_new hD), _, upd_same, ?_, ?_⟩
      · rw [List.length_take, List.length_take]
        exact litL (by omega)
      · rw [upd_upd]
        congr 2
        rw [← take_snoc]
        rw [List.getElem?_take, if_pos hj, List.getElem?_drop]
        exact e1
    cases e
    have e2 : (((M.vs.drop (n + 1)).take c).take c) = (M.vs.drop (n + 1)).take c := by rw [List.take_take, Nat.min_self]
    rw [e2]
    exact ⟨lit 2 (by decide), fun r hr => k r D _ ((same_new hD).trans (same_new hr)) ((same_new hD).free hr) hD upd_same ((same_new hr) _ _ upd_same)⟩
def sp_resolved : Sp := fun vs H Q _ => ∃ (p : Addr) (M : Mem) (i : Int) (n : Nat) (t : Int) (c : Nat) (q : Addr), vs = [.ref p, .int i] ∧ i = (n : Int) ∧ M.vs[n]? = some (.ref q) ∧ H q = some (.tup [.str "head", .int t, .int (c : Nat)]) ∧ MemAt H p M ∧ Q (.int i) H
theorem scf_resolved : FnScope ["memory", "a", "word"] ["memory", "a"] (defScope sf_resolved) := ⟨rfl, rfl, rfl, by decide +kernel, rfl, by decide +kernel, by decide +kernel⟩
theorem ok_f_resolved {P : Program} {w : World} {K : PySem.W.Frag} {mg : Str → Option Value} {base : Heap} (T : Tx K mg) : Def P w K mg base CX0 3 af_resolved ["memory", "a"] sp_resolved := by
  refine mk0 T.D_f_resolved scf_resolved (fun _ _ _ _ _ _ us hl => match us, hl with | [_, _], _ => rfl) (fun vs H Q E h => ?_) (fun cdv A outer s H vs Q E hr h => ?_)
  · first | (obtain ⟨_, rfl, _⟩ := h; rfl) | (obtain ⟨_, _, rfl, _⟩ := h; rfl) | (obtain ⟨_, _, _, rfl, _⟩ := h; rfl) | (obtain ⟨_, _, _, _, rfl, _⟩ := h; rfl) | (obtain ⟨_, _, _, _, _, rfl, _⟩ := h; rfl) | (obtain ⟨_, _, _, _, _, _, rfl, _⟩ := h; rfl) | (obtain ⟨_, _, _, _, _, _, _, rfl, _⟩ := h; rfl) | (obtain ⟨_, _, _, _, _, _, _, _, rfl, _⟩ := h; rfl)
  · have hu := hu_of hr
    refine ⟨_, (pss_cons (ps_set (i := 2) scf_resolved.nd rfl (by first | exact Or.inl rfl | exact Or.inr rfl) (c_meth (ok_m_Memory_at T) (hr.mono (by decide)) T.clMemory T.mMemory_at pass0 (pv 0) (pa_cons (pv 1) pa_nil)))
      (pss_cons (ps_while PassesOwn.never (pt_val (c_call (ok_f_is_word T) (hr.mono (by decide)) T.gf_is_word pass0 (pa_cons (pv 2) (pa_cons pe_str pa_nil)))) (pss_cons (ps_set (i := 1) scf_resolved.nd rfl (by first | exact Or.inl rfl | exact Or.inr rfl) (pe_ix (r := rIxT K) (ix_tupK rfl) (pv 2) pe_int (fun _ _ => rfl)))
      (pss_one (ps_set (i := 2) scf_resolved.nd rfl (by first | exact Or.inl rfl | exact Or.inr rfl) (c_meth (ok_m_Memory_at T) (hr.mono (by decide)) T.clMemory T.mMemory_at pass0 (pv 0) (pa_cons (pv 1) pa_nil))))))
      (pss_one (ps_ret (pv 1))))), ?_⟩
    obtain ⟨p, M, i, n, t, c, q, rfl, ei, hv, hq, hm, k⟩ := h
    refine ⟨_, rfl, p, _, _, rfl, hm.ob, mF_no (by decide +kernel), _, rfl, p, M, i, n, _, rfl, ei, hv, hm, ?_⟩
    refine gW (while_by (fun σ H' => σ = [some (.ref p), some (.int i), some (.ref q)] ∧ H' = H) (fun _ _ => 0) ⟨rfl, rfl⟩ ?_ ?_)
    · rintro σ H' ⟨rfl, rfl⟩
      exact ⟨_, rfl, q, "head", "moved", _, rfl, hq, _, rfl, dF (by decide +kernel) ⟨_, rfl, k⟩⟩
    · rintro σ H' Q1 Q2 im ⟨v, e, q, a, b, xs, r1, r2, bb, r3, r4⟩
      exact ⟨v, e, q, a, b, xs, r1, r2, bb, r3, im _ _ r4⟩
def adV : Wd → V
  | .at a => .int (a : Nat)
  | _ => .non
def sp_adw : Sp := fun vs H Q _ => ∃ (v : V) (x : Wd), vs = [v] ∧ RW H v x ∧ (x = .non ∨ (∃ i, x = .num i) ∨ ∃ a, x = .at a) ∧ Q (adV x) H
theorem scf_address_in_word : FnScope ["word"] ["word"] (defScope sf_address_in_word) := ⟨rfl, rfl, rfl, by decide +kernel, rfl, by decide +kernel, by decide +kernel⟩
theorem ok_f_address_in_word {P : Program} {w : World} {K : PySem.W.Frag} {mg : Str → Option Value} {base : Heap} (T : Tx K mg) : Def P w K mg base CX0 1 af_address_in_word ["word"] sp_adw := by
  refine mk0 T.D_f_address_in_word scf_address_in_word (fun _ _ _ _ _ _ us hl => match us, hl with | [_], _ => rfl) (fun vs H Q E h => ?_) (fun cdv A outer s H vs Q E hr h => ?_)
  · first | (obtain ⟨_, rfl, _⟩ := h; rfl) | (obtain ⟨_, _, rfl, _⟩ := h; rfl) | (obtain ⟨_, _, _, rfl, _⟩ := h; rfl) | (obtain ⟨_, _, _, _, rfl, _⟩ := h; rfl) | (obtain ⟨_, _, _, _, _, rfl, _⟩ := h; rfl) | (obtain ⟨_, _, _, _, _, _, rfl, _⟩ := h; rfl) | (obtain ⟨_, _, _, _, _, _, _, rfl, _⟩ := h; rfl) | (obtain ⟨_, _, _, _, _, _, _, _, rfl, _⟩ := h; rfl)
  · have hu := hu_of hr
    refine ⟨_, (pss_cons (ps_if (PW.pt (pw_or (pt_cmpR op_isN (pv 0) pe_non (nomark _)) (pw_or1 (pt_cmpR op_ne (pe_ix (r := rIxT K) (ix_tupK rfl) (pv 0) pe_int (fun _ _ => rfl)) pe_str (nomark _))))) (pss_one (ps_ret pe_non)) pss_nil)
      (pss_one (ps_ret (pe_ix (r := rIxT K) (ix_tupK rfl) (pv 0) pe_int (fun _ _ => rfl))))), ?_⟩
    obtain ⟨v, x, rfl, r, hx, k⟩ := h
    rcases hx with rfl | ⟨i, rfl⟩ | ⟨a, rfl⟩
    · cases r.non
      exact ⟨_, rfl, rfl, _, rfl, dT rfl k⟩
    · obtain ⟨q, rfl, hq⟩ := r.num
      exact ⟨_, rfl, rfl, _, rfl, dF (by nofun) ⟨_, rfl, q, _, 0, _, rfl, rfl, SqT.of hq, atI_nat (j := 0) rfl, rfl, _, rfl, nT (by decide +kernel) k⟩⟩
    · obtain ⟨q, rfl, hq⟩ := r.at
      exact ⟨_, rfl, rfl, _, rfl, dF (by nofun) ⟨_, rfl, q, _, 0, _, rfl, rfl, SqT.of hq, atI_nat (j := 0) rfl, rfl, _, rfl, nF rfl ⟨_, rfl, q, _, 1, _, rfl, rfl, SqT.of hq, atI_nat (j := 1) rfl, k⟩⟩⟩
def sp_lay (K : PySem.W.Frag) : Sp := fun vs H Q _ => ∃ (p l : Addr) (M : Mem) (i t : Int) (n : Nat) (us : List V) (xs : List Wd), vs = [.ref p, .int i, .int t, .ref l] ∧ i = (n : Int) ∧ H l = some (.lst us) ∧ l ≠ M.wl ∧ Paired (RW H) us xs ∧ n + us.length < M.vs.length ∧ MemAt H p M ∧
  ∀ (H' : Hp) (M' : Mem), Chg M.wl H H' → MemAt H' p M' → M'.wl = M.wl → M'.vs.length = M.vs.length → M'.f n = .head t us.length → (∀ k x, xs[k]? = some x → M'.f (n + 1 + k) = x) → (∀ j, j < n ∨ n + us.length < j → M'.f j = M.f j) → Q .non H'
theorem scf_lay : FnScope ["memory", "a", "t", "values", "k", "word"] ["memory", "a", "t", "values"] (defScope sf_lay) := ⟨rfl, rfl, rfl, by decide +kernel, rfl, by decide +kernel, by decide +kernel⟩
theorem ok_f_lay {P : Program} {w : World} {K : PySem.W.Frag} {mg : Str → Option Value} {base : Heap} (T : Tx K mg) : Def P w K mg base CX0 3 af_lay ["memory", "a", "t", "values"] (sp_lay K) := by
  refine mk0 T.D_f_lay scf_lay (fun _ _ _ _ _ _ us hl => match us, hl with | [_, _, _, _], _ => rfl) (fun vs H Q E h => ?_) (fun cdv A outer s H vs Q E hr h => ?_)
  · first | (obtain ⟨_, rfl, _⟩ := h; rfl) | (obtain ⟨_, _, rfl, _⟩ := h; rfl) | (obtain ⟨_, _, _, rfl, _⟩ := h; rfl) | (obtain ⟨_, _, _, _, rfl, _⟩ := h; rfl) | (obtain ⟨_, _, _, _, _, rfl, _⟩ := h; rfl) | (obtain ⟨_, _, _, _, _, _, rfl, _⟩ := h; rfl) | (obtain ⟨_, _, _, _, _, _, _, rfl, _⟩ := h; rfl) | (obtain ⟨_, _, _, _, _, _, _, _, rfl, _⟩ := h; rfl)
  · have hu := hu_of hr
    refine ⟨_, (pss_cons (ps_if (PW.pt (pw_or (pt_cmpR op_lt (pv 1) pe_int (nomark _)) (pw_or1 (pt_cmpR op_ge (pe_op op_add (pv 1) (pe_callB (r := rLenQ K) (call_lenQ rfl) (by rfl) T.zlen PySem.boot_len (pa_cons (pv 3) pa_nil))) (c_meth0 (ok_m_Memory_size T) (hr.mono (by decide)) T.clMemory T.mMemory_size pass0 (pv 0)) (nomark _))))) (pss_one ps_never) pss_nil)
      (pss_cons (ps_expr (c_meth (ok_m_Memory_put T) (hr.mono (by decide)) T.clMemory T.mMemory_put pass0 (pv 0) (pa_cons (pv 1) (pa_cons (pe_tup (pa_cons pe_str (pa_cons (pv 2) (pa_cons (pe_callB (r := rLenQ K) (call_lenQ rfl) (by rfl) T.zlen PySem.boot_len (pa_cons (pv 3) pa_nil)) pa_nil)))) pa_nil))))
      (pss_one (ps_for PassesOwn.never rfl (pi_enum (by rfl) T.zenumerate (pa_cons (pv 3) pa_nil)) (pg_tupK (K := K) (n := 2) rfl rfl (pgs_cons (pg_name (i := 4) scf_lay.nd rfl (by first | exact Or.inl rfl | exact Or.inr rfl)) (pgs_cons (pg_name (i := 5) scf_lay.nd rfl (by first | exact Or.inl rfl | exact Or.inr rfl)) pgs_nil)))
      (pss_one (ps_expr (c_meth (ok_m_Memory_put T) (hr.mono (by decide)) T.clMemory T.mMemory_put pass0 (pv 0) (pa_cons (pe_op op_add (pe_op op_add (pv 1) pe_int) (pv 4)) (pa_cons (pv 5) pa_nil))))))))), ?_⟩
    obtain ⟨p, l, M, i, t, n, us, xs, rfl, ei, hl, nl, rr, hlt, hm, k⟩ := h
    have z := hm.z
    refine ⟨_, rfl, _, _, rfl, rfl, _, rfl, dF (show ¬ i < 0 by omega) ?_⟩
    refine ⟨_, rfl, _, rfl, l, us, rfl, .inl (SqL.of hl), _, _, rfl, rfl, _, rfl, p, _, _, rfl, hm.ob, mF_no (by decide +kernel), p, M, rfl, hm, _, _, rfl, rfl, _, rfl, dF (show ¬ ((M.vs.length : Nat) : Int) ≤ i + (us.length : Int) by omega) ?_⟩
    refine ⟨_, rfl, p, _, _, rfl, hm.ob, mF_no (by decide +kernel), _, rfl, _, rfl, _, rfl, l, us, rfl, .inl (SqL.of hl), lit 3 (by decide), fun q hq => ?_⟩
    have hm1 := hm.same (same_new (o := .tup [.str "head", .int t, .int (us.length : Nat)]) hq)
    refine ⟨p, M, i, n, .ref q, rfl, ei, by omega, hm1, ?_⟩
    have hm2 := hm1.put (i := n) (v := .ref q) (x := .head t us.length) upd_same
    have c2 : Chg M.wl H _ := (Chg.same (same_new (o := .tup [.str "head", .int t, .int (us.length : Nat)]) hq)).trans (hm1.chgd (u := .lst (M.vs.set n (.ref q))))
    generalize upd (upd H q _) M.wl _ = H2 at hm2 c2
    refine ⟨_, rfl, l, us, rfl, SqL.of (c2.keep _ _ nl hl), for_it (walk_enum (K := K) (a := l) (xs := us)) (fun j σ H' => ∃ a b, σ = [some (.ref p), some (.int i), some (.int t), some (.ref l), a, b] ∧ ∃ M' : Mem, Chg M.wl H H' ∧ MemAt H' p M' ∧ M'.wl = M.wl ∧ M'.vs.length = M.vs.length ∧ M'.f n = .head t us.length ∧ (∀ k x, k < j → xs[k]? = some x → M'.f (n + 1 + k) = x) ∧ (∀ j, j < n ∨ n + us.length < j → M'.f j = M.f j)) ?_ ?_ ?_ ?_⟩
    · refine ⟨_, _, rfl, _, c2, hm2, rfl, Mem.put_len, ?_, fun k x h => absurd h (Nat.not_lt_zero _), fun j hj => ?_⟩
      · show (if n = n then _ else _) = _
        rw [if_pos rfl]
      · show (if j = n then _ else _) = _
        rw [if_neg (by omega)]
    · rintro j σ H' hj ⟨a, b, rfl, M', c, _⟩
      exact SqL.of (c.keep _ _ nl hl)
    · rintro j x σ H3 H4 hj ⟨a, b, rfl, M', c3, m3, e1, e2, e3, e4, e5⟩ ⟨T1, y1, y2, rfl, nT, rfl, h1, h2⟩
      cases h1
      have s4 : Same H3 (upd H3 T1 (.tup [.int (j : Nat), y2])) := same_new nT
      refine ⟨T1, _, rfl, SqT.of upd_same, rfl, _, _, rfl, _, _, rfl, rfl, ?_⟩
      obtain ⟨w, hw, rw⟩ := pd_get rr h2
      have m4 := m3.same s4
      refine ⟨_, rfl, p, _, _, rfl, m4.ob, mF_no (by decide +kernel), _, rfl, _, _, rfl, rfl, _, rfl, _, _, rfl, rfl, _, rfl, p, M', _, n + 1 + j, y2, rfl, by omega, by omega, m4, ?_⟩
      have m5 := m4.put (i := n + 1 + j) (v := y2) (x := w) (rw.tu (c3.tu.trans (tu_same s4)))
      refine ⟨_, _, rfl, _, (c3.trans (Chg.same s4)).trans ?_, m5, e1, Mem.put_len.trans e2, ?_, fun k x hk hx => ?_, fun i hi => ?_⟩
      · rw [← e1]
        exact m4.chgd
      · show (if n = n + 1 + j then _ else _) = _
        rw [if_neg (by omega)]
        exact e3
      · show (if n + 1 + k = n + 1 + j then _ else _) = _
        by_cases q : k = j
        · rw [if_pos (by omega)]
          rw [q, hw] at hx
          exact Option.some.inj hx
        · rw [if_neg (by omega)]
          exact e4 k x (by omega) hx
      · show (if i = n + 1 + j then _ else _) = _
        rw [if_neg (by omega)]
        exact e5 i hi
    · rintro σ H' ⟨a, b, rfl, M', c3, m3, e1, e2, e3, e4, e5⟩
      refine k H' M' c3 m3 e1 e2 e3 (fun k x hx => e4 k x ?_ hx) e5
      rw [pd_len rr]
      exact get_lt hx
end SH
/-! What stands in a memory, and the things that are met from its roots. -/
namespace SH
open PySem PySem.Spec PyProof.Rows L2
def trW (ad : Int → Nat) : Ab → Wd
  | .non => .non
  | .num i => .num i
  | .th t => .at (ad t)
theorem trW_ok (ad : Int → Nat) (x : Ab) : trW ad x = .non ∨ (∃ i, trW ad x = .num i) ∨ ∃ a, trW ad x = .at a := by
  cases x with
  | non => exact .inl rfl
  | num i => exact .inr (.inl ⟨i, rfl⟩)
  | th t => exact .inr (.inr ⟨_, rfl⟩)
def atsK (ad : Int → Nat) (ks : List Int) : List (Key × V) := ks.map fun t => (Sum.inl t, V.int (ad t : Nat))
theorem atsK_keys {ad : Int → Nat} {ks : List Int} : (atsK ad ks).map (·.1) = ks.map (Sum.inl : Int → Key) := by
  unfold atsK
  rw [List.map_map]
  rfl
theorem atsK_len {ad : Int → Nat} {ks : List Int} : (atsK ad ks).length = ks.length := by
  unfold atsK
  rw [List.length_map]
theorem atsK_val {ad : Int → Nat} : ∀ {ks : List Int} {t : Int}, t ∈ ks → valV (atsK ad ks) (Sum.inl t : Key) = some (.int (ad t : Nat))
  | [], t, h => by cases h
  | u :: ks, t, h => by
    by_cases q : u = t
    · rw [q]
      exact valV_pos rfl
    · exact (valV_neg (p := ((Sum.inl u : Key), V.int (ad u : Nat))) fun z => q (Sum.inl.inj z)).trans (atsK_val ((List.mem_cons.mp h).resolve_left fun e => q e.symm))
theorem atsK_put {ad : Int → Nat} {ks : List Int} {t : Int} (h : t ∉ ks) : putK (atsK ad ks) (Sum.inl t : Key) (.int (ad t : Nat)) = atsK ad (ks ++ [t]) := by
  rw [putK_new _ (none_of atsK_keys h)]
  unfold atsK
  rw [List.map_append]
  rfl
def PosAt (H : Hp) (d : Addr) (ad : Int → Nat) (ks : List Int) : Prop := Rd H d (.dK (atsK ad ks))
theorem PosAt.get {H : Hp} {d : Addr} {ad : Int → Nat} {ks : List Int} (h : PosAt H d ad ks) {t : Int} (ht : t ∈ ks) : DGet H d (.int t) (some (.int (ad t : Nat))) := .inl ⟨_, Sum.inl t, h, rfl, (atsK_val ht).symm⟩
theorem PosAt.same {H H' : Hp} {d : Addr} {ad : Int → Nat} {ks : List Int} (s : Same H H') (h : PosAt H d ad ks) : PosAt H' d ad ks := rd_same s h
def sp_law_word_of : Sp := fun vs H Q _ => ∃ (v : V) (d : Addr) (x : Ab) (ad : Int → Nat) (ks : List Int), vs = [v, .ref d] ∧ Rp H v x ∧ PosAt H d ad ks ∧ (∀ t, x = .th t → t ∈ ks) ∧
  ∀ (v' : V) (H' : Hp), Same H H' → RW H' v' (trW ad x) → Q v' H'
theorem scf__law_word_of : FnScope ["value", "at"] ["value", "at"] (defScope sf__law_word_of) := ⟨rfl, rfl, rfl, by decide +kernel, rfl, by decide +kernel, by decide +kernel⟩
theorem ok_f__law_word_of {P : Program} {w : World} {K : PySem.W.Frag} {mg : Str → Option Value} {base : Heap} (T : Tx K mg) : Def P w K mg base CX0 1 af__law_word_of ["value", "at"] sp_law_word_of := by
  refine mk0 T.D_f__law_word_of scf__law_word_of (fun _ _ _ _ _ _ us hl => match us, hl with | [_, _], _ => rfl) (fun vs H Q E h => ?_) (fun cdv A outer s H vs Q E hr h => ?_)
  · first | (obtain ⟨_, rfl, _⟩ := h; rfl) | (obtain ⟨_, _, rfl, _⟩ := h; rfl) | (obtain ⟨_, _, _, rfl, _⟩ := h; rfl) | (obtain ⟨_, _, _, _, rfl, _⟩ := h; rfl) | (obtain ⟨_, _, _, _, _, rfl, _⟩ := h; rfl) | (obtain ⟨_, _, _, _, _, _, rfl, _⟩ := h; rfl) | (obtain ⟨_, _, _, _, _, _, _, rfl, _⟩ := h; rfl) | (obtain ⟨_, _, _, _, _, _, _, _, rfl, _⟩ := h; rfl)
  · have hu := hu_of hr
    refine ⟨_, (pss_cons (ps_if (PW.pt (pw_and (pt_cmpR op_notN (pv 0) pe_non (nomark _)) (pw_and1 (pt_cmpR op_eq (pe_ix (r := rIxT K) (ix_tupK rfl) (pv 0) pe_int (fun _ _ => rfl)) pe_str (nomark _))))) (pss_one (ps_ret (pe_tup (pa_cons pe_str (pa_cons (pe_dget hu (pv 1) (pe_ix (r := rIxT K) (ix_tupK rfl) (pv 0) pe_int (fun _ _ => rfl)) (fun _ _ => rfl)) pa_nil))))) pss_nil)
      (pss_one (ps_ret (pv 0)))), ?_⟩
    obtain ⟨v, d, x, ad, ks, rfl, r, pd, hx, k⟩ := h
    cases x with
    | non =>
      cases r.non
      exact ⟨_, rfl, rfl, _, rfl, nF rfl ⟨_, rfl, k _ _ (.refl H) trivial⟩⟩
    | num i =>
      obtain ⟨q, rfl, hq⟩ := r.num
      exact ⟨_, rfl, rfl, _, rfl, nT (by nofun) ⟨_, rfl, q, _, 0, _, rfl, rfl, SqT.of hq, atI_nat (j := 0) rfl, rfl, _, rfl, dF (by decide +kernel) ⟨_, rfl, k _ _ (.refl H) hq⟩⟩⟩
    | th t =>
      obtain ⟨q, rfl, hq⟩ := r.th
      refine ⟨_, rfl, rfl, _, rfl, nT (by nofun) ⟨_, rfl, q, _, 0, _, rfl, rfl, SqT.of hq, atI_nat (j := 0) rfl, rfl, _, rfl, dT rfl ?_⟩⟩
      exact ⟨_, rfl, _, rfl, q, _, 1, _, rfl, rfl, SqT.of hq, atI_nat (j := 1) rfl, d, _, rfl, pd.get (hx t rfl), lit 2 (by decide), fun z hz => k _ _ (same_new hz) upd_same⟩
def mvW (ad : Int → Nat) : Wd → Wd
  | .at a => .at (ad a)
  | x => x
def sp_translated : Sp := fun vs H Q _ => ∃ (v : V) (d : Addr) (x : Wd) (ad : Int → Nat) (ks : List Int), vs = [v, .ref d] ∧ RW H v x ∧ (x = .non ∨ (∃ i, x = .num i) ∨ ∃ a, x = .at a ∧ (a : Int) ∈ ks) ∧ PosAt H d ad ks ∧
  ∀ (v' : V) (H' : Hp), Same H H' → RW H' v' (mvW ad x) → Q v' H'
theorem scf_translated : FnScope ["word", "places", "address"] ["word", "places"] (defScope sf_translated) := ⟨rfl, rfl, rfl, by decide +kernel, rfl, by decide +kernel, by decide +kernel⟩
theorem ok_f_translated {P : Program} {w : World} {K : PySem.W.Frag} {mg : Str → Option Value} {base : Heap} (T : Tx K mg) : Def P w K mg base CX0 2 af_translated ["word", "places"] sp_translated := by
  refine mk0 T.D_f_translated scf_translated (fun _ _ _ _ _ _ us hl => match us, hl with | [_, _], _ => rfl) (fun vs H Q E h => ?_) (fun cdv A outer s H vs Q E hr h => ?_)
  · first | (obtain ⟨_, rfl, _⟩ := h; rfl) | (obtain ⟨_, _, rfl, _⟩ := h; rfl) | (obtain ⟨_, _, _, rfl, _⟩ := h; rfl) | (obtain ⟨_, _, _, _, rfl, _⟩ := h; rfl) | (obtain ⟨_, _, _, _, _, rfl, _⟩ := h; rfl) | (obtain ⟨_, _, _, _, _, _, rfl, _⟩ := h; rfl) | (obtain ⟨_, _, _, _, _, _, _, rfl, _⟩ := h; rfl) | (obtain ⟨_, _, _, _, _, _, _, _, rfl, _⟩ := h; rfl)
  · have hu := hu_of hr
    refine ⟨_, (pss_cons (ps_set (i := 2) scf_translated.nd rfl (by first | exact Or.inl rfl | exact Or.inr rfl) (c_call (ok_f_address_in_word T) (hr.mono (by decide)) T.gf_address_in_word pass0 (pa_cons (pv 0) pa_nil)))
      (pss_cons (ps_if (pt_cmpR op_isN (pv 2) pe_non (nomark _)) (pss_one (ps_ret (pv 0))) pss_nil)
      (pss_one (ps_ret (pe_tup (pa_cons pe_str (pa_cons (pe_dget hu (pv 1) (pv 2) (fun _ _ => rfl)) pa_nil))))))), ?_⟩
    obtain ⟨v, d, x, ad, ks, rfl, r, hx, pd, k⟩ := h
    refine ⟨_, rfl, v, x, rfl, r, hx.imp id fun z => z.imp id fun ⟨a, e, _⟩ => ⟨a, e⟩, ?_⟩
    rcases hx with rfl | ⟨i, rfl⟩ | ⟨a, rfl, ha⟩
    · exact ⟨_, rfl, rfl, _, rfl, dT rfl ⟨_, rfl, k _ _ (.refl H) r⟩⟩
    · exact ⟨_, rfl, rfl, _, rfl, dT rfl ⟨_, rfl, k _ _ (.refl H) r⟩⟩
    · exact ⟨_, rfl, rfl, _, rfl, dF (by nofun) ⟨_, rfl, _, rfl, d, _, rfl, pd.get ha, lit 2 (by decide), fun z hz => k _ _ (same_new hz) upd_same⟩⟩
/-! ### a picture -/
structure PicAt (f : Nat → Wd) (sz : Nat) (ad : Int → Nat) (cs : List Th) : Prop where
  fit : ∀ c ∈ cs, ad c.t + c.fs.length < sz
  head : ∀ c ∈ cs, f (ad c.t) = .head c.t c.fs.length
  fld : ∀ c ∈ cs, ∀ k x, c.fs[k]? = some x → f (ad c.t + 1 + k) = trW ad x
  dis : ∀ c ∈ cs, ∀ d ∈ cs, c.t ≠ d.t → ad c.t + c.fs.length < ad d.t ∨ ad d.t + d.fs.length < ad c.t
theorem PicAt.inj {f : Nat → Wd} {sz : Nat} {ad : Int → Nat} {cs : List Th} (P : PicAt f sz ad cs) {c d : Th} (hc : c ∈ cs) (hd : d ∈ cs) (e : ad c.t = ad d.t) : c.t = d.t := by
  by_cases q : c.t = d.t
  · exact q
  · have := P.dis c hc d hd q
    omega
theorem PicAt.at_ {H : Hp} {p : Addr} {M : Mem} {ad : Int → Nat} {cs : List Th} (P : PicAt M.f M.vs.length ad cs) (h : MemAt H p M) {c : Th} (hc : c ∈ cs) :
    ∃ q, M.vs[ad c.t]? = some (.ref q) ∧ H q = some (.tup [.str "head", .int c.t, .int (c.fs.length : Nat)]) := by
  have h1 := P.fit c hc
  have e := List.getElem?_eq_getElem (show ad c.t < M.vs.length by omega)
  have r := h.r _ _ e
  rw [P.head c hc] at r
  obtain ⟨q, e2, hq⟩ := r.head
  rw [e2] at e
  exact ⟨q, e, hq⟩
theorem pd_of {α β : Type} {F : α → β → Prop} : ∀ {l : List α} {m : List β}, l.length = m.length → (∀ (i : Nat) a b, l[i]? = some a → m[i]? = some b → F a b) → Paired F l m
  | [], [], _, _ => .nil
  | [], _ :: _, h, _ => by cases h
  | _ :: _, [], h, _ => by cases h
  | a :: l, b :: m, h, g => .cons (g 0 a b rfl rfl) (pd_of (Nat.succ.inj h) fun i x y h1 h2 => g (i + 1) x y h1 h2)
theorem PicAt.flds {H : Hp} {p : Addr} {M : Mem} {ad : Int → Nat} {cs : List Th} (P : PicAt M.f M.vs.length ad cs) (h : MemAt H p M) {c : Th} (hc : c ∈ cs) :
    Paired (RW H) ((M.vs.drop (ad c.t + 1)).take c.fs.length) (c.fs.map (trW ad)) := by
  have h1 := P.fit c hc
  refine pd_of (by rw [List.length_take, List.length_drop, List.length_map]; omega) fun i a b ha hb => ?_
  have hi : i < c.fs.length := by
    have := get_lt hb
    rw [List.length_map] at this
    exact this
  rw [List.getElem?_take, if_pos hi, List.getElem?_drop] at ha
  obtain ⟨x, hx, rfl⟩ := map_get hb
  have r := h.r _ _ ha
  rw [P.fld c hc i x hx] at r
  exact r
/-! ### the things met -/
structure Mt where
  c : Th
  r : Addr
  fl : Addr
  ws : List V
structure MtAt (H : Hp) (ad : Int → Nat) (m : Mt) : Prop where
  ob : H m.r = some (.tup [.int m.c.t, .ref m.fl])
  fl : H m.fl = some (.lst m.ws)
  ws : Paired (RW H) m.ws (m.c.fs.map (trW ad))
theorem MtAt.same {H H' : Hp} {ad : Int → Nat} {m : Mt} (s : Same H H') (h : MtAt H ad m) : MtAt H' ad m := ⟨s _ _ h.ob, s _ _ h.fl, Paired.mapP h.ws fun _ _ q => q.tu (tu_same s)⟩
theorem MtAt.chg {H H' : Hp} {a : Addr} {ad : Int → Nat} {m : Mt} (s : Chg a H H') (n : m.fl ≠ a) (h : MtAt H ad m) : MtAt H' ad m := ⟨s.tu _ _ h.ob, s.keep _ _ n h.fl, Paired.mapP h.ws fun _ _ q => q.tu s.tu⟩
theorem MtAt.len {H : Hp} {ad : Int → Nat} {m : Mt} (h : MtAt H ad m) : m.ws.length = m.c.fs.length := (pd_len h.ws).trans (List.length_map ..)
def adM (ad : Int → Nat) (m : Mt) : Int := ((ad m.c.t : Nat) : Int)
def mtK (ad : Int → Nat) (ms : List Mt) : List (Key × V) := ms.map fun m => (Sum.inl (adM ad m), V.ref m.r)
theorem mtK_keys {ad : Int → Nat} {ms : List Mt} : (mtK ad ms).map (·.1) = (ms.map (adM ad)).map (Sum.inl : Int → Key) := by
  unfold mtK
  rw [List.map_map, List.map_map]
  rfl
theorem mtK_len {ad : Int → Nat} {ms : List Mt} : (mtK ad ms).length = ms.length := by
  unfold mtK
  rw [List.length_map]
theorem mtK_val {ad : Int → Nat} : ∀ {ms : List Mt}, (ms.map (adM ad)).Nodup → ∀ {m : Mt}, m ∈ ms → valV (mtK ad ms) (Sum.inl (adM ad m) : Key) = some (.ref m.r)
  | [], _, m, h => by cases h
  | x :: ms, hn, m, h => by
    obtain ⟨hn1, hn2⟩ := List.nodup_cons.mp (show (adM ad x :: ms.map (adM ad)).Nodup from hn)
    rcases List.mem_cons.mp h with e | h
    · rw [e]
      exact valV_pos rfl
    · refine (valV_neg (p := ((Sum.inl (adM ad x) : Key), V.ref x.r)) fun z => ?_).trans (mtK_val hn2 h)
      have e : adM ad x = adM ad m := Sum.inl.inj z
      exact hn1 (List.mem_map.mpr ⟨m, h, e.symm⟩)
theorem mtK_get {H : Hp} {d : Addr} {ad : Int → Nat} {ms : List Mt} (h : Rd H d (.dK (mtK ad ms))) (nd : (ms.map (adM ad)).Nodup) {m : Mt} (hm : m ∈ ms) : DGet H d (.int (adM ad m)) (some (.ref m.r)) :=
  .inl ⟨_, Sum.inl (adM ad m), h, rfl, (mtK_val nd hm).symm⟩
theorem nd_unmap {α β : Type} {f : α → β} : ∀ {l : List α}, (l.map f).Nodup → l.Nodup
  | [], _ => List.nodup_nil
  | a :: l, h => by
    obtain ⟨h1, h2⟩ := List.nodup_cons.mp (show (f a :: l.map f).Nodup from h)
    exact List.nodup_cons.mpr ⟨fun z => h1 (List.mem_map.mpr ⟨a, z, rfl⟩), nd_unmap h2⟩
structure Met (H0 H : Hp) (d rw : Addr) (ad : Int → Nat) (cs : List Th) (ms : List Mt) : Prop where
  same : Same H0 H
  fd : H0 d = none
  fr : H0 rw = none
  dd : H d = some (.dK (mtK ad ms))
  rr : H rw = some (.lst (ms.map fun m => V.int (adM ad m)))
  at_ : ∀ m ∈ ms, MtAt H ad m
  nw : ∀ m ∈ ms, m.fl ≠ rw
  inn : ∀ m ∈ ms, m.c ∈ cs
  nd : (ms.map (adM ad)).Nodup
  ff : ∀ m ∈ ms, H0 m.fl = none
theorem Met.grow {H0 H H' : Hp} {d rw : Addr} {ad : Int → Nat} {cs : List Th} {ms : List Mt} (h : Met H0 H d rw ad cs ms) (s : Same H H') : Met H0 H' d rw ad cs ms :=
  ⟨h.same.trans s, h.fd, h.fr, s _ _ h.dd, s _ _ h.rr, fun m hm => (h.at_ m hm).same s, h.nw, h.inn, h.nd, h.ff⟩
theorem Met.len {H0 H : Hp} {d rw : Addr} {ad : Int → Nat} {cs : List Th} {ms : List Mt} (h : Met H0 H d rw ad cs ms) (kn : (keys cs).Nodup) : ms.length ≤ cs.length := by
  have e : (ms.map fun m => m.c.t).Nodup := by
    have q : (ms.map (adM ad)) = (ms.map fun m => m.c.t).map fun t => ((ad t : Nat) : Int) := by
      rw [List.map_map]
      rfl
    have n := h.nd
    rw [q] at n
    exact nd_unmap n
  have := nd_le (m := keys cs) e fun t ht => by
    obtain ⟨m, hm, rfl⟩ := List.mem_map.mp ht
    exact key_of (h.inn m hm)
  rw [List.length_map, List.length_map] at this
  exact this
end SH
/-! The things that are met from the roots. -/
namespace SH
open PySem PySem.Spec PyProof.Rows L2
theorem mtK_at {ad : Int → Nat} {ms : List Mt} {i : Nat} {k : Key} {v : V} (h : (mtK ad ms)[i]? = some (k, v)) : ∃ m, ms[i]? = some m ∧ k = Sum.inl (adM ad m) ∧ v = .ref m.r := by
  obtain ⟨m, hm, e⟩ := map_get h
  have e2 : (k, v) = ((Sum.inl (adM ad m) : Key), V.ref m.r) := e
  exact ⟨m, hm, congrArg Prod.fst e2, congrArg Prod.snd e2⟩
theorem MtAt.nd {H : Hp} {ad : Int → Nat} {m : Mt} {d : Addr} {kvs : List (Key × V)} (h : MtAt H ad m) (hd : H d = some (.dK kvs)) : m.fl ≠ d := fun e => by
  have q := h.fl
  rw [e, hd] at q
  cases q
theorem chg_frz {H : Hp} {d : Addr} {kvs : List (Key × V)} {u : HO} (hd : H d = some (.dK kvs)) : Chg d H (upd H d u) := .upd hd fun xs e => by cases e
def sp_words_in2 : Sp := fun vs H Q _ => ∃ (d : Addr) (ad : Int → Nat) (ms : List Mt), vs = [.ref d] ∧ H d = some (.dK (mtK ad ms)) ∧ (ms.map (adM ad)).Nodup ∧ (∀ m ∈ ms, MtAt H ad m) ∧ ms.length ≤ 400 ∧
  ∀ H', Same H H' → Q (.int ((ms.map fun m => (m.c.fs.length : Int) + 1).sum)) H'
theorem scf_words_in_copying : FnScope ["things", "address"] ["things"] (defScope sf_words_in_copying) := ⟨rfl, rfl, rfl, by decide +kernel, rfl, by decide +kernel, by decide +kernel⟩
theorem ok_f_words_in_copying {P : Program} {w : World} {K : PySem.W.Frag} {mg : Str → Option Value} {base : Heap} (T : Tx K mg) : Def P w K mg base CX0 1 af_words_in_copying ["things"] sp_words_in2 := by
  refine mk0 T.D_f_words_in_copying scf_words_in_copying (fun _ _ _ _ _ _ us hl => match us, hl with | [_], _ => rfl) (fun vs H Q E h => ?_) (fun cdv A outer s H vs Q E hr h => ?_)
  · first | (obtain ⟨_, rfl, _⟩ := h; rfl) | (obtain ⟨_, _, rfl, _⟩ := h; rfl) | (obtain ⟨_, _, _, rfl, _⟩ := h; rfl) | (obtain ⟨_, _, _, _, rfl, _⟩ := h; rfl) | (obtain ⟨_, _, _, _, _, rfl, _⟩ := h; rfl) | (obtain ⟨_, _, _, _, _, _, rfl, _⟩ := h; rfl) | (obtain ⟨_, _, _, _, _, _, _, rfl, _⟩ := h; rfl) | (obtain ⟨_, _, _, _, _, _, _, _, rfl, _⟩ := h; rfl)
  · have hu := hu_of hr
    refine ⟨_, (pss_one (ps_ret (pe_callB (cr_sum rfl) (by rfl) T.zsum (by decide +kernel) (pa_cons (pe_lock (pe_lc (own := [("address", 1)]) rfl scf_words_in_copying.nd (pi_keys (pv 0)) (blkOk_by (own := [("address", 1)]) (N := ["things", "address"]) (sc := defScope sf_words_in_copying) (by decide +kernel)) (fun _ _ _ _ _ => (pg_name (i := 1) scf_words_in_copying.nd rfl (by first | exact Or.inl rfl | exact Or.inr rfl))) (fun _ _ _ _ _ => pts_nil) (fun _ _ _ _ _ => (pe_op op_add (pe_callB (r := rLenQ K) (call_lenQ rfl) (by rfl) T.zlen PySem.boot_len (pa_cons (pe_ix (r := rIxT K) (ix_tupK rfl) (pe_dget hu (pv 0) (pv 1) (fun _ _ => rfl)) pe_int (fun _ _ => rfl)) pa_nil)) pe_int)))) pa_nil)))), ?_⟩
    obtain ⟨d, ad, ms, rfl, hd, nd, hm, h400, k⟩ := h
    refine ⟨d, _, hd, trivial, fun od => ?_⟩
    refine ⟨_, rfl, d, od, rfl, Or.inl ⟨_, upd_same, fun D hD => lc_it walk_keys (fun i H' => H' = upd (upd H d (.frz od (.dK (mtK ad ms)))) D (.lst (((ms.take i).map fun m => (m.c.fs.length : Int) + 1).map V.int))) rfl
      (fun i H' _ e => by rw [e]; exact same_new hD _ _ upd_same) ?_ ?_⟩⟩
    · rintro i x H1 H' hi e ⟨rfl, k1, v1, hkk, rfl⟩
      cases e
      obtain ⟨m, hi, rfl, rfl⟩ := mtK_at hkk
      have hmm : m ∈ ms := List.mem_of_getElem? hi
      have t0 := hm m hmm
      have s1 : Same (upd H d (.frz od (.dK (mtK ad ms)))) (upd (upd H d (.frz od (.dK (mtK ad ms)))) D (.lst (((ms.take i).map fun m => (m.c.fs.length : Int) + 1).map V.int))) := same_new hD
      have t1 := (t0.chg (chg_frz hd) (t0.nd hd)).same s1
      refine ⟨rfl, ?_⟩
      refine ⟨_, rfl, _, rfl, d, .ref m.r, rfl, mtK_get (.inr ⟨od, s1 _ _ upd_same⟩) nd hmm, m.r, _, 1, _, rfl, rfl, SqT.of t1.ob, atI_nat (j := 1) rfl, m.fl, m.ws, rfl, .inl (SqL.of t1.fl), _, _, rfl, rfl, _, upd_same, ?_, ?_⟩
      · have := len_take (l := ms) (i := i)
        rw [List.length_map, List.length_map]
        exact litL (by omega)
      · rw [upd_upd, take_snoc hi, List.map_append, List.map_append, t0.len]
        rfl
    · rintro H' e
      cases e
      rw [mtK_len, List.take_length]
      have nD : D ≠ d := fun z => by rw [z, upd_same] at hD; cases hD
      refine ⟨same_new hD _ _ upd_same, D, ms.map fun m => (m.c.fs.length : Int) + 1, rfl, SqL.of (by rw [upd_ne nD, upd_same]), ?_⟩
      exact k _ (((SB.upd d H _).same (same_new hD)).back hd)
def InMs (ms : List Mt) (t : Int) : Prop := ∃ m ∈ ms, m.c.t = t
theorem InMs.app {ms ex : List Mt} {t : Int} (h : InMs ms t) : InMs (ms ++ ex) t := by
  obtain ⟨m, hm, e⟩ := h
  exact ⟨m, List.mem_append_left _ hm, e⟩
/-- one thing more is met -/
theorem Met.add {H0 H H1 : Hp} {d rw : Addr} {ad : Int → Nat} {cs : List Th} {ms : List Mt} {m : Mt} (h : Met H0 H d rw ad cs ms) (s : Same H H1) (nf : H m.fl = none) (hm : MtAt H1 ad m) (hc : m.c ∈ cs) (nk : adM ad m ∉ ms.map (adM ad)) :
    Met H0 (upd (upd H1 d (.dK (putK (mtK ad ms) (Sum.inl (adM ad m) : Key) (.ref m.r)))) rw (.lst ((ms.map fun m => V.int (adM ad m)) ++ [.int (adM ad m)]))) d rw ad cs (ms ++ [m]) ∧
    ∀ b o, b ≠ d → b ≠ rw → H b = some o → upd (upd H1 d (.dK (putK (mtK ad ms) (Sum.inl (adM ad m) : Key) (.ref m.r)))) rw (.lst ((ms.map fun m => V.int (adM ad m)) ++ [.int (adM ad m)])) b = some o := by
  have g := h.grow s
  have ndr : d ≠ rw := fun e => by
    have q := h.dd
    rw [e, h.rr] at q
    cases q
  have kk : ∀ b o, b ≠ d → b ≠ rw → H1 b = some o → upd (upd H1 d (.dK (putK (mtK ad ms) (Sum.inl (adM ad m) : Key) (.ref m.r)))) rw (.lst ((ms.map fun m => V.int (adM ad m)) ++ [.int (adM ad m)])) b = some o := fun b o n1 n2 e => by
    rw [upd_ne n2, upd_ne n1]
    exact e
  have c1 : Tu H1 (upd (upd H1 d (.dK (putK (mtK ad ms) (Sum.inl (adM ad m) : Key) (.ref m.r)))) rw (.lst ((ms.map fun m => V.int (adM ad m)) ++ [.int (adM ad m)]))) :=
    (tu_upd g.dd fun xs e => by cases e).trans (tu_upd (show upd H1 d _ rw = _ from (upd_ne ndr.symm).trans g.rr) fun xs e => by cases e)
  have ep : putK (mtK ad ms) (Sum.inl (adM ad m) : Key) (.ref m.r) = mtK ad (ms ++ [m]) := by
    rw [putK_new _ (none_of mtK_keys nk)]
    unfold mtK
    rw [List.map_append]
    rfl
  have nmf : m.fl ≠ rw := (ne_of_none h.rr nf).symm
  have mt : ∀ x : Mt, MtAt H1 ad x → x.fl ≠ rw → MtAt (upd (upd H1 d (.dK (putK (mtK ad ms) (Sum.inl (adM ad m) : Key) (.ref m.r)))) rw (.lst ((ms.map fun m => V.int (adM ad m)) ++ [.int (adM ad m)]))) ad x := fun x hx n =>
    ⟨c1 _ _ hx.ob, kk _ _ (hx.nd g.dd) n hx.fl, Paired.mapP hx.ws fun _ _ q => q.tu c1⟩
  refine ⟨⟨fun b o e => kk b o (ne_of_none e h.fd) (ne_of_none e h.fr) (g.same b o e), h.fd, h.fr, ?_, ?_, fun x hx => ?_, fun x hx => ?_, fun x hx => ?_, ?_, fun x hx => ?_⟩, fun b o n1 n2 e => kk b o n1 n2 (s b o e)⟩
  · rw [upd_ne ndr, upd_same, ep]
  · rw [upd_same, List.map_append]
    rfl
  · rcases List.mem_append.mp hx with z | z
    · exact mt x (g.at_ x z) (h.nw x z)
    · rw [List.mem_singleton.mp z]
      exact mt m hm nmf
  · rcases List.mem_append.mp hx with z | z
    · exact h.nw x z
    · rw [List.mem_singleton.mp z]
      exact nmf
  · rcases List.mem_append.mp hx with z | z
    · exact h.inn x z
    · rw [List.mem_singleton.mp z]
      exact hc
  · rw [List.map_append]
    exact nd_snoc h.nd nk
  · rcases List.mem_append.mp hx with z | z
    · exact h.ff x z
    · rw [List.mem_singleton.mp z]
      exact h.same.free nf
theorem gS {i j : Nat} {v a : V} {σ : L2.St} {H : Hp} {c : TT} {tb u : TS} {D : Ends} {r : VK} {b k : L2.St → Hp → Prop} (h : tWhile c tb { D with nx := u D } ((σ.set i (some v)).set j (some a)) H) :
    gName i v σ H (Ends.mk (tSeq (tAsg (tC a) (gName j)) (tSeq (tWhile c tb) u) D) r b k).nx := h
def sp_met (K : PySem.W.Frag) : Sp := fun vs H Q _ => ∃ (p rl : Addr) (M : Mem) (ad : Int → Nat) (cs : List Th) (rv : List V) (rx : List Ab), vs = [.ref p, .ref rl] ∧ MemAt H p M ∧ H rl = some (.lst rv) ∧ Paired (RW H) rv (rx.map (trW ad)) ∧
  PicAt M.f M.vs.length ad cs ∧ (keys cs).Nodup ∧ cs.length ≤ 400 ∧ (∀ c ∈ cs, c.fs.length ≤ 6) ∧ (∀ t, Ab.th t ∈ rx → t ∈ keys cs) ∧ (∀ c ∈ cs, ∀ t, Ab.th t ∈ c.fs → t ∈ keys cs) ∧ rx ≠ [] ∧
  ∀ (d rw : Addr) (H' : Hp) (ms : List Mt), Met H H' d rw ad cs ms → (∀ t, Ab.th t ∈ rx → InMs ms t) → (∀ m ∈ ms, ∀ t, Ab.th t ∈ m.c.fs → InMs ms t) → Q (.ref d) H'
structure Told (H : Hp) (tl rw : Addr) (ad : Int → Nat) (cs : List Th) (tv : List V) (tx : List Ab) : Prop where
  h : H tl = some (.lst tv)
  ne : tl ≠ rw
  r : Paired (RW H) tv (tx.map (trW ad))
  ks : ∀ t, Ab.th t ∈ tx → t ∈ keys cs
def MetW (H0 : Hp) (p rl d rw : Addr) (ad : Int → Nat) (cs : List Th) (rx : List Ab) (σ : L2.St) (H : Hp) : Prop :=
  ∃ (tl : Addr) (tv : List V) (tx : List Ab) (pl : Nat) (ms : List Mt) (w6 w7 : Option V), σ = [some (.ref p), some (.ref rl), some (.ref d), some (.ref rw), some (.ref tl), some (.int (pl : Nat)), w6, w7] ∧
    Met H0 H d rw ad cs ms ∧ Told H tl rw ad cs tv tx ∧ pl ≤ ms.length ∧ (tx = [] → pl = ms.length) ∧ (∀ t, Ab.th t ∈ rx → InMs ms t ∨ Ab.th t ∈ tx) ∧ (∀ i m, i < pl → ms[i]? = some m → ∀ t, Ab.th t ∈ m.c.fs → InMs ms t ∨ Ab.th t ∈ tx)
def metMu (n : Nat) (σ : L2.St) (H : Hp) : Nat := match σ with
  | [_, _, _, _, some (.ref tl), some (.int pl), _, _] => match H tl with
    | some (.lst (_ :: _)) => n + 2 - pl.toNat
    | _ => 0
  | _ => 0
def MetI (H0 : Hp) (p rl d rw tl : Addr) (ad : Int → Nat) (cs : List Th) (tv : List V) (tx : List Ab) (pl : Nat) (ms : List Mt) (i : Nat) (σ : L2.St) (H : Hp) : Prop :=
  ∃ (ex : List Mt) (w6 w7 : Option V), σ = [some (.ref p), some (.ref rl), some (.ref d), some (.ref rw), some (.ref tl), some (.int (pl : Nat)), w6, w7] ∧
    Met H0 H d rw ad cs (ms ++ ex) ∧ Told H tl rw ad cs tv tx ∧ ∀ j t, j < i → tx[j]? = some (.th t) → InMs (ms ++ ex) t
theorem scf_met_from : FnScope ["source", "roots", "things", "row", "told", "place", "word", "address"] ["source", "roots"] (defScope sf_met_from) := ⟨rfl, rfl, rfl, by decide +kernel, rfl, by decide +kernel, by decide +kernel⟩
theorem ok_f_met_from {P : Program} {w : World} {K : PySem.W.Frag} {mg : Str → Option Value} {base : Heap} (T : Tx K mg) : Def P w K mg base CX0 5 af_met_from ["source", "roots"] (sp_met K) := by
  refine mk0 T.D_f_met_from scf_met_from (fun _ _ _ _ _ _ us hl => match us, hl with | [_, _], _ => rfl) (fun vs H Q E h => ?_) (fun cdv A outer s H vs Q E hr h => ?_)
  · first | (obtain ⟨_, rfl, _⟩ := h; rfl) | (obtain ⟨_, _, rfl, _⟩ := h; rfl) | (obtain ⟨_, _, _, rfl, _⟩ := h; rfl) | (obtain ⟨_, _, _, _, rfl, _⟩ := h; rfl) | (obtain ⟨_, _, _, _, _, rfl, _⟩ := h; rfl) | (obtain ⟨_, _, _, _, _, _, rfl, _⟩ := h; rfl) | (obtain ⟨_, _, _, _, _, _, _, rfl, _⟩ := h; rfl) | (obtain ⟨_, _, _, _, _, _, _, _, rfl, _⟩ := h; rfl)
  · have hu := hu_of hr
    refine ⟨_, (pss_cons (ps_set (i := 2) scf_met_from.nd rfl (by first | exact Or.inl rfl | exact Or.inr rfl) pe_dnewK)
      (pss_cons (ps_set (i := 3) scf_met_from.nd rfl (by first | exact Or.inl rfl | exact Or.inr rfl) (pe_lst pa_nil))
      (pss_cons (ps_set (i := 4) scf_met_from.nd rfl (by first | exact Or.inl rfl | exact Or.inr rfl) (pe_callTy call_list_of (by rfl) T.zlist (by decide +kernel) (pa_cons (pv 1) pa_nil)))
      (pss_cons (ps_set (i := 5) scf_met_from.nd rfl (by first | exact Or.inl rfl | exact Or.inr rfl) pe_int)
      (pss_cons (ps_while PassesOwn.never (pt_truth (pv 4) (by intro _; rfl)) (pss_cons (ps_for PassesOwn.never rfl (pi_list (pv 4)) (pg_name (i := 6) scf_met_from.nd rfl (by first | exact Or.inl rfl | exact Or.inr rfl))
      (pss_cons (ps_set (i := 7) scf_met_from.nd rfl (by first | exact Or.inl rfl | exact Or.inr rfl) (c_call (ok_f_address_in_word T) (hr.mono (by decide)) T.gf_address_in_word pass0 (pa_cons (pv 6) pa_nil)))
      (pss_one (ps_if (PW.pt (pw_and (pt_cmpR op_notN (pv 7) pe_non (nomark _)) (pw_and1 (pt_cmp (pc_dnotin hu (pv 7) (pv 2)))))) (pss_cons (ps_dput hu (pv 2) (pv 7) (c_call (ok_f_thing_at T) (hr.mono (by decide)) T.gf_thing_at pass0 (pa_cons (pv 0) (pa_cons (pv 7) pa_nil))) rfl)
      (pss_one (ps_expr (pe_bm PySem.F.plainAttrs_list PySem.F.slot_list_append PySem.F.type_list_append mt_append (pv 3) (pa_cons (pv 7) pa_nil))))) pss_nil))))
      (pss_cons (ps_set (i := 4) scf_met_from.nd rfl (by first | exact Or.inl rfl | exact Or.inr rfl) (pe_lst pa_nil))
      (pss_one (ps_if (pt_cmpR op_lt (pv 5) (pe_callB (r := rLenQ K) (call_lenQ rfl) (by rfl) T.zlen PySem.boot_len (pa_cons (pv 3) pa_nil)) (nomark _)) (pss_cons (ps_set (i := 4) scf_met_from.nd rfl (by first | exact Or.inl rfl | exact Or.inr rfl) (pe_op op_cat (pe_ix (r := rIxT K) (ix_tupK rfl) (pe_dget hu (pv 2) (pe_ix (r := rIxL K) (ix_listK rfl) (pv 3) (pv 5) (fun _ _ => rfl)) (fun _ _ => rfl)) pe_int (fun _ _ => rfl)) (pe_lst (pa_cons pe_non pa_nil))))
      (pss_one (ps_aug (i := 5) scf_met_from.nd rfl (by first | exact Or.inl rfl | exact Or.inr rfl) pe_int ip_add))) pss_nil)))))
      (pss_one (ps_ret (pv 2)))))))), ?_⟩
    obtain ⟨p, rl, M, ad, cs, rv, rx, rfl, hmem, hrl, rr, P, kn, h400, f6, rk, ck, rne, k⟩ := h
    intro d hd
    refine ⟨lit 0 (by decide), fun rw hrw => ?_⟩
    have s1 : Same H (upd (upd H d (.dK [])) rw (.lst [])) := (same_new hd).trans (same_new hrw)
    have hrw0 : H rw = none := (same_new hd).free hrw
    refine ⟨_, rfl, rl, rv, rfl, .inl (SqL.of (s1 _ _ hrl)), fun tl htl => ?_⟩
    have s2 := s1.trans (same_new (o := .lst rv) htl)
    have m0 : Met H (upd (upd (upd H d (.dK [])) rw (.lst [])) tl (.lst rv)) d rw ad cs [] :=
      ⟨s2, hd, hrw0, same_new htl _ _ (same_new hrw _ _ upd_same), same_new htl _ _ upd_same, fun m h => (by cases h), fun m h => (by cases h), fun m h => (by cases h), List.nodup_nil, fun m h => (by cases h)⟩
    have t0 : Told (upd (upd (upd H d (.dK [])) rw (.lst [])) tl (.lst rv)) tl rw ad cs rv rx := ⟨upd_same, (fun e => by rw [e, upd_same] at htl; cases htl), Paired.mapP rr fun _ _ q => q.tu (tu_same s2), rk⟩
    refine gS (i := 4) (j := 5) ?_
    refine while_by (MetW H p rl d rw ad cs rx) (metMu cs.length) ⟨tl, rv, rx, 0, [], none, none, rfl, m0, t0, Nat.le_refl 0, fun e => absurd e rne, fun t ht => .inr ht, fun i m hi => absurd hi (Nat.not_lt_zero _)⟩ ?_ ?_
    · rintro σ H1 ⟨tl, tv, tx, pl, ms, w6, w7, rfl, m1, t1, hpl, hte, hrx, hfs⟩
      refine ⟨_, rfl, _, Or.inl ⟨tv, SqL.of t1.h, rfl⟩, ?_⟩
      have elen : tv.length = tx.length := (pd_len t1.r).trans (List.length_map ..)
      cases tv with
      | nil =>
        have etx : tx = [] := List.eq_nil_of_length_eq_zero elen.symm
        refine ifF rfl ⟨_, rfl, ?_⟩
        cases etx
        refine k d rw H1 ms m1 (fun t ht => (hrx t ht).resolve_right (by simp)) fun m hm t ht => ?_
        obtain ⟨i, hi⟩ := List.mem_iff_getElem?.mp hm
        exact (hfs i m (by rw [hte rfl]; exact get_lt hi) hi t ht).resolve_right (by simp)
      | cons v0 tv0 =>
        refine ifT rfl ?_
        have emu : metMu cs.length [some (.ref p), some (.ref rl), some (.ref d), some (.ref rw), some (.ref tl), some (.int (pl : Nat)), w6, w7] H1 = cs.length + 2 - pl := by
          show (match H1 tl with | some (.lst (_ :: _)) => cs.length + 2 - (pl : Int).toNat | _ => 0) = _
          rw [t1.h]
          rfl
        rw [emu]
        have lms := m1.len kn
        generalize etv : v0 :: tv0 = tv at t1 elen
        refine ⟨_, rfl, tl, rfl, ⟨_, SqL.of t1.h⟩, for_list (K := K) (a := tl) (xs := tv) (MetI H p rl d rw tl ad cs tv tx pl ms) ⟨[], w6, w7, rfl, by rw [List.append_nil]; exact m1, t1, fun j t hj => absurd hj (Nat.not_lt_zero _)⟩
          (fun i σ H' _ ⟨ex, a, b, _, m, t, _⟩ => SqL.of t.h) ?_ ?_⟩
        · rintro i v σ H2 hi ⟨ex, w6, w7, rfl, m2, t2, hj⟩
          obtain ⟨wx, hwx, r2⟩ := pd_get t2.r hi
          obtain ⟨x, hx, rfl⟩ := map_get hwx
          refine ⟨_, rfl, v, _, rfl, r2, trW_ok ad x, ?_⟩
          have next : ∀ (H3 : Hp) (ex3 : List Mt) (a b : Option V), Met H H3 d rw ad cs (ms ++ ex3) → Told H3 tl rw ad cs tv tx → (∀ t, InMs (ms ++ ex) t → InMs (ms ++ ex3) t) → (∀ t, x = .th t → InMs (ms ++ ex3) t) →
              MetI H p rl d rw tl ad cs tv tx pl ms (i + 1) [some (.ref p), some (.ref rl), some (.ref d), some (.ref rw), some (.ref tl), some (.int (pl : Nat)), a, b] H3 := fun H3 ex3 a b m3 t3 g1 g2 =>
            ⟨ex3, a, b, rfl, m3, t3, fun j t hj3 htj => by
              by_cases q : j = i
              · rw [q, hx] at htj
                exact g2 t (Option.some.inj htj)
              · exact g1 t (hj j t (by omega) htj)⟩
          cases x with
          | non => exact ⟨_, rfl, rfl, _, rfl, nF rfl (next _ _ _ _ m2 t2 (fun _ z => z) fun t e => by cases e)⟩
          | num y => exact ⟨_, rfl, rfl, _, rfl, nF rfl (next _ _ _ _ m2 t2 (fun _ z => z) fun t e => by cases e)⟩
          | th t =>
            have kat : KeysAt H2 d ((ms ++ ex).map (adM ad)) := ⟨_, .inl m2.dd, mtK_keys⟩
            obtain ⟨o, ho, eo⟩ := KeysAt.get kat ((ad t : Nat) : Int)
            refine ⟨_, rfl, rfl, _, rfl, nT (by nofun) ⟨_, rfl, _, rfl, d, o, rfl, ho, _, rfl, ?_⟩⟩
            rw [eo]
            obtain ⟨c, hc, ec⟩ := key_at (t2.ks t (List.mem_of_getElem? hx))
            cases ec
            by_cases q : ((ad c.t : Nat) : Int) ∈ (ms ++ ex).map (adM ad)
            · refine nF q (next _ _ _ _ m2 t2 (fun _ z => z) fun t e => ?_)
              cases e
              obtain ⟨m, hm, em⟩ := List.mem_map.mp q
              exact ⟨m, hm, P.inj (m2.inn m hm) hc (Int.ofNat.inj em)⟩
            · refine nT q ?_
              have hmem2 := hmem.same m2.same
              obtain ⟨q1, hq1, hq2⟩ := P.at_ hmem2 hc
              have l6 := f6 c hc
              refine ⟨_, rfl, _, rfl, p, M, _, ad c.t, c.t, c.fs.length, q1, rfl, rfl, hq1, hq2, P.fit c hc, by omega, hmem2, fun r fl H3 s3 nr nf h1 h2 => ?_⟩
              have mt : MtAt H3 ad ⟨c, r, fl, (M.vs.drop (ad c.t + 1)).take c.fs.length⟩ := ⟨h1, h2, Paired.mapP (P.flds hmem2 hc) fun _ _ q => q.tu (tu_same s3)⟩
              obtain ⟨m4, k4⟩ := m2.add (m := ⟨c, r, fl, (M.vs.drop (ad c.t + 1)).take c.fs.length⟩) s3 nf mt hc q
              have l2 := m2.len kn
              refine ⟨_, rfl, _, rfl, d, _, rfl, DPut.k (k := Sum.inl ((ad c.t : Nat) : Int)) (s3 _ _ m2.dd) (by rw [mtK_len]; exact litL (by omega)), ?_⟩
              have ndr : rw ≠ d := fun e => by
                have z := m2.rr
                rw [e, m2.dd] at z
                cases z
              refine ⟨_, rfl, Or.inl ⟨rfl, _, SqL.of ((upd_ne ndr).trans (s3 _ _ m2.rr))⟩, _, rfl, rw, _, _, rfl, rfl, (upd_ne ndr).trans (s3 _ _ m2.rr), by rw [List.length_map]; exact litL (by omega), ?_⟩
              refine next _ (ex ++ [⟨c, r, fl, (M.vs.drop (ad c.t + 1)).take c.fs.length⟩]) _ _ (by rw [← List.append_assoc]; exact m4) ⟨k4 _ _ (fun e => ?_) t2.ne t2.h, t2.ne, Paired.mapP t2.r fun _ _ q => q.tu fun b xs e => k4 b _ (fun z => ?_) (fun z => ?_) e, t2.ks⟩ (fun t z => by rw [← List.append_assoc]; exact z.app) fun t e => ?_
              · have z := t2.h
                rw [e, m2.dd] at z
                cases z
              · rw [z, m2.dd] at e
                cases e
              · rw [z, m2.rr] at e
                cases e
              · cases e
                exact ⟨⟨c, r, fl, (M.vs.drop (ad c.t + 1)).take c.fs.length⟩, List.mem_append_right _ (List.mem_append_right _ (List.mem_singleton.mpr rfl)), rfl⟩
        · rintro σ H2 ⟨ex, w6, w7, rfl, m2, t2, hj⟩
          have hall : ∀ t, Ab.th t ∈ tx → InMs (ms ++ ex) t := fun t ht => by
            obtain ⟨j, hj2⟩ := List.mem_iff_getElem?.mp ht
            exact hj j t (by rw [elen]; exact get_lt hj2) hj2
          have l2 := m2.len kn
          have lapp : (ms ++ ex).length = ms.length + ex.length := List.length_append
          have hrx2 : ∀ t, Ab.th t ∈ rx → InMs (ms ++ ex) t := fun t ht => (hrx t ht).elim (fun z => z.app) fun z => hall t z
          have hfs2 : ∀ i m, i < pl → (ms ++ ex)[i]? = some m → ∀ t, Ab.th t ∈ m.c.fs → InMs (ms ++ ex) t := fun i m hi hm t ht => by
            rw [List.getElem?_append_left (by omega)] at hm
            exact (hfs i m hi hm t ht).elim (fun z => z.app) fun z => hall t z
          refine ⟨lit 0 (by decide), fun tl2 htl2 => ?_⟩
          have m3 := m2.grow (same_new (o := .lst []) htl2)
          have h3 : upd H2 tl2 (.lst []) tl2 = some (.lst []) := upd_same
          have ne3 : tl2 ≠ rw := fun e => by rw [e, m2.rr] at htl2; cases htl2
          generalize upd H2 tl2 (.lst []) = H3 at m3 h3
          refine ⟨_, rfl, _, rfl, rw, _, rfl, .inl (SqL.of m3.rr), _, _, rfl, rfl, _, rfl, ?_⟩
          by_cases q : ((pl : Nat) : Int) < (((ms ++ ex).map fun m => V.int (adM ad m)).length : Nat)
          · refine dT q ?_
            rw [List.length_map] at q
            have q2 : pl < (ms ++ ex).length := by omega
            obtain ⟨m, hm⟩ : ∃ m, (ms ++ ex)[pl]? = some m := ⟨_, List.getElem?_eq_getElem q2⟩
            have hmm : m ∈ ms ++ ex := List.mem_of_getElem? hm
            have mt := m3.at_ m hmm
            have l6 := f6 m.c (m3.inn m hmm)
            have lw := mt.len
            refine ⟨_, rfl, _, rfl, _, rfl, rw, _, _, .int (adM ad m), rfl, rfl, SqL.of m3.rr, atI_nat (by rw [List.getElem?_map, hm]; rfl), d, .ref m.r, rfl, mtK_get (.inl m3.dd) m3.nd hmm, m.r, _, 1, _, rfl, rfl, SqT.of mt.ob, atI_nat (j := 1) rfl, ?_⟩
            refine ⟨lit 1 (by decide), fun z hz => ⟨m.fl, z, m.ws, [.non], rfl, rfl, same_new hz _ _ mt.fl, upd_same, lit _ (by rw [List.length_singleton]; omega), fun tl4 htl4 => ?_⟩⟩
            have s4 := (same_new (o := .lst [.non]) hz).trans (same_new (o := .lst (m.ws ++ [.non])) htl4)
            have m4 := m3.grow s4
            have h4 : upd (upd H3 z (.lst [.non])) tl4 (.lst (m.ws ++ [.non])) tl4 = some (.lst (m.ws ++ [.non])) := upd_same
            have ne4 : tl4 ≠ rw := fun e => by
              have := (same_new hz (o := .lst [.non])).free htl4
              rw [e, m3.rr] at this
              cases this
            generalize upd (upd H3 z (.lst [.non])) tl4 (.lst (m.ws ++ [.non])) = H4 at m4 h4 s4
            refine ⟨_, rfl, _, _, rfl, rfl, ?_⟩
            refine ⟨⟨tl4, m.ws ++ [.non], m.c.fs ++ [.non], pl + 1, ms ++ ex, _, _, rfl, m4, ⟨h4, ne4, ?_, fun t ht => ?_⟩, q2, fun e => ?_, fun t ht => .inl (hrx2 t ht), fun i m' hi hm' t ht => ?_⟩, ?_⟩
            · rw [List.map_append]
              exact pd_app (Paired.mapP mt.ws fun _ _ q => q.tu (tu_same s4)) (.cons trivial .nil)
            · rcases List.mem_append.mp ht with y | y
              · exact ck m.c (m3.inn m hmm) t y
              · cases List.mem_singleton.mp y
            · exact absurd e (by simp)
            · by_cases y : i = pl
              · rw [y, hm] at hm'
                cases hm'
                exact .inr (List.mem_append_left _ ht)
              · exact .inl (hfs2 i m' (by omega) hm' t ht)
            · show (match H4 tl4 with | some (.lst (_ :: _)) => cs.length + 2 - ((pl : Int) + 1).toNat | _ => 0) < cs.length + 2 - pl
              rw [h4]
              cases m.ws with
              | nil => show cs.length + 2 - ((pl : Int) + 1).toNat < _; omega
              | cons a l => show cs.length + 2 - ((pl : Int) + 1).toNat < _; omega
          · refine dF q ?_
            rw [List.length_map] at q
            refine ⟨⟨tl2, [], [], pl, ms ++ ex, _, _, rfl, m3, ⟨h3, ne3, .nil, fun t ht => (by cases ht)⟩, by omega, fun _ => by omega, fun t ht => .inl (hrx2 t ht), fun i m hi hm t ht => .inl (hfs2 i m hi hm t ht)⟩, ?_⟩
            show (match H3 tl2 with | some (.lst (_ :: _)) => cs.length + 2 - (pl : Int).toNat | _ => 0) < cs.length + 2 - pl
            rw [h3]
            show 0 < _
            omega
    · rintro σ H' Q1 Q2 im ⟨v, e, b, ht, q⟩
      exact ⟨v, e, b, ht, im _ _ q⟩
end SH
/-! Places one after the other. -/
namespace SH
open PySem L2
def tot : List (Int × Nat) → Nat
  | [] => 0
  | x :: l => x.2 + 1 + tot l
def adOf : List (Int × Nat) → Nat → Int → Nat
  | [], _, _ => 0
  | x :: l, b, t => if t = x.1 then b else adOf l (b + x.2 + 1) t
theorem adOf_at : ∀ {l : List (Int × Nat)} {i : Nat} {x : Int × Nat} {b : Nat}, (l.map (·.1)).Nodup → l[i]? = some x → adOf l b x.1 = b + tot (l.take i)
  | [], _, _, _, _, h => by cases h
  | y :: l, 0, x, b, _, h => by
    cases h
    show (if y.1 = y.1 then b else _) = b + 0
    rw [if_pos rfl]
    rfl
  | y :: l, i + 1, x, b, n, h => by
    obtain ⟨n1, n2⟩ := List.nodup_cons.mp (show (y.1 :: l.map (·.1)).Nodup from n)
    have h2 : l[i]? = some x := h
    show (if x.1 = y.1 then b else adOf l (b + y.2 + 1) x.1) = b + (y.2 + 1 + tot (l.take i))
    rw [if_neg fun e => n1 (by rw [← e]; exact List.mem_map.mpr ⟨x, List.mem_of_getElem? h2, rfl⟩), adOf_at n2 h2]
    omega
theorem tot_app : ∀ (l m : List (Int × Nat)), tot (l ++ m) = tot l + tot m
  | [], m => (Nat.zero_add _).symm
  | x :: l, m => by
    show x.2 + 1 + tot (l ++ m) = x.2 + 1 + tot l + tot m
    rw [tot_app l m]
    omega
theorem tot_snoc {l : List (Int × Nat)} {i : Nat} {x : Int × Nat} (h : l[i]? = some x) : tot (l.take (i + 1)) = tot (l.take i) + x.2 + 1 := by
  rw [take_snoc h, tot_app]
  show tot (l.take i) + (x.2 + 1 + 0) = _
  omega
theorem tot_mono {l : List (Int × Nat)} {i j : Nat} (h : i ≤ j) : tot (l.take i) ≤ tot (l.take j) := by
  have e : l.take j = l.take i ++ (l.take j).drop i := by
    have := List.take_append_drop i (l.take j)
    rw [List.take_take, Nat.min_eq_left h] at this
    exact this.symm
  rw [e, tot_app]
  omega
theorem tot_all {l : List (Int × Nat)} {i : Nat} : tot (l.take i) ≤ tot l := by
  have := tot_mono (l := l) (i := i) (j := max i l.length) (Nat.le_max_left _ _)
  rw [List.take_of_length_le (Nat.le_max_right _ _)] at this
  exact this
theorem adOf_fit {l : List (Int × Nat)} {i b : Nat} {x : Int × Nat} (n : (l.map (·.1)).Nodup) (h : l[i]? = some x) : adOf l b x.1 + x.2 < b + tot l := by
  have h1 := adOf_at (b := b) n h
  have h2 := tot_snoc h
  have h3 := tot_all (l := l) (i := i + 1)
  omega
theorem adOf_sep {l : List (Int × Nat)} {i j b : Nat} {x y : Int × Nat} (n : (l.map (·.1)).Nodup) (hi : l[i]? = some x) (hj : l[j]? = some y) (h : i < j) : adOf l b x.1 + x.2 < adOf l b y.1 := by
  have h1 := adOf_at (b := b) n hi
  have h4 := adOf_at (b := b) n hj
  have h2 := tot_snoc hi
  have h3 := tot_mono (l := l) (i := i + 1) (j := j) h
  omega
theorem perm_inv {α β : Type} {f : α → β} {l1 l2 : List β} (h : l1.Perm l2) : ∀ cs : List α, l2 = cs.map f → ∃ os : List α, os.map f = l1 ∧ os.Perm cs := by
  induction h with
  | nil => exact fun cs e => ⟨[], rfl, by rw [List.map_eq_nil_iff.mp e.symm]⟩
  | cons x p ih =>
    intro cs e
    cases cs with
    | nil => cases e
    | cons c cs =>
      rw [List.map_cons] at e
      injection e with e1 e2
      obtain ⟨os, h1, h2⟩ := ih cs e2
      exact ⟨c :: os, by rw [List.map_cons, h1, e1], h2.cons c⟩
  | swap x y l =>
    intro cs e
    match cs, e with
    | [], e => cases e
    | [_], e => cases e
    | c :: d :: cs, e =>
      rw [List.map_cons, List.map_cons] at e
      injection e with e1 e2
      injection e2 with e3 e4
      exact ⟨d :: c :: cs, by rw [List.map_cons, List.map_cons, ← e1, ← e3, ← e4], List.Perm.swap c d cs⟩
  | trans p q ih1 ih2 =>
    intro cs e
    obtain ⟨os, h1, h2⟩ := ih2 cs e
    obtain ⟨os2, h3, h4⟩ := ih1 os h1.symm
    exact ⟨os2, h3, h4.trans h2⟩
theorem wd_perm {a b : List Th} (h : a.Perm b) : wd a = wd b := by
  induction h with
  | nil => rfl
  | cons x p ih =>
    show (x.fs.length : Int) + 1 + wd _ = (x.fs.length : Int) + 1 + wd _
    rw [ih]
  | swap x y l =>
    show (y.fs.length : Int) + 1 + ((x.fs.length : Int) + 1 + wd l) = (x.fs.length : Int) + 1 + ((y.fs.length : Int) + 1 + wd l)
    omega
  | trans p q i1 i2 => exact i1.trans i2
theorem tot_wd {α : Type} {f : α → Int} {g : α → Th} : ∀ l : List α, ((tot (l.map fun m => (f m, (g m).fs.length)) : Nat) : Int) = wd (l.map g)
  | [] => rfl
  | m :: l => by
    have ih := tot_wd (f := f) (g := g) l
    show (((g m).fs.length + 1 + tot (l.map fun m => (f m, (g m).fs.length)) : Nat) : Int) = ((g m).fs.length : Int) + 1 + wd (l.map g)
    omega
theorem sum_wd {α : Type} {g : α → Th} : ∀ l : List α, (l.map fun m => ((g m).fs.length : Int) + 1).sum = wd (l.map g)
  | [] => rfl
  | m :: l => by
    have ih := sum_wd (g := g) l
    rw [List.map_cons, List.sum_cons, ih]
    rfl
theorem nd_of_keys {l : List Th} (h : (keys l).Nodup) : l.Nodup := nd_unmap h
end SH
/-! The copying. -/
namespace SH
open PySem PySem.Spec PyProof.Rows L2
/-- two objects may change, no tuple -/
structure Fr2 (a b : Addr) (H H' : Hp) : Prop where
  keep : ∀ x o, x ≠ a → x ≠ b → H x = some o → H' x = some o
  tu : Tu H H'
theorem Fr2.same {a b : Addr} {H H' : Hp} (s : Same H H') : Fr2 a b H H' := ⟨fun x o _ _ e => s x o e, tu_same s⟩
theorem Fr2.trans {a b : Addr} {H H1 H2 : Hp} (x : Fr2 a b H H1) (y : Fr2 a b H1 H2) : Fr2 a b H H2 := ⟨fun z o n1 n2 e => y.keep z o n1 n2 (x.keep z o n1 n2 e), x.tu.trans y.tu⟩
theorem Fr2.left {a b : Addr} {H H' : Hp} (c : Chg a H H') : Fr2 a b H H' := ⟨fun x o n _ e => c.keep x o n e, c.tu⟩
theorem Fr2.right {a b : Addr} {H H' : Hp} (c : Chg b H H') : Fr2 a b H H' := ⟨fun x o _ n e => c.keep x o n e, c.tu⟩
theorem Fr2.free {a b : Addr} {H H' : Hp} (f : Fr2 a b H H') {x : Addr} (n1 : x ≠ a) (n2 : x ≠ b) (e : H' x = none) : H x = none := by
  cases e2 : H x with
  | none => rfl
  | some o =>
    rw [f.keep x o n1 n2 e2] at e
    cases e
theorem byR {S : Prop} {R Pr : Hp → Prop} (f : (∀ H1, Pr H1 → R H1) → S) (g : ∀ H1, Pr H1 → R H1) : S := f g
def sp_copied (K : PySem.W.Frag) : Sp := fun vs H Q _ => ∃ (p q rl : Addr) (M N : Mem) (ad : Int → Nat) (cs : List Th) (rv : List V) (rx : List Ab), vs = [.ref p, .ref q, .int 7, .ref rl] ∧ MemAt H p M ∧ MemAt H q N ∧ M.wl ≠ N.wl ∧
  H rl = some (.lst rv) ∧ rl ≠ M.wl ∧ rl ≠ N.wl ∧ Paired (RW H) rv (rx.map (trW ad)) ∧
  PicAt M.f M.vs.length ad cs ∧ (keys cs).Nodup ∧ cs.length ≤ 400 ∧ (∀ c ∈ cs, c.fs.length ≤ 6) ∧ (∀ t, Ab.th t ∈ rx → t ∈ keys cs) ∧ (∀ c ∈ cs, ∀ t, Ab.th t ∈ c.fs → t ∈ keys cs) ∧ rx ≠ [] ∧ rx.length ≤ 400 ∧
  N.vs.length = 420 ∧ wd cs ≤ 400 ∧ (∀ S : Int → Prop, (∀ t, Ab.th t ∈ rx → S t) → (∀ c ∈ cs, S c.t → ∀ t, Ab.th t ∈ c.fs → S t) → ∀ c ∈ cs, S c.t) ∧
  ∀ (r al pl : Addr) (H' : Hp) (N' : Mem) (ad2 : Int → Nat) (os : List Th) (av : List V) (ps : List Addr), os.Perm cs → MemAt H' q N' → N'.vs.length = 420 → PicAt N'.f 420 ad2 cs → H' r = some (.tup [.ref al, .ref pl]) → H' al = some (.lst av) → Paired (RW H') av (rx.map (trW ad2)) →
    H' pl = some (.lst (ps.map V.ref)) → Paired (fun (a : Addr) (c : Th) => H' a = some (.tup [.int (ad c.t : Nat), .int (ad2 c.t : Nat)])) ps os → Fr2 M.wl N.wl H H' → Q (.ref r) H'
theorem met_all {H0 H : Hp} {d rw : Addr} {ad : Int → Nat} {cs : List Th} {ms : List Mt} {rx : List Ab} (m : Met H0 H d rw ad cs ms) (kn : (keys cs).Nodup) (h1 : ∀ t, Ab.th t ∈ rx → InMs ms t) (h2 : ∀ m ∈ ms, ∀ t, Ab.th t ∈ m.c.fs → InMs ms t)
    (re : ∀ S : Int → Prop, (∀ t, Ab.th t ∈ rx → S t) → (∀ c ∈ cs, S c.t → ∀ t, Ab.th t ∈ c.fs → S t) → ∀ c ∈ cs, S c.t) : (ms.map (·.c)).Perm cs := by
  have h3 := re (InMs ms) h1 fun c hc ⟨m', hm', e⟩ t ht => by
    have e2 : m'.c = c := key_inj kn (m.inn m' hm') hc e
    rw [← e2] at ht
    exact h2 m' hm' t ht
  have n1 : (ms.map (·.c)).Nodup := by
    have q : ms.map (adM ad) = (ms.map (·.c)).map fun c => ((ad c.t : Nat) : Int) := by
      rw [List.map_map]
      rfl
    have n := m.nd
    rw [q] at n
    exact nd_unmap n
  refine (List.perm_ext_iff_of_nodup n1 (nd_of_keys kn)).mpr fun c => ⟨fun hc => ?_, fun hc => ?_⟩
  · obtain ⟨x, hx, rfl⟩ := List.mem_map.mp hc
    exact m.inn x hx
  · obtain ⟨x, hx, e⟩ := h3 c hc
    exact List.mem_map.mpr ⟨x, hx, key_inj kn (m.inn x hx) hc e⟩
def mtL (ad : Int → Nat) (ms : List Mt) : List (Int × Nat) := ms.map fun m => (adM ad m, m.c.fs.length)
theorem mtL_nd {ad : Int → Nat} {ms : List Mt} (h : (ms.map (adM ad)).Nodup) : ((mtL ad ms).map (·.1)).Nodup := by
  unfold mtL
  rw [List.map_map]
  exact h
theorem mtL_at {ad : Int → Nat} {ms : List Mt} {i : Nat} {m : Mt} (h : ms[i]? = some m) : (mtL ad ms)[i]? = some (adM ad m, m.c.fs.length) := by
  unfold mtL
  rw [List.getElem?_map, h]
  rfl
theorem mv_tr {ad : Int → Nat} {a2 : Int → Nat} (x : Ab) : mvW a2 (trW ad x) = trW (fun t => a2 ((ad t : Nat) : Int)) x := by
  cases x <;> rfl
/-- where the copies stand -/
abbrev cpA (ad : Int → Nat) (ms : List Mt) : Int → Nat := adOf (mtL ad ms) 7
structure Laid2 (H : Hp) (p q : Addr) (M N : Mem) (ad : Int → Nat) (ms : List Mt) (i : Nat) (M' N' : Mem) : Prop where
  hm : MemAt H p M'
  mw : M'.wl = M.wl
  ml : M'.vs.length = M.vs.length
  hn : MemAt H q N'
  nw : N'.wl = N.wl
  nl : N'.vs.length = 420
  hd : ∀ j m, j < i → ms[j]? = some m → N'.f (cpA ad ms (adM ad m)) = .head m.c.t m.c.fs.length
  fd : ∀ j m, j < i → ms[j]? = some m → ∀ k x, m.c.fs[k]? = some x → N'.f (cpA ad ms (adM ad m) + 1 + k) = mvW (cpA ad ms) (trW ad x)
theorem MtAt.fr2 {H H' : Hp} {a b : Addr} {ad : Int → Nat} {m : Mt} (s : Fr2 a b H H') (n1 : m.fl ≠ a) (n2 : m.fl ≠ b) (h : MtAt H ad m) : MtAt H' ad m := ⟨s.tu _ _ h.ob, s.keep _ _ n1 n2 h.fl, Paired.mapP h.ws fun _ _ q => q.tu s.tu⟩
theorem pd_mapR {α β γ : Type} {F : α → γ → Prop} {g : β → γ} : ∀ {l : List α} {m : List β}, Paired (fun a b => F a (g b)) l m → Paired F l (m.map g)
  | _, _, .nil => .nil
  | _, _, .cons a b => .cons a (pd_mapR b)
theorem rws_tu {H H' : Hp} {vs : List V} {xs : List Wd} (s : Tu H H') (r : Paired (RW H) vs xs) : Paired (RW H') vs xs := Paired.mapP r fun _ _ q => q.tu s
theorem mem_adM {ad : Int → Nat} {cs : List Th} {ms : List Mt} (pm : (ms.map (·.c)).Perm cs) {t : Int} (h : t ∈ keys cs) : ((ad t : Nat) : Int) ∈ ms.map (adM ad) := by
  obtain ⟨c, hc, rfl⟩ := key_at h
  obtain ⟨m, hm, rfl⟩ := List.mem_map.mp (pm.mem_iff.mpr hc)
  exact List.mem_map.mpr ⟨m, hm, rfl⟩
theorem tr_ok2 {ad : Int → Nat} {cs : List Th} {ms : List Mt} (pm : (ms.map (·.c)).Perm cs) {x : Ab} (h : ∀ t, x = .th t → t ∈ keys cs) : trW ad x = .non ∨ (∃ i, trW ad x = .num i) ∨ ∃ a, trW ad x = .at a ∧ (a : Int) ∈ ms.map (adM ad) := by
  cases x with
  | non => exact .inl rfl
  | num i => exact .inr (.inl ⟨i, rfl⟩)
  | th t => exact .inr (.inr ⟨_, rfl, mem_adM pm (h t rfl)⟩)
theorem scf_copied : FnScope ["source", "target", "first", "roots", "things", "places", "behind", "address", "t", "fields", "word"] ["source", "target", "first", "roots"] (defScope sf_copied) := ⟨rfl, rfl, rfl, by decide +kernel, rfl, by decide +kernel, by decide +kernel⟩
theorem ok_f_copied {P : Program} {w : World} {K : PySem.W.Frag} {mg : Str → Option Value} {base : Heap} (T : Tx K mg) : Def P w K mg base CX0 6 af_copied ["source", "target", "first", "roots"] (sp_copied K) := by
  refine mk0 T.D_f_copied scf_copied (fun _ _ _ _ _ _ us hl => match us, hl with | [_, _, _, _], _ => rfl) (fun vs H Q E h => ?_) (fun cdv A outer s H vs Q E hr h => ?_)
  · first | (obtain ⟨_, rfl, _⟩ := h; rfl) | (obtain ⟨_, _, rfl, _⟩ := h; rfl) | (obtain ⟨_, _, _, rfl, _⟩ := h; rfl) | (obtain ⟨_, _, _, _, rfl, _⟩ := h; rfl) | (obtain ⟨_, _, _, _, _, rfl, _⟩ := h; rfl) | (obtain ⟨_, _, _, _, _, _, rfl, _⟩ := h; rfl) | (obtain ⟨_, _, _, _, _, _, _, rfl, _⟩ := h; rfl) | (obtain ⟨_, _, _, _, _, _, _, _, rfl, _⟩ := h; rfl) | (obtain ⟨_, _, _, _, _, _, _, _, _, rfl, _⟩ := h; rfl) | (obtain ⟨_, _, _, _, _, _, _, _, _, _, rfl, _⟩ := h; rfl) | (obtain ⟨_, _, _, _, _, _, _, _, _, _, _, rfl, _⟩ := h; rfl) | (obtain ⟨_, _, _, _, _, _, _, _, _, _, _, _, rfl, _⟩ := h; rfl)
  · have hu := hu_of hr
    refine ⟨_, (pss_cons (ps_set (i := 4) scf_copied.nd rfl (by first | exact Or.inl rfl | exact Or.inr rfl) (c_call (ok_f_met_from T) (hr.mono (by decide)) T.gf_met_from pass0 (pa_cons (pv 0) (pa_cons (pv 3) pa_nil))))
      (pss_cons (ps_if (PW.pt (pw_and (pt_truth (pv 4) (by intro _; rfl)) (pw_and1 (pt_cmpR op_gt (pe_op op_add (pv 2) (c_call (ok_f_words_in_copying T) (hr.mono (by decide)) T.gf_words_in_copying pass0 (pa_cons (pv 4) pa_nil))) (c_meth0 (ok_m_Memory_size T) (hr.mono (by decide)) T.clMemory T.mMemory_size pass0 (pv 1)) (nomark _))))) (pss_one ps_never) pss_nil)
      (pss_cons (ps_set (i := 5) scf_copied.nd rfl (by first | exact Or.inl rfl | exact Or.inr rfl) pe_dnewK)
      (pss_cons (ps_set (i := 6) scf_copied.nd rfl (by first | exact Or.inl rfl | exact Or.inr rfl) (pv 2))
      (pss_cons (ps_lock (ps_for PassesOwn.never rfl (pi_keys (pv 4)) (pg_name (i := 7) scf_copied.nd rfl (by first | exact Or.inl rfl | exact Or.inr rfl))
      (pss_cons (ps_dput hu (pv 5) (pv 7) (pv 6) rfl)
      (pss_one (ps_set (i := 6) scf_copied.nd rfl (by first | exact Or.inl rfl | exact Or.inr rfl) (pe_op op_add (pe_op op_add (pv 6) (pe_callB (r := rLenQ K) (call_lenQ rfl) (by rfl) T.zlen PySem.boot_len (pa_cons (pe_ix (r := rIxT K) (ix_tupK rfl) (pe_dget hu (pv 4) (pv 7) (fun _ _ => rfl)) pe_int (fun _ _ => rfl)) pa_nil))) pe_int))))))
      (pss_cons (ps_lock (ps_for PassesOwn.never rfl (pi_keys (pv 4)) (pg_name (i := 7) scf_copied.nd rfl (by first | exact Or.inl rfl | exact Or.inr rfl))
      (pss_cons (ps_asg (pe_dget hu (pv 4) (pv 7) (fun _ _ => rfl)) (pg_tupK (K := K) (n := 2) rfl rfl (pgs_cons (pg_name (i := 8) scf_copied.nd rfl (by first | exact Or.inl rfl | exact Or.inr rfl)) (pgs_cons (pg_name (i := 9) scf_copied.nd rfl (by first | exact Or.inl rfl | exact Or.inr rfl)) pgs_nil))))
      (pss_cons (ps_expr (c_call (ok_f_lay T) (hr.mono (by decide)) T.gf_lay pass0 (pa_cons (pv 1) (pa_cons (pe_dget hu (pv 5) (pv 7) (fun _ _ => rfl)) (pa_cons (pv 8) (pa_cons (pe_lc (own := [("word", 10)]) rfl scf_copied.nd (pi_list (pv 9)) (blkOk_by (own := [("word", 10)]) (N := ["source", "target", "first", "roots", "things", "places", "behind", "address", "t", "fields", "word"]) (sc := defScope sf_copied) (by decide +kernel)) (fun _ _ _ _ _ => (pg_name (i := 10) scf_copied.nd rfl (by first | exact Or.inl rfl | exact Or.inr rfl))) (fun _ _ _ _ _ => pts_nil) (fun _ _ _ _ _ => (c_call (ok_f_translated T) (hr.mono (by decide)) T.gf_translated pass0 (pa_cons (pv 10) (pa_cons (pv 5) pa_nil))))) pa_nil))))))
      (pss_one (ps_expr (c_meth (ok_m_Memory_put T) (hr.mono (by decide)) T.clMemory T.mMemory_put pass0 (pv 0) (pa_cons (pv 7) (pa_cons (pe_tup (pa_cons pe_str (pa_cons (pe_dget hu (pv 5) (pv 7) (fun _ _ => rfl)) (pa_cons (pe_callB (r := rLenQ K) (call_lenQ rfl) (by rfl) T.zlen PySem.boot_len (pa_cons (pv 9) pa_nil)) pa_nil)))) pa_nil)))))))))
      (pss_one (ps_ret (pe_tup (pa_cons (pe_lc (own := [("word", 10)]) rfl scf_copied.nd (pi_list (pv 3)) (blkOk_by (own := [("word", 10)]) (N := ["source", "target", "first", "roots", "things", "places", "behind", "address", "t", "fields", "word"]) (sc := defScope sf_copied) (by decide +kernel)) (fun _ _ _ _ _ => (pg_name (i := 10) scf_copied.nd rfl (by first | exact Or.inl rfl | exact Or.inr rfl))) (fun _ _ _ _ _ => pts_nil) (fun _ _ _ _ _ => (c_call (ok_f_translated T) (hr.mono (by decide)) T.gf_translated pass0 (pa_cons (pv 10) (pa_cons (pv 5) pa_nil))))) (pa_cons (pe_lock (pe_lc (own := [("address", 7)]) rfl scf_copied.nd (pi_keys (pv 4)) (blkOk_by (own := [("address", 7)]) (N := ["source", "target", "first", "roots", "things", "places", "behind", "address", "t", "fields", "word"]) (sc := defScope sf_copied) (by decide +kernel)) (fun _ _ _ _ _ => (pg_name (i := 7) scf_copied.nd rfl (by first | exact Or.inl rfl | exact Or.inr rfl))) (fun _ _ _ _ _ => pts_nil) (fun _ _ _ _ _ => (pe_tup (pa_cons (pv 7) (pa_cons (pe_dget hu (pv 5) (pv 7) (fun _ _ => rfl)) pa_nil)))))) pa_nil))))))))))), ?_⟩
    obtain ⟨p, q, rl, M, N, ad, cs, rv, rx, rfl, hm, hn, nMN, hrl, nrM, nrN, rr, P, kn, h400, f6, rk, ck, rne, r400, n420, wd4, re, k⟩ := h
    refine ⟨_, rfl, _, rfl, p, rl, M, ad, cs, rv, rx, rfl, hm, hrl, rr, P, kn, h400, f6, rk, ck, rne, fun d rw H1 ms m1 c1 c2 => ?_⟩
    have pm := met_all m1 kn c1 c2 re
    have etot : ((tot (mtL ad ms) : Nat) : Int) = wd cs := (tot_wd (f := adM ad) (g := Mt.c) ms).trans (wd_perm pm)
    have lms := m1.len kn
    have hn1 := hn.same m1.same
    have hm1 := hm.same m1.same
    apply byR (Pr := fun H2 => Same H1 H2)
    · intro rest
      refine ⟨_, rfl, _, Or.inr (Or.inr ⟨_, m1.dd, rfl⟩), ?_⟩
      cases mtK ad ms with
      | nil => exact ifF rfl (iteF (rest H1 (.refl H1)))
      | cons a l =>
        refine ifT rfl ?_
        refine ⟨_, rfl, _, rfl, d, ad, ms, rfl, m1.dd, m1.nd, m1.at_, by omega, fun H2 s2 => ?_⟩
        have hn2 := hn1.same s2
        refine ⟨_, _, rfl, rfl, _, rfl, q, _, _, rfl, hn2.ob, mF_no (by decide +kernel), q, N, rfl, hn2, _, _, rfl, rfl, _, rfl, ?_⟩
        have es : (ms.map fun m => (m.c.fs.length : Int) + 1).sum = wd cs := (sum_wd (g := Mt.c) ms).trans (wd_perm pm)
        rw [es]
        exact dF (show ¬ ((N.vs.length : Nat) : Int) < 7 + wd cs by omega) (rest H2 s2)
    intro H2 s2
    have m2 := m1.grow s2
    intro e he
    have s3 : Same H2 (upd H2 e (.dK [])) := same_new he
    have m3 := m2.grow s3
    have e3 : upd H2 e (.dK []) e = some (.dK (atsK (cpA ad ms) ((ms.map (adM ad)).take 0))) := upd_same
    generalize upd H2 e (.dK []) = H3 at s3 m3 e3
    have nde : d ≠ e := fun z => by
      have := m2.dd
      rw [z, he] at this
      cases this
    refine ⟨_, rfl, d, _, m3.dd, trivial, fun od => ⟨_, rfl, d, od, rfl, Or.inl ⟨_, upd_same, for_it walk_keys (fun i σ H' => ∃ a7, σ = [some (.ref p), some (.ref q), some (.int 7), some (.ref rl), some (.ref d), some (.ref e), some (.int ((7 + tot ((mtL ad ms).take i) : Nat) : Int)), a7, none, none, none] ∧
        H' e = some (.dK (atsK (cpA ad ms) ((ms.map (adM ad)).take i))) ∧ Chg e (upd H3 d (.frz od (.dK (mtK ad ms)))) H') ⟨none, rfl, (upd_ne nde.symm).trans e3, .refl⟩ (fun i σ H' _ ⟨_, _, _, c⟩ => c.keep _ _ nde upd_same) ?_ ?_⟩⟩⟩
    · rintro i x σ H4 H5 hi ⟨a7, rfl, he4, c4⟩ ⟨rfl, k1, v1, hk, rfl⟩
      obtain ⟨m, hmi, rfl, rfl⟩ := mtK_at hk
      have hmm : m ∈ ms := List.mem_of_getElem? hmi
      have l6 := f6 m.c (m1.inn m hmm)
      have hi2 : (ms.map (adM ad))[i]? = some (adM ad m) := by rw [List.getElem?_map, hmi]; rfl
      have nk : adM ad m ∉ (ms.map (adM ad)).take i := fun z => by
        obtain ⟨j, hj⟩ := List.mem_iff_getElem?.mp z
        have hji := get_lt hj
        rw [List.length_take] at hji
        rw [List.getElem?_take, if_pos (by omega)] at hj
        have := nd_ix m1.nd hj hi2
        omega
      have ea : ((7 + tot ((mtL ad ms).take i) : Nat) : Int) = (cpA ad ms (adM ad m) : Nat) := congrArg Int.ofNat (adOf_at (b := 7) (mtL_nd m1.nd) (mtL_at hmi)).symm
      have es := tot_snoc (mtL_at (ad := ad) hmi)
      refine ⟨_, rfl, _, rfl, _, rfl, e, _, rfl, DPut.k (k := Sum.inl (adM ad m)) he4 (by rw [atsK_len, List.length_take, List.length_map]; exact litL (by omega)), ?_⟩
      rw [ea, atsK_put nk, ← take_snoc hi2]
      have c5 : Chg e (upd H3 d (.frz od (.dK (mtK ad ms)))) (upd H5 e (.dK (atsK (cpA ad ms) ((ms.map (adM ad)).take (i + 1))))) := c4.trans (.upd he4 fun xs z => by cases z)
      have t5 : MtAt (upd H5 e (.dK (atsK (cpA ad ms) ((ms.map (adM ad)).take (i + 1))))) ad m := by
        have t3 := m3.at_ m hmm
        have t4 := t3.chg (chg_frz (u := .frz od (.dK (mtK ad ms))) m3.dd) (t3.nd m3.dd)
        refine t4.chg c5 fun z => ?_
        have := t3.fl
        rw [z, e3] at this
        cases this
      have e5 : upd H5 e (.dK (atsK (cpA ad ms) ((ms.map (adM ad)).take (i + 1)))) e = some (.dK (atsK (cpA ad ms) ((ms.map (adM ad)).take (i + 1)))) := upd_same
      generalize upd H5 e (.dK (atsK (cpA ad ms) ((ms.map (adM ad)).take (i + 1)))) = H6 at c5 t5 e5
      have ev : ((7 + tot ((mtL ad ms).take (i + 1)) : Nat) : Int) = ((cpA ad ms (adM ad m) : Nat) : Int) + (m.ws.length : Nat) + 1 := by
        have lw := t5.len
        have es2 : tot ((mtL ad ms).take (i + 1)) = tot ((mtL ad ms).take i) + m.c.fs.length + 1 := es
        omega
      exact ⟨_, rfl, _, rfl, _, rfl, d, .ref m.r, rfl, mtK_get (.inr ⟨od, c5.keep _ _ nde upd_same⟩) m1.nd hmm, m.r, _, 1, _, rfl, rfl, SqT.of t5.ob, atI_nat (j := 1) rfl, m.fl, m.ws, rfl, .inl (SqL.of t5.fl), _, _, rfl, rfl, _, _, rfl, rfl, some (.int (adM ad m)), by rw [ev]; rfl, e5, c5⟩
    · rintro σ H4 ⟨a7, rfl, he4, c4⟩
      rw [mtK_len, List.take_of_length_le (by rw [List.length_map]; omega)] at he4
      refine ⟨c4.keep _ _ nde upd_same, ?_⟩
      have s5 : Same H2 (upd H4 d (.dK (mtK ad ms))) := fun b o z => by
        by_cases y : b = d
        · rw [y, upd_same]
          rw [y, m2.dd] at z
          exact z
        · rw [upd_ne y]
          exact c4.keep _ _ (ne_of_none z he) ((upd_ne y).trans (s3 _ _ z))
      have m5 := m2.grow s5
      have e5 : upd H4 d (.dK (mtK ad ms)) e = some (.dK (atsK (cpA ad ms) (ms.map (adM ad)))) := (upd_ne nde.symm).trans he4
      generalize upd H4 d (.dK (mtK ad ms)) = H5 at s5 m5 e5
      have s15 := s2.trans s5
      have hmd : M.wl ≠ d := fun z => by
        have := hm1.wl
        rw [z, m1.dd] at this
        cases this
      have hnd : N.wl ≠ d := fun z => by
        have := hn1.wl
        rw [z, m1.dd] at this
        cases this
      have hpd : p ≠ d := fun z => by
        have := hm1.ob
        rw [z, m1.dd] at this
        cases this
      have hqd : q ≠ d := fun z => by
        have := hn1.ob
        rw [z, m1.dd] at this
        cases this
      refine ⟨d, _, m5.dd, trivial, fun od2 => ⟨_, rfl, d, od2, rfl, Or.inl ⟨_, upd_same, for_it walk_keys (fun i σ H' => ∃ a7 a8 a9, σ = [some (.ref p), some (.ref q), some (.int 7), some (.ref rl), some (.ref d), some (.ref e), some (.int ((7 + tot ((mtL ad ms).take (mtK ad ms).length) : Nat) : Int)), a7, a8, a9, none] ∧
        Fr2 M.wl N.wl (upd H5 d (.frz od2 (.dK (mtK ad ms)))) H' ∧ ∃ M' N', Laid2 H' p q M N ad ms i M' N') ⟨_, none, none, rfl, .same (.refl _), M, N, ⟨(hm1.same s15).chg (chg_frz m5.dd) hpd hmd, rfl, rfl, (hn1.same s15).chg (chg_frz m5.dd) hqd hnd, rfl, n420, fun j m hj => absurd hj (Nat.not_lt_zero _), fun j m hj => absurd hj (Nat.not_lt_zero _)⟩⟩
        (fun i σ H' _ ⟨_, _, _, _, c, _⟩ => c.keep _ _ hmd.symm hnd.symm upd_same) ?_ ?_⟩⟩⟩
      · rintro i x σ H6 H7 hi ⟨a7, a8, a9, rfl, c6, M1, N1, L⟩ ⟨rfl, k1, v1, hk, rfl⟩
        obtain ⟨m, hmi, rfl, rfl⟩ := mtK_at hk
        have hmm : m ∈ ms := List.mem_of_getElem? hmi
        have hmc := m1.inn m hmm
        have l6 := f6 m.c hmc
        have nfM : m.fl ≠ M.wl := (ne_of_none hm.wl (m1.ff m hmm)).symm
        have nfN : m.fl ≠ N.wl := (ne_of_none hn.wl (m1.ff m hmm)).symm
        have t5 := m5.at_ m hmm
        have t7 := (t5.chg (chg_frz (u := .frz od2 (.dK (mtK ad ms))) m5.dd) (t5.nd m5.dd)).fr2 c6 nfM nfN
        have neM : e ≠ M.wl := (ne_of_none (hm1.same s2).wl he).symm
        have neN : e ≠ N.wl := (ne_of_none (hn1.same s2).wl he).symm
        have e7 : PosAt H7 e (cpA ad ms) (ms.map (adM ad)) := .inl (c6.keep _ _ neM neN ((upd_ne nde.symm).trans e5))
        have mem7 : adM ad m ∈ ms.map (adM ad) := List.mem_map.mpr ⟨m, hmm, rfl⟩
        refine ⟨_, rfl, _, rfl, d, .ref m.r, rfl, mtK_get (.inr ⟨od2, c6.keep _ _ hmd.symm hnd.symm upd_same⟩) m1.nd hmm, m.r, _, rfl, SqT.of t7.ob, rfl, _, _, rfl, _, _, rfl, rfl, ?_⟩
        refine ⟨_, rfl, _, rfl, _, rfl, e, _, rfl, e7.get mem7, _, rfl, _, rfl, m.fl, rfl, ⟨_, SqL.of t7.fl⟩, fun D hD => ?_⟩
        refine lc_list (K := K) (a := m.fl) (xs := m.ws) (fun j H' => ∃ acc, H' D = some (.lst acc) ∧ Paired (RW H') acc ((m.c.fs.take j).map fun x => mvW (cpA ad ms) (trW ad x)) ∧ Same H7 H') ⟨[], upd_same, .nil, same_new hD⟩
          (fun j H' _ ⟨_, _, _, z⟩ => SqL.of (z _ _ t7.fl)) (fun j v H8 hj ⟨acc, a1, a2, a3⟩ => ?_) fun H8 ⟨acc, a1, a2, a3⟩ => ?_
        · obtain ⟨w, hw, rw⟩ := pd_get t7.ws hj
          obtain ⟨x, hx, rfl⟩ := map_get hw
          refine ⟨rfl, _, rfl, _, rfl, v, e, trW ad x, cpA ad ms, ms.map (adM ad), rfl, rw.tu (tu_same a3), tr_ok2 pm fun t z => ck m.c hmc t (by rw [← z]; exact List.mem_of_getElem? hx), e7.same a3, fun v' H9 s9 r9 => ⟨acc, s9 _ _ a1, ?_, acc ++ [v'], upd_same, ?_, same_skip (a3.trans s9) hD⟩⟩
          · have := pd_len a2
            rw [List.length_map, List.length_take] at this
            exact litL (by omega)
          · have tu : Tu H9 (upd H9 D (.lst (acc ++ [v']))) := tu_upd (s9 _ _ a1) fun xs z => by cases z
            rw [take_snoc hx, List.map_append]
            exact pd_app (rws_tu ((tu_same s9).trans tu) a2) (.cons (r9.tu tu) .nil)
        have lw := t7.len
        rw [lw, List.take_length] at a2
        have la : acc.length = m.c.fs.length := (pd_len a2).trans (List.length_map ..)
        have fit := adOf_fit (b := 7) (mtL_nd m1.nd) (mtL_at (ad := ad) hmi)
        have fit2 : cpA ad ms (adM ad m) + m.c.fs.length < 7 + tot (mtL ad ms) := fit
        have L1 := L.nl
        have nDN : D ≠ N1.wl := (ne_of_none L.hn.wl hD).symm
        have hn8 := L.hn.same a3
        have hm8 := L.hm.same a3
        refine ⟨q, D, N1, _, _, cpA ad ms (adM ad m), acc, _, rfl, rfl, a1, nDN, a2, by omega, hn8, fun H9 N2 ch hn9 w2 l2 g1 g2 g3 => ?_⟩
        have npN : p ≠ N1.wl := fun z => by
          have := L.hm.ob
          rw [z, L.hn.wl] at this
          cases this
        have nqM : q ≠ M1.wl := fun z => by
          have := L.hn.ob
          rw [z, L.hm.wl] at this
          cases this
        have nM1N : M1.wl ≠ N1.wl := by rw [L.mw, L.nw]; exact nMN
        have hm9 := hm8.chg ch npN nM1N
        have f9 : Fr2 M.wl N.wl H7 H9 := (Fr2.same a3).trans (.right (by rw [← L.nw]; exact ch))
        have e9 : PosAt H9 e (cpA ad ms) (ms.map (adM ad)) := .inl (f9.keep _ _ neM neN (c6.keep _ _ neM neN ((upd_ne nde.symm).trans e5)))
        have t9 := t7.fr2 f9 nfM nfN
        refine ⟨_, rfl, p, _, _, rfl, hm9.ob, mF_no (by decide +kernel), _, rfl, _, rfl, _, rfl, e, _, rfl, e9.get mem7, _, rfl, m.fl, m.ws, rfl, .inl (SqL.of t9.fl), lit 3 (by decide), fun z hz => ?_⟩
        have sz := same_new (o := .tup [.str "moved", .int (cpA ad ms (adM ad m) : Nat), .int (m.ws.length : Nat)]) hz
        have hmz := hm9.same sz
        have hnz := hn9.same sz
        have fitM := P.fit m.c hmc
        have Lm := L.ml
        refine ⟨p, M1, _, ad m.c.t, .ref z, rfl, rfl, by omega, hmz, ?_⟩
        have hmy := hmz.put (i := ad m.c.t) (v := .ref z) (x := .moved (cpA ad ms (adM ad m)) m.ws.length) upd_same
        have cy := hmz.chgd (u := .lst (M1.vs.set (ad m.c.t) (.ref z)))
        have hny := hnz.chg cy nqM (by rw [w2, L.nw, L.mw]; exact nMN.symm)
        refine ⟨_, _, _, rfl, c6.trans ((f9.trans (.same sz)).trans (.left (by rw [← L.mw]; exact cy))), M1.put (ad m.c.t) (.ref z) (.moved (cpA ad ms (adM ad m)) m.ws.length), N2, ⟨hmy, L.mw, Mem.put_len.trans L.ml, hny, w2.trans L.nw, l2.trans L.nl, fun j m' hj hm' => ?_, fun j m' hj hm' k x hx => ?_⟩⟩
        · by_cases y : j = i
          · rw [y, hmi] at hm'
            cases hm'
            rw [g1, la]
          · have sep := adOf_sep (b := 7) (mtL_nd m1.nd) (mtL_at (ad := ad) hm') (mtL_at (ad := ad) hmi) (show j < i by omega)
            have sep2 : cpA ad ms (adM ad m') + m'.c.fs.length < cpA ad ms (adM ad m) := sep
            rw [g3 _ (.inl (by omega))]
            exact L.hd j m' (by omega) hm'
        · have kl := get_lt hx
          by_cases y : j = i
          · rw [y, hmi] at hm'
            cases hm'
            exact g2 k _ (by rw [List.getElem?_map, hx]; rfl)
          · have sep := adOf_sep (b := 7) (mtL_nd m1.nd) (mtL_at (ad := ad) hm') (mtL_at (ad := ad) hmi) (show j < i by omega)
            have sep2 : cpA ad ms (adM ad m') + m'.c.fs.length < cpA ad ms (adM ad m) := sep
            rw [g3 _ (.inl (by omega))]
            exact L.fd j m' (by omega) hm' k x hx
      · rintro σ H6 ⟨a7, a8, a9, rfl, c6, M1, N1, L⟩
        rw [mtK_len] at L
        refine ⟨c6.keep _ _ hmd.symm hnd.symm upd_same, ?_⟩
        have f8 : Fr2 M.wl N.wl H5 (upd H6 d (.dK (mtK ad ms))) := ⟨fun b o n1 n2 z => by
            by_cases y : b = d
            · rw [y, upd_same]
              rw [y, m5.dd] at z
              exact z
            · rw [upd_ne y]
              exact c6.keep _ _ n1 n2 ((upd_ne y).trans z), fun b xs z => by
            have y : b ≠ d := fun y => by
              rw [y, m5.dd] at z
              cases z
            rw [upd_ne y]
            exact c6.tu _ _ ((upd_ne y).trans z)⟩
        have d6 := c6.keep _ _ hmd.symm hnd.symm (upd_same (H := H5) (a := d))
        have c8 : Chg d H6 (upd H6 d (.dK (mtK ad ms))) := .upd d6 fun xs z => by cases z
        have hn8 := L.hn.chg c8 hqd (by rw [L.nw]; exact hnd)
        have d8 : upd H6 d (.dK (mtK ad ms)) d = some (.dK (mtK ad ms)) := upd_same
        generalize upd H6 d (.dK (mtK ad ms)) = H8 at f8 c8 hn8 d8
        have neM : e ≠ M.wl := (ne_of_none (hm1.same s2).wl he).symm
        have neN : e ≠ N.wl := (ne_of_none (hn1.same s2).wl he).symm
        have s05 : Same H H5 := m1.same.trans s15
        have f08 : Fr2 M.wl N.wl H H8 := (Fr2.same s05).trans f8
        have e8 : PosAt H8 e (cpA ad ms) (ms.map (adM ad)) := .inl (f8.keep _ _ neM neN e5)
        have hrl8 : H8 rl = some (.lst rv) := f08.keep _ _ nrM nrN hrl
        have rr8 := rws_tu f08.tu rr
        refine ⟨_, rfl, rl, rfl, ⟨_, SqL.of hrl8⟩, fun D hD => ?_⟩
        refine lc_list (K := K) (a := rl) (xs := rv) (fun j H' => ∃ acc, H' D = some (.lst acc) ∧ Paired (RW H') acc ((rx.take j).map fun x => mvW (cpA ad ms) (trW ad x)) ∧ Same H8 H') ⟨[], upd_same, .nil, same_new hD⟩
          (fun j H' _ ⟨_, _, _, z⟩ => SqL.of (z _ _ hrl8)) (fun j v H8 hj ⟨acc, a1, a2, a3⟩ => ?_) fun H9 ⟨acc, a1, a2, a3⟩ => ?_
        · obtain ⟨w, hw, rw⟩ := pd_get rr8 hj
          obtain ⟨x, hx, rfl⟩ := map_get hw
          refine ⟨rfl, _, rfl, _, rfl, v, e, trW ad x, cpA ad ms, ms.map (adM ad), rfl, rw.tu (tu_same a3), tr_ok2 pm fun t z => rk t (by rw [← z]; exact List.mem_of_getElem? hx), e8.same a3, fun v' H9 s9 r9 => ⟨acc, s9 _ _ a1, ?_, acc ++ [v'], upd_same, ?_, same_skip (a3.trans s9) hD⟩⟩
          · have := pd_len a2
            rw [List.length_map, List.length_take] at this
            exact litL (by omega)
          · have tu : Tu H9 (upd H9 D (.lst (acc ++ [v']))) := tu_upd (s9 _ _ a1) fun xs z => by cases z
            rw [take_snoc hx, List.map_append]
            exact pd_app (rws_tu ((tu_same s9).trans tu) a2) (.cons (r9.tu tu) .nil)
        have lrv : rv.length = rx.length := (pd_len rr).trans (List.length_map ..)
        rw [lrv, List.take_length] at a2
        have d9 := a3 _ _ d8
        have nDd : D ≠ d := fun z => by
          rw [z, d9] at a1
          cases a1
        refine ⟨d, _, d9, trivial, fun od3 => ⟨_, rfl, d, od3, rfl, Or.inl ⟨_, upd_same, fun D2 hD2 => lc_it walk_keys (fun j H' => ∃ ps : List Addr, H' D2 = some (.lst (ps.map V.ref)) ∧ Paired (fun (a : Addr) (m : Mt) => H' a = some (.tup [.int (adM ad m), .int (cpA ad ms (adM ad m) : Nat)])) ps (ms.take j) ∧ Same (upd H9 d (.frz od3 (.dK (mtK ad ms)))) H')
          ⟨[], upd_same, .nil, same_new hD2⟩ (fun j H' _ ⟨_, _, _, z⟩ => z _ _ upd_same) ?_ ?_⟩⟩⟩
        · rintro j x H10 H11 hj ⟨ps, b1, b2, b3⟩ ⟨rfl, k1, v1, hk, rfl⟩
          obtain ⟨m, hmi, rfl, rfl⟩ := mtK_at hk
          have hmm : m ∈ ms := List.mem_of_getElem? hmi
          have mem7 : adM ad m ∈ ms.map (adM ad) := List.mem_map.mpr ⟨m, hmm, rfl⟩
          have e11 : PosAt H11 e (cpA ad ms) (ms.map (adM ad)) := .inl (b3 _ _ ((upd_ne nde.symm).trans (a3 _ _ (f8.keep _ _ neM neN e5))))
          refine ⟨rfl, _, rfl, _, rfl, _, rfl, e, _, rfl, e11.get mem7, lit 2 (by decide), fun z hz => ?_⟩
          have sz := same_new (o := .tup [.int (adM ad m), .int (cpA ad ms (adM ad m) : Nat)]) hz
          refine ⟨_, sz _ _ b1, ?_, ps ++ [z], ?_, ?_, same_skip (b3.trans sz) hD2⟩
          · have := pd_len b2
            rw [List.length_take] at this
            rw [List.length_map]
            exact litL (by omega)
          · rw [upd_same, List.map_append]
            rfl
          · have tu : Tu (upd H11 z (.tup [.int (adM ad m), .int (cpA ad ms (adM ad m) : Nat)])) (upd (upd H11 z (.tup [.int (adM ad m), .int (cpA ad ms (adM ad m) : Nat)])) D2 (.lst (ps.map V.ref ++ [.ref z]))) := tu_upd (sz _ _ b1) fun xs z => by cases z
            rw [take_snoc hmi]
            exact pd_app (Paired.mapP b2 fun _ _ q => tu _ _ (sz _ _ q)) (.cons (tu _ _ upd_same) .nil)
        · rintro H10 ⟨ps, b1, b2, b3⟩
          rw [mtK_len, List.take_length] at b2
          refine ⟨b3 _ _ upd_same, lit 2 (by decide), fun r hr => ?_⟩
          have s11 : Same H9 (upd H10 d (.dK (mtK ad ms))) := fun b o z => by
            by_cases y : b = d
            · rw [y, upd_same]
              rw [y, d9] at z
              exact z
            · rw [upd_ne y]
              exact b3 _ _ ((upd_ne y).trans z)
          have hD2d : D2 ≠ d := fun z => by
            rw [z, upd_same] at hD2
            cases hD2
          have b1' : upd H10 d (.dK (mtK ad ms)) D2 = some (.lst (ps.map V.ref)) := (upd_ne hD2d).trans b1
          have b2' : Paired (fun (a : Addr) (m : Mt) => upd H10 d (.dK (mtK ad ms)) a = some (.tup [.int (adM ad m), .int (cpA ad ms (adM ad m) : Nat)])) ps ms := Paired.mapP b2 fun a m z => (upd_ne fun y => by
            rw [y, b3 _ _ upd_same] at z
            cases z).trans z
          generalize upd H10 d (.dK (mtK ad ms)) = H11 at s11 b1' b2' hr
          have sr := same_new (o := .tup [.ref D, .ref D2]) hr
          have s8 := (a3.trans s11).trans sr
          have memE : ∀ c ∈ cs, ∃ (j : Nat) (m : Mt), ms[j]? = some m ∧ m.c = c := fun c hc => by
            obtain ⟨m, hm, e⟩ := List.mem_map.mp (pm.mem_iff.mpr hc)
            obtain ⟨j, hj⟩ := List.mem_iff_getElem?.mp hm
            exact ⟨j, m, hj, e⟩
          refine k r D D2 _ N1 (fun t => cpA ad ms ((ad t : Nat) : Int)) (ms.map (·.c)) acc ps pm (hn8.same s8) L.nl ⟨fun c hc => ?_, fun c hc => ?_, fun c hc i x hx => ?_, fun c hc c' hc' nt => ?_⟩ upd_same (sr _ _ (s11 _ _ a1)) ?_ (sr _ _ b1') (pd_mapR (g := Mt.c) (Paired.mapP b2' fun a m z => sr a (.tup [.int (adM ad m), .int (cpA ad ms (adM ad m) : Nat)]) z)) (f08.trans (.same s8))
          · obtain ⟨j, m, hj, rfl⟩ := memE c hc
            have fit : cpA ad ms (adM ad m) + m.c.fs.length < 7 + tot (mtL ad ms) := adOf_fit (b := 7) (mtL_nd m1.nd) (mtL_at (ad := ad) hj)
            show cpA ad ms (adM ad m) + m.c.fs.length < 420
            omega
          · obtain ⟨j, m, hj, rfl⟩ := memE c hc
            exact L.hd j m (get_lt hj) hj
          · obtain ⟨j, m, hj, rfl⟩ := memE c hc
            exact (L.fd j m (get_lt hj) hj i x hx).trans (mv_tr x)
          · obtain ⟨j, m, hj, rfl⟩ := memE c hc
            obtain ⟨j', m', hj', rfl⟩ := memE c' hc'
            have ne : j ≠ j' := fun z => by
              rw [z, hj'] at hj
              cases hj
              exact nt rfl
            rcases Nat.lt_or_gt_of_ne ne with y | y
            · exact .inl (adOf_sep (b := 7) (mtL_nd m1.nd) (mtL_at (ad := ad) hj) (mtL_at (ad := ad) hj') y)
            · exact .inr (adOf_sep (b := 7) (mtL_nd m1.nd) (mtL_at (ad := ad) hj') (mtL_at (ad := ad) hj) y)
          · have e2 : (rx.map fun x => mvW (cpA ad ms) (trW ad x)) = rx.map (trW fun t => cpA ad ms ((ad t : Nat) : Int)) := List.map_congr_left fun x _ => mv_tr x
            rw [← e2]
            exact rws_tu (tu_same (s11.trans sr)) a2
end SH
/-! The law's laying of a heap in a memory. -/
namespace SH
open PySem PySem.Spec PyProof.Rows L2
theorem HeapAt.chg {H H' : Hp} {p a : Addr} {s : HS} (h : HeapAt H p s) (c : Chg a H H') (n : ¬ own p s a) : HeapAt H' p s where
  ob := c.keep _ _ (fun e => n (by rw [← e]; exact own_p)) h.ob
  hl := c.keep _ _ (fun e => n (by rw [← e]; exact own_lh)) h.hl
  hr := h.hr.tu c.tu
  nl := c.keep _ _ (fun e => n (by rw [← e]; exact own_ln)) h.nl
  kd := c.keep _ _ (fun e => n (by rw [← e]; exact own_dk)) h.kd
  th := fun x hx => ⟨c.keep _ _ (fun e => n (by rw [← e]; exact own_a hx)) (h.th x hx).ob, c.keep _ _ (fun e => n (by rw [← e]; exact own_il hx)) (h.th x hx).il, (h.th x hx).rp.tu c.tu⟩
  gd := fun d g e => c.keep _ _ (fun z => n (by rw [← z]; exact own_g e)) (h.gd d g e)
  sl := c.keep _ _ (fun e => n (by rw [← e]; exact own_ls)) h.sl
  n1 := h.n1
  n2 := h.n2
  n3 := h.n3
def trN (ad : Int → Nat) : Option Int → Wd
  | none => .non
  | some t => .at (ad t)
def sp_law_names (K : PySem.W.Frag) : Sp := fun vs H Q _ => ∃ (p d : Addr) (s : HS) (ad : Int → Nat) (ks : List Int), vs = [.ref p, .ref d] ∧ HeapAt H p s ∧ PosAt H d ad ks ∧ (∀ t, some t ∈ s.nv → t ∈ ks) ∧ s.nv.length = 8 ∧
  ∀ (r : Addr) (H' : Hp) (us : List V), Same H H' → H r = none → H' r = some (.lst us) → Paired (RW H') us (s.nv.map (trN ad)) → Q (.ref r) H'
theorem scf__law_names : FnScope ["heap", "at", "told", "thing"] ["heap", "at"] (defScope sf__law_names) := ⟨rfl, rfl, rfl, by decide +kernel, rfl, by decide +kernel, by decide +kernel⟩
theorem ok_f__law_names {P : Program} {w : World} {K : PySem.W.Frag} {mg : Str → Option Value} {base : Heap} (T : Tx K mg) : Def P w K mg base CX0 2 af__law_names ["heap", "at"] (sp_law_names K) := by
  refine mk0 T.D_f__law_names scf__law_names (fun _ _ _ _ _ _ us hl => match us, hl with | [_, _], _ => rfl) (fun vs H Q E h => ?_) (fun cdv A outer s H vs Q E hr h => ?_)
  · first | (obtain ⟨_, rfl, _⟩ := h; rfl) | (obtain ⟨_, _, rfl, _⟩ := h; rfl) | (obtain ⟨_, _, _, rfl, _⟩ := h; rfl) | (obtain ⟨_, _, _, _, rfl, _⟩ := h; rfl) | (obtain ⟨_, _, _, _, _, rfl, _⟩ := h; rfl) | (obtain ⟨_, _, _, _, _, _, rfl, _⟩ := h; rfl) | (obtain ⟨_, _, _, _, _, _, _, rfl, _⟩ := h; rfl) | (obtain ⟨_, _, _, _, _, _, _, _, rfl, _⟩ := h; rfl) | (obtain ⟨_, _, _, _, _, _, _, _, _, rfl, _⟩ := h; rfl) | (obtain ⟨_, _, _, _, _, _, _, _, _, _, rfl, _⟩ := h; rfl) | (obtain ⟨_, _, _, _, _, _, _, _, _, _, _, rfl, _⟩ := h; rfl) | (obtain ⟨_, _, _, _, _, _, _, _, _, _, _, _, rfl, _⟩ := h; rfl)
  · have hu := hu_of hr
    refine ⟨_, (pss_cons (ps_set (i := 2) scf__law_names.nd rfl (by first | exact Or.inl rfl | exact Or.inr rfl) (pe_lst pa_nil))
      (pss_cons (ps_for PassesOwn.never rfl (pi_list (c_meth0 (ok_m_IdealHeap_names T) (hr.mono (by decide)) T.clIdealHeap T.mIdealHeap_names pass0 (pv 0))) (pg_name (i := 3) scf__law_names.nd rfl (by first | exact Or.inl rfl | exact Or.inr rfl))
      (pss_one (ps_if (pt_cmpR op_isN (pv 3) pe_non (nomark _)) (pss_one (ps_expr (pe_bm PySem.F.plainAttrs_list PySem.F.slot_list_append PySem.F.type_list_append mt_append (pv 2) (pa_cons pe_non pa_nil)))) (pss_one (ps_expr (pe_bm PySem.F.plainAttrs_list PySem.F.slot_list_append PySem.F.type_list_append mt_append (pv 2) (pa_cons (pe_tup (pa_cons pe_str (pa_cons (pe_dget hu (pv 1) (pv 3) (fun _ _ => rfl)) pa_nil))) pa_nil)))))))
      (pss_one (ps_ret (pv 2))))), ?_⟩
    obtain ⟨p, d, z, ad, ks, rfl, hp, pd, hks, n8, k⟩ := h
    refine ⟨lit 0 (by decide), fun l hl => ?_⟩
    have s1 : Same H (upd H l (.lst [])) := same_new hl
    have hp1 := hp.same s1
    refine ⟨_, rfl, p, _, _, rfl, hp1.ob, hF_no (by decide +kernel), p, z, rfl, hp1, fun nl hnl => ?_⟩
    have s2 := s1.trans (same_new (o := .lst (z.nv.map nV)) hnl)
    have nnl : nl ≠ l := fun e => by rw [e, upd_same] at hnl; cases hnl
    have h2 : upd (upd H l (.lst [])) nl (.lst (z.nv.map nV)) nl = some (.lst (z.nv.map nV)) := upd_same
    have l2 : upd (upd H l (.lst [])) nl (.lst (z.nv.map nV)) l = some (.lst []) := (upd_ne nnl.symm).trans upd_same
    generalize upd (upd H l (.lst [])) nl (.lst (z.nv.map nV)) = H2 at s2 h2 l2
    refine ⟨nl, rfl, ⟨_, SqL.of h2⟩, for_list (K := K) (a := nl) (xs := z.nv.map nV) (fun i σ H' => ∃ a, σ = [some (.ref p), some (.ref d), some (.ref l), a] ∧ ∃ acc, H' l = some (.lst acc) ∧ Paired (RW H') acc ((z.nv.take i).map (trN ad)) ∧ Chg l H2 H') ⟨none, rfl, [], l2, .nil, .refl⟩
      (fun i σ H' _ ⟨_, _, _, _, _, c⟩ => SqL.of (c.keep _ _ nnl h2)) ?_ ?_⟩
    · rintro i v σ H3 hi ⟨a, rfl, acc, a1, a2, c⟩
      obtain ⟨o, ho, rfl⟩ := map_get hi
      have la : acc.length < sizeLine := by
        have := pd_len a2
        rw [List.length_map, List.length_take] at this
        exact litL (by omega)
      cases o with
      | none =>
        refine ⟨_, rfl, rfl, _, rfl, dT rfl ⟨_, rfl, Or.inl ⟨rfl, _, SqL.of a1⟩, l, acc, .non, rfl, rfl, a1, la, _, rfl, acc ++ [.non], upd_same, ?_, c.trans (.upd a1 fun xs z => by cases z)⟩⟩
        rw [take_snoc ho, List.map_append]
        exact pd_app (rws_tu (tu_upd a1 fun xs z => by cases z) a2) (.cons trivial .nil)
      | some t =>
        have nld : d ≠ l := fun e => by
          rcases pd with q | ⟨od, q⟩
          · rw [e, hl] at q
            cases q
          · rw [e, hl] at q
            cases q
        have pd3 : PosAt H3 d ad ks := by
          rcases pd.same s2 with q | ⟨od, q⟩
          · exact .inl (c.keep _ _ nld q)
          · exact .inr ⟨od, c.keep _ _ nld q⟩
        refine ⟨_, rfl, rfl, _, rfl, dF (by nofun) ⟨_, rfl, Or.inl ⟨rfl, _, SqL.of a1⟩, _, rfl, _, rfl, d, _, rfl, pd3.get (hks t (List.mem_of_getElem? ho)), lit 2 (by decide), fun y hy => ?_⟩⟩
        have sy := same_new (o := .tup [.str "at", .int (ad t : Nat)]) hy
        refine ⟨l, acc, .ref y, rfl, rfl, sy _ _ a1, la, _, rfl, acc ++ [.ref y], upd_same, ?_, (c.trans (.same sy)).trans (.upd (sy _ _ a1) fun xs z => by cases z)⟩
        have tu : Tu (upd H3 y (.tup [.str "at", .int (ad t : Nat)])) (upd (upd H3 y (.tup [.str "at", .int (ad t : Nat)])) l (.lst (acc ++ [.ref y]))) := tu_upd (sy _ _ a1) fun xs z => by cases z
        rw [take_snoc ho, List.map_append]
        exact pd_app (rws_tu ((tu_same sy).trans tu) a2) (.cons (tu _ _ upd_same) .nil)
    · rintro σ H3 ⟨a, rfl, acc, a1, a2, c⟩
      rw [List.length_map, List.take_length] at a2
      exact ⟨_, rfl, k l H3 acc (fun b o e => c.keep _ _ (ne_of_none e hl) (s2 _ _ e)) hl a1 a2⟩
def osL (os : List Th) : List (Int × Nat) := os.map fun c => (c.t, c.fs.length)
theorem osL_nd {os : List Th} (h : (keys os).Nodup) : ((osL os).map (·.1)).Nodup := by
  unfold osL
  rw [List.map_map]
  exact h
theorem osL_at {os : List Th} {i : Nat} {c : Th} (h : os[i]? = some c) : (osL os)[i]? = some (c.t, c.fs.length) := by
  unfold osL
  rw [List.getElem?_map, h]
  rfl
abbrev layA (os : List Th) : Int → Nat := adOf (osL os) 0
theorem layA_dis {os cs : List Th} (pm : os.Perm cs) (kn : (keys os).Nodup) : ∀ c ∈ cs, ∀ d ∈ cs, c.t ≠ d.t → layA os c.t + c.fs.length < layA os d.t ∨ layA os d.t + d.fs.length < layA os c.t := fun c hc d hd n => by
  obtain ⟨i, hi⟩ := List.mem_iff_getElem?.mp (pm.mem_iff.mpr hc)
  obtain ⟨j, hj⟩ := List.mem_iff_getElem?.mp (pm.mem_iff.mpr hd)
  have ne : i ≠ j := fun z => by
    rw [z, hj] at hi
    cases hi
    exact n rfl
  rcases Nat.lt_or_gt_of_ne ne with y | y
  · exact .inl (adOf_sep (b := 0) (osL_nd kn) (osL_at hi) (osL_at hj) y)
  · exact .inr (adOf_sep (b := 0) (osL_nd kn) (osL_at hj) (osL_at hi) y)
theorem layA_fit {os cs : List Th} (pm : os.Perm cs) (kn : (keys os).Nodup) {c : Th} (hc : c ∈ cs) : layA os c.t + c.fs.length < tot (osL os) := by
  obtain ⟨i, hi⟩ := List.mem_iff_getElem?.mp (pm.mem_iff.mpr hc)
  have := adOf_fit (b := 0) (osL_nd kn) (osL_at hi)
  have e : adOf (osL os) 0 c.t + c.fs.length < 0 + tot (osL os) := this
  show adOf (osL os) 0 c.t + c.fs.length < tot (osL os)
  omega
def sp_law_laid (K : PySem.W.Frag) : Sp := fun vs H Q _ => ∃ (p q : Addr) (s : HS) (M : Mem), vs = [.ref p, .ref q] ∧ HeapAt H p s ∧ (keys s.cs).Nodup ∧ (∀ c ∈ s.cs, c.fs.length ≤ 6) ∧ wd s.cs ≤ 400 ∧ s.cs.length ≤ 400 ∧
  (∀ c ∈ s.cs, ∀ t, Ab.th t ∈ c.fs → t ∈ keys s.cs) ∧ MemAt H q M ∧ M.vs.length = 400 ∧ ¬ own p s M.wl ∧
  ∀ (d : Addr) (H' : Hp) (M' : Mem) (ad : Int → Nat) (os : List Th), os.Perm s.cs → H d = none → H' d = some (.dK (atsK ad (keys os))) → MemAt H' q M' → M'.wl = M.wl → M'.vs.length = 400 → PicAt M'.f 400 ad s.cs → Chg M.wl H H' → Q (.ref d) H'
/-- what has been laid -/
def LaidC (f : Nat → Wd) (ad : Int → Nat) (c : Th) : Prop := f (ad c.t) = .head c.t c.fs.length ∧ ∀ k x, c.fs[k]? = some x → f (ad c.t + 1 + k) = trW ad x
theorem scf__law_laid : FnScope ["heap", "memory", "at", "behind", "thing", "fields", "k", "value"] ["heap", "memory"] (defScope sf__law_laid) := ⟨rfl, rfl, rfl, by decide +kernel, rfl, by decide +kernel, by decide +kernel⟩
theorem ok_f__law_laid {P : Program} {w : World} {K : PySem.W.Frag} {mg : Str → Option Value} {base : Heap} (T : Tx K mg) : Def P w K mg base CX0 3 af__law_laid ["heap", "memory"] (sp_law_laid K) := by
  refine mk0 T.D_f__law_laid scf__law_laid (fun _ _ _ _ _ _ us hl => match us, hl with | [_, _], _ => rfl) (fun vs H Q E h => ?_) (fun cdv A outer s H vs Q E hr h => ?_)
  · first | (obtain ⟨_, rfl, _⟩ := h; rfl) | (obtain ⟨_, _, rfl, _⟩ := h; rfl) | (obtain ⟨_, _, _, rfl, _⟩ := h; rfl) | (obtain ⟨_, _, _, _, rfl, _⟩ := h; rfl) | (obtain ⟨_, _, _, _, _, rfl, _⟩ := h; rfl) | (obtain ⟨_, _, _, _, _, _, rfl, _⟩ := h; rfl) | (obtain ⟨_, _, _, _, _, _, _, rfl, _⟩ := h; rfl) | (obtain ⟨_, _, _, _, _, _, _, _, rfl, _⟩ := h; rfl) | (obtain ⟨_, _, _, _, _, _, _, _, _, rfl, _⟩ := h; rfl) | (obtain ⟨_, _, _, _, _, _, _, _, _, _, rfl, _⟩ := h; rfl) | (obtain ⟨_, _, _, _, _, _, _, _, _, _, _, rfl, _⟩ := h; rfl) | (obtain ⟨_, _, _, _, _, _, _, _, _, _, _, _, rfl, _⟩ := h; rfl)
  · have hu := hu_of hr
    refine ⟨_, (pss_cons (ps_set (i := 2) scf__law_laid.nd rfl (by first | exact Or.inl rfl | exact Or.inr rfl) pe_dnewK)
      (pss_cons (ps_set (i := 3) scf__law_laid.nd rfl (by first | exact Or.inl rfl | exact Or.inr rfl) pe_int)
      (pss_cons (ps_for PassesOwn.never rfl (pi_list (c_meth0 (ok_m_IdealHeap_things T) (hr.mono (by decide)) T.clIdealHeap T.mIdealHeap_things pass0 (pv 0))) (pg_name (i := 4) scf__law_laid.nd rfl (by first | exact Or.inl rfl | exact Or.inr rfl))
      (pss_cons (ps_dput hu (pv 2) (pv 4) (pv 3) rfl)
      (pss_one (ps_set (i := 3) scf__law_laid.nd rfl (by first | exact Or.inl rfl | exact Or.inr rfl) (pe_op op_add (pe_op op_add (pv 3) (pe_callB (r := rLenQ K) (call_lenQ rfl) (by rfl) T.zlen PySem.boot_len (pa_cons (c_meth (ok_m_IdealHeap_fields_of T) (hr.mono (by decide)) T.clIdealHeap T.mIdealHeap_fields_of pass0 (pv 0) (pa_cons (pv 4) pa_nil)) pa_nil))) pe_int)))))
      (pss_cons (ps_for PassesOwn.never rfl (pi_list (c_meth0 (ok_m_IdealHeap_things T) (hr.mono (by decide)) T.clIdealHeap T.mIdealHeap_things pass0 (pv 0))) (pg_name (i := 4) scf__law_laid.nd rfl (by first | exact Or.inl rfl | exact Or.inr rfl))
      (pss_cons (ps_set (i := 5) scf__law_laid.nd rfl (by first | exact Or.inl rfl | exact Or.inr rfl) (c_meth (ok_m_IdealHeap_fields_of T) (hr.mono (by decide)) T.clIdealHeap T.mIdealHeap_fields_of pass0 (pv 0) (pa_cons (pv 4) pa_nil)))
      (pss_cons (ps_expr (c_meth (ok_m_Memory_put T) (hr.mono (by decide)) T.clMemory T.mMemory_put pass0 (pv 1) (pa_cons (pe_dget hu (pv 2) (pv 4) (fun _ _ => rfl)) (pa_cons (pe_tup (pa_cons pe_str (pa_cons (pv 4) (pa_cons (pe_callB (r := rLenQ K) (call_lenQ rfl) (by rfl) T.zlen PySem.boot_len (pa_cons (pv 5) pa_nil)) pa_nil)))) pa_nil))))
      (pss_one (ps_for PassesOwn.never rfl (pi_enum (by rfl) T.zenumerate (pa_cons (pv 5) pa_nil)) (pg_tupK (K := K) (n := 2) rfl rfl (pgs_cons (pg_name (i := 6) scf__law_laid.nd rfl (by first | exact Or.inl rfl | exact Or.inr rfl)) (pgs_cons (pg_name (i := 7) scf__law_laid.nd rfl (by first | exact Or.inl rfl | exact Or.inr rfl)) pgs_nil)))
      (pss_one (ps_expr (c_meth (ok_m_Memory_put T) (hr.mono (by decide)) T.clMemory T.mMemory_put pass0 (pv 1) (pa_cons (pe_op op_add (pe_op op_add (pe_dget hu (pv 2) (pv 4) (fun _ _ => rfl)) pe_int) (pv 6)) (pa_cons (c_call (ok_f__law_word_of T) (hr.mono (by decide)) T.gf__law_word_of pass0 (pa_cons (pv 7) (pa_cons (pv 2) pa_nil))) pa_nil))))))))))
      (pss_one (ps_ret (pv 2))))))), ?_⟩
    obtain ⟨p, q, z, M, rfl, hp, kn, f6, w4, c4, ck, hm, m4, nown, k⟩ := h
    intro d hd
    have s1 : Same H (upd H d (.dK [])) := same_new hd
    have hp1 := hp.same s1
    refine ⟨_, rfl, p, _, _, rfl, hp1.ob, hF_no (by decide +kernel), p, z, rfl, hp1, fun ts tl tp _ htl => ?_⟩
    obtain ⟨os, rfl, pm⟩ := perm_inv tp z.cs rfl
    have kno : (keys os).Nodup := (pm.map (·.t)).nodup_iff.mpr kn
    have etot : ((tot (osL os) : Nat) : Int) = wd z.cs := by
      have := tot_wd (f := fun c : Th => c.t) (g := id) os
      rw [List.map_id] at this
      exact this.trans (wd_perm pm)
    have loo := pm.length_eq
    have s2 := s1.trans (same_new (o := .lst ((keys os).map V.int)) htl)
    have ntd : tl ≠ d := fun e => by rw [e, upd_same] at htl; cases htl
    have h2 : upd (upd H d (.dK [])) tl (.lst ((keys os).map V.int)) tl = some (.lst ((keys os).map V.int)) := upd_same
    have d2 : upd (upd H d (.dK [])) tl (.lst ((keys os).map V.int)) d = some (.dK []) := (upd_ne ntd.symm).trans upd_same
    generalize upd (upd H d (.dK [])) tl (.lst ((keys os).map V.int)) = H2 at s2 h2 d2
    have hp2 := hp.same s2
    have nd : ¬ own p z d := not_own hp hd
    refine ⟨tl, rfl, ⟨_, SqL.of h2⟩, for_list (K := K) (a := tl) (xs := (keys os).map V.int) (fun i σ H' => ∃ a, σ = [some (.ref p), some (.ref q), some (.ref d), some (.int (tot ((osL os).take i) : Nat)), a, none, none, none] ∧ H' d = some (.dK (atsK (layA os) ((keys os).take i))) ∧ Chg d H2 H')
      ⟨none, rfl, d2, .refl⟩ (fun i σ H' _ ⟨_, _, _, c⟩ => SqL.of (c.keep _ _ ntd h2)) ?_ ?_⟩
    · rintro i v σ H3 hi ⟨a, rfl, a1, c⟩
      obtain ⟨t, ht, rfl⟩ := map_get hi
      obtain ⟨x, hx, rfl⟩ := map_get ht
      have hxc : x ∈ z.cs := pm.mem_iff.mp (List.mem_of_getElem? hx)
      have l6 := f6 x hxc
      have nk : x.t ∉ (keys os).take i := fun y => by
        obtain ⟨j, hj⟩ := List.mem_iff_getElem?.mp y
        have hji := get_lt hj
        rw [List.length_take] at hji
        rw [List.getElem?_take, if_pos (by omega)] at hj
        have := nd_ix kno hj ht
        omega
      have ea : ((tot ((osL os).take i) : Nat) : Int) = (layA os x.t : Nat) := by
        have := adOf_at (b := 0) (osL_nd kno) (osL_at hx)
        have e : adOf (osL os) 0 x.t = 0 + tot ((osL os).take i) := this
        show _ = ((adOf (osL os) 0 x.t : Nat) : Int)
        omega
      have es := tot_snoc (osL_at hx)
      refine ⟨_, rfl, _, rfl, _, rfl, d, _, rfl, DPut.k (k := Sum.inl x.t) a1 (by rw [atsK_len, List.length_take]; show min i (os.map (·.t)).length < _; rw [List.length_map]; exact litL (by omega)), ?_⟩
      have ep : putK (atsK (layA os) ((keys os).take i)) (Sum.inl x.t : Key) (.int (tot ((osL os).take i) : Nat)) = atsK (layA os) ((keys os).take (i + 1)) := by
        rw [ea, atsK_put nk, ← take_snoc ht]
      rw [ep]
      have c5 : Chg d H2 (upd H3 d (.dK (atsK (layA os) ((keys os).take (i + 1))))) := c.trans (.upd a1 fun xs z => by cases z)
      have d5 : upd H3 d (.dK (atsK (layA os) ((keys os).take (i + 1)))) d = some (.dK (atsK (layA os) ((keys os).take (i + 1)))) := upd_same
      generalize upd H3 d (.dK (atsK (layA os) ((keys os).take (i + 1)))) = H5 at c5 d5
      have hp5 := hp2.chg c5 nd
      refine ⟨_, rfl, _, rfl, p, _, _, rfl, hp5.ob, hF_no (by decide +kernel), _, rfl, p, z, x, rfl, hp5, kn, hxc, fun l hl => ?_⟩
      have lv : x.vs.length = x.fs.length := pd_len (hp5.th x hxc).rp
      have ev : ((tot ((osL os).take (i + 1)) : Nat) : Int) = ((tot ((osL os).take i) : Nat) : Int) + (x.vs.length : Nat) + 1 := by
        have es2 : tot ((osL os).take (i + 1)) = tot ((osL os).take i) + x.fs.length + 1 := es
        omega
      exact ⟨l, _, rfl, .inl (SqL.of upd_same), _, _, rfl, rfl, _, _, rfl, rfl, some (.int x.t), by rw [ev]; rfl, same_new hl _ _ d5, c5.trans (.same (same_new hl))⟩
    · rintro σ H3 ⟨a, rfl, a1, c⟩
      rw [List.length_map, List.take_length] at a1
      have s3 : Same H H3 := fun b o e => c.keep _ _ (ne_of_none e hd) (s2 _ _ e)
      have hp3 := hp.same s3
      have hm3 := hm.same s3
      refine ⟨_, rfl, p, _, _, rfl, hp3.ob, hF_no (by decide +kernel), p, z, rfl, hp3, fun ts2 tl2 tp2 _ htl2 => ?_⟩
      obtain ⟨o2, rfl, pm2⟩ := perm_inv tp2 z.cs rfl
      have s4 := same_new (o := .lst ((keys o2).map V.int)) htl2
      have h4 : upd H3 tl2 (.lst ((keys o2).map V.int)) tl2 = some (.lst ((keys o2).map V.int)) := upd_same
      have a4 := s4 _ _ a1
      have s34 := s3.trans s4
      generalize upd H3 tl2 (.lst ((keys o2).map V.int)) = H4 at s4 h4 a4 s34
      have hm4 := hm.same s34
      have hp4 := hp.same s34
      have kno2 : (keys o2).Nodup := (pm2.map (·.t)).nodup_iff.mpr kn
      have ndw : d ≠ M.wl := (ne_of_none hm.wl hd).symm
      have ntw : tl2 ≠ M.wl := (ne_of_none hm3.wl htl2).symm
      refine ⟨tl2, rfl, ⟨_, SqL.of h4⟩, for_list (K := K) (a := tl2) (xs := (keys o2).map V.int) (fun i σ H' => ∃ a4 a5 a6 a7, σ = [some (.ref p), some (.ref q), some (.ref d), some (.int (tot ((osL os).take ((keys os).map V.int).length) : Nat)), a4, a5, a6, a7] ∧
        ∃ M' : Mem, Chg M.wl H4 H' ∧ MemAt H' q M' ∧ M'.wl = M.wl ∧ M'.vs.length = 400 ∧ ∀ j x, j < i → o2[j]? = some x → LaidC M'.f (layA os) x)
        ⟨_, _, _, _, rfl, M, .refl, hm4, rfl, m4, fun j x hj => absurd hj (Nat.not_lt_zero _)⟩ (fun i σ H' _ ⟨_, _, _, _, _, _, c, _⟩ => SqL.of (c.keep _ _ ntw h4)) ?_ ?_⟩
      · rintro i v σ H5 hi ⟨b4, b5, b6, b7, rfl, M5, c5, hm5, w5, l5, g5⟩
        obtain ⟨t, ht, rfl⟩ := map_get hi
        obtain ⟨x, hx, rfl⟩ := map_get ht
        have hxc : x ∈ z.cs := pm2.mem_iff.mp (List.mem_of_getElem? hx)
        have l6 := f6 x hxc
        have hp5 := hp4.chg c5 nown
        refine ⟨_, rfl, p, _, _, rfl, hp5.ob, hF_no (by decide +kernel), _, rfl, p, z, x, rfl, hp5, kn, hxc, fun fl hfl => ?_⟩
        have s6 := same_new (o := .lst x.vs) hfl
        have hfl6 : upd H5 fl (.lst x.vs) fl = some (.lst x.vs) := upd_same
        have c6 := c5.trans (.same s6)
        have hm6 := hm5.same s6
        have r6 := (hp5.th x hxc).rp.tu (tu_same s6)
        have lv : x.vs.length = x.fs.length := pd_len r6
        have nfw : fl ≠ M5.wl := (ne_of_none hm5.wl hfl).symm
        generalize upd H5 fl (.lst x.vs) = H6 at s6 hfl6 c6 hm6 r6
        have mem7 : x.t ∈ keys os := (pm.map (·.t)).mem_iff.mpr (key_of hxc)
        have p6 : PosAt H6 d (layA os) (keys os) := .inl (c6.keep _ _ ndw a4)
        have fit := layA_fit pm kno hxc
        refine ⟨_, rfl, q, _, _, rfl, hm6.ob, mF_no (by decide +kernel), _, rfl, _, rfl, d, _, rfl, p6.get mem7, _, rfl, _, rfl, fl, _, rfl, .inl (SqL.of hfl6), lit 3 (by decide), fun y hy => ?_⟩
        have sy := same_new (o := .tup [.str "head", .int x.t, .int (x.vs.length : Nat)]) hy
        have hm7 := hm6.same sy
        refine ⟨q, M5, _, layA os x.t, .ref y, rfl, rfl, by omega, hm7, ?_⟩
        have hm8 := hm7.put (i := layA os x.t) (v := .ref y) (x := .head x.t x.vs.length) upd_same
        have c8 := (c6.trans (.same sy)).trans (by rw [← w5]; exact hm7.chgd (u := .lst (M5.vs.set (layA os x.t) (.ref y))))
        have k8 : Chg M5.wl H6 _ := (Chg.same sy).trans (hm7.chgd (u := .lst (M5.vs.set (layA os x.t) (.ref y))))
        generalize upd (upd H6 y _) M5.wl _ = H8 at hm8 c8 k8
        have ce : ∀ {G : Hp}, Chg M.wl H8 G → Chg M5.wl H6 G := fun c => k8.trans (by rw [w5]; exact c)
        refine ⟨_, rfl, fl, x.vs, rfl, SqL.of (k8.keep _ _ nfw hfl6), for_it (walk_enum (K := K) (a := fl) (xs := x.vs)) (fun j σ H' => ∃ b6 b7, σ = [some (.ref p), some (.ref q), some (.ref d), some (.int (tot ((osL os).take ((keys os).map V.int).length) : Nat)), some (.int x.t), some (.ref fl), b6, b7] ∧
          ∃ M' : Mem, Chg M.wl H8 H' ∧ MemAt H' q M' ∧ M'.wl = M.wl ∧ M'.vs.length = 400 ∧ M'.f (layA os x.t) = .head x.t x.fs.length ∧ (∀ k y, k < j → x.fs[k]? = some y → M'.f (layA os x.t + 1 + k) = trW (layA os) y) ∧ (∀ a, a < layA os x.t ∨ layA os x.t + x.fs.length < a → M'.f a = M5.f a)) ?_ ?_ ?_ ?_⟩
        · refine ⟨_, _, rfl, _, .refl, hm8, w5, Mem.put_len.trans l5, ?_, fun k y hk => absurd hk (Nat.not_lt_zero _), fun a ha => ?_⟩
          · show (if layA os x.t = layA os x.t then _ else _) = _
            rw [if_pos rfl, lv]
          · show (if a = layA os x.t then _ else _) = _
            rw [if_neg (by omega)]
        · rintro j σ H' hj ⟨_, _, _, _, c, _⟩
          exact SqL.of ((ce c).keep _ _ nfw hfl6)
        · rintro j v σ H9 H10 hj ⟨b6, b7, rfl, M9, c9, hm9, w9, l9, e1, e2, e3⟩ ⟨T1, y1, y2, rfl, nT, rfl, h1, h2⟩
          cases h1
          have s10 : Same H9 (upd H9 T1 (.tup [.int (j : Nat), y2])) := same_new nT
          refine ⟨T1, _, rfl, SqT.of upd_same, rfl, _, _, rfl, _, _, rfl, rfl, ?_⟩
          obtain ⟨u, hu, ru⟩ := pd_get r6 h2
          have hm10 := hm9.same s10
          have ke := (ce c9).trans (Chg.same s10)
          have p10 : PosAt (upd H9 T1 (.tup [.int (j : Nat), y2])) d (layA os) (keys os) := .inl (ke.keep _ _ (by rw [w5]; exact ndw) (c6.keep _ _ ndw a4))
          have ju := get_lt hu
          refine ⟨_, rfl, q, _, _, rfl, hm10.ob, mF_no (by decide +kernel), _, rfl, _, rfl, d, _, rfl, p10.get mem7, _, _, rfl, rfl, _, rfl, _, _, rfl, rfl, _, rfl, _, rfl, y2, d, u, layA os, keys os, rfl, ru.tu ke.tu, p10, fun t e => (pm.map (·.t)).mem_iff.mpr (ck x hxc t (by rw [← e]; exact List.mem_of_getElem? hu)), fun v' H11 s11 r11 => ?_⟩
          have hm11 := hm10.same s11
          refine ⟨q, M9, _, layA os x.t + 1 + j, v', rfl, by omega, by omega, hm11, ?_⟩
          refine ⟨_, _, rfl, _, ((c9.trans (.same s10)).trans (.same s11)).trans (by rw [← w9]; exact hm11.chgd), hm11.put r11, w9, Mem.put_len.trans l9, ?_, fun k y hk hy => ?_, fun a ha => ?_⟩
          · show (if layA os x.t = layA os x.t + 1 + j then _ else _) = _
            rw [if_neg (by omega)]
            exact e1
          · show (if layA os x.t + 1 + k = layA os x.t + 1 + j then _ else _) = _
            by_cases e : k = j
            · rw [if_pos (by omega)]
              rw [e, hu] at hy
              exact congrArg _ (Option.some.inj hy)
            · rw [if_neg (by omega)]
              exact e2 k y (by omega) hy
          · show (if a = layA os x.t + 1 + j then _ else _) = _
            rw [if_neg (by omega)]
            exact e3 a ha
        · rintro σ H9 ⟨b6, b7, rfl, M9, c9, hm9, w9, l9, e1, e2, e3⟩
          refine ⟨_, _, _, _, rfl, M9, c8.trans c9, hm9, w9, l9, fun j y hj hy => ?_⟩
          by_cases e : j = i
          · rw [e, hx] at hy
            cases hy
            exact ⟨e1, fun k y hy => e2 k y (by rw [lv]; exact get_lt hy) hy⟩
          · have hyc : y ∈ z.cs := pm2.mem_iff.mp (List.mem_of_getElem? hy)
            have ne : y.t ≠ x.t := fun ee => e (nd_ix kno2 (show (keys o2)[j]? = some y.t by rw [List.getElem?_map, hy]; rfl) (show (keys o2)[i]? = some y.t by rw [List.getElem?_map, hx, ee]; rfl))
            have dis := layA_dis pm kno y hyc x hxc ne
            obtain ⟨u1, u2⟩ := g5 j y (by omega) hy
            refine ⟨(e3 _ (by omega)).trans u1, fun k w hw => ?_⟩
            have := get_lt hw
            exact (e3 _ (by omega)).trans (u2 k w hw)
      · rintro σ H5 ⟨b4, b5, b6, b7, rfl, M5, c5, hm5, w5, l5, g5⟩
        have all : ∀ c ∈ z.cs, LaidC M5.f (layA os) c := fun c hc => by
          obtain ⟨j, hj⟩ := List.mem_iff_getElem?.mp (pm2.mem_iff.mpr hc)
          refine g5 j c ?_ hj
          rw [List.length_map, List.length_map]
          exact get_lt hj
        refine ⟨_, rfl, k d H5 M5 (layA os) os pm hd (c5.keep _ _ ndw a4) hm5 w5 l5 ⟨fun c hc => ?_, fun c hc => (all c hc).1, fun c hc => (all c hc).2, layA_dis pm kno⟩ ((Chg.same s34).trans c5)⟩
        have := layA_fit pm kno hc
        omega
end SH
/-! The picture's small defs. -/
namespace SH
open PySem PySem.Spec PyProof.Rows L2
def BkR (H : Hp) (ad : Int → Nat) (v : V) (c : Th) : Prop := ∃ r, v = .ref r ∧ H r = some (.tup [.int c.t, .int (ad c.t : Nat)])
theorem BkR.tu {H H' : Hp} {ad : Int → Nat} {v : V} {c : Th} (s : Tu H H') (h : BkR H ad v c) : BkR H' ad v c := by
  obtain ⟨r, e, q⟩ := h
  exact ⟨r, e, s _ _ q⟩
structure BookAt (H : Hp) (lb : Addr) (ad : Int → Nat) (os : List Th) (bs : List V) : Prop where
  h : H lb = some (.lst bs)
  r : Paired (BkR H ad) bs os
theorem BookAt.same {H H' : Hp} {lb : Addr} {ad : Int → Nat} {os : List Th} {bs : List V} (s : Same H H') (b : BookAt H lb ad os bs) : BookAt H' lb ad os bs := ⟨s _ _ b.h, Paired.mapP b.r fun _ _ q => q.tu (tu_same s)⟩
theorem cut1 (xs : List V) : cutV xs (some 1) none = xs.drop 1 := by
  unfold cutV
  rw [show (some 1 : Option Int) = some ((1 : Nat) : Int) from rfl, HT.sIx_nat, HT.sIx_none]
  cases xs with
  | nil => rfl
  | cons a l =>
    rw [List.length_cons, Nat.min_eq_left (by omega)]
    exact List.take_of_length_le (by rw [List.drop_succ_cons, List.drop_zero]; omega)
def sp_is_book (K : PySem.W.Frag) : Sp := fun vs H Q _ => ∃ (lb : Addr) (ad : Int → Nat) (os : List Th) (bs : List V), vs = [.ref lb] ∧ BookAt H lb ad os bs ∧ (keys os).Pairwise (· ≤ ·) ∧ (keys os).Nodup ∧ ∀ H', Same H H' → Q (.bl true) H'
theorem scf_is_book : FnScope ["book", "one", "other"] ["book"] (defScope sf_is_book) := ⟨rfl, rfl, rfl, by decide +kernel, rfl, by decide +kernel, by decide +kernel⟩
theorem ok_f_is_book {P : Program} {w : World} {K : PySem.W.Frag} {mg : Str → Option Value} {base : Heap} (T : Tx K mg) : Def P w K mg base CX0 1 af_is_book ["book"] (sp_is_book K) := by
  refine mk0 T.D_f_is_book scf_is_book (fun _ _ _ _ _ _ us hl => match us, hl with | [_], _ => rfl) (fun vs H Q E h => ?_) (fun cdv A outer s H vs Q E hr h => ?_)
  · first | (obtain ⟨_, rfl, _⟩ := h; rfl) | (obtain ⟨_, _, rfl, _⟩ := h; rfl) | (obtain ⟨_, _, _, rfl, _⟩ := h; rfl) | (obtain ⟨_, _, _, _, rfl, _⟩ := h; rfl) | (obtain ⟨_, _, _, _, _, rfl, _⟩ := h; rfl) | (obtain ⟨_, _, _, _, _, _, rfl, _⟩ := h; rfl) | (obtain ⟨_, _, _, _, _, _, _, rfl, _⟩ := h; rfl) | (obtain ⟨_, _, _, _, _, _, _, _, rfl, _⟩ := h; rfl) | (obtain ⟨_, _, _, _, _, _, _, _, _, rfl, _⟩ := h; rfl) | (obtain ⟨_, _, _, _, _, _, _, _, _, _, rfl, _⟩ := h; rfl) | (obtain ⟨_, _, _, _, _, _, _, _, _, _, _, rfl, _⟩ := h; rfl) | (obtain ⟨_, _, _, _, _, _, _, _, _, _, _, _, rfl, _⟩ := h; rfl)
  · have hu := hu_of hr
    refine ⟨_, (pss_cons (ps_for PassesOwn.never rfl (pi_zip (by rfl) T.zzip (pa_cons (pv 0) (pa_cons (pe_slice sl_list (pv 0) (po_some pe_int) po_none) pa_nil))) (pg_tupK (K := K) (n := 2) rfl rfl (pgs_cons (pg_name (i := 1) scf_is_book.nd rfl (by first | exact Or.inl rfl | exact Or.inr rfl)) (pgs_cons (pg_name (i := 2) scf_is_book.nd rfl (by first | exact Or.inl rfl | exact Or.inr rfl)) pgs_nil)))
      (pss_one (ps_if (pt_cmpR op_ge (pe_ix (r := rIxT K) (ix_tupK rfl) (pv 1) pe_int (fun _ _ => rfl)) (pe_ix (r := rIxT K) (ix_tupK rfl) (pv 2) pe_int (fun _ _ => rfl)) (nomark _)) (pss_one (ps_ret pe_bl)) pss_nil)))
      (pss_one (ps_ret pe_bl))), ?_⟩
    obtain ⟨lb, ad, os, bs, rfl, b, srt, nd, k⟩ := h
    refine ⟨_, rfl, _, rfl, 1, rfl, lb, bs, rfl, SqL.of b.h, fun l hl => ?_⟩
    rw [cut1]
    have s1 := same_new (o := .lst (bs.drop 1)) hl
    have h1 : upd H l (.lst (bs.drop 1)) l = some (.lst (bs.drop 1)) := upd_same
    have b1 := b.same s1
    generalize upd H l (.lst (bs.drop 1)) = H1 at s1 h1 b1
    refine ⟨lb, l, bs, bs.drop 1, rfl, SqL.of b1.h, SqL.of h1, for_it (walk_zip (K := K) (a := lb) (b := l) (xs := bs) (ys := bs.drop 1) rfl) (fun i σ H' => ∃ a b, σ = [some (.ref lb), a, b] ∧ Same H1 H') ⟨_, _, rfl, .refl H1⟩ (fun i σ H' _ ⟨_, _, _, s⟩ => ⟨SqL.of (s _ _ b1.h), SqL.of (s _ _ h1)⟩) ?_ ?_⟩
    · rintro j v σ H2 H3 hj ⟨x, y, rfl, s2⟩ ⟨T1, y1, y2, rfl, nT, rfl, e1, e2⟩
      have e2' : (bs.drop 1)[j]? = some y2 := e2
      rw [List.getElem?_drop] at e2'
      have s3 := s2.trans (same_new (o := .tup [y1, y2]) nT)
      obtain ⟨c1, hc1, r1, rfl, q1⟩ := pd_get b1.r e1
      obtain ⟨c2, hc2, r2, rfl, q2⟩ := pd_get b1.r e2'
      have lt : c1.t < c2.t := by
        have g1 : (keys os)[j]? = some c1.t := by rw [List.getElem?_map, hc1]; rfl
        have g2 : (keys os)[1 + j]? = some c2.t := by rw [List.getElem?_map, hc2]; rfl
        obtain ⟨u1, w1⟩ := List.getElem?_eq_some_iff.mp g1
        obtain ⟨u2, w2⟩ := List.getElem?_eq_some_iff.mp g2
        have le := (List.pairwise_iff_getElem.mp srt) j (1 + j) u1 u2 (by omega)
        rw [w1, w2] at le
        have ne : c1.t ≠ c2.t := fun z => by
          rw [← z] at g2
          have := nd_ix nd g1 g2
          omega
        omega
      refine ⟨T1, _, rfl, SqT.of upd_same, rfl, _, _, rfl, _, _, rfl, rfl, ?_⟩
      exact ⟨_, rfl, r1, _, 0, _, rfl, rfl, SqT.of (s3 _ _ q1), atI_nat (j := 0) rfl, _, rfl, r2, _, 0, _, rfl, rfl, SqT.of (s3 _ _ q2), atI_nat (j := 0) rfl, _, _, rfl, rfl, _, rfl, dF (show ¬ c2.t ≤ c1.t by omega) ⟨_, _, rfl, s3⟩⟩
    · rintro σ H2 ⟨x, y, rfl, s2⟩
      exact k H2 (s1.trans s2)
structure Pic where
  p : Addr
  q : Addr
  pic : Addr
  lb : Addr
  kd : Addr
  dxp : Addr
  s : HS
  M : Mem
  ad : Int → Nat
  os : List Th
  bs : List V
def pF (p q lb kd : Addr) : List (Str × V) := [("heap", .ref p), ("space", .ref q), ("pairs", .ref lb), ("known", .ref kd)]
section
variable {p q lb kd : Addr}
theorem pF_heap : (pF p q lb kd).lookup ("heap" : Str) = some (V.ref p) := by kernel_rfl
theorem pF_space : (pF p q lb kd).lookup ("space" : Str) = some (V.ref q) := by kernel_rfl
theorem pF_pairs : (pF p q lb kd).lookup ("pairs" : Str) = some (V.ref lb) := by kernel_rfl
theorem pF_known : (pF p q lb kd).lookup ("known" : Str) = some (V.ref kd) := by kernel_rfl
theorem pF_no {m : Str} (h : ([("heap" : Str), "space", "pairs", "known"].contains m) = false) : (pF p q lb kd).lookup m = none := by
  rw [List.contains_cons, Bool.or_eq_false_iff, List.contains_cons, Bool.or_eq_false_iff, List.contains_cons, Bool.or_eq_false_iff, List.contains_cons, Bool.or_eq_false_iff] at h
  obtain ⟨h1, h2, h3, h4, _⟩ := h
  unfold pF
  rw [List.lookup_cons, h1]
  dsimp only
  rw [List.lookup_cons, h2]
  dsimp only
  rw [List.lookup_cons, h3]
  dsimp only
  rw [List.lookup_cons, h4]
  rfl
end
structure PicO (H : Hp) (x : Pic) : Prop where
  hp : HeapAt H x.p x.s
  hm : MemAt H x.q x.M
  ob : H x.pic = some (.ins cPicture x.dxp (pF x.p x.q x.lb x.kd))
  bk : BookAt H x.lb x.ad x.os x.bs
  kd : H x.kd = some (.dK (atsK x.ad (keys x.os)))
theorem PicO.same {H H' : Hp} {x : Pic} (s : Same H H') (o : PicO H x) : PicO H' x := ⟨o.hp.same s, o.hm.same s, s _ _ o.ob, o.bk.same s, s _ _ o.kd⟩
structure PicW (x : Pic) : Prop where
  kn : (keys x.s.cs).Nodup
  f6 : ∀ c ∈ x.s.cs, c.fs.length ≤ 6
  ck : ∀ c ∈ x.s.cs, ∀ t, Ab.th t ∈ c.fs → t ∈ keys x.s.cs
  hc : ∀ t, Ab.th t ∈ x.s.hx → t ∈ keys x.s.cs
  nc : ∀ t, some t ∈ x.s.nv → t ∈ keys x.s.cs
  h8 : x.s.hx.length = 8
  n8 : x.s.nv.length = 8
  pm : x.os.Perm x.s.cs
  c4 : x.s.cs.length ≤ 400
  P : PicAt x.M.f x.M.vs.length x.ad x.s.cs
theorem PicW.ks {x : Pic} (w : PicW x) {t : Int} (h : t ∈ keys x.s.cs) : t ∈ keys x.os := (w.pm.map (·.t)).mem_iff.mpr h
theorem PicW.kno {x : Pic} (w : PicW x) : (keys x.os).Nodup := (w.pm.map (·.t)).nodup_iff.mpr w.kn
theorem PicO.pos {H : Hp} {x : Pic} (o : PicO H x) : PosAt H x.kd x.ad (keys x.os) := .inl o.kd
def sp_pic_init (K : PySem.W.Frag) : Sp := fun vs H Q _ => ∃ (pic p q lb dxp : Addr) (ad : Int → Nat) (os : List Th) (bs : List V), vs = [.ref pic, .ref p, .ref q, .ref lb] ∧ H pic = some (.ins cPicture dxp []) ∧ BookAt H lb ad os bs ∧ (keys os).Nodup ∧ os.length ≤ 400 ∧
  ∀ (kd : Addr) (H' : Hp), Chg pic H H' → H' pic = some (.ins cPicture dxp (pF p q lb kd)) → H' kd = some (.dK (atsK ad (keys os))) → Q .non H'
theorem scm_Picture_init : FnScope ["self", "ideal", "memory", "book", "t", "a"] ["self", "ideal", "memory", "book"] (defScope sm_Picture_init) := ⟨rfl, rfl, rfl, by decide +kernel, rfl, by decide +kernel, by decide +kernel⟩
theorem ok_m_Picture_init {P : Program} {w : World} {K : PySem.W.Frag} {mg : Str → Option Value} {base : Heap} (T : Tx K mg) : Def P w K mg base CX0 1 am_Picture_init ["self", "ideal", "memory", "book"] (sp_pic_init K) := by
  refine mk0 T.D_m_Picture_init scm_Picture_init (fun _ _ _ _ _ _ us hl => match us, hl with | [_, _, _, _], _ => rfl) (fun vs H Q E h => ?_) (fun cdv A outer s H vs Q E hr h => ?_)
  · first | (obtain ⟨_, rfl, _⟩ := h; rfl) | (obtain ⟨_, _, rfl, _⟩ := h; rfl) | (obtain ⟨_, _, _, rfl, _⟩ := h; rfl) | (obtain ⟨_, _, _, _, rfl, _⟩ := h; rfl) | (obtain ⟨_, _, _, _, _, rfl, _⟩ := h; rfl) | (obtain ⟨_, _, _, _, _, _, rfl, _⟩ := h; rfl) | (obtain ⟨_, _, _, _, _, _, _, rfl, _⟩ := h; rfl) | (obtain ⟨_, _, _, _, _, _, _, _, rfl, _⟩ := h; rfl) | (obtain ⟨_, _, _, _, _, _, _, _, _, rfl, _⟩ := h; rfl) | (obtain ⟨_, _, _, _, _, _, _, _, _, _, rfl, _⟩ := h; rfl) | (obtain ⟨_, _, _, _, _, _, _, _, _, _, _, rfl, _⟩ := h; rfl) | (obtain ⟨_, _, _, _, _, _, _, _, _, _, _, _, rfl, _⟩ := h; rfl)
  · have hu := hu_of hr
    refine ⟨_, (pss_cons (ps_fld (pv 0) (pv 1) rfl)
      (pss_cons (ps_fld (pv 0) (pv 2) rfl)
      (pss_cons (ps_fld (pv 0) (pv 3) rfl)
      (pss_cons (ps_fld (pv 0) pe_dnewK rfl)
      (pss_one (ps_for PassesOwn.never rfl (pi_list (pv 3)) (pg_tupK (K := K) (n := 2) rfl rfl (pgs_cons (pg_name (i := 4) scm_Picture_init.nd rfl (by first | exact Or.inl rfl | exact Or.inr rfl)) (pgs_cons (pg_name (i := 5) scm_Picture_init.nd rfl (by first | exact Or.inl rfl | exact Or.inr rfl)) pgs_nil)))
      (pss_one (ps_dput hu (pe_fldK (K := K) rfl (pv 0) rfl) (pv 4) (pv 5) rfl)))))))), ?_⟩
    obtain ⟨pic, p, q, lb, dxp, ad, os, bs, rfl, hp, b, kno, l4, k⟩ := h
    refine ⟨_, rfl, _, rfl, pic, _, dxp, _, rfl, hp, T.clPicture, T.nPicture_heap, by decide, ?_⟩
    refine ⟨_, rfl, _, rfl, pic, _, dxp, _, rfl, upd_same, T.clPicture, T.nPicture_space, pf1 (pf (Nat.le_refl 0)), ?_⟩
    rw [upd_upd]
    refine ⟨_, rfl, _, rfl, pic, _, dxp, _, rfl, upd_same, T.clPicture, T.nPicture_pairs, pf1 (pf (pf (Nat.le_refl 0))), ?_⟩
    rw [upd_upd]
    intro kd hkd
    have nkp : kd ≠ pic := fun e => by rw [e, upd_same] at hkd; cases hkd
    refine ⟨_, rfl, pic, _, dxp, _, rfl, (upd_ne nkp.symm).trans upd_same, T.clPicture, T.nPicture_known, pf1 (pf (pf (pf (Nat.le_refl 0)))), ?_⟩
    have c1 : Chg pic H (upd H pic (.ins cPicture dxp (putF "pairs" (.ref lb) (putF "space" (.ref q) (putF "heap" (.ref p) []))))) := .upd hp fun xs z => by cases z
    have o1 : upd H pic (.ins cPicture dxp (putF "pairs" (.ref lb) (putF "space" (.ref q) (putF "heap" (.ref p) [])))) pic = some (.ins cPicture dxp (putF "pairs" (.ref lb) (putF "space" (.ref q) (putF "heap" (.ref p) [])))) := upd_same
    generalize upd H pic (.ins cPicture dxp (putF "pairs" (.ref lb) (putF "space" (.ref q) (putF "heap" (.ref p) [])))) = H1 at c1 o1 hkd
    have c2 := c1.trans (.same (same_new (o := .dK []) hkd))
    have o2 : upd H1 kd (.dK []) pic = some (.ins cPicture dxp (putF "pairs" (.ref lb) (putF "space" (.ref q) (putF "heap" (.ref p) [])))) := (upd_ne nkp.symm).trans o1
    have k2 : upd H1 kd (.dK []) kd = some (.dK []) := upd_same
    have f2 : H kd = none := c1.free nkp hkd
    generalize upd H1 kd (.dK []) = H2 at c2 o2 k2
    have c3 : Chg pic H (upd H2 pic (.ins cPicture dxp (putF "known" (.ref kd) (putF "pairs" (.ref lb) (putF "space" (.ref q) (putF "heap" (.ref p) [])))))) := c2.trans (.upd o2 fun xs z => by cases z)
    have o3 : upd H2 pic (.ins cPicture dxp (putF "known" (.ref kd) (putF "pairs" (.ref lb) (putF "space" (.ref q) (putF "heap" (.ref p) []))))) pic = some (.ins cPicture dxp (pF p q lb kd)) := by
      rw [upd_same]
      have e : putF "known" (.ref kd) (putF "pairs" (.ref lb) (putF "space" (.ref q) (putF "heap" (.ref p) []))) = pF p q lb kd := by kernel_rfl
      rw [e]
    have k3 : upd H2 pic (.ins cPicture dxp (putF "known" (.ref kd) (putF "pairs" (.ref lb) (putF "space" (.ref q) (putF "heap" (.ref p) []))))) kd = some (.dK []) := (upd_ne nkp).trans k2
    generalize upd H2 pic (.ins cPicture dxp (putF "known" (.ref kd) (putF "pairs" (.ref lb) (putF "space" (.ref q) (putF "heap" (.ref p) []))))) = H3 at c3 o3 k3
    have nlp : lb ≠ pic := fun e => by
      have := b.h
      rw [e, hp] at this
      cases this
    have nlk : lb ≠ kd := ne_of_none b.h f2
    have lb3 := c3.keep _ _ nlp b.h
    refine ⟨_, rfl, lb, rfl, ⟨_, SqL.of lb3⟩, for_list (K := K) (a := lb) (xs := bs) (fun i σ H' => ∃ a b, σ = [some (.ref pic), some (.ref p), some (.ref q), some (.ref lb), a, b] ∧ H' kd = some (.dK (atsK ad ((keys os).take i))) ∧ Chg kd H3 H') ⟨none, none, rfl, k3, .refl⟩
      (fun i σ H' _ ⟨_, _, _, _, c⟩ => SqL.of (c.keep _ _ nlk lb3)) ?_ ?_⟩
    · rintro i v σ H4 hi ⟨x, y, rfl, k4, c4⟩
      obtain ⟨c, hc, r, rfl, hr⟩ := pd_get b.r hi
      have ht : (keys os)[i]? = some c.t := by rw [List.getElem?_map, hc]; rfl
      have nk : c.t ∉ (keys os).take i := fun y => by
        obtain ⟨j, hj⟩ := List.mem_iff_getElem?.mp y
        have hji := get_lt hj
        rw [List.length_take] at hji
        rw [List.getElem?_take, if_pos (by omega)] at hj
        have := nd_ix kno hj ht
        omega
      refine ⟨r, _, rfl, SqT.of (c4.tu _ _ (c3.tu _ _ hr)), rfl, _, _, rfl, _, _, rfl, rfl, ?_⟩
      refine ⟨_, rfl, _, rfl, pic, _, _, _, _, rfl, c4.keep _ _ nkp.symm o3, T.clPicture, T.nPicture_known, pF_known, _, rfl, kd, _, rfl, DPut.k (k := Sum.inl c.t) k4 (by rw [atsK_len, List.length_take]; show min i (os.map (·.t)).length < _; rw [List.length_map]; exact litL (by omega)), ?_⟩
      rw [atsK_put nk, ← take_snoc ht]
      exact ⟨_, _, rfl, upd_same, c4.trans (.upd k4 fun xs z => by cases z)⟩
    · rintro σ H4 ⟨x, y, rfl, k4, c4⟩
      have e : bs.length = (keys os).length := (pd_len b.r).trans (List.length_map ..).symm
      rw [e, List.take_length] at k4
      exact k kd H4 ⟨fun b o n z => c4.keep _ _ (ne_of_none z f2) (c3.keep _ _ n z), c3.tu.trans c4.tu⟩ (c4.keep _ _ nkp.symm o3) k4
def sp_goal : Sp := fun vs H Q _ => ∃ (x : Pic) (v : V) (c : Th), vs = [.ref x.pic, v] ∧ RW H v (.at (x.ad c.t)) ∧ c ∈ x.s.cs ∧ PicO H x ∧ PicW x ∧ Q (.int (x.ad c.t : Nat)) H
theorem scm_Picture_goal : FnScope ["self", "word"] ["self", "word"] (defScope sm_Picture_goal) := ⟨rfl, rfl, rfl, by decide +kernel, rfl, by decide +kernel, by decide +kernel⟩
theorem ok_m_Picture_goal {P : Program} {w : World} {K : PySem.W.Frag} {mg : Str → Option Value} {base : Heap} (T : Tx K mg) : Def P w K mg base CX0 4 am_Picture_goal ["self", "word"] sp_goal := by
  refine mk0 T.D_m_Picture_goal scm_Picture_goal (fun _ _ _ _ _ _ us hl => match us, hl with | [_, _], _ => rfl) (fun vs H Q E h => ?_) (fun cdv A outer s H vs Q E hr h => ?_)
  · first | (obtain ⟨_, rfl, _⟩ := h; rfl) | (obtain ⟨_, _, rfl, _⟩ := h; rfl) | (obtain ⟨_, _, _, rfl, _⟩ := h; rfl) | (obtain ⟨_, _, _, _, rfl, _⟩ := h; rfl) | (obtain ⟨_, _, _, _, _, rfl, _⟩ := h; rfl) | (obtain ⟨_, _, _, _, _, _, rfl, _⟩ := h; rfl) | (obtain ⟨_, _, _, _, _, _, _, rfl, _⟩ := h; rfl) | (obtain ⟨_, _, _, _, _, _, _, _, rfl, _⟩ := h; rfl) | (obtain ⟨_, _, _, _, _, _, _, _, _, rfl, _⟩ := h; rfl) | (obtain ⟨_, _, _, _, _, _, _, _, _, _, rfl, _⟩ := h; rfl) | (obtain ⟨_, _, _, _, _, _, _, _, _, _, _, rfl, _⟩ := h; rfl) | (obtain ⟨_, _, _, _, _, _, _, _, _, _, _, _, rfl, _⟩ := h; rfl)
  · have hu := hu_of hr
    refine ⟨_, (pss_cons (ps_if (PW.pt (pw_or (pt_cmpR op_isN (pv 1) pe_non (nomark _)) (pw_or1 (pt_cmpR op_ne (pe_ix (r := rIxT K) (ix_tupK rfl) (pv 1) pe_int (fun _ _ => rfl)) pe_str (nomark _))))) (pss_one (ps_ret pe_non)) pss_nil)
      (pss_one (ps_try_only rfl rfl ⟨rfl, by decide, .inl T.gcBadAddress⟩ takes0
      (fun W pn xe tk _ => (pss_one (ps_ret (c_call (ok_f_resolved T) (hr.mono (by decide)) T.gf_resolved pass0 (pa_cons (pe_fldK (K := K) rfl (pv 0) rfl) (pa_cons (pe_ix (r := rIxT K) (ix_tupK rfl) (pv 1) pe_int (fun _ _ => rfl)) pa_nil))))))
      (fun a oe cls d pn hz hf => (pss_one (ps_ret pe_non)))))), ?_⟩
    obtain ⟨x, v, c, rfl, rr, hc, o, w, k⟩ := h
    obtain ⟨r, rfl, hr⟩ := RW.at rr
    obtain ⟨q1, h1, h2⟩ := w.P.at_ o.hm hc
    refine ⟨_, rfl, rfl, _, rfl, dF (by nofun) ⟨_, rfl, r, _, 0, _, rfl, rfl, SqT.of hr, atI_nat (j := 0) rfl, rfl, _, rfl, nF rfl ?_⟩⟩
    exact ⟨_, rfl, x.pic, _, _, _, _, rfl, o.ob, T.clPicture, T.nPicture_space, pF_space, _, rfl, r, _, 1, _, rfl, rfl, SqT.of hr, atI_nat (j := 1) rfl, x.q, x.M, _, x.ad c.t, c.t, c.fs.length, q1, rfl, rfl, h1, h2, o.hm, k⟩
theorem shp_num {i : Int} : SeqAt.shaped (.tuple [.str "number", .int i]) = true := by kernel_rfl
theorem shp_head {i j : Int} : SeqAt.shaped (.tuple [.str "head", .int i, .int j]) = true := by kernel_rfl
def sp_shows : Sp := fun vs H Q _ => ∃ (x : Pic) (u v : V) (y : Ab), vs = [.ref x.pic, u, v] ∧ RW H u (trW x.ad y) ∧ Rp H v y ∧ (∀ t, y = .th t → t ∈ keys x.s.cs) ∧ PicO H x ∧ PicW x ∧ Q (.bl true) H
theorem scm_Picture_shows : FnScope ["self", "word", "value"] ["self", "word", "value"] (defScope sm_Picture_shows) := ⟨rfl, rfl, rfl, by decide +kernel, rfl, by decide +kernel, by decide +kernel⟩
theorem ok_m_Picture_shows {P : Program} {w : World} {K : PySem.W.Frag} {mg : Str → Option Value} {base : Heap} (T : Tx K mg) : Def P w K mg base CX0 5 am_Picture_shows ["self", "word", "value"] sp_shows := by
  refine mk0 T.D_m_Picture_shows scm_Picture_shows (fun _ _ _ _ _ _ us hl => match us, hl with | [_, _, _], _ => rfl) (fun vs H Q E h => ?_) (fun cdv A outer s H vs Q E hr h => ?_)
  · first | (obtain ⟨_, rfl, _⟩ := h; rfl) | (obtain ⟨_, _, rfl, _⟩ := h; rfl) | (obtain ⟨_, _, _, rfl, _⟩ := h; rfl) | (obtain ⟨_, _, _, _, rfl, _⟩ := h; rfl) | (obtain ⟨_, _, _, _, _, rfl, _⟩ := h; rfl) | (obtain ⟨_, _, _, _, _, _, rfl, _⟩ := h; rfl) | (obtain ⟨_, _, _, _, _, _, _, rfl, _⟩ := h; rfl) | (obtain ⟨_, _, _, _, _, _, _, _, rfl, _⟩ := h; rfl) | (obtain ⟨_, _, _, _, _, _, _, _, _, rfl, _⟩ := h; rfl) | (obtain ⟨_, _, _, _, _, _, _, _, _, _, rfl, _⟩ := h; rfl) | (obtain ⟨_, _, _, _, _, _, _, _, _, _, _, rfl, _⟩ := h; rfl) | (obtain ⟨_, _, _, _, _, _, _, _, _, _, _, _, rfl, _⟩ := h; rfl)
  · have hu := hu_of hr
    refine ⟨_, (pss_cons (ps_if (PW.pt (pw_or (pt_cmpR op_isN (pv 2) pe_non (nomark _)) (pw_or1 (pt_cmpR op_eq (pe_ix (r := rIxT K) (ix_tupK rfl) (pv 2) pe_int (fun _ _ => rfl)) pe_str (nomark _))))) (pss_one (ps_ret (pe_cmpR (op_eqD hr.units) (pv 1) (pv 2) (nomark _)))) pss_nil)
      (pss_one (ps_ret (pe_cmpR op_eq (c_meth (ok_m_Picture_goal T) (hr.mono (by decide)) T.clPicture T.mPicture_goal pass0 (pv 0) (pa_cons (pv 1) pa_nil)) (pe_dget hu (pe_fldK (K := K) rfl (pv 0) rfl) (pe_ix (r := rIxT K) (ix_tupK rfl) (pv 2) pe_int (fun _ _ => rfl)) (fun _ _ => rfl)) (nomark _))))), ?_⟩
    obtain ⟨x, u, v, y, rfl, ru, rv, hy, o, w, k⟩ := h
    cases y with
    | non =>
      cases rv.non
      cases RW.non ru
      exact ⟨_, rfl, rfl, _, rfl, dT rfl ⟨_, rfl, _, rfl, .none, .none, .non, .non, rfl, rfl, k⟩⟩
    | num i =>
      obtain ⟨r, rfl, hr⟩ := rv.num
      obtain ⟨r2, rfl, hr2⟩ := RW.num ru
      refine ⟨_, rfl, rfl, _, rfl, dF (by nofun) ⟨_, rfl, r, _, 0, _, rfl, rfl, SqT.of hr, atI_nat (j := 0) rfl, rfl, _, rfl, dT rfl ?_⟩⟩
      refine ⟨_, rfl, _, rfl, .tuple [.str "number", .int i], .tuple [.str "number", .int i], .tup (SqT.of hr2) (.cons (.str _) (.cons (.int _) .nil)), .tup (SqT.of hr) (.cons (.str _) (.cons (.int _) .nil)), shp_num, shp_num, ?_⟩
      rw [SeqAt.eqv_refl (.tuple [.str "number", .int i]) (SeqAt.canLay_of_shaped shp_num)]
      exact k
    | th t =>
      obtain ⟨r, rfl, hr⟩ := rv.th
      obtain ⟨c, hc, rfl⟩ := key_at (hy t rfl)
      refine ⟨_, rfl, rfl, _, rfl, dF (by nofun) ⟨_, rfl, r, _, 0, _, rfl, rfl, SqT.of hr, atI_nat (j := 0) rfl, rfl, _, rfl, dF (by decide +kernel) ?_⟩⟩
      refine ⟨_, rfl, x.pic, _, _, rfl, o.ob, pF_no (by decide +kernel), _, rfl, x, u, c, rfl, ru, hc, o, w, ?_⟩
      refine ⟨_, rfl, x.pic, _, _, _, _, rfl, o.ob, T.clPicture, T.nPicture_known, pF_known, _, rfl, r, _, 1, _, rfl, rfl, SqT.of hr, atI_nat (j := 1) rfl, x.kd, _, rfl, o.pos.get (w.ks (key_of hc)), rfl, ?_⟩
      rw [decide_eq_true rfl]
      exact k
end SH
/-! A picture that is like. -/
namespace SH
open PySem PySem.Spec PyProof.Rows L2
def one : Int → Nat := fun _ => 1
def blkJ (a j : Nat) : List Int := (List.range j).map fun k => ((a + k : Nat) : Int)
theorem blkJ_succ {a j : Nat} : blkJ a (j + 1) = blkJ a j ++ [((a + j : Nat) : Int)] := by
  unfold blkJ
  rw [List.range_succ, List.map_append]
  rfl
theorem mem_blkJ {a j : Nat} {z : Int} : z ∈ blkJ a j ↔ ∃ k, k < j ∧ z = ((a + k : Nat) : Int) := by
  unfold blkJ
  rw [List.mem_map]
  exact ⟨fun ⟨k, h, e⟩ => ⟨k, List.mem_range.mp h, e.symm⟩, fun ⟨k, h, e⟩ => ⟨k, List.mem_range.mpr h, e.symm⟩⟩
def plc (ad : Int → Nat) (os : List Th) : List Int := os.flatMap fun c => blkJ (ad c.t) (c.fs.length + 1)
theorem mem_plc {ad : Int → Nat} {os : List Th} {z : Int} : z ∈ plc ad os ↔ ∃ c ∈ os, ∃ k, k < c.fs.length + 1 ∧ z = ((ad c.t + k : Nat) : Int) := by
  unfold plc
  rw [List.mem_flatMap]
  exact ⟨fun ⟨c, h, e⟩ => ⟨c, h, mem_blkJ.mp e⟩, fun ⟨c, h, e⟩ => ⟨c, h, mem_blkJ.mpr e⟩⟩
theorem plc_take {ad : Int → Nat} {os : List Th} {i : Nat} {c : Th} (h : os[i]? = some c) : plc ad (os.take (i + 1)) = plc ad (os.take i) ++ blkJ (ad c.t) (c.fs.length + 1) := by
  rw [take_snoc h]
  unfold plc
  rw [List.flatMap_append, List.flatMap_cons, List.flatMap_nil, List.append_nil]
theorem len_plc {ad : Int → Nat} : ∀ {os : List Th}, (∀ c ∈ os, c.fs.length ≤ 6) → (plc ad os).length ≤ 7 * os.length
  | [], _ => Nat.le_refl _
  | c :: os, h => by
    have h1 := len_plc (ad := ad) (os := os) fun d hd => h d (List.mem_cons_of_mem _ hd)
    have h2 := h c List.mem_cons_self
    have e : plc ad (c :: os) = blkJ (ad c.t) (c.fs.length + 1) ++ plc ad os := List.flatMap_cons
    rw [e, List.length_append, List.length_cons]
    have e2 : (blkJ (ad c.t) (c.fs.length + 1)).length = c.fs.length + 1 := by
      unfold blkJ
      rw [List.length_map, List.length_range]
    omega
theorem for_range2 {lo : Int} {m n : Nat} {g : TG} {tb : TS} {D : Ends} {σ : L2.St} {H : Hp} (e : m = n) (Pv : Nat → L2.St → Hp → Prop) (h0 : Pv 0 σ H)
    (hs : ∀ i σ H, i < n → Pv i σ H → g (.int (lo + i)) σ H fun σ2 H2 => tb { D with nx := Pv (i + 1), ct := Pv (i + 1), bk := D.nx } σ2 H2) (hd : ∀ σ H, Pv n σ H → D.nx σ H) :
    ∃ W : Nat → Nat → L2.St → Hp → Prop, (∃ m, W 0 m σ H) ∧ ∀ i k σ H, W i k σ H →
      ((Itr lo m).stop i H ∧ D.nx σ H) ∨ ((Itr lo m).go i H ∧ ∃ N : L2.St → Hp → Prop, (∀ σ' H', N σ' H' → ∃ m', m' < k ∧ W (i + 1) m' σ' H') ∧ ∀ x H', (Itr lo m).yld i H x H' → g x σ H' fun σ2 H2 => tb { D with nx := N, ct := N, bk := D.nx } σ2 H2) := by
  subst e
  exact for_range Pv h0 hs hd
def sp_like : Sp := fun vs H Q _ => ∃ x : Pic, vs = [.ref x.pic] ∧ PicO H x ∧ PicW x ∧ ∀ H', Same H H' → Q .non H'
theorem scm_Picture_unlike_address : FnScope ["self", "owners", "t", "a", "place"] ["self"] (defScope sm_Picture_unlike_address) := ⟨rfl, rfl, rfl, by decide +kernel, rfl, by decide +kernel, by decide +kernel⟩
theorem ok_m_Picture_unlike_address {P : Program} {w : World} {K : PySem.W.Frag} {mg : Str → Option Value} {base : Heap} (T : Tx K mg) : Def P w K mg base CX0 3 am_Picture_unlike_address ["self"] sp_like := by
  refine mk0 T.D_m_Picture_unlike_address scm_Picture_unlike_address (fun _ _ _ _ _ _ us hl => match us, hl with | [_], _ => rfl) (fun vs H Q E h => ?_) (fun cdv A outer s H vs Q E hr h => ?_)
  · first | (obtain ⟨_, rfl, _⟩ := h; rfl) | (obtain ⟨_, _, rfl, _⟩ := h; rfl) | (obtain ⟨_, _, _, rfl, _⟩ := h; rfl) | (obtain ⟨_, _, _, _, rfl, _⟩ := h; rfl) | (obtain ⟨_, _, _, _, _, rfl, _⟩ := h; rfl) | (obtain ⟨_, _, _, _, _, _, rfl, _⟩ := h; rfl) | (obtain ⟨_, _, _, _, _, _, _, rfl, _⟩ := h; rfl) | (obtain ⟨_, _, _, _, _, _, _, _, rfl, _⟩ := h; rfl) | (obtain ⟨_, _, _, _, _, _, _, _, _, rfl, _⟩ := h; rfl) | (obtain ⟨_, _, _, _, _, _, _, _, _, _, rfl, _⟩ := h; rfl) | (obtain ⟨_, _, _, _, _, _, _, _, _, _, _, rfl, _⟩ := h; rfl) | (obtain ⟨_, _, _, _, _, _, _, _, _, _, _, _, rfl, _⟩ := h; rfl)
  · have hu := hu_of hr
    refine ⟨_, (pss_cons (ps_set (i := 1) scm_Picture_unlike_address.nd rfl (by first | exact Or.inl rfl | exact Or.inr rfl) pe_dnewK)
      (pss_cons (ps_for PassesOwn.never rfl (pi_list (pe_fldK (K := K) rfl (pv 0) rfl)) (pg_tupK (K := K) (n := 2) rfl rfl (pgs_cons (pg_name (i := 2) scm_Picture_unlike_address.nd rfl (by first | exact Or.inl rfl | exact Or.inr rfl)) (pgs_cons (pg_name (i := 3) scm_Picture_unlike_address.nd rfl (by first | exact Or.inl rfl | exact Or.inr rfl)) pgs_nil)))
      (pss_one (ps_for PassesOwn.never rfl (pi_range2 (by rfl) T.zrange (pa_cons (pv 3) (pa_cons (pe_op op_add (pe_op op_add (pv 3) pe_int) (pe_callB (r := rLenQ K) (call_lenQ rfl) (by rfl) T.zlen PySem.boot_len (pa_cons (c_meth (ok_m_IdealHeap_fields_of T) (hr.mono (by decide)) T.clIdealHeap T.mIdealHeap_fields_of pass0 (pe_fldK (K := K) rfl (pv 0) rfl) (pa_cons (pv 2) pa_nil)) pa_nil))) pa_nil))) (pg_name (i := 4) scm_Picture_unlike_address.nd rfl (by first | exact Or.inl rfl | exact Or.inr rfl))
      (pss_one (ps_dput hu (pv 1) (pv 4) (pe_op op_add (pe_dget2 hu (pv 1) (pv 4) pe_int ⟨rfl, rfl, rfl, rfl⟩) pe_int) rfl)))))
      (pss_cons (ps_for PassesOwn.never rfl (pi_list (pe_fldK (K := K) rfl (pv 0) rfl)) (pg_tupK (K := K) (n := 2) rfl rfl (pgs_cons (pg_name (i := 2) scm_Picture_unlike_address.nd rfl (by first | exact Or.inl rfl | exact Or.inr rfl)) (pgs_cons (pg_name (i := 3) scm_Picture_unlike_address.nd rfl (by first | exact Or.inl rfl | exact Or.inr rfl)) pgs_nil)))
      (pss_one (ps_for PassesOwn.never rfl (pi_range2 (by rfl) T.zrange (pa_cons (pv 3) (pa_cons (pe_op op_add (pe_op op_add (pv 3) pe_int) (pe_callB (r := rLenQ K) (call_lenQ rfl) (by rfl) T.zlen PySem.boot_len (pa_cons (c_meth (ok_m_IdealHeap_fields_of T) (hr.mono (by decide)) T.clIdealHeap T.mIdealHeap_fields_of pass0 (pe_fldK (K := K) rfl (pv 0) rfl) (pa_cons (pv 2) pa_nil)) pa_nil))) pa_nil))) (pg_name (i := 4) scm_Picture_unlike_address.nd rfl (by first | exact Or.inl rfl | exact Or.inr rfl))
      (pss_one (ps_if (PW.pt (pw_or (pt_cmpR op_lt (pv 4) pe_int (nomark _)) (pw_or (pt_cmpR op_ge (pv 4) (c_meth0 (ok_m_Memory_size T) (hr.mono (by decide)) T.clMemory T.mMemory_size pass0 (pe_fldK (K := K) rfl (pv 0) rfl)) (nomark _)) (pw_or1 (pt_cmpR op_gt (pe_dget hu (pv 1) (pv 4) (fun _ _ => rfl)) pe_int (nomark _)))))) (pss_one (ps_ret (pv 2))) pss_nil)))))
      (pss_one (ps_ret pe_non))))), ?_⟩
    obtain ⟨x, rfl, o, w, k⟩ := h
    intro ow how
    have s1 := same_new (o := .dK []) how
    have o1 := o.same s1
    have d1 : upd H ow (.dK []) ow = some (.dK (atsK one (plc x.ad (x.os.take 0)))) := upd_same
    generalize upd H ow (.dK []) = H1 at s1 o1 d1
    have nwb : x.lb ≠ ow := ne_of_none o.bk.h how
    have oc : ∀ {G : Hp}, Chg ow H1 G → PicO G x := fun c => o.same fun b u e => c.keep _ _ (ne_of_none e how) (s1 _ _ e)
    have f6o : ∀ c ∈ x.os, c.fs.length ≤ 6 := fun c hc => w.f6 c (w.pm.mem_iff.mp hc)
    have lo := w.pm.length_eq
    have l4 := w.c4
    refine ⟨_, rfl, x.pic, _, _, _, _, rfl, o1.ob, T.clPicture, T.nPicture_pairs, pF_pairs, x.lb, rfl, ⟨_, SqL.of o1.bk.h⟩, for_list (K := K) (a := x.lb) (xs := x.bs) (fun i σ H' => ∃ a b c, σ = [some (.ref x.pic), some (.ref ow), a, b, c] ∧ H' ow = some (.dK (atsK one (plc x.ad (x.os.take i)))) ∧ Chg ow H1 H') ⟨none, none, none, rfl, d1, .refl⟩
      (fun i σ H' _ ⟨_, _, _, _, _, c⟩ => SqL.of (oc c).bk.h) ?_ ?_⟩
    · rintro i v σ H2 hi ⟨a, b, e, rfl, d2, c2⟩
      have o2 := oc c2
      obtain ⟨c, hc, r, rfl, hr⟩ := pd_get o2.bk.r hi
      have hcc : c ∈ x.s.cs := w.pm.mem_iff.mp (List.mem_of_getElem? hc)
      have l6 := w.f6 c hcc
      refine ⟨r, _, rfl, SqT.of hr, rfl, _, _, rfl, _, _, rfl, rfl, ?_⟩
      refine ⟨_, rfl, _, rfl, _, _, rfl, rfl, _, rfl, x.pic, _, _, _, _, rfl, o2.ob, T.clPicture, T.nPicture_heap, pF_heap, x.p, _, _, rfl, o2.hp.ob, hF_no (by decide +kernel), _, rfl, x.p, x.s, c, rfl, o2.hp, w.kn, hcc, fun l hl => ?_⟩
      have lv : c.vs.length = c.fs.length := pd_len (o2.hp.th c hcc).rp
      have fit := w.P.fit c hcc
      have mz := o2.hm.z
      have nlo : ow ≠ l := ne_of_none d2 hl
      have c3 := c2.trans (.same (same_new (o := .lst c.vs) hl))
      have d3 := same_new (o := .lst c.vs) hl _ _ d2
      refine ⟨l, _, rfl, .inl (SqL.of upd_same), _, _, rfl, rfl, _, _, rfl, ⟨by omega, by omega, by omega, by omega⟩, for_range2 (n := c.fs.length + 1) (by omega) (fun j σ H' => ∃ e, σ = [some (.ref x.pic), some (.ref ow), some (.int c.t), some (.int (x.ad c.t : Nat)), e] ∧ H' ow = some (.dK (atsK one (plc x.ad (x.os.take i) ++ blkJ (x.ad c.t) j))) ∧ Chg ow H1 H')
        ⟨e, rfl, by rw [show blkJ (x.ad c.t) 0 = [] from rfl, List.append_nil]; exact d3, c3⟩ ?_ ?_⟩
      · rintro j σ H4 hj ⟨e, rfl, d4, c4⟩
        have epl : ((x.ad c.t : Nat) : Int) + (j : Int) = ((x.ad c.t + j : Nat) : Int) := (Int.natCast_add _ _).symm
        rw [epl]
        have nk : ((x.ad c.t + j : Nat) : Int) ∉ plc x.ad (x.os.take i) ++ blkJ (x.ad c.t) j := fun z => by
          rcases List.mem_append.mp z with z | z
          · obtain ⟨c', hc', k, hk, ek⟩ := mem_plc.mp z
            obtain ⟨j', hj'⟩ := List.mem_iff_getElem?.mp hc'
            have jl := get_lt hj'
            rw [List.length_take] at jl
            rw [List.getElem?_take, if_pos (by omega)] at hj'
            have ne : c'.t ≠ c.t := fun ee => by
              have := nd_ix w.kno (show (keys x.os)[j']? = some c'.t by rw [List.getElem?_map, hj']; rfl) (show (keys x.os)[i]? = some c'.t by rw [List.getElem?_map, hc, ee]; rfl)
              omega
            have dis := w.P.dis c' (w.pm.mem_iff.mp (List.mem_of_getElem? hj')) c hcc ne
            omega
          · obtain ⟨k, hk, ek⟩ := mem_blkJ.mp z
            omega
        have g : DGet H4 ow (.int ((x.ad c.t + j : Nat) : Int)) none := by
          have q := DGet.k (k := (Sum.inl ((x.ad c.t + j : Nat) : Int) : Key)) d4
          rw [none_of atsK_keys nk] at q
          exact q
        refine ⟨_, rfl, ow, rfl, ?_, _, rfl, none, g, _, _, rfl, rfl, _, rfl, _, rfl, ow, _, rfl, DPut.k (k := Sum.inl ((x.ad c.t + j : Nat) : Int)) d4 ?_, ?_⟩
        · exact .inl ⟨_, .inl d4⟩
        · rw [atsK_len, List.length_append]
          have h1 := len_plc (ad := x.ad) (os := x.os.take i) fun d hd => f6o d (List.mem_of_mem_take hd)
          rw [List.length_take] at h1
          have h2 : (blkJ (x.ad c.t) j).length = j := by
            unfold blkJ
            rw [List.length_map, List.length_range]
          exact litL (by omega)
        · have ep : putK (atsK one (plc x.ad (x.os.take i) ++ blkJ (x.ad c.t) j)) (Sum.inl ((x.ad c.t + j : Nat) : Int) : Key) (.int (0 + 1)) = atsK one ((plc x.ad (x.os.take i) ++ blkJ (x.ad c.t) j) ++ [((x.ad c.t + j : Nat) : Int)]) := atsK_put nk
          refine ⟨_, rfl, ?_, c4.trans (.upd d4 fun xs z => by cases z)⟩
          rw [blkJ_succ, ← List.append_assoc, ← ep]
          exact upd_same
      · rintro σ H4 ⟨e, rfl, d4, c4⟩
        refine ⟨_, _, _, rfl, ?_, c4⟩
        rw [plc_take hc]
        exact d4
    · rintro σ H2 ⟨a, b, e, rfl, d2, c2⟩
      have lbo : x.bs.length = x.os.length := pd_len o.bk.r
      rw [lbo, List.take_length] at d2
      have o2 := oc c2
      have s2 : Same H H2 := fun b u e => c2.keep _ _ (ne_of_none e how) (s1 _ _ e)
      have pw : PosAt H2 ow one (plc x.ad x.os) := .inl d2
      refine ⟨_, rfl, x.pic, _, _, _, _, rfl, o2.ob, T.clPicture, T.nPicture_pairs, pF_pairs, x.lb, rfl, ⟨_, SqL.of o2.bk.h⟩, for_list (K := K) (a := x.lb) (xs := x.bs) (fun i σ H' => ∃ a b c, σ = [some (.ref x.pic), some (.ref ow), a, b, c] ∧ Same H2 H') ⟨_, _, _, rfl, .refl H2⟩
        (fun i σ H' _ ⟨_, _, _, _, s⟩ => SqL.of (s _ _ o2.bk.h)) ?_ ?_⟩
      · rintro i v σ H3 hi ⟨a, b, e, rfl, s3⟩
        have o3 := o2.same s3
        obtain ⟨c, hc, r, rfl, hr⟩ := pd_get o3.bk.r hi
        have hco := List.mem_of_getElem? hc
        have hcc : c ∈ x.s.cs := w.pm.mem_iff.mp hco
        have l6 := w.f6 c hcc
        refine ⟨r, _, rfl, SqT.of hr, rfl, _, _, rfl, _, _, rfl, rfl, ?_⟩
        refine ⟨_, rfl, _, rfl, _, _, rfl, rfl, _, rfl, x.pic, _, _, _, _, rfl, o3.ob, T.clPicture, T.nPicture_heap, pF_heap, x.p, _, _, rfl, o3.hp.ob, hF_no (by decide +kernel), _, rfl, x.p, x.s, c, rfl, o3.hp, w.kn, hcc, fun l hl => ?_⟩
        have lv : c.vs.length = c.fs.length := pd_len (o3.hp.th c hcc).rp
        have fit := w.P.fit c hcc
        have mz := o3.hm.z
        have s4 := s3.trans (same_new (o := .lst c.vs) hl)
        refine ⟨l, _, rfl, .inl (SqL.of upd_same), _, _, rfl, rfl, _, _, rfl, ⟨by omega, by omega, by omega, by omega⟩, for_range2 (n := c.fs.length + 1) (by omega) (fun j σ H' => ∃ e, σ = [some (.ref x.pic), some (.ref ow), some (.int c.t), some (.int (x.ad c.t : Nat)), e] ∧ Same H2 H') ⟨e, rfl, s4⟩ ?_ ?_⟩
        · rintro j σ H5 hj ⟨e, rfl, s5⟩
          have o5 := o2.same s5
          have epl : ((x.ad c.t : Nat) : Int) + (j : Int) = ((x.ad c.t + j : Nat) : Int) := (Int.natCast_add _ _).symm
          rw [epl]
          have mem : ((x.ad c.t + j : Nat) : Int) ∈ plc x.ad x.os := mem_plc.mpr ⟨c, hco, j, hj, rfl⟩
          refine ⟨_, rfl, _, _, rfl, rfl, _, rfl, dF (show ¬ ((x.ad c.t + j : Nat) : Int) < 0 by omega) ⟨_, rfl, _, rfl, x.pic, _, _, _, _, rfl, o5.ob, T.clPicture, T.nPicture_space, pF_space, x.q, _, _, rfl, o5.hm.ob, mF_no (by decide +kernel), x.q, x.M, rfl, o5.hm, _, _, rfl, rfl, _, rfl,
            dF (show ¬ ((x.M.vs.length : Nat) : Int) ≤ ((x.ad c.t + j : Nat) : Int) by omega) ⟨_, rfl, _, rfl, ow, _, rfl, (pw.same s5).get mem, _, _, rfl, rfl, _, rfl, dF (show ¬ (1 : Int) < ((1 : Nat) : Int) by decide) ⟨_, rfl, s5⟩⟩⟩⟩
        · rintro σ H5 ⟨e, rfl, s5⟩
          exact ⟨_, _, _, rfl, s5⟩
      · rintro σ H3 ⟨a, b, e, rfl, s3⟩
        exact k H3 (s2.trans s3)
theorem scm_Picture_unlike_head : FnScope ["self", "t", "a"] ["self"] (defScope sm_Picture_unlike_head) := ⟨rfl, rfl, rfl, by decide +kernel, rfl, by decide +kernel, by decide +kernel⟩
theorem ok_m_Picture_unlike_head {P : Program} {w : World} {K : PySem.W.Frag} {mg : Str → Option Value} {base : Heap} (T : Tx K mg) : Def P w K mg base CX0 3 am_Picture_unlike_head ["self"] sp_like := by
  refine mk0 T.D_m_Picture_unlike_head scm_Picture_unlike_head (fun _ _ _ _ _ _ us hl => match us, hl with | [_], _ => rfl) (fun vs H Q E h => ?_) (fun cdv A outer s H vs Q E hr h => ?_)
  · first | (obtain ⟨_, rfl, _⟩ := h; rfl) | (obtain ⟨_, _, rfl, _⟩ := h; rfl) | (obtain ⟨_, _, _, rfl, _⟩ := h; rfl) | (obtain ⟨_, _, _, _, rfl, _⟩ := h; rfl) | (obtain ⟨_, _, _, _, _, rfl, _⟩ := h; rfl) | (obtain ⟨_, _, _, _, _, _, rfl, _⟩ := h; rfl) | (obtain ⟨_, _, _, _, _, _, _, rfl, _⟩ := h; rfl) | (obtain ⟨_, _, _, _, _, _, _, _, rfl, _⟩ := h; rfl) | (obtain ⟨_, _, _, _, _, _, _, _, _, rfl, _⟩ := h; rfl) | (obtain ⟨_, _, _, _, _, _, _, _, _, _, rfl, _⟩ := h; rfl) | (obtain ⟨_, _, _, _, _, _, _, _, _, _, _, rfl, _⟩ := h; rfl) | (obtain ⟨_, _, _, _, _, _, _, _, _, _, _, _, rfl, _⟩ := h; rfl)
  · have hu := hu_of hr
    refine ⟨_, (pss_cons (ps_for PassesOwn.never rfl (pi_list (pe_fldK (K := K) rfl (pv 0) rfl)) (pg_tupK (K := K) (n := 2) rfl rfl (pgs_cons (pg_name (i := 1) scm_Picture_unlike_head.nd rfl (by first | exact Or.inl rfl | exact Or.inr rfl)) (pgs_cons (pg_name (i := 2) scm_Picture_unlike_head.nd rfl (by first | exact Or.inl rfl | exact Or.inr rfl)) pgs_nil)))
      (pss_one (ps_if (pt_cmpR (op_neD hr.units) (c_meth (ok_m_Memory_at T) (hr.mono (by decide)) T.clMemory T.mMemory_at pass0 (pe_fldK (K := K) rfl (pv 0) rfl) (pa_cons (pv 2) pa_nil)) (pe_tup (pa_cons pe_str (pa_cons (pv 1) (pa_cons (pe_callB (r := rLenQ K) (call_lenQ rfl) (by rfl) T.zlen PySem.boot_len (pa_cons (c_meth (ok_m_IdealHeap_fields_of T) (hr.mono (by decide)) T.clIdealHeap T.mIdealHeap_fields_of pass0 (pe_fldK (K := K) rfl (pv 0) rfl) (pa_cons (pv 1) pa_nil)) pa_nil)) pa_nil)))) (nomark _)) (pss_one (ps_ret (pv 1))) pss_nil)))
      (pss_one (ps_ret pe_non))), ?_⟩
    obtain ⟨x, rfl, o, w, k⟩ := h
    refine ⟨_, rfl, x.pic, _, _, _, _, rfl, o.ob, T.clPicture, T.nPicture_pairs, pF_pairs, x.lb, rfl, ⟨_, SqL.of o.bk.h⟩, for_list (K := K) (a := x.lb) (xs := x.bs) (fun i σ H' => ∃ a b, σ = [some (.ref x.pic), a, b] ∧ Same H H') ⟨_, _, rfl, .refl H⟩
      (fun i σ H' _ ⟨_, _, _, s⟩ => SqL.of (s _ _ o.bk.h)) ?_ ?_⟩
    · rintro i v σ H3 hi ⟨a, b, rfl, s3⟩
      have o3 := o.same s3
      obtain ⟨c, hc, r, rfl, hr⟩ := pd_get o3.bk.r hi
      have hcc : c ∈ x.s.cs := w.pm.mem_iff.mp (List.mem_of_getElem? hc)
      have lv : c.vs.length = c.fs.length := pd_len (o3.hp.th c hcc).rp
      obtain ⟨q1, h1, h2⟩ := w.P.at_ o3.hm hcc
      refine ⟨r, _, rfl, SqT.of hr, rfl, _, _, rfl, _, _, rfl, rfl, ?_⟩
      refine ⟨_, rfl, x.pic, _, _, _, _, rfl, o3.ob, T.clPicture, T.nPicture_space, pF_space, x.q, _, _, rfl, o3.hm.ob, mF_no (by decide +kernel), _, rfl, x.q, x.M, _, x.ad c.t, .ref q1, rfl, rfl, h1, o3.hm, ?_⟩
      refine ⟨_, rfl, _, rfl, x.pic, _, _, _, _, rfl, o3.ob, T.clPicture, T.nPicture_heap, pF_heap, x.p, _, _, rfl, o3.hp.ob, hF_no (by decide +kernel), _, rfl, x.p, x.s, c, rfl, o3.hp, w.kn, hcc, fun l hl => ?_⟩
      have s4 := same_new (o := .lst c.vs) hl
      refine ⟨l, _, rfl, .inl (SqL.of upd_same), lit 3 (by decide), fun z hz => ?_⟩
      rw [lv]
      have s5 := same_new (o := .tup [.str "head", .int c.t, .int (c.fs.length : Nat)]) hz
      refine ⟨.tuple [.str "head", .int c.t, .int (c.fs.length : Nat)], .tuple [.str "head", .int c.t, .int (c.fs.length : Nat)], .tup (SqT.of (s5 _ _ (s4 _ _ h2))) (.cons (.str _) (.cons (.int _) (.cons (.int _) .nil))), .tup (SqT.of upd_same) (.cons (.str _) (.cons (.int _) (.cons (.int _) .nil))), shp_head, shp_head, ?_⟩
      rw [SeqAt.eqv_refl (.tuple [.str "head", .int c.t, .int (c.fs.length : Nat)]) (SeqAt.canLay_of_shaped shp_head)]
      exact ⟨_, rfl, ifF rfl ⟨_, _, rfl, (s3.trans s4).trans s5⟩⟩
    · rintro σ H3 ⟨a, b, rfl, s3⟩
      exact k H3 s3
theorem scm_Picture_unlike_field : FnScope ["self", "t", "a", "k", "value"] ["self"] (defScope sm_Picture_unlike_field) := ⟨rfl, rfl, rfl, by decide +kernel, rfl, by decide +kernel, by decide +kernel⟩
theorem ok_m_Picture_unlike_field {P : Program} {w : World} {K : PySem.W.Frag} {mg : Str → Option Value} {base : Heap} (T : Tx K mg) : Def P w K mg base CX0 6 am_Picture_unlike_field ["self"] sp_like := by
  refine mk0 T.D_m_Picture_unlike_field scm_Picture_unlike_field (fun _ _ _ _ _ _ us hl => match us, hl with | [_], _ => rfl) (fun vs H Q E h => ?_) (fun cdv A outer s H vs Q E hr h => ?_)
  · first | (obtain ⟨_, rfl, _⟩ := h; rfl) | (obtain ⟨_, _, rfl, _⟩ := h; rfl) | (obtain ⟨_, _, _, rfl, _⟩ := h; rfl) | (obtain ⟨_, _, _, _, rfl, _⟩ := h; rfl) | (obtain ⟨_, _, _, _, _, rfl, _⟩ := h; rfl) | (obtain ⟨_, _, _, _, _, _, rfl, _⟩ := h; rfl) | (obtain ⟨_, _, _, _, _, _, _, rfl, _⟩ := h; rfl) | (obtain ⟨_, _, _, _, _, _, _, _, rfl, _⟩ := h; rfl) | (obtain ⟨_, _, _, _, _, _, _, _, _, rfl, _⟩ := h; rfl) | (obtain ⟨_, _, _, _, _, _, _, _, _, _, rfl, _⟩ := h; rfl) | (obtain ⟨_, _, _, _, _, _, _, _, _, _, _, rfl, _⟩ := h; rfl) | (obtain ⟨_, _, _, _, _, _, _, _, _, _, _, _, rfl, _⟩ := h; rfl)
  · have hu := hu_of hr
    refine ⟨_, (pss_cons (ps_for PassesOwn.never rfl (pi_list (pe_fldK (K := K) rfl (pv 0) rfl)) (pg_tupK (K := K) (n := 2) rfl rfl (pgs_cons (pg_name (i := 1) scm_Picture_unlike_field.nd rfl (by first | exact Or.inl rfl | exact Or.inr rfl)) (pgs_cons (pg_name (i := 2) scm_Picture_unlike_field.nd rfl (by first | exact Or.inl rfl | exact Or.inr rfl)) pgs_nil)))
      (pss_one (ps_for PassesOwn.never rfl (pi_enum (by rfl) T.zenumerate (pa_cons (c_meth (ok_m_IdealHeap_fields_of T) (hr.mono (by decide)) T.clIdealHeap T.mIdealHeap_fields_of pass0 (pe_fldK (K := K) rfl (pv 0) rfl) (pa_cons (pv 1) pa_nil)) pa_nil)) (pg_tupK (K := K) (n := 2) rfl rfl (pgs_cons (pg_name (i := 3) scm_Picture_unlike_field.nd rfl (by first | exact Or.inl rfl | exact Or.inr rfl)) (pgs_cons (pg_name (i := 4) scm_Picture_unlike_field.nd rfl (by first | exact Or.inl rfl | exact Or.inr rfl)) pgs_nil)))
      (pss_one (ps_if (pt_not (pt_val (c_meth (ok_m_Picture_shows T) (hr.mono (by decide)) T.clPicture T.mPicture_shows pass0 (pv 0) (pa_cons (c_meth (ok_m_Memory_at T) (hr.mono (by decide)) T.clMemory T.mMemory_at pass0 (pe_fldK (K := K) rfl (pv 0) rfl) (pa_cons (pe_op op_add (pe_op op_add (pv 2) pe_int) (pv 3)) pa_nil)) (pa_cons (pv 4) pa_nil))))) (pss_one (ps_ret (pe_tup (pa_cons (pv 1) (pa_cons (pv 3) pa_nil))))) pss_nil)))))
      (pss_one (ps_ret pe_non))), ?_⟩
    obtain ⟨x, rfl, o, w, k⟩ := h
    refine ⟨_, rfl, x.pic, _, _, _, _, rfl, o.ob, T.clPicture, T.nPicture_pairs, pF_pairs, x.lb, rfl, ⟨_, SqL.of o.bk.h⟩, for_list (K := K) (a := x.lb) (xs := x.bs) (fun i σ H' => ∃ a b c d, σ = [some (.ref x.pic), a, b, c, d] ∧ Same H H') ⟨_, _, _, _, rfl, .refl H⟩
      (fun i σ H' _ ⟨_, _, _, _, _, s⟩ => SqL.of (s _ _ o.bk.h)) ?_ ?_⟩
    · rintro i v σ H3 hi ⟨a, b, a3, a4, rfl, s3⟩
      have o3 := o.same s3
      obtain ⟨c, hc, r, rfl, hr⟩ := pd_get o3.bk.r hi
      have hcc : c ∈ x.s.cs := w.pm.mem_iff.mp (List.mem_of_getElem? hc)
      refine ⟨r, _, rfl, SqT.of hr, rfl, _, _, rfl, _, _, rfl, rfl, ?_⟩
      refine ⟨_, rfl, x.pic, _, _, _, _, rfl, o3.ob, T.clPicture, T.nPicture_heap, pF_heap, x.p, _, _, rfl, o3.hp.ob, hF_no (by decide +kernel), _, rfl, x.p, x.s, c, rfl, o3.hp, w.kn, hcc, fun l hl => ?_⟩
      have s4 := s3.trans (same_new (o := .lst c.vs) hl)
      have h4 : upd H3 l (.lst c.vs) l = some (.lst c.vs) := upd_same
      generalize upd H3 l (.lst c.vs) = H4 at s4 h4
      have fit := w.P.fit c hcc
      refine ⟨l, c.vs, rfl, SqL.of h4, for_it (walk_enum (K := K) (a := l) (xs := c.vs)) (fun j σ H' => ∃ d e, σ = [some (.ref x.pic), some (.int c.t), some (.int (x.ad c.t : Nat)), d, e] ∧ Same H H' ∧ Same H4 H') ⟨_, _, rfl, s4, .refl H4⟩ (fun i σ H' _ ⟨_, _, _, _, s⟩ => SqL.of (s _ _ h4)) ?_ ?_⟩
      · rintro j v σ H5 H6 hj ⟨d, e, rfl, s5, t5⟩ ⟨T1, y1, y2, rfl, nT, rfl, e1, e2⟩
        cases e1
        have s6 := same_new (o := .tup [.int (j : Nat), y2]) nT
        have o6 := o.same (s5.trans s6)
        obtain ⟨y, hy, ry⟩ := pd_get (o6.hp.th c hcc).rp e2
        have hyl := get_lt hy
        have ew := List.getElem?_eq_getElem (show x.ad c.t + 1 + j < x.M.vs.length by omega)
        have rw2 := o6.hm.r _ _ ew
        rw [w.P.fld c hcc j y hy] at rw2
        refine ⟨T1, _, rfl, SqT.of upd_same, rfl, _, _, rfl, _, _, rfl, rfl, ?_⟩
        refine ⟨_, rfl, x.pic, _, _, rfl, o6.ob, pF_no (by decide +kernel), _, rfl, x.pic, _, _, _, _, rfl, o6.ob, T.clPicture, T.nPicture_space, pF_space, x.q, _, _, rfl, o6.hm.ob, mF_no (by decide +kernel), _, rfl, _, _, rfl, rfl, _, rfl, _, _, rfl, rfl, x.q, x.M, _, x.ad c.t + 1 + j, _, rfl, by omega, ew, o6.hm, _, rfl, ?_⟩
        exact ⟨x, _, y2, y, rfl, rw2, ry, fun t z => w.ck c hcc t (by rw [← z]; exact List.mem_of_getElem? hy), o6, w, _, rfl, ifF rfl ⟨_, _, rfl, s5.trans s6, t5.trans s6⟩⟩
      · rintro σ H5 ⟨d, e, rfl, s5, _⟩
        exact ⟨_, _, _, _, rfl, s5⟩
    · rintro σ H3 ⟨a, b, a3, a4, rfl, s3⟩
      exact k H3 s3
def sp_unlike_hand : Sp := fun vs H Q _ => ∃ (x : Pic) (hl : Addr) (us : List V), vs = [.ref x.pic, .ref hl] ∧ H hl = some (.lst us) ∧ Paired (RW H) us (x.s.hx.map (trW x.ad)) ∧ PicO H x ∧ PicW x ∧ ∀ H', Same H H' → Q .non H'
theorem scf_unlike_hand : FnScope ["picture", "hands", "h", "value"] ["picture", "hands"] (defScope sf_unlike_hand) := ⟨rfl, rfl, rfl, by decide +kernel, rfl, by decide +kernel, by decide +kernel⟩
theorem ok_f_unlike_hand {P : Program} {w : World} {K : PySem.W.Frag} {mg : Str → Option Value} {base : Heap} (T : Tx K mg) : Def P w K mg base CX0 6 af_unlike_hand ["picture", "hands"] sp_unlike_hand := by
  refine mk0 T.D_f_unlike_hand scf_unlike_hand (fun _ _ _ _ _ _ us hl => match us, hl with | [_, _], _ => rfl) (fun vs H Q E h => ?_) (fun cdv A outer s H vs Q E hr h => ?_)
  · first | (obtain ⟨_, rfl, _⟩ := h; rfl) | (obtain ⟨_, _, rfl, _⟩ := h; rfl) | (obtain ⟨_, _, _, rfl, _⟩ := h; rfl) | (obtain ⟨_, _, _, _, rfl, _⟩ := h; rfl) | (obtain ⟨_, _, _, _, _, rfl, _⟩ := h; rfl) | (obtain ⟨_, _, _, _, _, _, rfl, _⟩ := h; rfl) | (obtain ⟨_, _, _, _, _, _, _, rfl, _⟩ := h; rfl) | (obtain ⟨_, _, _, _, _, _, _, _, rfl, _⟩ := h; rfl) | (obtain ⟨_, _, _, _, _, _, _, _, _, rfl, _⟩ := h; rfl) | (obtain ⟨_, _, _, _, _, _, _, _, _, _, rfl, _⟩ := h; rfl) | (obtain ⟨_, _, _, _, _, _, _, _, _, _, _, rfl, _⟩ := h; rfl) | (obtain ⟨_, _, _, _, _, _, _, _, _, _, _, _, rfl, _⟩ := h; rfl)
  · have hu := hu_of hr
    refine ⟨_, (pss_cons (ps_for PassesOwn.never rfl (pi_enum (by rfl) T.zenumerate (pa_cons (c_meth0 (ok_m_IdealHeap_hands T) (hr.mono (by decide)) T.clIdealHeap T.mIdealHeap_hands pass0 (pe_fldK (K := K) rfl (pv 0) rfl)) pa_nil)) (pg_tupK (K := K) (n := 2) rfl rfl (pgs_cons (pg_name (i := 2) scf_unlike_hand.nd rfl (by first | exact Or.inl rfl | exact Or.inr rfl)) (pgs_cons (pg_name (i := 3) scf_unlike_hand.nd rfl (by first | exact Or.inl rfl | exact Or.inr rfl)) pgs_nil)))
      (pss_one (ps_if (pt_not (pt_val (c_meth (ok_m_Picture_shows T) (hr.mono (by decide)) T.clPicture T.mPicture_shows pass0 (pv 0) (pa_cons (pe_ix (r := rIxL K) (ix_listK rfl) (pv 1) (pv 2) (fun _ _ => rfl)) (pa_cons (pv 3) pa_nil))))) (pss_one (ps_ret (pv 2))) pss_nil)))
      (pss_one (ps_ret pe_non))), ?_⟩
    obtain ⟨x, hl, us, rfl, hh, hr, o, w, k⟩ := h
    refine ⟨_, rfl, x.pic, _, _, _, _, rfl, o.ob, T.clPicture, T.nPicture_heap, pF_heap, x.p, _, _, rfl, o.hp.ob, hF_no (by decide +kernel), x.p, x.s, rfl, o.hp, fun l nl => ?_⟩
    have s4 : Same H (upd H l (.lst x.s.hv)) := same_new nl
    have h4 : upd H l (.lst x.s.hv) l = some (.lst x.s.hv) := upd_same
    generalize upd H l (.lst x.s.hv) = H4 at s4 h4
    refine ⟨l, x.s.hv, rfl, SqL.of h4, for_it (walk_enum (K := K) (a := l) (xs := x.s.hv)) (fun j σ H' => ∃ d e, σ = [some (.ref x.pic), some (.ref hl), d, e] ∧ Same H4 H') ⟨_, _, rfl, .refl H4⟩ (fun i σ H' _ ⟨_, _, _, s⟩ => SqL.of (s _ _ h4)) ?_ ?_⟩
    · rintro j v σ H5 H6 hj ⟨d, e, rfl, s5⟩ ⟨T1, y1, y2, rfl, nT, rfl, e1, e2⟩
      cases e1
      have s6 := (s4.trans s5).trans (same_new (o := .tup [.int (j : Nat), y2]) nT)
      have o6 := o.same s6
      obtain ⟨y, hy, ry⟩ := pd_get o6.hp.hr e2
      obtain ⟨u, hu, ru⟩ := pd_get' (rws_tu (tu_same s6) hr) (show (x.s.hx.map (trW x.ad))[j]? = some (trW x.ad y) by rw [List.getElem?_map, hy]; rfl)
      refine ⟨T1, _, rfl, SqT.of upd_same, rfl, _, _, rfl, _, _, rfl, rfl, ?_⟩
      refine ⟨_, rfl, x.pic, _, _, rfl, o6.ob, pF_no (by decide +kernel), _, rfl, _, rfl, hl, us, _, u, rfl, rfl, SqL.of (s6 _ _ hh), atI_nat hu, _, rfl, ?_⟩
      exact ⟨x, u, y2, y, rfl, ru, ry, fun t z => w.hc t (by rw [← z]; exact List.mem_of_getElem? hy), o6, w, _, rfl, ifF rfl ⟨_, _, rfl, s5.trans (same_new nT)⟩⟩
    · rintro σ H5 ⟨d, e, rfl, s5⟩
      exact k H5 (s4.trans s5)
def sp_unlike_name : Sp := fun vs H Q _ => ∃ (x : Pic) (nl : Addr) (us : List V), vs = [.ref x.pic, .ref nl] ∧ H nl = some (.lst us) ∧ Paired (RW H) us (x.s.nv.map (trN x.ad)) ∧ PicO H x ∧ PicW x ∧ ∀ H', Same H H' → Q .non H'
theorem scf_unlike_name : FnScope ["picture", "names", "w", "t"] ["picture", "names"] (defScope sf_unlike_name) := ⟨rfl, rfl, rfl, by decide +kernel, rfl, by decide +kernel, by decide +kernel⟩
theorem ok_f_unlike_name {P : Program} {w : World} {K : PySem.W.Frag} {mg : Str → Option Value} {base : Heap} (T : Tx K mg) : Def P w K mg base CX0 5 af_unlike_name ["picture", "names"] sp_unlike_name := by
  refine mk0 T.D_f_unlike_name scf_unlike_name (fun _ _ _ _ _ _ us hl => match us, hl with | [_, _], _ => rfl) (fun vs H Q E h => ?_) (fun cdv A outer s H vs Q E hr h => ?_)
  · first | (obtain ⟨_, rfl, _⟩ := h; rfl) | (obtain ⟨_, _, rfl, _⟩ := h; rfl) | (obtain ⟨_, _, _, rfl, _⟩ := h; rfl) | (obtain ⟨_, _, _, _, rfl, _⟩ := h; rfl) | (obtain ⟨_, _, _, _, _, rfl, _⟩ := h; rfl) | (obtain ⟨_, _, _, _, _, _, rfl, _⟩ := h; rfl) | (obtain ⟨_, _, _, _, _, _, _, rfl, _⟩ := h; rfl) | (obtain ⟨_, _, _, _, _, _, _, _, rfl, _⟩ := h; rfl) | (obtain ⟨_, _, _, _, _, _, _, _, _, rfl, _⟩ := h; rfl) | (obtain ⟨_, _, _, _, _, _, _, _, _, _, rfl, _⟩ := h; rfl) | (obtain ⟨_, _, _, _, _, _, _, _, _, _, _, rfl, _⟩ := h; rfl) | (obtain ⟨_, _, _, _, _, _, _, _, _, _, _, _, rfl, _⟩ := h; rfl)
  · have hu := hu_of hr
    refine ⟨_, (pss_cons (ps_for PassesOwn.never rfl (pi_enum (by rfl) T.zenumerate (pa_cons (c_meth0 (ok_m_IdealHeap_names T) (hr.mono (by decide)) T.clIdealHeap T.mIdealHeap_names pass0 (pe_fldK (K := K) rfl (pv 0) rfl)) pa_nil)) (pg_tupK (K := K) (n := 2) rfl rfl (pgs_cons (pg_name (i := 2) scf_unlike_name.nd rfl (by first | exact Or.inl rfl | exact Or.inr rfl)) (pgs_cons (pg_name (i := 3) scf_unlike_name.nd rfl (by first | exact Or.inl rfl | exact Or.inr rfl)) pgs_nil)))
      (pss_cons (ps_if (PW.pt (pw_and (pt_cmpR op_isN (pv 3) pe_non (nomark _)) (pw_and1 (pt_cmpR op_notN (pe_ix (r := rIxL K) (ix_listK rfl) (pv 1) (pv 2) (fun _ _ => rfl)) pe_non (nomark _))))) (pss_one (ps_ret (pv 2))) pss_nil)
      (pss_one (ps_if (PW.pt (pw_and (pt_cmpR op_notN (pv 3) pe_non (nomark _)) (pw_and1 (pt_cmpR op_ne (c_meth (ok_m_Picture_goal T) (hr.mono (by decide)) T.clPicture T.mPicture_goal pass0 (pv 0) (pa_cons (pe_ix (r := rIxL K) (ix_listK rfl) (pv 1) (pv 2) (fun _ _ => rfl)) pa_nil)) (pe_dget hu (pe_fldK (K := K) rfl (pv 0) rfl) (pv 3) (fun _ _ => rfl)) (nomark _))))) (pss_one (ps_ret (pv 2))) pss_nil))))
      (pss_one (ps_ret pe_non))), ?_⟩
    obtain ⟨x, nl, us, rfl, hh, hr, o, w, k⟩ := h
    refine ⟨_, rfl, x.pic, _, _, _, _, rfl, o.ob, T.clPicture, T.nPicture_heap, pF_heap, x.p, _, _, rfl, o.hp.ob, hF_no (by decide +kernel), x.p, x.s, rfl, o.hp, fun l hl => ?_⟩
    have s4 : Same H (upd H l (.lst (x.s.nv.map nV))) := same_new hl
    have h4 : upd H l (.lst (x.s.nv.map nV)) l = some (.lst (x.s.nv.map nV)) := upd_same
    generalize upd H l (.lst (x.s.nv.map nV)) = H4 at s4 h4
    refine ⟨l, x.s.nv.map nV, rfl, SqL.of h4, for_it (walk_enum (K := K) (a := l) (xs := x.s.nv.map nV)) (fun j σ H' => ∃ d e, σ = [some (.ref x.pic), some (.ref nl), d, e] ∧ Same H4 H') ⟨_, _, rfl, .refl H4⟩ (fun i σ H' _ ⟨_, _, _, s⟩ => SqL.of (s _ _ h4)) ?_ ?_⟩
    · rintro j v σ H5 H6 hj ⟨d, e, rfl, s5⟩ ⟨T1, y1, y2, rfl, nT1, rfl, e1, e2⟩
      cases e1
      have s6 := (s4.trans s5).trans (same_new (o := .tup [.int (j : Nat), y2]) nT1)
      have o6 := o.same s6
      obtain ⟨y, hy, ey⟩ := map_get e2
      cases ey
      obtain ⟨u, hu, ru⟩ := pd_get' (rws_tu (tu_same s6) hr) (show (x.s.nv.map (trN x.ad))[j]? = some (trN x.ad y) by rw [List.getElem?_map, hy]; rfl)
      refine ⟨T1, _, rfl, SqT.of upd_same, rfl, _, _, rfl, _, _, rfl, rfl, ?_⟩
      cases y with
      | none =>
        cases RW.non ru
        exact ⟨_, rfl, rfl, _, rfl, dT rfl ⟨_, rfl, _, rfl, nl, us, _, .non, rfl, rfl, SqL.of (s6 _ _ hh), atI_nat hu, rfl, _, rfl, nF rfl ⟨_, rfl, rfl, _, rfl, nF rfl ⟨_, _, rfl, s5.trans (same_new nT1)⟩⟩⟩⟩
      | some t =>
        obtain ⟨c, hc, rfl⟩ := key_at (w.nc t (List.mem_of_getElem? hy))
        refine ⟨_, rfl, rfl, _, rfl, dF (by nofun) (iteF ⟨_, rfl, rfl, _, rfl, nT (by nofun) ?_⟩)⟩
        refine ⟨_, rfl, x.pic, _, _, rfl, o6.ob, pF_no (by decide +kernel), _, rfl, _, rfl, nl, us, _, u, rfl, rfl, SqL.of (s6 _ _ hh), atI_nat hu, x, u, c, rfl, ru, hc, o6, w, ?_⟩
        exact ⟨_, rfl, x.pic, _, _, _, _, rfl, o6.ob, T.clPicture, T.nPicture_known, pF_known, _, rfl, x.kd, _, rfl, o6.pos.get (w.ks (key_of hc)), rfl, _, rfl, nF rfl ⟨_, _, rfl, s5.trans (same_new nT1)⟩⟩
    · rintro σ H5 ⟨d, e, rfl, s5⟩
      exact k H5 (s4.trans s5)
end SH
/-! Nothing is unlike. -/
namespace SH
open PySem PySem.Spec PyProof.Rows L2
theorem lay_ints : ∀ ks : List Int, PyData.canLayAll0 (ks.map PyData.int) = true ∧ PyData.depthAll (ks.map PyData.int) = 0
  | [] => ⟨rfl, rfl⟩
  | k :: ks => by
    obtain ⟨h1, h2⟩ := lay_ints ks
    constructor
    · show (true && PyData.canLayAll0 (ks.map PyData.int)) = true
      rw [h1]
      rfl
    · show max 0 (PyData.depthAll (ks.map PyData.int)) = 0
      rw [h2]
      rfl
theorem shp_ints (ks : List Int) : SeqAt.shaped (.list (ks.map PyData.int)) = true := by
  obtain ⟨h1, h2⟩ := lay_ints ks
  show (PyData.canLayAll0 (ks.map PyData.int) && decide (PyData.depthAll (ks.map PyData.int) + 1 ≤ 64)) = true
  rw [h1, h2]
  rfl
theorem dp_ints {K : PySem.W.Frag} {H : Hp} : ∀ ks : List Int, DpAll K H (ks.map V.int) (ks.map PyData.int)
  | [] => .nil
  | k :: ks => .cons (.int k) (dp_ints ks)
structure LikeAt (H : Hp) (x : Pic) (hl nl : Addr) (hs ns : List V) : Prop where
  hp : HeapAt H x.p x.s
  hm : MemAt H x.q x.M
  bk : BookAt H x.lb x.ad x.os x.bs
  w : PicW x
  srt : (keys x.os).Pairwise (· ≤ ·)
  hh : H hl = some (.lst hs)
  hr : Paired (RW H) hs (x.s.hx.map (trW x.ad))
  nh : H nl = some (.lst ns)
  nr : Paired (RW H) ns (x.s.nv.map (trN x.ad))
def sp_first (K : PySem.W.Frag) : Sp := fun vs H Q _ => ∃ (x : Pic) (hl nl : Addr) (hs ns : List V), vs = [.ref x.p, .ref x.q, .ref hl, .ref nl, .ref x.lb] ∧ LikeAt H x hl nl hs ns ∧ ∀ H', Same H H' → Q .non H'
theorem scf_first_unlike : FnScope ["ideal", "memory", "hands", "names", "book", "picture", "t", "field", "h", "w", "a"] ["ideal", "memory", "hands", "names", "book"] (defScope sf_first_unlike) := ⟨rfl, rfl, rfl, by decide +kernel, rfl, by decide +kernel, by decide +kernel⟩
theorem ok_f_first_unlike {P : Program} {w : World} {K : PySem.W.Frag} {mg : Str → Option Value} {base : Heap} (T : Tx K mg) : Def P w K mg base CX0 7 af_first_unlike ["ideal", "memory", "hands", "names", "book"] (sp_first K) := by
  refine mk0 T.D_f_first_unlike scf_first_unlike (fun _ _ _ _ _ _ us hl => match us, hl with | [_, _, _, _, _], _ => rfl) (fun vs H Q E h => ?_) (fun cdv A outer s H vs Q E hr h => ?_)
  · first | (obtain ⟨_, rfl, _⟩ := h; rfl) | (obtain ⟨_, _, rfl, _⟩ := h; rfl) | (obtain ⟨_, _, _, rfl, _⟩ := h; rfl) | (obtain ⟨_, _, _, _, rfl, _⟩ := h; rfl) | (obtain ⟨_, _, _, _, _, rfl, _⟩ := h; rfl) | (obtain ⟨_, _, _, _, _, _, rfl, _⟩ := h; rfl) | (obtain ⟨_, _, _, _, _, _, _, rfl, _⟩ := h; rfl) | (obtain ⟨_, _, _, _, _, _, _, _, rfl, _⟩ := h; rfl) | (obtain ⟨_, _, _, _, _, _, _, _, _, rfl, _⟩ := h; rfl) | (obtain ⟨_, _, _, _, _, _, _, _, _, _, rfl, _⟩ := h; rfl) | (obtain ⟨_, _, _, _, _, _, _, _, _, _, _, rfl, _⟩ := h; rfl) | (obtain ⟨_, _, _, _, _, _, _, _, _, _, _, _, rfl, _⟩ := h; rfl)
  · have hu := hu_of hr
    refine ⟨_, (pss_cons (ps_if (PW.pt (pw_or (pt_not (pt_val (c_call (ok_f_is_book T) (hr.mono (by decide)) T.gf_is_book pass0 (pa_cons (pv 4) pa_nil)))) (pw_or1 (pt_cmpR (op_neD hr.units) (pe_lc (own := [("t", 6), ("a", 10)]) rfl scf_first_unlike.nd (pi_list (pv 4)) (blkOk_by (own := [("t", 6), ("a", 10)]) (N := ["ideal", "memory", "hands", "names", "book", "picture", "t", "field", "h", "w", "a"]) (sc := defScope sf_first_unlike) (by decide +kernel)) (fun _ _ _ _ _ => (pg_tupK (K := K) (n := 2) rfl rfl (pgs_cons (pg_name (i := 6) scf_first_unlike.nd rfl (by first | exact Or.inl rfl | exact Or.inr rfl)) (pgs_cons (pg_name (i := 10) scf_first_unlike.nd rfl (by first | exact Or.inl rfl | exact Or.inr rfl)) pgs_nil)))) (fun _ _ _ _ _ => pts_nil) (fun _ _ _ _ _ => (pv 6))) (c_meth0 (ok_m_IdealHeap_things T) (hr.mono (by decide)) T.clIdealHeap T.mIdealHeap_things pass0 (pv 0)) (nomark _))))) (pss_one (ps_ret (pe_tup (pa_cons pe_str pa_nil)))) pss_nil)
      (pss_cons (ps_set (i := 5) scf_first_unlike.nd rfl (by first | exact Or.inl rfl | exact Or.inr rfl) (c_make (ok_m_Picture_init T) T.mkPicture (hr.mono (by decide)) T.gcPicture pass0 (pa_cons (pv 0) (pa_cons (pv 1) (pa_cons (pv 4) pa_nil)))))
      (pss_cons (ps_set (i := 6) scf_first_unlike.nd rfl (by first | exact Or.inl rfl | exact Or.inr rfl) (c_meth0 (ok_m_Picture_unlike_address T) (hr.mono (by decide)) T.clPicture T.mPicture_unlike_address pass0 (pv 5)))
      (pss_cons (ps_if (pt_cmpR op_notN (pv 6) pe_non (nomark _)) (pss_one (ps_ret (pe_tup (pa_cons pe_str (pa_cons (pv 6) pa_nil))))) pss_nil)
      (pss_cons (ps_set (i := 6) scf_first_unlike.nd rfl (by first | exact Or.inl rfl | exact Or.inr rfl) (c_meth0 (ok_m_Picture_unlike_head T) (hr.mono (by decide)) T.clPicture T.mPicture_unlike_head pass0 (pv 5)))
      (pss_cons (ps_if (pt_cmpR op_notN (pv 6) pe_non (nomark _)) (pss_one (ps_ret (pe_tup (pa_cons pe_str (pa_cons (pv 6) pa_nil))))) pss_nil)
      (pss_cons (ps_set (i := 7) scf_first_unlike.nd rfl (by first | exact Or.inl rfl | exact Or.inr rfl) (c_meth0 (ok_m_Picture_unlike_field T) (hr.mono (by decide)) T.clPicture T.mPicture_unlike_field pass0 (pv 5)))
      (pss_cons (ps_if (pt_cmpR op_notN (pv 7) pe_non (nomark _)) (pss_one (ps_ret (pe_tup (pa_cons pe_str (pa_cons (pe_ix (r := rIxT K) (ix_tupK rfl) (pv 7) pe_int (fun _ _ => rfl)) (pa_cons (pe_ix (r := rIxT K) (ix_tupK rfl) (pv 7) pe_int (fun _ _ => rfl)) pa_nil)))))) pss_nil)
      (pss_cons (ps_set (i := 8) scf_first_unlike.nd rfl (by first | exact Or.inl rfl | exact Or.inr rfl) (c_call (ok_f_unlike_hand T) (hr.mono (by decide)) T.gf_unlike_hand pass0 (pa_cons (pv 5) (pa_cons (pv 2) pa_nil))))
      (pss_cons (ps_if (pt_cmpR op_notN (pv 8) pe_non (nomark _)) (pss_one (ps_ret (pe_tup (pa_cons pe_str (pa_cons (pv 8) pa_nil))))) pss_nil)
      (pss_cons (ps_set (i := 9) scf_first_unlike.nd rfl (by first | exact Or.inl rfl | exact Or.inr rfl) (c_call (ok_f_unlike_name T) (hr.mono (by decide)) T.gf_unlike_name pass0 (pa_cons (pv 5) (pa_cons (pv 3) pa_nil))))
      (pss_cons (ps_if (pt_cmpR op_notN (pv 9) pe_non (nomark _)) (pss_one (ps_ret (pe_tup (pa_cons pe_str (pa_cons (pv 9) pa_nil))))) pss_nil)
      (pss_one (ps_ret pe_non)))))))))))))), ?_⟩
    obtain ⟨x, hl, nl, hs, ns, rfl, L, k⟩ := h
    have w := L.w
    have l4 := w.c4
    have lo := w.pm.length_eq
    refine ⟨_, rfl, x.lb, x.ad, x.os, x.bs, rfl, L.bk, L.srt, w.kno, fun H1 s1 => ⟨_, rfl, ifF rfl ?_⟩⟩
    have bk1 := L.bk.same s1
    refine ⟨_, rfl, x.lb, rfl, ⟨_, SqL.of bk1.h⟩, fun D hD => ?_⟩
    refine lc_list (K := K) (a := x.lb) (xs := x.bs) (fun i H' => H' = upd H1 D (.lst (((keys x.os).take i).map V.int))) rfl (fun i H' _ e => by rw [e]; exact SqL.of (same_new hD _ _ bk1.h)) (fun i v H' hi e => ?_) fun H' e => ?_
    · cases e
      obtain ⟨c, hc, r, rfl, hr⟩ := pd_get bk1.r hi
      have ht : (keys x.os)[i]? = some c.t := by rw [List.getElem?_map, hc]; rfl
      refine ⟨r, _, rfl, SqT.of (same_new hD _ _ hr), rfl, _, _, rfl, _, _, rfl, rfl, rfl, _, rfl, _, upd_same, ?_, ?_⟩
      · rw [List.length_map, List.length_take]
        show min i (x.os.map (·.t)).length < _
        rw [List.length_map]
        exact litL (by omega)
      · rw [upd_upd, take_snoc ht, List.map_append]
        rfl
    cases e
    have lb : x.bs.length = (keys x.os).length := (pd_len bk1.r).trans (List.length_map ..).symm
    rw [lb, List.take_length]
    have s2 := s1.trans (same_new (o := .lst ((keys x.os).map V.int)) hD)
    have h2 : upd H1 D (.lst ((keys x.os).map V.int)) D = some (.lst ((keys x.os).map V.int)) := upd_same
    generalize upd H1 D (.lst ((keys x.os).map V.int)) = H2 at s2 h2
    have hp2 := L.hp.same s2
    refine ⟨_, rfl, x.p, _, _, rfl, hp2.ob, hF_no (by decide +kernel), x.p, x.s, rfl, hp2, fun ts l2 tp srt2 hl2 => ?_⟩
    have et : ts = keys x.os := List.Perm.eq_of_pairwise (le := (· ≤ ·)) (fun a b _ _ h1 h2 => Int.le_antisymm h1 h2) srt2 L.srt (tp.trans (w.pm.map (·.t)).symm)
    cases et
    have s3 := s2.trans (same_new (o := .lst ((keys x.os).map V.int)) hl2)
    refine ⟨.list ((keys x.os).map .int), .list ((keys x.os).map .int), .lst (SqL.of (same_new hl2 _ _ h2)) (dp_ints _), .lst (SqL.of upd_same) (dp_ints _), shp_ints _, shp_ints _, ?_⟩
    rw [SeqAt.eqv_refl _ (SeqAt.canLay_of_shaped (shp_ints _))]
    refine ⟨_, rfl, iteF ?_⟩
    generalize upd H2 l2 (.lst ((keys x.os).map V.int)) = H3 at s3
    have bk3 := L.bk.same s3
    refine ⟨_, rfl, _, rfl, _, rfl, fun pic dxp h1 h2 ne => ?_⟩
    have s4 : Same H3 (upd (upd H3 dxp (.own pic)) pic (.ins cPicture dxp [])) := fun b o e => by
      rw [upd_ne (ne_of_none e h1), upd_ne (ne_of_none e h2)]
      exact e
    refine ⟨pic, x.p, x.q, x.lb, dxp, x.ad, x.os, x.bs, rfl, upd_same, bk3.same s4, w.kno, by omega, fun kd H5 c5 o5 k5 => ⟨rfl, ?_⟩⟩
    have s5 : Same H H5 := fun b o e => c5.keep _ _ (ne_of_none (s3 _ _ e) h1) (s4 _ _ (s3 _ _ e))
    have o : PicO H5 { x with pic := pic, kd := kd, dxp := dxp } := ⟨L.hp.same s5, L.hm.same s5, o5, L.bk.same s5, k5⟩
    have w' : PicW { x with pic := pic, kd := kd, dxp := dxp } := ⟨w.kn, w.f6, w.ck, w.hc, w.nc, w.h8, w.n8, w.pm, w.c4, w.P⟩
    refine ⟨_, rfl, pic, _, _, rfl, o.ob, pF_no (by decide +kernel), { x with pic := pic, kd := kd, dxp := dxp }, rfl, o, w', fun H6 s6 => ?_⟩
    have o6 := o.same s6
    refine ⟨_, rfl, rfl, _, rfl, nF rfl ?_⟩
    refine ⟨_, rfl, pic, _, _, rfl, o6.ob, pF_no (by decide +kernel), { x with pic := pic, kd := kd, dxp := dxp }, rfl, o6, w', fun H7 s7 => ?_⟩
    have o7 := o6.same s7
    refine ⟨_, rfl, rfl, _, rfl, nF rfl ?_⟩
    refine ⟨_, rfl, pic, _, _, rfl, o7.ob, pF_no (by decide +kernel), { x with pic := pic, kd := kd, dxp := dxp }, rfl, o7, w', fun H8 s8 => ?_⟩
    have o8 := o7.same s8
    refine ⟨_, rfl, rfl, _, rfl, nF rfl ?_⟩
    have t8 := ((s5.trans s6).trans s7).trans s8
    refine ⟨_, rfl, _, rfl, { x with pic := pic, kd := kd, dxp := dxp }, hl, hs, rfl, t8 _ _ L.hh, rws_tu (tu_same t8) L.hr, o8, w', fun H9 s9 => ?_⟩
    have o9 := o8.same s9
    have t9 := t8.trans s9
    refine ⟨_, rfl, rfl, _, rfl, nF rfl ?_⟩
    refine ⟨_, rfl, _, rfl, { x with pic := pic, kd := kd, dxp := dxp }, nl, ns, rfl, t9 _ _ L.nh, rws_tu (tu_same t9) L.nr, o9, w', fun H10 s10 => ?_⟩
    exact ⟨_, rfl, rfl, _, rfl, nF rfl (k H10 (t9.trans s10))⟩
def sp_is_picture (K : PySem.W.Frag) : Sp := fun vs H Q _ => ∃ (x : Pic) (hl nl : Addr) (hs ns : List V), vs = [.ref x.p, .ref x.q, .ref hl, .ref nl, .ref x.lb] ∧ LikeAt H x hl nl hs ns ∧ ∀ H', Same H H' → Q (.bl true) H'
theorem scf_is_picture : FnScope ["ideal", "memory", "hands", "names", "book"] ["ideal", "memory", "hands", "names", "book"] (defScope sf_is_picture) := ⟨rfl, rfl, rfl, by decide +kernel, rfl, by decide +kernel, by decide +kernel⟩
theorem ok_f_is_picture {P : Program} {w : World} {K : PySem.W.Frag} {mg : Str → Option Value} {base : Heap} (T : Tx K mg) : Def P w K mg base CX0 8 af_is_picture ["ideal", "memory", "hands", "names", "book"] (sp_is_picture K) := by
  refine mk0 T.D_f_is_picture scf_is_picture (fun _ _ _ _ _ _ us hl => match us, hl with | [_, _, _, _, _], _ => rfl) (fun vs H Q E h => ?_) (fun cdv A outer s H vs Q E hr h => ?_)
  · first | (obtain ⟨_, rfl, _⟩ := h; rfl) | (obtain ⟨_, _, rfl, _⟩ := h; rfl) | (obtain ⟨_, _, _, rfl, _⟩ := h; rfl) | (obtain ⟨_, _, _, _, rfl, _⟩ := h; rfl) | (obtain ⟨_, _, _, _, _, rfl, _⟩ := h; rfl) | (obtain ⟨_, _, _, _, _, _, rfl, _⟩ := h; rfl) | (obtain ⟨_, _, _, _, _, _, _, rfl, _⟩ := h; rfl) | (obtain ⟨_, _, _, _, _, _, _, _, rfl, _⟩ := h; rfl) | (obtain ⟨_, _, _, _, _, _, _, _, _, rfl, _⟩ := h; rfl) | (obtain ⟨_, _, _, _, _, _, _, _, _, _, rfl, _⟩ := h; rfl) | (obtain ⟨_, _, _, _, _, _, _, _, _, _, _, rfl, _⟩ := h; rfl) | (obtain ⟨_, _, _, _, _, _, _, _, _, _, _, _, rfl, _⟩ := h; rfl)
  · have hu := hu_of hr
    refine ⟨_, (pss_one (ps_ret (pe_cmpR op_isN (c_call (ok_f_first_unlike T) (hr.mono (by decide)) T.gf_first_unlike pass0 (pa_cons (pv 0) (pa_cons (pv 1) (pa_cons (pv 2) (pa_cons (pv 3) (pa_cons (pv 4) pa_nil)))))) pe_non (nomark _)))), ?_⟩
    obtain ⟨x, hl, nl, hs, ns, rfl, L, k⟩ := h
    exact ⟨_, rfl, _, rfl, _, rfl, _, rfl, _, rfl, x, hl, nl, hs, ns, rfl, L, fun H' s => ⟨rfl, k H' s⟩⟩
end SH
/-! The law. -/
namespace SH
open PySem PySem.Spec PyProof.Rows L2
theorem HeapAt.fr2 {H H' : Hp} {p a b : Addr} {s : HS} (h : HeapAt H p s) (c : Fr2 a b H H') (n : ¬ own p s a) (m : ¬ own p s b) : HeapAt H' p s where
  ob := c.keep _ _ (fun e => n (by rw [← e]; exact own_p)) (fun e => m (by rw [← e]; exact own_p)) h.ob
  hl := c.keep _ _ (fun e => n (by rw [← e]; exact own_lh)) (fun e => m (by rw [← e]; exact own_lh)) h.hl
  hr := h.hr.tu c.tu
  nl := c.keep _ _ (fun e => n (by rw [← e]; exact own_ln)) (fun e => m (by rw [← e]; exact own_ln)) h.nl
  kd := c.keep _ _ (fun e => n (by rw [← e]; exact own_dk)) (fun e => m (by rw [← e]; exact own_dk)) h.kd
  th := fun x hx => ⟨c.keep _ _ (fun e => n (by rw [← e]; exact own_a hx)) (fun e => m (by rw [← e]; exact own_a hx)) (h.th x hx).ob, c.keep _ _ (fun e => n (by rw [← e]; exact own_il hx)) (fun e => m (by rw [← e]; exact own_il hx)) (h.th x hx).il, (h.th x hx).rp.tu c.tu⟩
  gd := fun d g e => c.keep _ _ (fun z => n (by rw [← z]; exact own_g e)) (fun z => m (by rw [← z]; exact own_g e)) (h.gd d g e)
  sl := c.keep _ _ (fun e => n (by rw [← e]; exact own_ls)) (fun e => m (by rw [← e]; exact own_ls)) h.sl
  n1 := h.n1
  n2 := h.n2
  n3 := h.n3
theorem DL.grow {H H1 H2 : Hp} {ts : List V} (d : DL H H1 ts) (s : Same H H2) (t : Tu H1 H2) : DL H H2 ts :=
  ⟨s, fun v hv => by
    obtain ⟨q, xs, e, n, h, z⟩ := d.all v hv
    exact ⟨q, xs, e, n, t _ _ h, z⟩⟩
def pairK (l : List (Int × Int)) : List (Key × V) := l.map fun x => (Sum.inl x.1, V.int x.2)
theorem pairK_keys {l : List (Int × Int)} : (pairK l).map (·.1) = (l.map (·.1)).map (Sum.inl : Int → Key) := by
  unfold pairK
  rw [List.map_map, List.map_map]
  rfl
theorem pairK_merge : ∀ (b a : List (Int × Int)), ((a ++ b).map (·.1)).Nodup → mergeK (pairK a) (pairK b) = pairK (a ++ b)
  | [], a, _ => by
    rw [List.append_nil]
    rfl
  | x :: b, a, h => by
    have h2 : ((a ++ [x] ++ b).map (·.1)).Nodup := by
      rw [List.append_assoc]
      exact h
    have nk : x.1 ∉ a.map (·.1) := fun z => by
      rw [List.map_append] at h
      exact (List.nodup_append.mp h).2.2 _ z _ List.mem_cons_self rfl
    show mergeK (putK (pairK a) (Sum.inl x.1) (.int x.2)) (pairK b) = _
    rw [putK_new _ (none_of pairK_keys nk)]
    have e : pairK a ++ [((Sum.inl x.1 : Key), V.int x.2)] = pairK (a ++ [x]) := by
      unfold pairK
      rw [List.map_append]
      rfl
    rw [e, pairK_merge b (a ++ [x]) h2, List.append_assoc]
    rfl
theorem pairK_val : ∀ {l : List (Int × Int)}, (l.map (·.1)).Nodup → ∀ {x : Int × Int}, x ∈ l → valV (pairK l) (Sum.inl x.1 : Key) = some (.int x.2)
  | [], _, _, h => by cases h
  | y :: l, n, x, h => by
    obtain ⟨n1, n2⟩ := List.nodup_cons.mp (show (y.1 :: l.map (·.1)).Nodup from n)
    rcases List.mem_cons.mp h with e | h
    · rw [e]
      exact valV_pos rfl
    · refine (valV_neg (p := ((Sum.inl y.1 : Key), V.int y.2)) fun z => ?_).trans (pairK_val n2 h)
      have e : y.1 = x.1 := Sum.inl.inj z
      exact n1 (by rw [e]; exact List.mem_map.mpr ⟨x, h, rfl⟩)
def sp_law (K : PySem.W.Frag) : Sp := fun vs H Q _ => ∃ (a : Addr) (ns : List Int), vs = [.ref a] ∧ SqL K H a (ns.map V.int) ∧ ns.length ≤ 63 ∧ ∀ H', Q (.bl true) H'
theorem scf_law : FnScope ["script", "heap", "deeds", "deed", "memory", "at", "hands", "book", "second", "anew", "pairs", "moved", "after", "thing", "value", "number"] ["script"] (defScope sf_law) := ⟨rfl, rfl, rfl, by decide +kernel, rfl, by decide +kernel, by decide +kernel⟩
theorem ok_f_law {P : Program} {w : World} {K : PySem.W.Frag} {mg : Str → Option Value} {base : Heap} (T : Tx K mg) : Def P w K mg base CX0 10 af_law ["script"] (sp_law K) := by
  refine mk0 T.D_f_law scf_law (fun _ _ _ _ _ _ us hl => match us, hl with | [_], _ => rfl) (fun vs H Q E h => ?_) (fun cdv A outer s H vs Q E hr h => ?_)
  · first | (obtain ⟨_, rfl, _⟩ := h; rfl) | (obtain ⟨_, _, rfl, _⟩ := h; rfl) | (obtain ⟨_, _, _, rfl, _⟩ := h; rfl) | (obtain ⟨_, _, _, _, rfl, _⟩ := h; rfl) | (obtain ⟨_, _, _, _, _, rfl, _⟩ := h; rfl) | (obtain ⟨_, _, _, _, _, _, rfl, _⟩ := h; rfl) | (obtain ⟨_, _, _, _, _, _, _, rfl, _⟩ := h; rfl) | (obtain ⟨_, _, _, _, _, _, _, _, rfl, _⟩ := h; rfl) | (obtain ⟨_, _, _, _, _, _, _, _, _, rfl, _⟩ := h; rfl) | (obtain ⟨_, _, _, _, _, _, _, _, _, _, rfl, _⟩ := h; rfl) | (obtain ⟨_, _, _, _, _, _, _, _, _, _, _, rfl, _⟩ := h; rfl) | (obtain ⟨_, _, _, _, _, _, _, _, _, _, _, _, rfl, _⟩ := h; rfl)
  · have hu := hu_of hr
    refine ⟨_, (pss_cons (ps_set (i := 1) scf_law.nd rfl (by first | exact Or.inl rfl | exact Or.inr rfl) (c_make (ok_m_IdealHeap_init T) T.mkIdealHeap (hr.mono (by decide)) T.gcIdealHeap pass0 (pa_cons (pe_ix (r := rIxL K) (ix_listK rfl) (pe_lst (pa_cons pe_int (pa_cons pe_int pa_nil))) (pe_op op_mod (pe_op op_fdiv (c_call (ok_f__law_cell T) (hr.mono (by decide)) T.gf__law_cell pass0 (pa_cons (pv 0) (pa_cons pe_int pa_nil))) pe_int) pe_int) (fun _ _ => rfl)) (pa_cons pe_int pa_nil))))
      (pss_cons (ps_set (i := 2) scf_law.nd rfl (by first | exact Or.inl rfl | exact Or.inr rfl) (pe_lst (pa_cons (pe_tup (pa_cons pe_str (pa_cons pe_int (pa_cons pe_int pa_nil)))) (pa_cons (pe_tup (pa_cons pe_str (pa_cons pe_int (pa_cons pe_int pa_nil)))) (pa_cons (pe_tup (pa_cons pe_str (pa_cons pe_int (pa_cons pe_int pa_nil)))) (pa_cons (pe_tup (pa_cons pe_str (pa_cons pe_int (pa_cons pe_int (pa_cons pe_int pa_nil))))) (pa_cons (pe_tup (pa_cons pe_str (pa_cons pe_int (pa_cons pe_int (pa_cons pe_int pa_nil))))) (pa_cons (pe_tup (pa_cons pe_str (pa_cons pe_int (pa_cons pe_int pa_nil)))) pa_nil))))))))
      (pss_cons (ps_for PassesOwn.never rfl (pi_list (pe_op op_cat (pv 2) (pe_lc (own := [("number", 15)]) rfl scf_law.nd (pi_list (c_call (ok_f__law_numbers T) (hr.mono (by decide)) T.gf__law_numbers pass0 (pa_cons (pv 0) (pa_cons pe_int pa_nil)))) (blkOk_by (own := [("number", 15)]) (N := ["script", "heap", "deeds", "deed", "memory", "at", "hands", "book", "second", "anew", "pairs", "moved", "after", "thing", "value", "number"]) (sc := defScope sf_law) (by decide +kernel)) (fun _ _ _ _ _ => (pg_name (i := 15) scf_law.nd rfl (by first | exact Or.inl rfl | exact Or.inr rfl))) (fun _ _ _ _ _ => pts_nil) (fun _ _ _ _ _ => (c_call (ok_f__law_deed T) (hr.mono (by decide)) T.gf__law_deed pass0 (pa_cons (pv 15) pa_nil)))))) (pg_name (i := 3) scf_law.nd rfl (by first | exact Or.inl rfl | exact Or.inr rfl))
      (pss_one (ps_expr (c_call (ok_f__law_done T) (hr.mono (by decide)) T.gf__law_done pass0 (pa_cons (pv 1) (pa_cons (pv 3) pa_nil))))))
      (pss_cons (ps_if (pt_val (c_meth0 (ok_m_IdealHeap_round_on T) (hr.mono (by decide)) T.clIdealHeap T.mIdealHeap_round_on pass0 (pv 1))) (pss_one (ps_expr (c_meth0 (ok_m_IdealHeap_end T) (hr.mono (by decide)) T.clIdealHeap T.mIdealHeap_end pass0 (pv 1)))) pss_nil)
      (pss_cons (ps_expr (c_meth0 (ok_m_IdealHeap_begin T) (hr.mono (by decide)) T.clIdealHeap T.mIdealHeap_begin pass0 (pv 1)))
      (pss_cons (ps_expr (c_meth0 (ok_m_IdealHeap_end T) (hr.mono (by decide)) T.clIdealHeap T.mIdealHeap_end pass0 (pv 1)))
      (pss_cons (ps_set (i := 4) scf_law.nd rfl (by first | exact Or.inl rfl | exact Or.inr rfl) (c_make (ok_m_Memory_init T) T.mkMemory (hr.mono (by decide)) T.gcMemory pass0 (pa_cons pe_int pa_nil)))
      (pss_cons (ps_set (i := 5) scf_law.nd rfl (by first | exact Or.inl rfl | exact Or.inr rfl) (c_call (ok_f__law_laid T) (hr.mono (by decide)) T.gf__law_laid pass0 (pa_cons (pv 1) (pa_cons (pv 4) pa_nil))))
      (pss_cons (ps_setLc (i := 6) (own := [("value", 14)]) rfl scf_law.nd rfl rfl (sw_true rfl rfl rfl (by decide +kernel)) (pi_list (c_meth0 (ok_m_IdealHeap_hands T) (hr.mono (by decide)) T.clIdealHeap T.mIdealHeap_hands pass0 (pv 1))) (blkOk_by (own := [("value", 14)]) (N := ["script", "heap", "deeds", "deed", "memory", "at", "hands", "book", "second", "anew", "pairs", "moved", "after", "thing", "value", "number"]) (sc := defScope sf_law) (by decide +kernel)) (fun _ _ _ _ _ => (pg_name (i := 14) scf_law.nd rfl (by first | exact Or.inl rfl | exact Or.inr rfl))) (fun _ _ _ _ _ => pts_nil) (fun _ _ _ _ _ => (c_call (ok_f__law_word_of T) (hr.mono (by decide)) T.gf__law_word_of pass0 (pa_cons (pv 14) (pa_cons (pv 5) pa_nil)))))
      (pss_cons (ps_setLc (i := 7) (own := [("thing", 13)]) rfl scf_law.nd rfl rfl (sw_true rfl rfl rfl (by decide +kernel)) (pi_list (c_meth0 (ok_m_IdealHeap_things T) (hr.mono (by decide)) T.clIdealHeap T.mIdealHeap_things pass0 (pv 1))) (blkOk_by (own := [("thing", 13)]) (N := ["script", "heap", "deeds", "deed", "memory", "at", "hands", "book", "second", "anew", "pairs", "moved", "after", "thing", "value", "number"]) (sc := defScope sf_law) (by decide +kernel)) (fun _ _ _ _ _ => (pg_name (i := 13) scf_law.nd rfl (by first | exact Or.inl rfl | exact Or.inr rfl))) (fun _ _ _ _ _ => pts_nil) (fun _ _ _ _ _ => (pe_tup (pa_cons (pv 13) (pa_cons (pe_dget hu (pv 5) (pv 13) (fun _ _ => rfl)) pa_nil)))))
      (pss_cons (ps_if (pt_cmpR op_notBl (c_call (ok_f_is_picture T) (hr.mono (by decide)) T.gf_is_picture pass0 (pa_cons (pv 1) (pa_cons (pv 4) (pa_cons (pv 6) (pa_cons (c_call (ok_f__law_names T) (hr.mono (by decide)) T.gf__law_names pass0 (pa_cons (pv 1) (pa_cons (pv 5) pa_nil))) (pa_cons (pv 7) pa_nil)))))) pe_bl (nomark _)) (pss_one (ps_ret pe_bl)) pss_nil)
      (pss_cons (ps_set (i := 8) scf_law.nd rfl (by first | exact Or.inl rfl | exact Or.inr rfl) (c_make (ok_m_Memory_init T) T.mkMemory (hr.mono (by decide)) T.gcMemory pass0 (pa_cons pe_int pa_nil)))
      (pss_cons (ps_asg (c_call (ok_f_copied T) (hr.mono (by decide)) T.gf_copied pass0 (pa_cons (pv 4) (pa_cons (pv 8) (pa_cons pe_int (pa_cons (pe_callTy call_list_of (by rfl) T.zlist (by decide +kernel) (pa_cons (pv 6) pa_nil)) pa_nil))))) (pg_tupK (K := K) (n := 2) rfl rfl (pgs_cons (pg_name (i := 9) scf_law.nd rfl (by first | exact Or.inl rfl | exact Or.inr rfl)) (pgs_cons (pg_name (i := 10) scf_law.nd rfl (by first | exact Or.inl rfl | exact Or.inr rfl)) pgs_nil))))
      (pss_cons (ps_set (i := 11) scf_law.nd rfl (by first | exact Or.inl rfl | exact Or.inr rfl) (pe_callTy (call_dictP rfl) (by rfl) T.zdict (by decide +kernel) (pa_cons (pv 10) pa_nil)))
      (pss_cons (ps_set (i := 12) scf_law.nd rfl (by first | exact Or.inl rfl | exact Or.inr rfl) pe_dnewK)
      (pss_cons (ps_lock (ps_for PassesOwn.never rfl (pi_keys (pv 5)) (pg_name (i := 13) scf_law.nd rfl (by first | exact Or.inl rfl | exact Or.inr rfl))
      (pss_cons (ps_if (pt_cmp (pc_dnotin hu (pe_dget hu (pv 5) (pv 13) (fun _ _ => rfl)) (pv 11))) (pss_one (ps_ret pe_bl)) pss_nil)
      (pss_one (ps_dput hu (pv 12) (pv 13) (pe_dget hu (pv 11) (pe_dget hu (pv 5) (pv 13) (fun _ _ => rfl)) (fun _ _ => rfl)) rfl)))))
      (pss_cons (ps_setLc (i := 7) (own := [("thing", 13)]) rfl scf_law.nd rfl rfl (sw_true rfl rfl rfl (by decide +kernel)) (pi_list (c_meth0 (ok_m_IdealHeap_things T) (hr.mono (by decide)) T.clIdealHeap T.mIdealHeap_things pass0 (pv 1))) (blkOk_by (own := [("thing", 13)]) (N := ["script", "heap", "deeds", "deed", "memory", "at", "hands", "book", "second", "anew", "pairs", "moved", "after", "thing", "value", "number"]) (sc := defScope sf_law) (by decide +kernel)) (fun _ _ _ _ _ => (pg_name (i := 13) scf_law.nd rfl (by first | exact Or.inl rfl | exact Or.inr rfl))) (fun _ _ _ _ _ => pts_nil) (fun _ _ _ _ _ => (pe_tup (pa_cons (pv 13) (pa_cons (pe_dget hu (pv 12) (pv 13) (fun _ _ => rfl)) pa_nil)))))
      (pss_cons (ps_if (pt_cmpR op_ne (pe_callB (cr_sum rfl) (by rfl) T.zsum (by decide +kernel) (pa_cons (pe_lock (pe_lc (own := [("thing", 13)]) rfl scf_law.nd (pi_keys (pv 12)) (blkOk_by (own := [("thing", 13)]) (N := ["script", "heap", "deeds", "deed", "memory", "at", "hands", "book", "second", "anew", "pairs", "moved", "after", "thing", "value", "number"]) (sc := defScope sf_law) (by decide +kernel)) (fun _ _ _ _ _ => (pg_name (i := 13) scf_law.nd rfl (by first | exact Or.inl rfl | exact Or.inr rfl))) (fun _ _ _ _ _ => pts_nil) (fun _ _ _ _ _ => (pe_op op_add (pe_callB (r := rLenQ K) (call_lenQ rfl) (by rfl) T.zlen PySem.boot_len (pa_cons (c_meth (ok_m_IdealHeap_fields_of T) (hr.mono (by decide)) T.clIdealHeap T.mIdealHeap_fields_of pass0 (pv 1) (pa_cons (pv 13) pa_nil)) pa_nil)) pe_int)))) pa_nil)) (c_meth0 (ok_m_IdealHeap_held T) (hr.mono (by decide)) T.clIdealHeap T.mIdealHeap_held pass0 (pv 1)) (nomark _)) (pss_one (ps_ret pe_bl)) pss_nil)
      (pss_one (ps_ret (pe_cmpR op_isBl (c_call (ok_f_is_picture T) (hr.mono (by decide)) T.gf_is_picture pass0 (pa_cons (pv 1) (pa_cons (pv 8) (pa_cons (pv 9) (pa_cons (c_call (ok_f__law_names T) (hr.mono (by decide)) T.gf__law_names pass0 (pa_cons (pv 1) (pa_cons (pv 12) pa_nil))) (pa_cons (pv 7) pa_nil)))))) pe_bl (nomark _)))))))))))))))))))))), ?_⟩
    obtain ⟨a, ns, rfl, hsc, hlen, k⟩ := h
    refine ⟨lit 2 (by decide), fun l0 hl0 => ?_⟩
    have s0 : Same H (upd H l0 (.lst [.int 0, .int 10])) := same_new hl0
    refine ⟨_, rfl, a, ns, rfl, s0.seq hsc, fun x => ?_⟩
    refine ⟨_, _, rfl, rfl, ⟨by decide, by decide⟩, _, _, rfl, rfl, (by show (0 : Int) < 2; decide), ?_⟩
    have hy : ∃ y : Int, (y = 0 ∨ y = 10) ∧ atI [V.int 0, .int 10] (x / 2 % 2) = some (.int y) := by
      have e : x / 2 % 2 = 0 ∨ x / 2 % 2 = 1 := by omega
      rcases e with e | e
      · exact ⟨0, .inl rfl, by rw [e]; rfl⟩
      · exact ⟨10, .inr rfl, by rw [e]; rfl⟩
    obtain ⟨y, hy, ey⟩ := hy
    refine ⟨l0, _, _, .int y, rfl, rfl, SqL.of upd_same, ey, fun p dx h1 h2 ne => ?_⟩
    refine ⟨p, dx, y, rfl, hy, upd_same, fun H1 z hp1 w1 g1 fr ow => ⟨rfl, ?_⟩⟩
    have s1 : Same H H1 := fun b o e => by
      have e2 := s0 _ _ e
      refine fr b o (ne_of_none e2 h1) ?_
      rw [upd_ne (ne_of_none e2 h1), upd_ne (ne_of_none e2 h2)]
      exact e2
    have h08 : H8 0 := ⟨by decide, by decide⟩
    have h18 : H8 1 := ⟨by decide, by decide⟩
    have h28 : H8 2 := ⟨by decide, by decide⟩
    have h38 : H8 3 := ⟨by decide, by decide⟩
    have d0 : DL H1 H1 [] := .nil
    refine ⟨lit 3 (by decide), fun p1 hp1' => ?_⟩
    have d1 := d0.add hp1' (.make 0 3 h08 (by decide))
    generalize upd H1 p1 _ = G1 at d1
    refine ⟨lit 3 (by decide), fun p2 hp2 => ?_⟩
    have d2 := d1.add hp2 (.make 1 2 h18 (by decide))
    generalize upd G1 p2 _ = G2 at d2
    refine ⟨lit 3 (by decide), fun p3 hp3 => ?_⟩
    have d3 := d2.add hp3 (.make 2 2 h28 (by decide))
    generalize upd G2 p3 _ = G3 at d3
    refine ⟨lit 4 (by decide), fun p4 hp4 => ?_⟩
    have d4 := d3.add hp4 (.store 0 1 1 h08 h18)
    generalize upd G3 p4 _ = G4 at d4
    refine ⟨lit 4 (by decide), fun p5 hp5 => ?_⟩
    have d5 := d4.add hp5 (.store 1 0 0 h18 h08)
    generalize upd G4 p5 _ = G5 at d5
    refine ⟨lit 3 (by decide), fun p6 hp6 => ?_⟩
    have d6 := d5.add hp6 (.name 3 1 h38 h18)
    generalize upd G5 p6 _ = G6 at d6
    refine ⟨lit 6 (by decide), fun dl hdl => ?_⟩
    have d7 := d6.new (o := .lst [.ref p1, .ref p2, .ref p3, .ref p4, .ref p5, .ref p6]) hdl
    have g7 : upd G6 dl (.lst [.ref p1, .ref p2, .ref p3, .ref p4, .ref p5, .ref p6]) dl = some (.lst [.ref p1, .ref p2, .ref p3, .ref p4, .ref p5, .ref p6]) := upd_same
    generalize upd G6 dl _ = H2 at d7 g7
    have d7' : DL H1 H2 [.ref p1, .ref p2, .ref p3, .ref p4, .ref p5, .ref p6] := d7
    have hz7 : ([V.ref p1, .ref p2, .ref p3, .ref p4, .ref p5, .ref p6]).length = 6 := rfl
    generalize [V.ref p1, .ref p2, .ref p3, .ref p4, .ref p5, .ref p6] = ds at d7' g7 hz7
    -- the numbers, and their deeds
    refine ⟨_, rfl, _, rfl, a, ns, rfl, (s1.trans d7.same).seq hsc, by omega, fun nl H3 fs hfs hU s3 nnl hnl => ⟨nl, rfl, ⟨_, SqL.of hnl⟩, fun D hD => ?_⟩⟩
    have d8 := d7'.grow (d7'.same.trans s3) (tu_same s3)
    refine lc_list (K := K) (a := nl) (xs := fs.map V.int) (fun i H' => ∃ ts, H' D = some (.lst ts) ∧ DL H1 H' ts ∧ ts.length = i ∧ Same H3 H') ⟨[], upd_same, ⟨d8.same.trans (same_new hD), fun t ht => (by cases ht)⟩, rfl, same_new hD⟩ (fun i H' _ ⟨_, _, _, _, s⟩ => SqL.of (s _ _ hnl)) (fun i v H4 hi ⟨ts, t1, t2, t3, t4⟩ => ?_) fun H4 ⟨ts, t1, t2, t3, t4⟩ => ?_
    · obtain ⟨n, hn, rfl⟩ := map_get hi
      have il := get_lt hn
      refine ⟨rfl, _, rfl, n, rfl, hU n (List.mem_of_getElem? hn), fun q H5 xs dd s5 nq hq => ⟨ts, s5 _ _ t1, litL (by omega), ts ++ [.ref q], upd_same, ?_, by rw [List.length_append, t3]; rfl, same_skip (t4.trans s5) hD⟩⟩
      have tu : Tu H5 (upd H5 D (.lst (ts ++ [.ref q]))) := tu_upd (s5 _ _ t1) fun xs z => by cases z
      have s15 : Same H1 (upd H5 D (.lst (ts ++ [.ref q]))) := same_skip (t2.same.trans s5) (d8.same.free hD)
      refine ⟨s15, fun t ht => ?_⟩
      rcases List.mem_append.mp ht with u | u
      · exact (t2.grow s15 ((tu_same s5).trans tu)).all t u
      · exact ⟨q, xs, List.mem_singleton.mp u, t2.same.free nq, tu _ _ hq, dd⟩
    rw [List.length_map] at t3
    have d9 := d8.grow t2.same (tu_same t4)
    refine ⟨dl, D, _, _, rfl, rfl, t4 _ _ (s3 _ _ g7), t1, lit _ (by omega), fun L hL => ?_⟩
    have s5 := same_new (o := .lst (ds ++ ts)) hL
    have dA : DL H1 (upd H4 L (.lst (ds ++ ts))) (ds ++ ts) := ⟨t2.same.trans s5, fun t ht => by
      rcases List.mem_append.mp ht with u | u
      · exact (d9.grow (t2.same.trans s5) (tu_same s5)).all t u
      · exact (t2.grow (t2.same.trans s5) (tu_same s5)).all t u⟩
    have nL : ¬ own p z L := not_own (hp1.same t2.same) hL
    have gL : upd H4 L (.lst (ds ++ ts)) L = some (.lst (ds ++ ts)) := upd_same
    have lL : (ds ++ ts).length ≤ 76 := by rw [List.length_append]; omega
    generalize upd H4 L (.lst (ds ++ ts)) = H5 at s5 dA gL
    generalize ds ++ ts = al at dA gL lL
    refine ⟨L, rfl, ⟨_, SqL.of gL⟩, for_list (K := K) (a := L) (xs := al) (fun i σ H' => ∃ e, σ = [some (.ref a), some (.ref p), some (.ref dl), e, none, none, none, none, none, none, none, none, none, none, none, none] ∧ ∃ z', HeapAt H' p z' ∧ WF i z' ∧ Ext p z z' H5 H') ⟨none, rfl, z, hp1.same dA.same, w1, .refl⟩
      (fun i σ H' _ ⟨_, _, _, _, _, x⟩ => SqL.of (x.fr _ _ gL nL)) ?_ ?_⟩
    · rintro i v σ H6 hi ⟨e, rfl, z6, hp6, w6, x6⟩
      obtain ⟨q, xs, rfl, nq, hq, dd⟩ := dA.all v (List.mem_of_getElem? hi)
      have il := get_lt hi
      exact ⟨_, rfl, _, rfl, i, p, q, z6, xs, rfl, x6.fr _ _ hq (not_own hp1 nq), dd, hp6, w6, by omega, fun v H7 z7 hp7 w7 x7 => ⟨_, rfl, z7, hp7, w7, x6.trans x7⟩⟩
    rintro σ H6 ⟨e, rfl, z6, hp6, w6, _⟩
    generalize al.length = m at w6 lL
    refine ⟨_, rfl, p, _, _, rfl, hp6.ob, hF_no (by decide +kernel), p, z6, rfl, hp6, _, rfl, ?_⟩
    apply byRest (Pr := fun H' z' => HeapAt H' p z' ∧ WF m z' ∧ z'.g = none)
    · intro rest
      cases eg : z6.g with
      | none => exact iteF (rest H6 z6 ⟨hp6, w6, eg⟩)
      | some dg => exact ifT rfl ⟨_, rfl, p, _, _, rfl, hp6.ob, hF_no (by decide +kernel), m, p, z6, dg.1, dg.2, rfl, hp6, w6, by omega, eg, fun H7 z7 hp7 w7 g7 _ _ _ => rest H7 z7 ⟨hp7, w7, g7⟩⟩
    rintro H7 z7 ⟨hp7, w7, g7⟩
    refine ⟨_, rfl, p, _, _, rfl, hp7.ob, hF_no (by decide +kernel), m, p, z7, rfl, hp7, w7, by omega, g7, fun H8 z8 d g hp8 w8 eg8 lv _ => ?_⟩
    refine ⟨_, rfl, p, _, _, rfl, hp8.ob, hF_no (by decide +kernel), m, p, z8, d, g, rfl, hp8, w8, by omega, eg8, fun H9 z hp9 w g9 ehx ecs _ => ?_⟩
    have re : Reached z := ends_reached w8 eg8 lv ehx ecs
    have c4 := w.c400
    refine fun q dxq n1 n2 nq => ⟨q, dxq, 400, rfl, by decide, upd_same, fun H10 M hm lenM nw sb => ⟨rfl, ?_⟩⟩
    have sm : Same H9 (upd (upd H9 dxq (.own q)) q (.ins cMemory dxq [])) := fun b o e => by
      rw [upd_ne (ne_of_none e n1), upd_ne (ne_of_none e n2)]
      exact e
    have s10 : Same H9 H10 := fun b o e => sb b o (ne_of_none e n1) (sm _ _ e)
    have hp10 := hp9.same s10
    have nown : ¬ own p z M.wl := not_own hp9 (sm.free nw)
    refine ⟨_, rfl, _, rfl, p, q, z, M, rfl, hp10, w.kn, w.f6, w.wd, c4, w.cl, hm, lenM, nown, fun ad H11 M1 af os pm nad had hm1 wl1 len1 P1 c11 => ?_⟩
    have hp11 := hp10.chg c11 nown
    have ksm : ∀ {t : Int}, t ∈ keys z.cs → t ∈ keys os := fun h => (pm.map (·.t)).mem_iff.mpr h
    have kno : (keys os).Nodup := (pm.map (·.t)).nodup_iff.mpr w.kn
    -- the hands
    refine ⟨_, rfl, p, _, _, rfl, hp11.ob, hF_no (by decide +kernel), p, z, rfl, hp11, fun l hl => ⟨l, rfl, ⟨_, SqL.of upd_same⟩, fun D hD => ?_⟩⟩
    have s12 := same_new (o := .lst z.hv) hl
    have gl : upd H11 l (.lst z.hv) l = some (.lst z.hv) := upd_same
    generalize upd H11 l (.lst z.hv) = H12 at s12 gl hD
    have hp12 := hp11.same s12
    have pd12 : PosAt H12 ad af (keys os) := .inl (s12 _ _ had)
    have e8 := w.h8
    have lhv : z.hv.length = z.hx.length := pd_len hp12.hr
    refine lc_list (K := K) (a := l) (xs := z.hv) (fun i H' => ∃ acc, H' D = some (.lst acc) ∧ Paired (RW H') acc ((z.hx.take i).map (trW af)) ∧ Same H12 H') ⟨[], upd_same, .nil, same_new hD⟩
      (fun i H' _ ⟨_, _, _, s⟩ => SqL.of (s _ _ gl)) (fun i v H13 hi ⟨acc, a1, a2, a3⟩ => ?_) fun H13 ⟨acc, a1, a2, a3⟩ => ?_
    · obtain ⟨y, hy, ry⟩ := pd_get (hp12.same a3).hr hi
      refine ⟨rfl, _, rfl, _, rfl, v, ad, y, af, keys os, rfl, ry, pd12.same a3, fun t e => ksm (w.hc t (by rw [← e]; exact List.mem_of_getElem? hy)), fun v' H14 s14 r14 => ⟨acc, s14 _ _ a1, ?_, acc ++ [v'], upd_same, ?_, same_skip (a3.trans s14) hD⟩⟩
      · have := pd_len a2
        rw [List.length_map, List.length_take] at this
        exact litL (by omega)
      · have tu : Tu H14 (upd H14 D (.lst (acc ++ [v']))) := tu_upd (s14 _ _ a1) fun xs z => by cases z
        rw [take_snoc hy, List.map_append]
        exact pd_app (rws_tu ((tu_same s14).trans tu) a2) (.cons (r14.tu tu) .nil)
    rw [lhv, List.take_length] at a2
    have s13 := s12.trans a3
    have hp13 := hp11.same s13
    have hm13 := hm1.same s13
    have pd13 : PosAt H13 ad af (keys os) := .inl (s13 _ _ had)
    -- the book
    refine ⟨_, rfl, p, _, _, rfl, hp13.ob, hF_no (by decide +kernel), p, z, rfl, hp13, fun ts l2 tp srt hl2 => ?_⟩
    obtain ⟨o2, rfl, pm2⟩ := perm_inv tp z.cs rfl
    have lo2 := pm2.length_eq
    refine ⟨l2, rfl, ⟨_, SqL.of upd_same⟩, fun B hB => ?_⟩
    have s14 := same_new (o := .lst ((keys o2).map V.int)) hl2
    have gl2 : upd H13 l2 (.lst ((keys o2).map V.int)) l2 = some (.lst ((keys o2).map V.int)) := upd_same
    generalize upd H13 l2 (.lst ((keys o2).map V.int)) = H14 at s14 gl2 hB
    refine lc_list (K := K) (a := l2) (xs := (keys o2).map V.int) (fun i H' => ∃ acc, H' B = some (.lst acc) ∧ Paired (BkR H' af) acc (o2.take i) ∧ Same H14 H') ⟨[], upd_same, .nil, same_new hB⟩
      (fun i H' _ ⟨_, _, _, s⟩ => SqL.of (s _ _ gl2)) (fun i v H15 hi ⟨ac2, b1, b2, b3⟩ => ?_) fun H15 ⟨bs, b1, b2, b3⟩ => ?_
    · obtain ⟨t, ht, rfl⟩ := map_get hi
      obtain ⟨c, hc, rfl⟩ := map_get ht
      have hcc : c ∈ z.cs := pm2.mem_iff.mp (List.mem_of_getElem? hc)
      refine ⟨rfl, _, rfl, _, rfl, _, rfl, ad, _, rfl, (pd13.same (s14.trans b3)).get (ksm (key_of hcc)), lit 2 (by decide), fun y hy => ?_⟩
      have sy := same_new (o := .tup [.int c.t, .int (af c.t : Nat)]) hy
      refine ⟨ac2, sy _ _ b1, ?_, ac2 ++ [.ref y], upd_same, ?_, same_skip (b3.trans sy) hB⟩
      · have := pd_len b2
        rw [List.length_take] at this
        exact litL (by omega)
      · have tu : Tu (upd H15 y (.tup [.int c.t, .int (af c.t : Nat)])) (upd (upd H15 y (.tup [.int c.t, .int (af c.t : Nat)])) B (.lst (ac2 ++ [.ref y]))) := tu_upd (sy _ _ b1) fun xs z => by cases z
        rw [take_snoc hc]
        exact pd_app (Paired.mapP b2 fun _ _ q => q.tu ((tu_same sy).trans tu)) (.cons ⟨y, rfl, tu _ _ upd_same⟩ .nil)
    have e2 : ((keys o2).map V.int).length = o2.length := by rw [List.length_map, List.length_map]
    rw [e2, List.take_length] at b2
    have s15 := s14.trans b3
    have hp15 := hp13.same s15
    have n8 := w.n8
    -- the first picture
    refine ⟨_, rfl, _, rfl, _, rfl, _, rfl, _, rfl, p, ad, z, af, keys os, rfl, hp15, pd13.same s15, fun t ht => ksm (w.nc t ht), n8, fun r H16 us s16 nr hr ru => ?_⟩
    have s15' := s15.trans s16
    refine ⟨_, rfl, ⟨p, q, p, B, p, p, z, M1, af, o2, bs⟩, D, r, acc, us, rfl, ⟨hp15.same s16, hm13.same s15', ⟨s16 _ _ b1, Paired.mapP b2 fun _ _ q => q.tu (tu_same s16)⟩, ⟨w.kn, w.f6, w.cl, w.hc, w.nc, e8, n8, pm2, c4, by rw [len1]; exact P1⟩, srt, s15' _ _ a1, rws_tu (tu_same s15') a2, hr, ru⟩, fun H17 s17 => ?_⟩
    refine ⟨true, true, rfl, rfl, _, rfl, iteF ?_⟩
    have s13b := s15'.trans s17
    have hp17 := hp13.same s13b
    have hm17 := hm13.same s13b
    have gD := s13b _ _ a1
    have pD := rws_tu (tu_same s13b) a2
    have ad17 : H17 ad = some (.dK (atsK af (keys os))) := s13b _ _ (s13 _ _ had)
    -- the second memory, the copies
    refine fun q2 dxq2 n3 n4 nq2 => ⟨q2, dxq2, 420, rfl, by decide, upd_same, fun H18 N hn lenN nwN sbN => ⟨rfl, ?_⟩⟩
    have sm2 : Same H17 (upd (upd H17 dxq2 (.own q2)) q2 (.ins cMemory dxq2 [])) := fun b o e => by
      rw [upd_ne (ne_of_none e n3), upd_ne (ne_of_none e n4)]
      exact e
    have s18 : Same H17 H18 := fun b o e => sbN b o (ne_of_none e n3) (sm2 _ _ e)
    have fN := sm2.free nwN
    have nownN : ¬ own p z N.wl := not_own hp17 fN
    have nownM : ¬ own p z M1.wl := by rw [wl1]; exact nown
    have nMN : M1.wl ≠ N.wl := ne_of_none hm17.wl fN
    have nadN : ad ≠ N.wl := ne_of_none ad17 fN
    have nadM : ad ≠ M1.wl := fun e => by
      have := hm17.wl
      rw [← e, ad17] at this
      cases this
    refine ⟨_, rfl, _, rfl, _, rfl, D, acc, rfl, .inl (SqL.of (s18 _ _ gD)), fun hl hhl => ?_⟩
    have s19 := s18.trans (same_new (o := .lst acc) hhl)
    have gh : upd H18 hl (.lst acc) hl = some (.lst acc) := upd_same
    have hn19 := hn.same (same_new (o := .lst acc) hhl)
    have nhN : hl ≠ N.wl := (ne_of_none hn.wl hhl).symm
    have nhM : hl ≠ M1.wl := (ne_of_none (hm17.same s18).wl hhl).symm
    generalize upd H18 hl (.lst acc) = H19 at s19 gh hn19
    have rne : z.hx ≠ [] := fun e => by
      rw [e] at e8
      cases e8
    have P1' : PicAt M1.f M1.vs.length af z.cs := by rw [len1]; exact P1
    refine ⟨q, q2, hl, M1, N, af, z.cs, acc, z.hx, rfl, hm17.same s19, hn19, nMN, gh, nhM, nhN, rws_tu (tu_same s19) pD, P1', w.kn, c4, w.f6, w.hc, w.cl, rne, by omega, lenN, w.wd, re, fun r2 al pl H20 N' ad2 o3 av ps pm3 hn20 lenN' P2 hr2 hal rav hpl rps f20 => ?_⟩
    refine ⟨r2, _, rfl, SqT.of hr2, rfl, _, _, rfl, _, _, rfl, rfl, ?_⟩
    have hp20 := (hp17.same s19).fr2 f20 nownM nownN
    have ad20 := f20.keep _ _ nadM nadN (s19 _ _ ad17)
    have kn3 : ((o3.map fun c => (((af c.t : Nat) : Int), ((ad2 c.t : Nat) : Int))).map (·.1)).Nodup := by
      rw [List.map_map]
      refine (List.nodup_iff_pairwise_ne.mpr (List.pairwise_map.mpr ?_))
      refine (List.Pairwise.imp_of_mem ?_ (List.nodup_iff_pairwise_ne.mp ((pm3.nodup_iff.mpr (nd_of_keys w.kn)))))
      intro c c' hc hc' ne e
      have e2 : ((af c.t : Nat) : Int) = ((af c'.t : Nat) : Int) := e
      have hc1 := pm3.mem_iff.mp hc
      have hc2 := pm3.mem_iff.mp hc'
      exact ne (key_inj w.kn hc1 hc2 (P1'.inj hc1 hc2 (Int.ofNat.inj e2)))
    have em : mergeK [] (pairK (o3.map fun c => (((af c.t : Nat) : Int), ((ad2 c.t : Nat) : Int)))) = pairK (o3.map fun c => (((af c.t : Nat) : Int), ((ad2 c.t : Nat) : Int))) := pairK_merge _ [] kn3
    have pv3 : ∀ c ∈ z.cs, valV (pairK (o3.map fun c => (((af c.t : Nat) : Int), ((ad2 c.t : Nat) : Int)))) (Sum.inl ((af c.t : Nat) : Int) : Key) = some (.int (ad2 c.t : Nat)) := fun c hc =>
      pairK_val kn3 (x := (((af c.t : Nat) : Int), ((ad2 c.t : Nat) : Int))) (List.mem_map.mpr ⟨c, pm3.mem_iff.mpr hc, rfl⟩)
    refine ⟨_, rfl, pl, ps, pairK (o3.map fun c => (((af c.t : Nat) : Int), ((ad2 c.t : Nat) : Int))), rfl, SqL.of hpl, pd_mapR (g := fun x : Int × Int => ((Sum.inl x.1 : Key), V.int x.2)) (pd_mapR (g := fun c : Th => (((af c.t : Nat) : Int), ((ad2 c.t : Nat) : Int))) (Paired.mapP rps fun a c h => SqT.of h)), fun md hmd => ?_⟩
    rw [em]
    generalize pairK (o3.map fun c => (((af c.t : Nat) : Int), ((ad2 c.t : Nat) : Int))) = pk at pv3
    have s21 := same_new (o := .dK pk) hmd
    have gm : upd H20 md (.dK pk) md = some (.dK pk) := upd_same
    generalize upd H20 md (.dK pk) = H21 at s21 gm
    intro a2 ha2
    have s22 := same_new (o := .dK []) ha2
    have g22 : upd H21 a2 (.dK []) a2 = some (.dK (atsK ad2 ((keys os).take 0))) := upd_same
    have ad21 := s21 _ _ ad20
    have nada : ad ≠ a2 := ne_of_none ad21 ha2
    have nmda : md ≠ a2 := ne_of_none gm ha2
    have ad22 := s22 _ _ ad21
    have gm22 := s22 _ _ gm
    have nmad : md ≠ ad := (ne_of_none ad20 hmd).symm
    generalize upd H21 a2 (.dK []) = H22 at s22 g22 ad22 gm22
    have los := pm.length_eq
    refine ⟨ad, _, ad22, trivial, fun od => ⟨_, rfl, ad, od, rfl, Or.inl ⟨_, upd_same, for_it walk_keys (fun i σ H' => ∃ t13, σ = [some (.ref a), some (.ref p), some (.ref dl), e, some (.ref q), some (.ref ad), some (.ref D), some (.ref B), some (.ref q2), some (.ref al), some (.ref pl), some (.ref md), some (.ref a2), t13, none, none] ∧
        H' a2 = some (.dK (atsK ad2 ((keys os).take i))) ∧ Chg a2 (upd H22 ad (.frz od (.dK (atsK af (keys os))))) H') ⟨none, rfl, (upd_ne nada.symm).trans g22, .refl⟩ (fun i σ H' _ ⟨_, _, _, c⟩ => c.keep _ _ nada upd_same) ?_ ?_⟩⟩⟩
    · rintro i x σ H23 H24 hi ⟨t13, rfl, g23, c23⟩ ⟨rfl, k1, v1, hk, rfl⟩
      obtain ⟨t, ht, ek⟩ := map_get hk
      have ek1 : k1 = Sum.inl t := congrArg Prod.fst ek
      cases ek1
      have hto := List.mem_of_getElem? ht
      obtain ⟨c, hc, ect⟩ := key_at ((pm.map (·.t)).mem_iff.mp hto)
      cases ect
      have nk : c.t ∉ (keys os).take i := fun y => by
        obtain ⟨j, hj⟩ := List.mem_iff_getElem?.mp y
        have hji := get_lt hj
        rw [List.length_take] at hji
        rw [List.getElem?_take, if_pos (by omega)] at hj
        have := nd_ix kno hj ht
        omega
      have pa : PosAt H24 ad af (keys os) := .inr ⟨od, c23.keep _ _ nada upd_same⟩
      have gmd : DGet H24 md (.int (af c.t : Nat)) (some (.int (ad2 c.t : Nat))) := .inl ⟨pk, Sum.inl ((af c.t : Nat) : Int), .inl (c23.keep _ _ nmda ((upd_ne nmad).trans gm22)), rfl, (pv3 c hc).symm⟩
      refine ⟨_, rfl, _, rfl, ad, _, rfl, pa.get hto, _, rfl, md, _, rfl, gmd, _, rfl, iteF ?_⟩
      refine ⟨_, rfl, _, rfl, _, rfl, ad, _, rfl, pa.get hto, md, _, rfl, gmd, _, rfl, _, rfl, a2, _, rfl, DPut.k (k := Sum.inl c.t) g23 (by rw [atsK_len, List.length_take]; show min i (os.map (·.t)).length < _; rw [List.length_map]; exact litL (by omega)), ?_⟩
      rw [atsK_put nk, ← take_snoc ht]
      exact ⟨_, rfl, upd_same, c23.trans (.upd g23 fun xs z => by cases z)⟩
    rintro σ H23 ⟨t13, rfl, g23, c23⟩
    rw [atsK_len, List.take_length] at g23
    refine ⟨c23.keep _ _ nada upd_same, ?_⟩
    have s24 : Same H21 (upd H23 ad (.dK (atsK af (keys os)))) := fun b o u => by
      by_cases y : b = ad
      · rw [y, upd_same]
        rw [y, ad21] at u
        exact u
      · rw [upd_ne y]
        exact c23.keep _ _ (ne_of_none u ha2) ((upd_ne y).trans (s22 _ _ u))
    have g24 : upd H23 ad (.dK (atsK af (keys os))) a2 = some (.dK (atsK ad2 (keys os))) := (upd_ne nada.symm).trans g23
    generalize upd H23 ad (.dK (atsK af (keys os))) = H24 at s24 g24
    have s204 := s21.trans s24
    have hp24 := hp20.same s204
    have pd24 : PosAt H24 a2 ad2 (keys os) := .inl g24
    -- the second book
    refine ⟨_, rfl, p, _, _, rfl, hp24.ob, hF_no (by decide +kernel), p, z, rfl, hp24, fun ts l3 tp3 srt3 hl3 => ?_⟩
    obtain ⟨o4, rfl, pm4⟩ := perm_inv tp3 z.cs rfl
    have lo4 := pm4.length_eq
    refine ⟨l3, rfl, ⟨_, SqL.of upd_same⟩, fun B2 hB2 => ?_⟩
    have s25 := same_new (o := .lst ((keys o4).map V.int)) hl3
    have gl3 : upd H24 l3 (.lst ((keys o4).map V.int)) l3 = some (.lst ((keys o4).map V.int)) := upd_same
    generalize upd H24 l3 (.lst ((keys o4).map V.int)) = H25 at s25 gl3 hB2
    refine lc_list (K := K) (a := l3) (xs := (keys o4).map V.int) (fun i H' => ∃ acc, H' B2 = some (.lst acc) ∧ Paired (BkR H' ad2) acc (o4.take i) ∧ Same H25 H') ⟨[], upd_same, .nil, same_new hB2⟩
      (fun i H' _ ⟨_, _, _, s⟩ => SqL.of (s _ _ gl3)) (fun i v H26 hi ⟨ac2, u1, u2, u3⟩ => ?_) fun H26 ⟨bs2, u1, u2, u3⟩ => ?_
    · obtain ⟨t, ht, rfl⟩ := map_get hi
      obtain ⟨c, hc, rfl⟩ := map_get ht
      have hcc : c ∈ z.cs := pm4.mem_iff.mp (List.mem_of_getElem? hc)
      refine ⟨rfl, _, rfl, _, rfl, _, rfl, a2, _, rfl, (pd24.same (s25.trans u3)).get (ksm (key_of hcc)), lit 2 (by decide), fun y hy => ?_⟩
      have sy := same_new (o := .tup [.int c.t, .int (ad2 c.t : Nat)]) hy
      refine ⟨ac2, sy _ _ u1, ?_, ac2 ++ [.ref y], upd_same, ?_, same_skip (u3.trans sy) hB2⟩
      · have := pd_len u2
        rw [List.length_take] at this
        exact litL (by omega)
      · have tu : Tu (upd H26 y (.tup [.int c.t, .int (ad2 c.t : Nat)])) (upd (upd H26 y (.tup [.int c.t, .int (ad2 c.t : Nat)])) B2 (.lst (ac2 ++ [.ref y]))) := tu_upd (sy _ _ u1) fun xs z => by cases z
        rw [take_snoc hc]
        exact pd_app (Paired.mapP u2 fun _ _ q => q.tu ((tu_same sy).trans tu)) (.cons ⟨y, rfl, tu _ _ upd_same⟩ .nil)
    have e4 : ((keys o4).map V.int).length = o4.length := by rw [List.length_map, List.length_map]
    rw [e4, List.take_length] at u2
    have s26 := s25.trans u3
    have hp26 := hp24.same s26
    have g26 := s26 _ _ g24
    -- the sum
    refine ⟨a2, _, g26, trivial, fun od2 => ?_⟩
    refine ⟨_, rfl, a2, od2, rfl, Or.inl ⟨_, upd_same, fun S hS => lc_it walk_keys (fun i H' => H' S = some (.lst (((os.take i).map fun c => (c.fs.length : Int) + 1).map V.int)) ∧ Same (upd H26 a2 (.frz od2 (.dK (atsK ad2 (keys os))))) H') ⟨upd_same, same_new hS⟩
      (fun i H' _ h => h.2 _ _ upd_same) ?_ ?_⟩⟩
    · rintro i x H27 H28 hi ⟨v1', v2'⟩ ⟨rfl, k1, w1', hk, rfl⟩
      obtain ⟨t, ht, ek⟩ := map_get hk
      have ek1 : k1 = Sum.inl t := congrArg Prod.fst ek
      cases ek1
      obtain ⟨c, hc, rfl⟩ := map_get ht
      have hcc : c ∈ z.cs := pm.mem_iff.mp (List.mem_of_getElem? hc)
      have hpF : HeapAt (upd H26 a2 (.frz od2 (.dK (atsK ad2 (keys os))))) p z := hp26.chg (chg_frz g26) (not_own (hp20.same s21) ha2)
      have hp28 := hpF.same v2'
      have l6 := w.f6 c hcc
      have lv : c.vs.length = c.fs.length := pd_len (hp28.th c hcc).rp
      refine ⟨rfl, _, rfl, p, _, _, rfl, hp28.ob, hF_no (by decide +kernel), _, rfl, p, z, c, rfl, hp28, w.kn, hcc, fun l hl => ⟨l, _, rfl, .inl (SqL.of upd_same), _, _, rfl, rfl, _, same_new hl _ _ v1', ?_, ?_, same_skip (v2'.trans (same_new hl)) hS⟩⟩
      · rw [List.length_map, List.length_map, List.length_take]
        exact litL (by omega)
      · rw [upd_same, take_snoc hc, List.map_append, List.map_append, lv]
        rfl
    rintro H27 ⟨v1', v2'⟩
    rw [atsK_len, show (keys os).length = os.length from List.length_map .., List.take_length] at v1'
    have nSa : S ≠ a2 := fun y => by rw [y, upd_same] at hS; cases hS
    refine ⟨v2' _ _ upd_same, S, os.map fun c => (c.fs.length : Int) + 1, rfl, SqL.of ((upd_ne nSa).trans v1'), ?_⟩
    have s28 : Same H26 (upd H27 a2 (.dK (atsK ad2 (keys os)))) := fun b o u => by
      by_cases y : b = a2
      · rw [y, upd_same]
        rw [y, g26] at u
        exact u
      · rw [upd_ne y]
        exact v2' _ _ ((upd_ne y).trans u)
    generalize upd H27 a2 (.dK (atsK ad2 (keys os))) = H28 at s28
    have hp28 := hp26.same s28
    refine ⟨_, rfl, p, _, _, rfl, hp28.ob, hF_no (by decide +kernel), _, p, z, rfl, hp28, w, fun H29 s29 => ⟨rfl, _, rfl, nF (congrArg V.int (show (os.map fun c => (c.fs.length : Int) + 1).sum = wd z.cs from wd_perm pm)) ?_⟩⟩
    have s30 := s28.trans s29
    have hp29 := hp26.same s30
    have pd29 := (pd24.same s26).same s30
    -- the second picture
    refine ⟨_, rfl, _, rfl, _, rfl, _, rfl, _, rfl, p, a2, z, ad2, keys os, rfl, hp29, pd29, fun t ht => ksm (w.nc t ht), n8, fun r3 H30 us3 s31 nr3 hr3 ru3 => ?_⟩
    have s32 := s30.trans s31
    have s33 := (s204.trans s26).trans s32
    exact ⟨_, rfl, ⟨p, q2, p, B2, p, p, z, N', ad2, o4, bs2⟩, al, r3, av, us3, rfl, ⟨hp29.same s31, hn20.same s33, ⟨s32 _ _ u1, Paired.mapP u2 fun _ _ q => q.tu (tu_same s32)⟩, ⟨w.kn, w.f6, w.cl, w.hc, w.nc, e8, n8, pm4, c4, by rw [lenN']; exact P2⟩, srt3, s33 _ _ hal, rws_tu (tu_same s33) rav, hr3, ru3⟩, fun H31 _ => ⟨true, true, rfl, rfl, k H31⟩⟩
end SH
/-! The end. -/
namespace SH
open PySem PySem.Spec PyProof.Rows L2
theorem facts {P : Program} {w : World} {K : PySem.W.Frag} {h : Heap} {mg : Str → Option Value} {f : Addr} (X : K.In h) (G : h.Ns mainGlobals mg) (hfa : mg ("law" : Str) = some (.ref f)) (c : obsS K = He.valD fn) :
    ∃ fd : FuncData, (∀ (s : Shared) (v : Value), BindsTo s fd ⟨[v], []⟩ [("script", v)]) ∧ ∀ base : Heap, K.In base → base.Ns mainGlobals mg → FnOk P w K mg base CX0 10 f fd ["script"] (sp_law K) := by
  have T : Tx K mg := ⟨c, h, X, G⟩
  obtain ⟨fd, F⟩ := T.D_f_law
  have e := hfa.symm.trans T.gf_law
  cases e
  have b := FunD.bindsA (ps := ["script"]) F fun _ _ _ _ _ _ us hl => match us, hl with | [_], _ => rfl
  refine ⟨fd, fun s v => b s [v] rfl, fun base _ _ => ?_⟩
  obtain ⟨oc, od, _, _, _, _, _, _, _, osl, _, lk, _⟩ := F.ex
  exact (ok_f_law (P := P) (w := w) (base := base) T).un fd ⟨oc, od, osl, lk⟩
end SH
open PySem PySem.W PySem.Calls PyProof.Rows
theorem PySem.Challenge.cw_stillheap_k44_whole_copied_heaps_holds : PySem.Challenge.rw_stillheap_k44_whole_copied_heaps.Holds := by
  w_on; o_law
  refine HandSHeadRun.head_any (r := OpenLaw.row PySem.Challenge.rw_stillheap_k44_whole_copied_heaps) (q := view (OpenLaw.row PySem.Challenge.rw_stillheap_k44_whole_copied_heaps).prog [71]) (H := SH.hk) (ob := SH.ob) (M := 7000) (loose := SH.nm) (d := HandSHeadRun.topDef (OpenLaw.row PySem.Challenge.rw_stillheap_k44_whole_copied_heaps).prog 71) (kwd := []) SH.ob_eq
    (by kernel_rfl) (fun s => by kernel_rfl) SH.run (by kernel_rfl) (by kernel_rfl) (by kernel_rfl) (by rfl) (by first | assumption | decide +kernel) (by decide +kernel) ⟨rfl, rfl, rfl, rfl, rfl, by decide +kernel⟩ ?hw ?hc
  case hw => w_witness2
  case hc =>
    refine L2.walk_ofE (l := PySem.Challenge.rw_stillheap_k44_whole_copied_heaps) (n := 63) (k := 10) (x := "script") (CX := L2.CX0) rfl (by decide) (by kernel_rfl) ⟨rfl, by decide, by decide⟩ ?F (fun _ _ _ _ z => z)
    intro w mg fa h Y G hmg0
    obtain ⟨K, KX, c⟩ := Y
    have hmg : mg ("law" : PySem.Str) = some (.ref fa) := by
      have e : (HandSHeadRun.topDef (OpenLaw.row PySem.Challenge.rw_stillheap_k44_whole_copied_heaps).prog 71).name = ("law" : PySem.Str) := by kernel_rfl
      rw [← e]
      exact hmg0
    obtain ⟨fd, hb, hF⟩ := SH.facts (P := (PySem.Challenge.rw_stillheap_k44_whole_copied_heaps).prog) (w := w) KX G hmg c
    exact ⟨K, fd, SH.sp_law K, KX, hb, fun H a ns hl _ hS => ⟨a, ns, rfl, hS, hl, fun _ => rfl⟩, hF⟩
