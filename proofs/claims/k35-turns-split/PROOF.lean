import PyProof.Rows.All
import Wide.All
import OpenK.AllK
import Wide.FinOn
import KE.KStateDown
import HandS.ForMost
import HandS.Exc
import HandS.ExcOwn
import HandS.ExcInit
import HandS.ExcCtx
import HandS.ExcField
import HandS.ExcIs
import HandS.HotCalls
import HandS.IsInst
import HandS.ClsMeth
import HandS.Defaults
import HandS.Walk
import HandS.Wide
import HandS.WordsExc
import KE.GoesMore
import HandS.Head0
import HandS.Head1
import HandS.Head2
import HandS.HeadEnd
import HandS.HeadHook1
import HandS.HeadHook2
import PySem.Challenge.RW_shadowpages_k35_turns_split
set_option Elab.async false
set_option linter.all false
set_option maxRecDepth 100000
set_option maxHeartbeats 4000000
namespace M35
open PySem L2
/-! the text by places -/
def top (i : Nat) : Stmt := PySem.Challenge.pw_shadowpages_k35_turns_split.main.body.getD i (.Pass ⟨0, 0, 0, 0⟩)
abbrev s_is_whole : Stmt := top 11
abbrev s_is_word : Stmt := top 12
abbrev s_plus : Stmt := top 13
abbrev s_both : Stmt := top 14
abbrev s_odd : Stmt := top 15
abbrev s_is_below : Stmt := top 20
abbrev s_are_words : Stmt := top 21
abbrev s_is_image : Stmt := top 22
abbrev s_is_register : Stmt := top 25
abbrev s_is_at : Stmt := top 26
abbrev s_form_of : Stmt := top 27
abbrev s_is_part : Stmt := top 28
abbrev s_is_order : Stmt := top 29
abbrev s_is_inner : Stmt := top 30
abbrev s_kind_number : Stmt := top 31
abbrev s_checked : Stmt := top 32
abbrev s_look_at : Stmt := top 40
abbrev s_parts_of : Stmt := top 41
abbrev s_page_of : Stmt := top 48
abbrev s_has : Stmt := top 49
abbrev s_put : Stmt := top 50
abbrev s_look_by : Stmt := top 53
abbrev s_rights_of : Stmt := top 54
abbrev s_look : Stmt := top 55
abbrev s_stamp : Stmt := top 56
abbrev s_mark : Stmt := top 57
abbrev s_lets : Stmt := top 58
abbrev s_bare : Stmt := top 66
abbrev s_law_cell_at : Stmt := top 68
abbrev s_law_mix : Stmt := top 69
abbrev s_law_pages : Stmt := top 70
abbrev s_law_group : Stmt := top 71
abbrev s_law_program : Stmt := top 72
abbrev s_law_entry : Stmt := top 73
abbrev s_law_no_bound : Stmt := top 74
abbrev s_law : Stmt := top 75
abbrev s_NoProgram_init : Stmt := inClass (top 8) 0
abbrev s_Fault_init : Stmt := inClass (top 9) 0
abbrev s_Shelf_init : Stmt := inClass (top 35) 0
abbrev s_Shelf_seat : Stmt := inClass (top 35) 1
abbrev s_Shelf_seek : Stmt := inClass (top 35) 2
abbrev s_Shelf_keep : Stmt := inClass (top 35) 3
abbrev s_Shelf_drop : Stmt := inClass (top 35) 4
abbrev s_Shelf_empty : Stmt := inClass (top 35) 5
abbrev s_Shelf_told : Stmt := inClass (top 35) 6
abbrev s_Store_size : Stmt := inClass (top 37) 0
abbrev s_Store_has : Stmt := inClass (top 37) 1
abbrev s_Store_fetch : Stmt := inClass (top 37) 2
abbrev s_Store_deposit : Stmt := inClass (top 37) 3
abbrev s_Store_look_for : Stmt := inClass (top 37) 4
abbrev s_Store_read : Stmt := inClass (top 37) 5
abbrev s_Store_write : Stmt := inClass (top 37) 6
abbrev s_Memory_init : Stmt := inClass (top 38) 0
abbrev s_Memory_size : Stmt := inClass (top 38) 1
abbrev s_Memory_has : Stmt := inClass (top 38) 2
abbrev s_Memory_fetch : Stmt := inClass (top 38) 3
abbrev s_Memory_deposit : Stmt := inClass (top 38) 4
abbrev s_Memory_give : Stmt := inClass (top 38) 5
abbrev s_Memory_lay : Stmt := inClass (top 38) 6
abbrev s_Memory_told : Stmt := inClass (top 38) 7
abbrev s_Ways_init : Stmt := inClass (top 61) 0
abbrev s_Ways_left : Stmt := inClass (top 61) 1
abbrev s_Ways_left_all : Stmt := inClass (top 61) 2
abbrev s_Ways_granted : Stmt := inClass (top 61) 3
abbrev s_Ways_bring : Stmt := inClass (top 61) 4
abbrev s_Ways_yield_up : Stmt := inClass (top 61) 5
abbrev s_Ways_on_shelf : Stmt := inClass (top 61) 6
abbrev s_Ways_reach : Stmt := inClass (top 61) 7
abbrev s_Ways_load : Stmt := inClass (top 61) 8
abbrev s_Ways_save : Stmt := inClass (top 61) 9
abbrev s_Ways_page_at : Stmt := inClass (top 61) 10
abbrev s_Ways_peek : Stmt := inClass (top 61) 11
abbrev s_Ways_poke : Stmt := inClass (top 61) 12
abbrev s_Ways_root : Stmt := inClass (top 61) 13
abbrev s_Ways_turn_root : Stmt := inClass (top 61) 14
abbrev s_Ways_drop : Stmt := inClass (top 61) 15
abbrev s_Ways_give : Stmt := inClass (top 61) 16
abbrev s_Ways_want : Stmt := inClass (top 61) 17
abbrev s_Ways_shelf : Stmt := inClass (top 61) 18
abbrev s_Ways_words_of : Stmt := inClass (top 61) 19
abbrev s_Ways_pages : Stmt := inClass (top 61) 20
abbrev s_Plain_init : Stmt := inClass (top 62) 0
abbrev s_Plain_size : Stmt := inClass (top 62) 1
abbrev s_Plain_has : Stmt := inClass (top 62) 2
abbrev s_Plain_fetch : Stmt := inClass (top 62) 3
abbrev s_Plain_deposit : Stmt := inClass (top 62) 4
abbrev s_Plain_granted : Stmt := inClass (top 62) 5
abbrev s_Plain_bring : Stmt := inClass (top 62) 6
abbrev s_Plain_yield_up : Stmt := inClass (top 62) 7
abbrev s_Machine_init : Stmt := inClass (top 65) 0
abbrev s_Machine_turn : Stmt := inClass (top 65) 1
abbrev s_Machine_step : Stmt := inClass (top 65) 2
abbrev s_Machine_fall : Stmt := inClass (top 65) 3
abbrev s_Machine_do : Stmt := inClass (top 65) 4
abbrev s_Machine_go : Stmt := inClass (top 65) 5
abbrev s_Machine_reckon : Stmt := inClass (top 65) 6
abbrev s_Machine_carry_word : Stmt := inClass (top 65) 7
abbrev s_Machine_tell_way : Stmt := inClass (top 65) 8
abbrev s_Machine_core : Stmt := inClass (top 65) 9
abbrev s_Machine_events : Stmt := inClass (top 65) 10
abbrev s_Machine_told : Stmt := inClass (top 65) 11
abbrev s_Machine_program : Stmt := inClass (top 65) 12
abbrev s_Machine_entry : Stmt := inClass (top 65) 13
/-! the defs as data -/
def d_is_whole : He.DefD := ⟨("is_whole", none), "is_whole", "is_whole", defArgs s_is_whole, defBody s_is_whole, defScope s_is_whole, [], []⟩
def d_is_word : He.DefD := ⟨("is_word", none), "is_word", "is_word", defArgs s_is_word, defBody s_is_word, defScope s_is_word, [], []⟩
def d_plus : He.DefD := ⟨("plus", none), "plus", "plus", defArgs s_plus, defBody s_plus, defScope s_plus, [], []⟩
def d_is_below : He.DefD := ⟨("is_below", none), "is_below", "is_below", defArgs s_is_below, defBody s_is_below, defScope s_is_below, [], []⟩
def d_are_words : He.DefD := ⟨("are_words", none), "are_words", "are_words", defArgs s_are_words, defBody s_are_words, defScope s_are_words, [], []⟩
def d_is_image : He.DefD := ⟨("is_image", none), "is_image", "is_image", defArgs s_is_image, defBody s_is_image, defScope s_is_image, [], []⟩
def d_is_register : He.DefD := ⟨("is_register", none), "is_register", "is_register", defArgs s_is_register, defBody s_is_register, defScope s_is_register, [], []⟩
def d_is_at : He.DefD := ⟨("is_at", none), "is_at", "is_at", defArgs s_is_at, defBody s_is_at, defScope s_is_at, [], []⟩
def d_form_of : He.DefD := ⟨("form_of", none), "form_of", "form_of", defArgs s_form_of, defBody s_form_of, defScope s_form_of, [], []⟩
def d_is_part : He.DefD := ⟨("is_part", none), "is_part", "is_part", defArgs s_is_part, defBody s_is_part, defScope s_is_part, [], []⟩
def d_is_order : He.DefD := ⟨("is_order", none), "is_order", "is_order", defArgs s_is_order, defBody s_is_order, defScope s_is_order, [], []⟩
def d_is_inner : He.DefD := ⟨("is_inner", none), "is_inner", "is_inner", defArgs s_is_inner, defBody s_is_inner, defScope s_is_inner, [], []⟩
def d_kind_number : He.DefD := ⟨("kind_number", none), "kind_number", "kind_number", defArgs s_kind_number, defBody s_kind_number, defScope s_kind_number, [], []⟩
def d_checked : He.DefD := ⟨("checked", none), "checked", "checked", defArgs s_checked, defBody s_checked, defScope s_checked, [], []⟩
def d_look_at : He.DefD := ⟨("look_at", none), "look_at", "look_at", defArgs s_look_at, defBody s_look_at, defScope s_look_at, [], []⟩
def d_parts_of : He.DefD := ⟨("parts_of", none), "parts_of", "parts_of", defArgs s_parts_of, defBody s_parts_of, defScope s_parts_of, [], []⟩
def d_page_of : He.DefD := ⟨("page_of", none), "page_of", "page_of", defArgs s_page_of, defBody s_page_of, defScope s_page_of, [], []⟩
def d_has : He.DefD := ⟨("has", none), "has", "has", defArgs s_has, defBody s_has, defScope s_has, [], []⟩
def d_put : He.DefD := ⟨("put", none), "put", "put", defArgs s_put, defBody s_put, defScope s_put, [], []⟩
def d_look_by : He.DefD := ⟨("look_by", none), "look_by", "look_by", defArgs s_look_by, defBody s_look_by, defScope s_look_by, [], []⟩
def d_rights_of : He.DefD := ⟨("rights_of", none), "rights_of", "rights_of", defArgs s_rights_of, defBody s_rights_of, defScope s_rights_of, [], []⟩
def d_look : He.DefD := ⟨("look", none), "look", "look", defArgs s_look, defBody s_look, defScope s_look, [], []⟩
def d_stamp : He.DefD := ⟨("stamp", none), "stamp", "stamp", defArgs s_stamp, defBody s_stamp, defScope s_stamp, [], []⟩
def d_mark : He.DefD := ⟨("mark", none), "mark", "mark", defArgs s_mark, defBody s_mark, defScope s_mark, [], []⟩
def d_lets : He.DefD := ⟨("lets", none), "lets", "lets", defArgs s_lets, defBody s_lets, defScope s_lets, [], []⟩
def d_bare : He.DefD := ⟨("bare", none), "bare", "bare", defArgs s_bare, defBody s_bare, defScope s_bare, [], []⟩
def d_law_cell_at : He.DefD := ⟨("_law_cell_at", none), "_law_cell_at", "_law_cell_at", defArgs s_law_cell_at, defBody s_law_cell_at, defScope s_law_cell_at, [], []⟩
def d_law_mix : He.DefD := ⟨("_law_mix", none), "_law_mix", "_law_mix", defArgs s_law_mix, defBody s_law_mix, defScope s_law_mix, [], []⟩
def d_law_pages : He.DefD := ⟨("_law_pages", none), "_law_pages", "_law_pages", defArgs s_law_pages, defBody s_law_pages, defScope s_law_pages, [], []⟩
def d_law_group : He.DefD := ⟨("_law_group", none), "_law_group", "_law_group", defArgs s_law_group, defBody s_law_group, defScope s_law_group, [], []⟩
def d_law_program : He.DefD := ⟨("_law_program", none), "_law_program", "_law_program", defArgs s_law_program, defBody s_law_program, defScope s_law_program, [], []⟩
def d_law_entry : He.DefD := ⟨("_law_entry", none), "_law_entry", "_law_entry", defArgs s_law_entry, defBody s_law_entry, defScope s_law_entry, [], []⟩
def d_law_no_bound : He.DefD := ⟨("_law_no_bound", none), "_law_no_bound", "_law_no_bound", defArgs s_law_no_bound, defBody s_law_no_bound, defScope s_law_no_bound, [], []⟩
def d_law : He.DefD := ⟨("law", none), "law", "law", defArgs s_law, defBody s_law, defScope s_law, [], []⟩
def d_Shelf_init : He.DefD := ⟨("Shelf", some "__init__"), "__init__", "Shelf.__init__", defArgs s_Shelf_init, defBody s_Shelf_init, defScope s_Shelf_init, [], []⟩
def d_Shelf_seat : He.DefD := ⟨("Shelf", some "seat"), "seat", "Shelf.seat", defArgs s_Shelf_seat, defBody s_Shelf_seat, defScope s_Shelf_seat, [], []⟩
def d_Shelf_seek : He.DefD := ⟨("Shelf", some "seek"), "seek", "Shelf.seek", defArgs s_Shelf_seek, defBody s_Shelf_seek, defScope s_Shelf_seek, [], []⟩
def d_Shelf_keep : He.DefD := ⟨("Shelf", some "keep"), "keep", "Shelf.keep", defArgs s_Shelf_keep, defBody s_Shelf_keep, defScope s_Shelf_keep, [], []⟩
def d_Shelf_drop : He.DefD := ⟨("Shelf", some "drop"), "drop", "Shelf.drop", defArgs s_Shelf_drop, defBody s_Shelf_drop, defScope s_Shelf_drop, [], []⟩
def d_Shelf_empty : He.DefD := ⟨("Shelf", some "empty"), "empty", "Shelf.empty", defArgs s_Shelf_empty, defBody s_Shelf_empty, defScope s_Shelf_empty, [], []⟩
def d_Shelf_told : He.DefD := ⟨("Shelf", some "told"), "told", "Shelf.told", defArgs s_Shelf_told, defBody s_Shelf_told, defScope s_Shelf_told, [], []⟩
def d_Memory_init : He.DefD := ⟨("Memory", some "__init__"), "__init__", "Memory.__init__", defArgs s_Memory_init, defBody s_Memory_init, defScope s_Memory_init, [], []⟩
def d_Memory_size : He.DefD := ⟨("Memory", some "size"), "size", "Memory.size", defArgs s_Memory_size, defBody s_Memory_size, defScope s_Memory_size, [], []⟩
def d_Memory_has : He.DefD := ⟨("Memory", some "has"), "has", "Memory.has", defArgs s_Memory_has, defBody s_Memory_has, defScope s_Memory_has, [], []⟩
def d_Memory_fetch : He.DefD := ⟨("Memory", some "fetch"), "fetch", "Memory.fetch", defArgs s_Memory_fetch, defBody s_Memory_fetch, defScope s_Memory_fetch, [], []⟩
def d_Memory_deposit : He.DefD := ⟨("Memory", some "deposit"), "deposit", "Memory.deposit", defArgs s_Memory_deposit, defBody s_Memory_deposit, defScope s_Memory_deposit, [], []⟩
def d_Memory_give : He.DefD := ⟨("Memory", some "give"), "give", "Memory.give", defArgs s_Memory_give, defBody s_Memory_give, defScope s_Memory_give, [], []⟩
def d_Memory_lay : He.DefD := ⟨("Memory", some "lay"), "lay", "Memory.lay", defArgs s_Memory_lay, defBody s_Memory_lay, defScope s_Memory_lay, [], []⟩
def d_Plain_init : He.DefD := ⟨("Plain", some "__init__"), "__init__", "Plain.__init__", defArgs s_Plain_init, defBody s_Plain_init, defScope s_Plain_init, [], []⟩
def d_Plain_size : He.DefD := ⟨("Plain", some "size"), "size", "Plain.size", defArgs s_Plain_size, defBody s_Plain_size, defScope s_Plain_size, [], []⟩
def d_Plain_has : He.DefD := ⟨("Plain", some "has"), "has", "Plain.has", defArgs s_Plain_has, defBody s_Plain_has, defScope s_Plain_has, [], []⟩
def d_Plain_fetch : He.DefD := ⟨("Plain", some "fetch"), "fetch", "Plain.fetch", defArgs s_Plain_fetch, defBody s_Plain_fetch, defScope s_Plain_fetch, [], []⟩
def d_Plain_deposit : He.DefD := ⟨("Plain", some "deposit"), "deposit", "Plain.deposit", defArgs s_Plain_deposit, defBody s_Plain_deposit, defScope s_Plain_deposit, [], []⟩
def d_Plain_granted : He.DefD := ⟨("Plain", some "granted"), "granted", "Plain.granted", defArgs s_Plain_granted, defBody s_Plain_granted, defScope s_Plain_granted, [], []⟩
def d_Plain_bring : He.DefD := ⟨("Plain", some "bring"), "bring", "Plain.bring", defArgs s_Plain_bring, defBody s_Plain_bring, defScope s_Plain_bring, [], []⟩
def d_Plain_yield_up : He.DefD := ⟨("Plain", some "yield_up"), "yield_up", "Plain.yield_up", defArgs s_Plain_yield_up, defBody s_Plain_yield_up, defScope s_Plain_yield_up, [], []⟩
def d_Plain_look_for : He.DefD := ⟨("Plain", some "look_for"), "look_for", "Store.look_for", defArgs s_Store_look_for, defBody s_Store_look_for, defScope s_Store_look_for, [], []⟩
def d_Plain_read : He.DefD := ⟨("Plain", some "read"), "read", "Store.read", defArgs s_Store_read, defBody s_Store_read, defScope s_Store_read, [], []⟩
def d_Plain_write : He.DefD := ⟨("Plain", some "write"), "write", "Store.write", defArgs s_Store_write, defBody s_Store_write, defScope s_Store_write, [], []⟩
def d_Plain_left : He.DefD := ⟨("Plain", some "left"), "left", "Ways.left", defArgs s_Ways_left, defBody s_Ways_left, defScope s_Ways_left, [], []⟩
def d_Plain_left_all : He.DefD := ⟨("Plain", some "left_all"), "left_all", "Ways.left_all", defArgs s_Ways_left_all, defBody s_Ways_left_all, defScope s_Ways_left_all, [], []⟩
def d_Plain_on_shelf : He.DefD := ⟨("Plain", some "on_shelf"), "on_shelf", "Ways.on_shelf", defArgs s_Ways_on_shelf, defBody s_Ways_on_shelf, defScope s_Ways_on_shelf, [], []⟩
def d_Plain_reach : He.DefD := ⟨("Plain", some "reach"), "reach", "Ways.reach", defArgs s_Ways_reach, defBody s_Ways_reach, defScope s_Ways_reach, [], []⟩
def d_Plain_load : He.DefD := ⟨("Plain", some "load"), "load", "Ways.load", defArgs s_Ways_load, defBody s_Ways_load, defScope s_Ways_load, [], []⟩
def d_Plain_save : He.DefD := ⟨("Plain", some "save"), "save", "Ways.save", defArgs s_Ways_save, defBody s_Ways_save, defScope s_Ways_save, [], []⟩
def d_Plain_page_at : He.DefD := ⟨("Plain", some "page_at"), "page_at", "Ways.page_at", defArgs s_Ways_page_at, defBody s_Ways_page_at, defScope s_Ways_page_at, [], []⟩
def d_Plain_peek : He.DefD := ⟨("Plain", some "peek"), "peek", "Ways.peek", defArgs s_Ways_peek, defBody s_Ways_peek, defScope s_Ways_peek, [], []⟩
def d_Plain_poke : He.DefD := ⟨("Plain", some "poke"), "poke", "Ways.poke", defArgs s_Ways_poke, defBody s_Ways_poke, defScope s_Ways_poke, [], []⟩
def d_Plain_root : He.DefD := ⟨("Plain", some "root"), "root", "Ways.root", defArgs s_Ways_root, defBody s_Ways_root, defScope s_Ways_root, [], []⟩
def d_Plain_turn_root : He.DefD := ⟨("Plain", some "turn_root"), "turn_root", "Ways.turn_root", defArgs s_Ways_turn_root, defBody s_Ways_turn_root, defScope s_Ways_turn_root, [], []⟩
def d_Plain_drop : He.DefD := ⟨("Plain", some "drop"), "drop", "Ways.drop", defArgs s_Ways_drop, defBody s_Ways_drop, defScope s_Ways_drop, [], []⟩
def d_Plain_give : He.DefD := ⟨("Plain", some "give"), "give", "Ways.give", defArgs s_Ways_give, defBody s_Ways_give, defScope s_Ways_give, [], []⟩
def d_Plain_want : He.DefD := ⟨("Plain", some "want"), "want", "Ways.want", defArgs s_Ways_want, defBody s_Ways_want, defScope s_Ways_want, [], []⟩
def d_Plain_shelf : He.DefD := ⟨("Plain", some "shelf"), "shelf", "Ways.shelf", defArgs s_Ways_shelf, defBody s_Ways_shelf, defScope s_Ways_shelf, [], []⟩
def d_Plain_words_of : He.DefD := ⟨("Plain", some "words_of"), "words_of", "Ways.words_of", defArgs s_Ways_words_of, defBody s_Ways_words_of, defScope s_Ways_words_of, [], []⟩
def d_Plain_pages : He.DefD := ⟨("Plain", some "pages"), "pages", "Ways.pages", defArgs s_Ways_pages, defBody s_Ways_pages, defScope s_Ways_pages, [], []⟩
def d_Ways_init : He.DefD := ⟨("Ways", some "__init__"), "__init__", "Ways.__init__", defArgs s_Ways_init, defBody s_Ways_init, defScope s_Ways_init, [], []⟩
def d_Machine_init : He.DefD := ⟨("Machine", some "__init__"), "__init__", "Machine.__init__", defArgs s_Machine_init, defBody s_Machine_init, defScope s_Machine_init, [.non, .non], []⟩
def d_Machine_turn : He.DefD := ⟨("Machine", some "turn"), "turn", "Machine.turn", defArgs s_Machine_turn, defBody s_Machine_turn, defScope s_Machine_turn, [], []⟩
def d_Machine_step : He.DefD := ⟨("Machine", some "step"), "step", "Machine.step", defArgs s_Machine_step, defBody s_Machine_step, defScope s_Machine_step, [], []⟩
def d_Machine_fall : He.DefD := ⟨("Machine", some "fall"), "fall", "Machine.fall", defArgs s_Machine_fall, defBody s_Machine_fall, defScope s_Machine_fall, [], []⟩
def d_Machine_do : He.DefD := ⟨("Machine", some "do"), "do", "Machine.do", defArgs s_Machine_do, defBody s_Machine_do, defScope s_Machine_do, [], []⟩
def d_Machine_go : He.DefD := ⟨("Machine", some "go"), "go", "Machine.go", defArgs s_Machine_go, defBody s_Machine_go, defScope s_Machine_go, [], []⟩
def d_Machine_reckon : He.DefD := ⟨("Machine", some "reckon"), "reckon", "Machine.reckon", defArgs s_Machine_reckon, defBody s_Machine_reckon, defScope s_Machine_reckon, [], []⟩
def d_Machine_carry_word : He.DefD := ⟨("Machine", some "carry_word"), "carry_word", "Machine.carry_word", defArgs s_Machine_carry_word, defBody s_Machine_carry_word, defScope s_Machine_carry_word, [], []⟩
def d_Machine_tell_way : He.DefD := ⟨("Machine", some "tell_way"), "tell_way", "Machine.tell_way", defArgs s_Machine_tell_way, defBody s_Machine_tell_way, defScope s_Machine_tell_way, [], []⟩
def d_Machine_core : He.DefD := ⟨("Machine", some "core"), "core", "Machine.core", defArgs s_Machine_core, defBody s_Machine_core, defScope s_Machine_core, [], []⟩
def d_Machine_events : He.DefD := ⟨("Machine", some "events"), "events", "Machine.events", defArgs s_Machine_events, defBody s_Machine_events, defScope s_Machine_events, [], []⟩
def d_Machine_told : He.DefD := ⟨("Machine", some "told"), "told", "Machine.told", defArgs s_Machine_told, defBody s_Machine_told, defScope s_Machine_told, [], []⟩
def d_Fault_init : He.DefD := ⟨("Fault", some "__init__"), "__init__", "Fault.__init__", defArgs s_Fault_init, defBody s_Fault_init, defScope s_Fault_init, [], []⟩
def fn0 : List He.DefD := [d_is_whole, d_is_word, d_plus, d_is_below, d_are_words, d_is_image, d_is_register, d_is_at, d_form_of, d_is_part, d_is_order, d_is_inner]
def fn1 : List He.DefD := [d_kind_number, d_checked, d_look_at, d_parts_of, d_page_of, d_has, d_put, d_look_by, d_rights_of, d_look, d_stamp, d_mark]
def fn2 : List He.DefD := [d_lets, d_bare, d_law_cell_at, d_law_mix, d_law_pages, d_law_group, d_law_program, d_law_entry, d_law_no_bound, d_law, d_Shelf_init, d_Shelf_seat]
def fn3 : List He.DefD := [d_Shelf_seek, d_Shelf_keep, d_Shelf_drop, d_Shelf_empty, d_Shelf_told, d_Memory_init, d_Memory_size, d_Memory_has, d_Memory_fetch, d_Memory_deposit, d_Memory_give, d_Memory_lay]
def fn4 : List He.DefD := [d_Plain_init, d_Plain_size, d_Plain_has, d_Plain_fetch, d_Plain_deposit, d_Plain_granted, d_Plain_bring, d_Plain_yield_up, d_Plain_look_for, d_Plain_read, d_Plain_write, d_Plain_left]
def fn5 : List He.DefD := [d_Plain_left_all, d_Plain_on_shelf, d_Plain_reach, d_Plain_load, d_Plain_save, d_Plain_page_at, d_Plain_peek, d_Plain_poke, d_Plain_root, d_Plain_turn_root, d_Plain_drop, d_Plain_give]
def fn6 : List He.DefD := [d_Plain_want, d_Plain_shelf, d_Plain_words_of, d_Plain_pages, d_Ways_init, d_Machine_init, d_Machine_turn, d_Machine_step, d_Machine_fall, d_Machine_do, d_Machine_go, d_Machine_reckon]
def fn7 : List He.DefD := [d_Machine_carry_word, d_Machine_tell_way, d_Machine_core, d_Machine_events, d_Machine_told, d_Fault_init]
def fnAll : List He.DefD := fn0 ++ (fn1 ++ (fn2 ++ (fn3 ++ (fn4 ++ (fn5 ++ (fn6 ++ (fn7)))))))
def fa0 : List He.Fa := [.glo "is_whole", .glo "is_word", .glo "plus", .glo "is_below", .glo "are_words", .glo "is_image", .glo "is_register", .glo "is_at", .glo "form_of", .glo "is_part", .glo "is_order", .glo "is_inner"]
def fa1 : List He.Fa := [.glo "kind_number", .glo "checked", .glo "look_at", .glo "parts_of", .glo "page_of", .glo "has", .glo "put", .glo "look_by", .glo "rights_of", .glo "look", .glo "stamp", .glo "mark"]
def fa2 : List He.Fa := [.glo "lets", .glo "bare", .glo "_law_cell_at", .glo "_law_mix", .glo "_law_pages", .glo "_law_group", .glo "_law_program", .glo "_law_entry", .glo "_law_no_bound", .glo "law", .glo "HouseError", .glo "NoShelf"]
def fa3 : List He.Fa := [.glo "NoBound", .glo "NoProgram", .glo "Fault", .glo "Shelf", .glo "Memory", .glo "Ways", .glo "Plain", .glo "Machine", .glo "KINDS", .free "isinstance", .free "int", .free "bool"]
def fa4 : List He.Fa := [.free "len", .free "all", .free "list", .free "zip", .free "enumerate", .free "tuple", .free "str", .free "divmod", .free "range", .free "min", .free "ValueError", .int "CELLS" 8]
def fa5 : List He.Fa := [.int "MOST_PAGES" 24, .int "MOST_ROWS" 60, .int "MOST" 12, .int "PRESENT" 1, .int "WRITABLE" 2, .int "KERNEL" 4, .int "TOUCHED" 8, .int "SOILED" 16, .int "LAST" 511, .int "PLACES" 512, .int "MOST_STEPS" 500, .cls "Shelf"]
def fa6 : List He.Fa := [.mkr "Shelf", .cls "Memory", .mkr "Memory", .cls "Plain", .mkr "Plain", .cls "Machine", .mkr "Machine", .noat "Shelf" "most", .noat "Shelf" "line", .noat "Memory" "held", .noat "Plain" "memory", .noat "Plain" "held"]
def fa7 : List He.Fa := [.noat "Plain" "base", .noat "Plain" "replies", .noat "Plain" "heard", .noat "Machine" "ways", .noat "Machine" "orders", .noat "Machine" "door", .noat "Machine" "cells", .noat "Machine" "counter", .noat "Machine" "ruling", .noat "Machine" "fallen", .noat "Machine" "stopped", .noat "Machine" "notes"]
def fa8 : List He.Fa := [.meth "Shelf" "seat", .meth "Shelf" "seek", .meth "Shelf" "keep", .meth "Shelf" "drop", .meth "Shelf" "empty", .meth "Shelf" "told", .meth "Memory" "size", .meth "Memory" "has", .meth "Memory" "fetch", .meth "Memory" "deposit", .meth "Memory" "give", .meth "Memory" "lay"]
def fa9 : List He.Fa := [.meth "Plain" "size", .meth "Plain" "has", .meth "Plain" "fetch", .meth "Plain" "deposit", .meth "Plain" "granted", .meth "Plain" "bring", .meth "Plain" "yield_up", .meth "Plain" "look_for", .meth "Plain" "read", .meth "Plain" "write", .meth "Plain" "left", .meth "Plain" "left_all"]
def fa10 : List He.Fa := [.meth "Plain" "on_shelf", .meth "Plain" "reach", .meth "Plain" "load", .meth "Plain" "save", .meth "Plain" "page_at", .meth "Plain" "peek", .meth "Plain" "poke", .meth "Plain" "root", .meth "Plain" "turn_root", .meth "Plain" "drop", .meth "Plain" "give", .meth "Plain" "want"]
def fa11 : List He.Fa := [.meth "Plain" "shelf", .meth "Plain" "words_of", .meth "Plain" "pages", .meth "Machine" "turn", .meth "Machine" "step", .meth "Machine" "fall", .meth "Machine" "do", .meth "Machine" "go", .meth "Machine" "reckon", .meth "Machine" "carry_word", .meth "Machine" "tell_way", .meth "Machine" "core"]
def fa12 : List He.Fa := [.meth "Machine" "events", .meth "Machine" "told", .exc "NoBound", .exm "Fault" "Fault" true, .exm "NoBound" "HouseError" true]
def faAll : List He.Fa := fa0 ++ (fa1 ++ (fa2 ++ (fa3 ++ (fa4 ++ (fa5 ++ (fa6 ++ (fa7 ++ (fa8 ++ (fa9 ++ (fa10 ++ (fa11 ++ (fa12))))))))))))
/-! what else the walk asks of the written part -/
def oexB (K : PySem.W.Frag) (C : Addr) : Bool := match K.lookup C with
  | some ⟨.type c, _, .cls cd, sl⟩ => (match cd.mro, sl.toList with
    | .ref C1 :: bm, [_, _, _, _, some (.builtin n), _] => decide (c = "type") && (decide (C1 = C) && (decide (n = "ValueError.__new__") && (!cd.hasDel && (cd.hasDict && PySem.HandSPX.refsVE bm))))
    | _, _ => false)
  | _ => false
theorem oexB_ok {K : PySem.W.Frag} {C : Addr} (h : oexB K C = true) : ∃ nm q N bs bm sn sub ab col dd k0 k1 k2 k3 k5, K.lookup C = some (excClassObj nm q C N bs bm true sn sub ab col dd k0 k1 k2 k3 k5 "ValueError.__new__") ∧ PySem.HandSPX.refsVE bm = true := by
  unfold oexB at h
  split at h
  · rename_i c dd cd sl ho
    split at h
    · rename_i C1 bm k0 k1 k2 k3 n k5 hm hs
      obtain ⟨h1, h⟩ := He.ba h
      obtain ⟨h2, h⟩ := He.ba h
      obtain ⟨h3, h⟩ := He.ba h
      obtain ⟨h4, h⟩ := He.ba h
      obtain ⟨h5, h6⟩ := He.ba h
      have e1 := of_decide_eq_true h1
      have e2 := of_decide_eq_true h2
      have e3 := of_decide_eq_true h3
      obtain ⟨nm, bs, mro, ns, qn, hd, sn, sub, ab, col, del⟩ := cd
      dsimp only at hm h4 h5
      have e4 : del = false := by
        cases del with
        | true => cases h4
        | false => rfl
      subst e1 e2 e3 hm h5 e4
      have hsl : sl = #[k0, k1, k2, k3, some (.builtin "ValueError.__new__"), k5] := by
        obtain ⟨l⟩ := sl
        simp only at hs
        rw [hs]
      subst hsl
      exact ⟨nm, qn, ns, bs, bm, sn, sub, ab, col, dd, k0, k1, k2, k3, k5, ho, h6⟩
    · cases h
  · cases h
/-- isinstance of a caught exception: what its class must say -/
def excCB (K : PySem.W.Frag) (D : Addr) : Bool := decide (PySem.W.findIn K (.ref D) "__getattribute__" = some (some (.builtin "BaseException.__getattribute__"))) && (decide (PySem.W.findIn K (.ref D) "__getattr__" = some none) &&
  (decide (PySem.W.subIn K (.ref D) (.type "BaseException") = some true) && (PySem.W.hasDictIn K D && (decide (PySem.W.findIn K (.ref D) "__class__" = some (some (.builtin "object.__class__"))) &&
  (decide (PySem.W.specialIn K (.builtin "object.__class__") "__get__" = some (some (.builtin "getset_descriptor.__get__"))) && (decide (PySem.W.takesIn K (.builtin "object.__class__") = some true) && decide (PySem.W.mroIn K D (.type "object") = some true)))))))
theorem excCB_ok {K : PySem.W.Frag} {D : Addr} (h : excCB K D = true) : ExcC K D := by
  obtain ⟨h1, h⟩ := He.ba h
  obtain ⟨h2, h⟩ := He.ba h
  obtain ⟨h3, h⟩ := He.ba h
  obtain ⟨h4, h⟩ := He.ba h
  obtain ⟨h5, h⟩ := He.ba h
  obtain ⟨h6, h⟩ := He.ba h
  obtain ⟨h7, h8⟩ := He.ba h
  exact ⟨of_decide_eq_true h1, of_decide_eq_true h2, of_decide_eq_true h3, h4, of_decide_eq_true h5, of_decide_eq_true h6, of_decide_eq_true h7, of_decide_eq_true h8⟩
/-- C.m read off the class at C -/
def rdB (K : PySem.W.Frag) (C : Addr) : Bool := PySem.W.readsIn K C (.type "type") && decide (PySem.W.specialIn K (.ref C) "__getattribute__" = some (some (.builtin "type.__getattribute__")))
def valB (K : PySem.W.Frag) (C : Addr) (m : Str) (v : Value) : Bool := match PySem.W.findCls K (.ref C) (.type "type") m with
  | some (.val u) => decide (u = v)
  | _ => false
theorem valB_ok {K : PySem.W.Frag} {C : Addr} {m : Str} {v : Value} (h : valB K C m v = true) : PySem.W.findCls K (.ref C) (.type "type") m = some (.val v) := by
  unfold valB at h
  split at h
  · rename_i u q
    rw [q, of_decide_eq_true h]
  · cases h
def kindsV : List He.Dv := [.str "far", .str "absent", .str "beyond", .str "kernel", .str "fixed", .str "deed", .str "call"]
def ex1 (K : PySem.W.Frag) : Bool := oexB K (He.ga K "Fault") && (decide (PySem.W.findIn K (.ref (He.ga K "Fault")) "__setattr__" = some (some (.builtin "object.__setattr__"))) &&
  (decide (PySem.W.typeIn K (.ref (He.ga K "Fault")) = some (.type "type")) && (PySem.W.keepIn K (.ref (He.ga K "Fault")) && (xfB K (He.ga K "Fault") &&
  (decide (PySem.W.findIn K (.ref (He.ga K "Fault")) "kind" = some none) && (decide (PySem.W.findIn K (.ref (He.ga K "Fault")) "place" = some none) && (decide (PySem.W.findIn K (.ref (He.ga K "Fault")) "level" = some none) &&
  (decide (PySem.W.findIn K (.ref (He.ga K "Fault")) "__init__" = some (some (.ref (He.ma K (He.ga K "Fault") "__init__")))) && decide (PySem.W.typeIn K (.ref (He.ma K (He.ga K "Fault") "__init__")) = some (.type "function"))))))))))
def ex2 (K : PySem.W.Frag) : Bool := rdB K (He.ga K "HouseError") && (valB K (He.ga K "HouseError") "__init__" (.builtin "ValueError.__init__") && (rdB K (He.ga K "Ways") && (valB K (He.ga K "Ways") "__init__" (.ref (He.ma K (He.ga K "Ways") "__init__")) && He.tupB K "KINDS" kindsV)))
def ex3 (K : PySem.W.Frag) : Bool := excCB K (He.ga K "NoBound") && (decide (PySem.W.kitOne K (.ref (He.ga K "NoBound")) (.ref (He.ga K "NoProgram")) = some false) && (decide (PySem.W.kitOne K (.ref (He.ga K "NoBound")) (.ref (He.ga K "Fault")) = some false) &&
  (decide (PySem.W.kitOne K (.ref (He.ga K "NoBound")) (.ref (He.ga K "NoShelf")) = some false) && (decide (PySem.W.kitOne K (.ref (He.ga K "NoBound")) (.ref (He.ga K "NoBound")) = some true) && decide (PySem.W.kitOne K (.ref (He.ga K "NoBound")) (.type "ValueError") = some true)))))
def exAll (K : PySem.W.Frag) : Bool := ex1 K && (ex2 K && ex3 K)
/-! the Hook -/
abbrev AlK : Type := He.AlD × Bool
def refK (o : Obj) : List Addr := match o.data with
  | .func fd => He.refV fd.code ++ He.refV fd.defaults
  | .cls cd => [cd.ns]
  | .dict es _ => es.toList.flatMap fun e => He.refV e.val
  | _ => []
def nextK (g : Addr → Option Obj) (as : List Addr) : List Addr := as.flatMap fun a => match g a with
  | some o => refK o
  | none => []
/-- the same list, its numbers reckoned -/
def frL {α : Type} : List Addr → List Addr → (List Addr → α) → α
  | [], acc, k => k acc
  | a :: r, acc, k => HandSHeadRun.frNat a fun a => frL r (a :: acc) k
theorem frL_eq {α : Type} : ∀ (l acc : List Addr) (k : List Addr → α), frL l acc k = k (l.reverse ++ acc)
  | [], acc, k => rfl
  | a :: r, acc, k => by
    show HandSHeadRun.frNat a (fun a => frL r (a :: acc) k) = _
    rw [HandSHeadRun.frNat_eq, frL_eq r]
    simp
def asK (g : Addr → Option Obj) : List Addr := frL [mainGlobals] [] fun a0 => frL (nextK g a0) [] fun a1 => frL (nextK g a1) [] fun a2 => frL (nextK g a2) [] fun a3 => frL (nextK g a3) [] fun a4 => 2 :: a0 ++ (a1 ++ (a2 ++ (a3 ++ a4)))
def obsK (g : Addr → Option Obj) : AlK := (He.obsD faAll fnAll (He.frG g (asK g)), exAll (He.frG g (asK g)))
def valK : AlK := (He.valD fnAll, true)
def SaysK (K : PySem.W.Frag) : Prop := He.SaysD faAll fnAll K ∧ exAll K = true
def hk : PySem.W.Hook where
  α := AlK
  obs := fun s => obsK s.heap.get?
  val := fun _ => valK
  says := fun _ h => ∃ K : PySem.W.Frag, K.In h ∧ SaysK K
  of := fun _ _ e => ⟨_, He.frG_in, congrArg (fun z : AlK => z.1) e, congrArg (fun z : AlK => z.2) e⟩
  keeps := fun _ _ _ ⟨K, hK, c⟩ k => ⟨K, PySem.W.Frag.In.keeps hK k, c⟩
/-- what the walk leans on -/
structure Txt (K : PySem.W.Frag) (mg : Str → Option Value) : Prop where
  c : He.SaysD faAll fnAll K
  ex : exAll K = true
  h : ∃ h : Heap, K.In h ∧ h.Ns mainGlobals mg
def fdOf (K : PySem.W.Frag) (p : Str × Option Str) : FuncData := match K.lookup (He.fAd K p) with
  | some ⟨_, _, .func fd, _⟩ => fd
  | _ => default
/-- a def as it stands -/
abbrev FunT (K : PySem.W.Frag) (d : He.DefD) : Prop := FunD K d.name d.qual d.params d.body d.scope (d.dvs K) (d.kws K) (He.fAd K d.at_) (fdOf K d.at_)
theorem Txt.def_ {K : PySem.W.Frag} {mg : Str → Option Value} (T : Txt K mg) (i : Nat) {d : He.DefD} (h : fnAll[i]? = some d := by rfl) : FunT K d := by
  obtain ⟨fd, F⟩ := T.c.def_ i h
  obtain ⟨oc, od, dV, kV, doc, pm, an, cdv, ct, osl, e, lk, c1, c2, c3⟩ := F.ex
  have e2 : fdOf K d.at_ = fd := by
    unfold fdOf
    rw [lk]
  show FunD K d.name d.qual d.params d.body d.scope (d.dvs K) (d.kws K) (He.fAd K d.at_) (fdOf K d.at_)
  rw [e2]
  exact F

section
variable {K : PySem.W.Frag} {mg : Str → Option Value}
theorem Txt.g_is_whole (T : Txt K mg) : mg "is_whole" = some (.ref (He.ga K "is_whole")) := by obtain ⟨h, X, G⟩ := T.h; exact He.glo_ok X G (T.c.fact 0 rfl)
theorem Txt.g_is_word (T : Txt K mg) : mg "is_word" = some (.ref (He.ga K "is_word")) := by obtain ⟨h, X, G⟩ := T.h; exact He.glo_ok X G (T.c.fact 1 rfl)
theorem Txt.g_plus (T : Txt K mg) : mg "plus" = some (.ref (He.ga K "plus")) := by obtain ⟨h, X, G⟩ := T.h; exact He.glo_ok X G (T.c.fact 2 rfl)
theorem Txt.g_is_below (T : Txt K mg) : mg "is_below" = some (.ref (He.ga K "is_below")) := by obtain ⟨h, X, G⟩ := T.h; exact He.glo_ok X G (T.c.fact 3 rfl)
theorem Txt.g_are_words (T : Txt K mg) : mg "are_words" = some (.ref (He.ga K "are_words")) := by obtain ⟨h, X, G⟩ := T.h; exact He.glo_ok X G (T.c.fact 4 rfl)
theorem Txt.g_is_image (T : Txt K mg) : mg "is_image" = some (.ref (He.ga K "is_image")) := by obtain ⟨h, X, G⟩ := T.h; exact He.glo_ok X G (T.c.fact 5 rfl)
theorem Txt.g_is_register (T : Txt K mg) : mg "is_register" = some (.ref (He.ga K "is_register")) := by obtain ⟨h, X, G⟩ := T.h; exact He.glo_ok X G (T.c.fact 6 rfl)
theorem Txt.g_is_at (T : Txt K mg) : mg "is_at" = some (.ref (He.ga K "is_at")) := by obtain ⟨h, X, G⟩ := T.h; exact He.glo_ok X G (T.c.fact 7 rfl)
theorem Txt.g_form_of (T : Txt K mg) : mg "form_of" = some (.ref (He.ga K "form_of")) := by obtain ⟨h, X, G⟩ := T.h; exact He.glo_ok X G (T.c.fact 8 rfl)
theorem Txt.g_is_part (T : Txt K mg) : mg "is_part" = some (.ref (He.ga K "is_part")) := by obtain ⟨h, X, G⟩ := T.h; exact He.glo_ok X G (T.c.fact 9 rfl)
theorem Txt.g_is_order (T : Txt K mg) : mg "is_order" = some (.ref (He.ga K "is_order")) := by obtain ⟨h, X, G⟩ := T.h; exact He.glo_ok X G (T.c.fact 10 rfl)
theorem Txt.g_is_inner (T : Txt K mg) : mg "is_inner" = some (.ref (He.ga K "is_inner")) := by obtain ⟨h, X, G⟩ := T.h; exact He.glo_ok X G (T.c.fact 11 rfl)
theorem Txt.g_kind_number (T : Txt K mg) : mg "kind_number" = some (.ref (He.ga K "kind_number")) := by obtain ⟨h, X, G⟩ := T.h; exact He.glo_ok X G (T.c.fact 12 rfl)
theorem Txt.g_checked (T : Txt K mg) : mg "checked" = some (.ref (He.ga K "checked")) := by obtain ⟨h, X, G⟩ := T.h; exact He.glo_ok X G (T.c.fact 13 rfl)
theorem Txt.g_look_at (T : Txt K mg) : mg "look_at" = some (.ref (He.ga K "look_at")) := by obtain ⟨h, X, G⟩ := T.h; exact He.glo_ok X G (T.c.fact 14 rfl)
theorem Txt.g_parts_of (T : Txt K mg) : mg "parts_of" = some (.ref (He.ga K "parts_of")) := by obtain ⟨h, X, G⟩ := T.h; exact He.glo_ok X G (T.c.fact 15 rfl)
theorem Txt.g_page_of (T : Txt K mg) : mg "page_of" = some (.ref (He.ga K "page_of")) := by obtain ⟨h, X, G⟩ := T.h; exact He.glo_ok X G (T.c.fact 16 rfl)
theorem Txt.g_has (T : Txt K mg) : mg "has" = some (.ref (He.ga K "has")) := by obtain ⟨h, X, G⟩ := T.h; exact He.glo_ok X G (T.c.fact 17 rfl)
theorem Txt.g_put (T : Txt K mg) : mg "put" = some (.ref (He.ga K "put")) := by obtain ⟨h, X, G⟩ := T.h; exact He.glo_ok X G (T.c.fact 18 rfl)
theorem Txt.g_look_by (T : Txt K mg) : mg "look_by" = some (.ref (He.ga K "look_by")) := by obtain ⟨h, X, G⟩ := T.h; exact He.glo_ok X G (T.c.fact 19 rfl)
theorem Txt.g_rights_of (T : Txt K mg) : mg "rights_of" = some (.ref (He.ga K "rights_of")) := by obtain ⟨h, X, G⟩ := T.h; exact He.glo_ok X G (T.c.fact 20 rfl)
theorem Txt.g_look (T : Txt K mg) : mg "look" = some (.ref (He.ga K "look")) := by obtain ⟨h, X, G⟩ := T.h; exact He.glo_ok X G (T.c.fact 21 rfl)
theorem Txt.g_stamp (T : Txt K mg) : mg "stamp" = some (.ref (He.ga K "stamp")) := by obtain ⟨h, X, G⟩ := T.h; exact He.glo_ok X G (T.c.fact 22 rfl)
theorem Txt.g_mark (T : Txt K mg) : mg "mark" = some (.ref (He.ga K "mark")) := by obtain ⟨h, X, G⟩ := T.h; exact He.glo_ok X G (T.c.fact 23 rfl)
theorem Txt.g_lets (T : Txt K mg) : mg "lets" = some (.ref (He.ga K "lets")) := by obtain ⟨h, X, G⟩ := T.h; exact He.glo_ok X G (T.c.fact 24 rfl)
theorem Txt.g_bare (T : Txt K mg) : mg "bare" = some (.ref (He.ga K "bare")) := by obtain ⟨h, X, G⟩ := T.h; exact He.glo_ok X G (T.c.fact 25 rfl)
theorem Txt.g_law_cell_at (T : Txt K mg) : mg "_law_cell_at" = some (.ref (He.ga K "_law_cell_at")) := by obtain ⟨h, X, G⟩ := T.h; exact He.glo_ok X G (T.c.fact 26 rfl)
theorem Txt.g_law_mix (T : Txt K mg) : mg "_law_mix" = some (.ref (He.ga K "_law_mix")) := by obtain ⟨h, X, G⟩ := T.h; exact He.glo_ok X G (T.c.fact 27 rfl)
theorem Txt.g_law_pages (T : Txt K mg) : mg "_law_pages" = some (.ref (He.ga K "_law_pages")) := by obtain ⟨h, X, G⟩ := T.h; exact He.glo_ok X G (T.c.fact 28 rfl)
theorem Txt.g_law_group (T : Txt K mg) : mg "_law_group" = some (.ref (He.ga K "_law_group")) := by obtain ⟨h, X, G⟩ := T.h; exact He.glo_ok X G (T.c.fact 29 rfl)
theorem Txt.g_law_program (T : Txt K mg) : mg "_law_program" = some (.ref (He.ga K "_law_program")) := by obtain ⟨h, X, G⟩ := T.h; exact He.glo_ok X G (T.c.fact 30 rfl)
theorem Txt.g_law_entry (T : Txt K mg) : mg "_law_entry" = some (.ref (He.ga K "_law_entry")) := by obtain ⟨h, X, G⟩ := T.h; exact He.glo_ok X G (T.c.fact 31 rfl)
theorem Txt.g_law_no_bound (T : Txt K mg) : mg "_law_no_bound" = some (.ref (He.ga K "_law_no_bound")) := by obtain ⟨h, X, G⟩ := T.h; exact He.glo_ok X G (T.c.fact 32 rfl)
theorem Txt.g_law (T : Txt K mg) : mg "law" = some (.ref (He.ga K "law")) := by obtain ⟨h, X, G⟩ := T.h; exact He.glo_ok X G (T.c.fact 33 rfl)
theorem Txt.g_HouseError (T : Txt K mg) : mg "HouseError" = some (.ref (He.ga K "HouseError")) := by obtain ⟨h, X, G⟩ := T.h; exact He.glo_ok X G (T.c.fact 34 rfl)
theorem Txt.g_NoShelf (T : Txt K mg) : mg "NoShelf" = some (.ref (He.ga K "NoShelf")) := by obtain ⟨h, X, G⟩ := T.h; exact He.glo_ok X G (T.c.fact 35 rfl)
theorem Txt.g_NoBound (T : Txt K mg) : mg "NoBound" = some (.ref (He.ga K "NoBound")) := by obtain ⟨h, X, G⟩ := T.h; exact He.glo_ok X G (T.c.fact 36 rfl)
theorem Txt.g_NoProgram (T : Txt K mg) : mg "NoProgram" = some (.ref (He.ga K "NoProgram")) := by obtain ⟨h, X, G⟩ := T.h; exact He.glo_ok X G (T.c.fact 37 rfl)
theorem Txt.g_Fault (T : Txt K mg) : mg "Fault" = some (.ref (He.ga K "Fault")) := by obtain ⟨h, X, G⟩ := T.h; exact He.glo_ok X G (T.c.fact 38 rfl)
theorem Txt.g_Shelf (T : Txt K mg) : mg "Shelf" = some (.ref (He.ga K "Shelf")) := by obtain ⟨h, X, G⟩ := T.h; exact He.glo_ok X G (T.c.fact 39 rfl)
theorem Txt.g_Memory (T : Txt K mg) : mg "Memory" = some (.ref (He.ga K "Memory")) := by obtain ⟨h, X, G⟩ := T.h; exact He.glo_ok X G (T.c.fact 40 rfl)
theorem Txt.g_Ways (T : Txt K mg) : mg "Ways" = some (.ref (He.ga K "Ways")) := by obtain ⟨h, X, G⟩ := T.h; exact He.glo_ok X G (T.c.fact 41 rfl)
theorem Txt.g_Plain (T : Txt K mg) : mg "Plain" = some (.ref (He.ga K "Plain")) := by obtain ⟨h, X, G⟩ := T.h; exact He.glo_ok X G (T.c.fact 42 rfl)
theorem Txt.g_Machine (T : Txt K mg) : mg "Machine" = some (.ref (He.ga K "Machine")) := by obtain ⟨h, X, G⟩ := T.h; exact He.glo_ok X G (T.c.fact 43 rfl)
theorem Txt.g_KINDS (T : Txt K mg) : mg "KINDS" = some (.ref (He.ga K "KINDS")) := by obtain ⟨h, X, G⟩ := T.h; exact He.glo_ok X G (T.c.fact 44 rfl)
theorem Txt.b_isinstance (T : Txt K mg) : mg "isinstance" = none := by obtain ⟨h, X, G⟩ := T.h; exact He.free_ok X G (T.c.fact 45 rfl)
theorem Txt.b_int (T : Txt K mg) : mg "int" = none := by obtain ⟨h, X, G⟩ := T.h; exact He.free_ok X G (T.c.fact 46 rfl)
theorem Txt.b_bool (T : Txt K mg) : mg "bool" = none := by obtain ⟨h, X, G⟩ := T.h; exact He.free_ok X G (T.c.fact 47 rfl)
theorem Txt.b_len (T : Txt K mg) : mg "len" = none := by obtain ⟨h, X, G⟩ := T.h; exact He.free_ok X G (T.c.fact 48 rfl)
theorem Txt.b_all (T : Txt K mg) : mg "all" = none := by obtain ⟨h, X, G⟩ := T.h; exact He.free_ok X G (T.c.fact 49 rfl)
theorem Txt.b_list (T : Txt K mg) : mg "list" = none := by obtain ⟨h, X, G⟩ := T.h; exact He.free_ok X G (T.c.fact 50 rfl)
theorem Txt.b_zip (T : Txt K mg) : mg "zip" = none := by obtain ⟨h, X, G⟩ := T.h; exact He.free_ok X G (T.c.fact 51 rfl)
theorem Txt.b_enumerate (T : Txt K mg) : mg "enumerate" = none := by obtain ⟨h, X, G⟩ := T.h; exact He.free_ok X G (T.c.fact 52 rfl)
theorem Txt.b_tuple (T : Txt K mg) : mg "tuple" = none := by obtain ⟨h, X, G⟩ := T.h; exact He.free_ok X G (T.c.fact 53 rfl)
theorem Txt.b_str (T : Txt K mg) : mg "str" = none := by obtain ⟨h, X, G⟩ := T.h; exact He.free_ok X G (T.c.fact 54 rfl)
theorem Txt.b_divmod (T : Txt K mg) : mg "divmod" = none := by obtain ⟨h, X, G⟩ := T.h; exact He.free_ok X G (T.c.fact 55 rfl)
theorem Txt.b_range (T : Txt K mg) : mg "range" = none := by obtain ⟨h, X, G⟩ := T.h; exact He.free_ok X G (T.c.fact 56 rfl)
theorem Txt.b_min (T : Txt K mg) : mg "min" = none := by obtain ⟨h, X, G⟩ := T.h; exact He.free_ok X G (T.c.fact 57 rfl)
theorem Txt.b_ValueError (T : Txt K mg) : mg "ValueError" = none := by obtain ⟨h, X, G⟩ := T.h; exact He.free_ok X G (T.c.fact 58 rfl)
theorem Txt.i_CELLS (T : Txt K mg) : ∃ t, mg "CELLS" = some (.int 8 t) := by obtain ⟨h, X, G⟩ := T.h; exact He.int_ok X G (T.c.fact 59 rfl)
theorem Txt.i_MOST_PAGES (T : Txt K mg) : ∃ t, mg "MOST_PAGES" = some (.int 24 t) := by obtain ⟨h, X, G⟩ := T.h; exact He.int_ok X G (T.c.fact 60 rfl)
theorem Txt.i_MOST_ROWS (T : Txt K mg) : ∃ t, mg "MOST_ROWS" = some (.int 60 t) := by obtain ⟨h, X, G⟩ := T.h; exact He.int_ok X G (T.c.fact 61 rfl)
theorem Txt.i_MOST (T : Txt K mg) : ∃ t, mg "MOST" = some (.int 12 t) := by obtain ⟨h, X, G⟩ := T.h; exact He.int_ok X G (T.c.fact 62 rfl)
theorem Txt.i_PRESENT (T : Txt K mg) : ∃ t, mg "PRESENT" = some (.int 1 t) := by obtain ⟨h, X, G⟩ := T.h; exact He.int_ok X G (T.c.fact 63 rfl)
theorem Txt.i_WRITABLE (T : Txt K mg) : ∃ t, mg "WRITABLE" = some (.int 2 t) := by obtain ⟨h, X, G⟩ := T.h; exact He.int_ok X G (T.c.fact 64 rfl)
theorem Txt.i_KERNEL (T : Txt K mg) : ∃ t, mg "KERNEL" = some (.int 4 t) := by obtain ⟨h, X, G⟩ := T.h; exact He.int_ok X G (T.c.fact 65 rfl)
theorem Txt.i_TOUCHED (T : Txt K mg) : ∃ t, mg "TOUCHED" = some (.int 8 t) := by obtain ⟨h, X, G⟩ := T.h; exact He.int_ok X G (T.c.fact 66 rfl)
theorem Txt.i_SOILED (T : Txt K mg) : ∃ t, mg "SOILED" = some (.int 16 t) := by obtain ⟨h, X, G⟩ := T.h; exact He.int_ok X G (T.c.fact 67 rfl)
theorem Txt.i_LAST (T : Txt K mg) : ∃ t, mg "LAST" = some (.int 511 t) := by obtain ⟨h, X, G⟩ := T.h; exact He.int_ok X G (T.c.fact 68 rfl)
theorem Txt.i_PLACES (T : Txt K mg) : ∃ t, mg "PLACES" = some (.int 512 t) := by obtain ⟨h, X, G⟩ := T.h; exact He.int_ok X G (T.c.fact 69 rfl)
theorem Txt.i_MOST_STEPS (T : Txt K mg) : ∃ t, mg "MOST_STEPS" = some (.int 500 t) := by obtain ⟨h, X, G⟩ := T.h; exact He.int_ok X G (T.c.fact 70 rfl)
theorem Txt.c_Shelf (T : Txt K mg) : Cls K (He.ga K "Shelf") := by obtain ⟨h, X, G⟩ := T.h; exact He.cls_ok (T.c.fact 71 rfl)
theorem Txt.k_Shelf (T : Txt K mg) : Mk K (He.ga K "Shelf") (He.ma K (He.ga K "Shelf") "__init__") := by obtain ⟨h, X, G⟩ := T.h; exact He.mkr_ok (T.c.fact 72 rfl)
theorem Txt.c_Memory (T : Txt K mg) : Cls K (He.ga K "Memory") := by obtain ⟨h, X, G⟩ := T.h; exact He.cls_ok (T.c.fact 73 rfl)
theorem Txt.k_Memory (T : Txt K mg) : Mk K (He.ga K "Memory") (He.ma K (He.ga K "Memory") "__init__") := by obtain ⟨h, X, G⟩ := T.h; exact He.mkr_ok (T.c.fact 74 rfl)
theorem Txt.c_Plain (T : Txt K mg) : Cls K (He.ga K "Plain") := by obtain ⟨h, X, G⟩ := T.h; exact He.cls_ok (T.c.fact 75 rfl)
theorem Txt.k_Plain (T : Txt K mg) : Mk K (He.ga K "Plain") (He.ma K (He.ga K "Plain") "__init__") := by obtain ⟨h, X, G⟩ := T.h; exact He.mkr_ok (T.c.fact 76 rfl)
theorem Txt.c_Machine (T : Txt K mg) : Cls K (He.ga K "Machine") := by obtain ⟨h, X, G⟩ := T.h; exact He.cls_ok (T.c.fact 77 rfl)
theorem Txt.k_Machine (T : Txt K mg) : Mk K (He.ga K "Machine") (He.ma K (He.ga K "Machine") "__init__") := by obtain ⟨h, X, G⟩ := T.h; exact He.mkr_ok (T.c.fact 78 rfl)
theorem Txt.n_Shelf_most (T : Txt K mg) : NoAttr K (He.ga K "Shelf") "most" := by obtain ⟨h, X, G⟩ := T.h; exact He.noat_ok (T.c.fact 79 rfl)
theorem Txt.n_Shelf_line (T : Txt K mg) : NoAttr K (He.ga K "Shelf") "line" := by obtain ⟨h, X, G⟩ := T.h; exact He.noat_ok (T.c.fact 80 rfl)
theorem Txt.n_Memory_held (T : Txt K mg) : NoAttr K (He.ga K "Memory") "held" := by obtain ⟨h, X, G⟩ := T.h; exact He.noat_ok (T.c.fact 81 rfl)
theorem Txt.n_Plain_memory (T : Txt K mg) : NoAttr K (He.ga K "Plain") "memory" := by obtain ⟨h, X, G⟩ := T.h; exact He.noat_ok (T.c.fact 82 rfl)
theorem Txt.n_Plain_held (T : Txt K mg) : NoAttr K (He.ga K "Plain") "held" := by obtain ⟨h, X, G⟩ := T.h; exact He.noat_ok (T.c.fact 83 rfl)
theorem Txt.n_Plain_base (T : Txt K mg) : NoAttr K (He.ga K "Plain") "base" := by obtain ⟨h, X, G⟩ := T.h; exact He.noat_ok (T.c.fact 84 rfl)
theorem Txt.n_Plain_replies (T : Txt K mg) : NoAttr K (He.ga K "Plain") "replies" := by obtain ⟨h, X, G⟩ := T.h; exact He.noat_ok (T.c.fact 85 rfl)
theorem Txt.n_Plain_heard (T : Txt K mg) : NoAttr K (He.ga K "Plain") "heard" := by obtain ⟨h, X, G⟩ := T.h; exact He.noat_ok (T.c.fact 86 rfl)
theorem Txt.n_Machine_ways (T : Txt K mg) : NoAttr K (He.ga K "Machine") "ways" := by obtain ⟨h, X, G⟩ := T.h; exact He.noat_ok (T.c.fact 87 rfl)
theorem Txt.n_Machine_orders (T : Txt K mg) : NoAttr K (He.ga K "Machine") "orders" := by obtain ⟨h, X, G⟩ := T.h; exact He.noat_ok (T.c.fact 88 rfl)
theorem Txt.n_Machine_door (T : Txt K mg) : NoAttr K (He.ga K "Machine") "door" := by obtain ⟨h, X, G⟩ := T.h; exact He.noat_ok (T.c.fact 89 rfl)
theorem Txt.n_Machine_cells (T : Txt K mg) : NoAttr K (He.ga K "Machine") "cells" := by obtain ⟨h, X, G⟩ := T.h; exact He.noat_ok (T.c.fact 90 rfl)
theorem Txt.n_Machine_counter (T : Txt K mg) : NoAttr K (He.ga K "Machine") "counter" := by obtain ⟨h, X, G⟩ := T.h; exact He.noat_ok (T.c.fact 91 rfl)
theorem Txt.n_Machine_ruling (T : Txt K mg) : NoAttr K (He.ga K "Machine") "ruling" := by obtain ⟨h, X, G⟩ := T.h; exact He.noat_ok (T.c.fact 92 rfl)
theorem Txt.n_Machine_fallen (T : Txt K mg) : NoAttr K (He.ga K "Machine") "fallen" := by obtain ⟨h, X, G⟩ := T.h; exact He.noat_ok (T.c.fact 93 rfl)
theorem Txt.n_Machine_stopped (T : Txt K mg) : NoAttr K (He.ga K "Machine") "stopped" := by obtain ⟨h, X, G⟩ := T.h; exact He.noat_ok (T.c.fact 94 rfl)
theorem Txt.n_Machine_notes (T : Txt K mg) : NoAttr K (He.ga K "Machine") "notes" := by obtain ⟨h, X, G⟩ := T.h; exact He.noat_ok (T.c.fact 95 rfl)
theorem Txt.m_Shelf_seat (T : Txt K mg) : Meth K (He.ga K "Shelf") "seat" (He.ma K (He.ga K "Shelf") "seat") := by obtain ⟨h, X, G⟩ := T.h; exact He.meth_ok (T.c.fact 96 rfl)
theorem Txt.m_Shelf_seek (T : Txt K mg) : Meth K (He.ga K "Shelf") "seek" (He.ma K (He.ga K "Shelf") "seek") := by obtain ⟨h, X, G⟩ := T.h; exact He.meth_ok (T.c.fact 97 rfl)
theorem Txt.m_Shelf_keep (T : Txt K mg) : Meth K (He.ga K "Shelf") "keep" (He.ma K (He.ga K "Shelf") "keep") := by obtain ⟨h, X, G⟩ := T.h; exact He.meth_ok (T.c.fact 98 rfl)
theorem Txt.m_Shelf_drop (T : Txt K mg) : Meth K (He.ga K "Shelf") "drop" (He.ma K (He.ga K "Shelf") "drop") := by obtain ⟨h, X, G⟩ := T.h; exact He.meth_ok (T.c.fact 99 rfl)
theorem Txt.m_Shelf_empty (T : Txt K mg) : Meth K (He.ga K "Shelf") "empty" (He.ma K (He.ga K "Shelf") "empty") := by obtain ⟨h, X, G⟩ := T.h; exact He.meth_ok (T.c.fact 100 rfl)
theorem Txt.m_Shelf_told (T : Txt K mg) : Meth K (He.ga K "Shelf") "told" (He.ma K (He.ga K "Shelf") "told") := by obtain ⟨h, X, G⟩ := T.h; exact He.meth_ok (T.c.fact 101 rfl)
theorem Txt.m_Memory_size (T : Txt K mg) : Meth K (He.ga K "Memory") "size" (He.ma K (He.ga K "Memory") "size") := by obtain ⟨h, X, G⟩ := T.h; exact He.meth_ok (T.c.fact 102 rfl)
theorem Txt.m_Memory_has (T : Txt K mg) : Meth K (He.ga K "Memory") "has" (He.ma K (He.ga K "Memory") "has") := by obtain ⟨h, X, G⟩ := T.h; exact He.meth_ok (T.c.fact 103 rfl)
theorem Txt.m_Memory_fetch (T : Txt K mg) : Meth K (He.ga K "Memory") "fetch" (He.ma K (He.ga K "Memory") "fetch") := by obtain ⟨h, X, G⟩ := T.h; exact He.meth_ok (T.c.fact 104 rfl)
theorem Txt.m_Memory_deposit (T : Txt K mg) : Meth K (He.ga K "Memory") "deposit" (He.ma K (He.ga K "Memory") "deposit") := by obtain ⟨h, X, G⟩ := T.h; exact He.meth_ok (T.c.fact 105 rfl)
theorem Txt.m_Memory_give (T : Txt K mg) : Meth K (He.ga K "Memory") "give" (He.ma K (He.ga K "Memory") "give") := by obtain ⟨h, X, G⟩ := T.h; exact He.meth_ok (T.c.fact 106 rfl)
theorem Txt.m_Memory_lay (T : Txt K mg) : Meth K (He.ga K "Memory") "lay" (He.ma K (He.ga K "Memory") "lay") := by obtain ⟨h, X, G⟩ := T.h; exact He.meth_ok (T.c.fact 107 rfl)
theorem Txt.m_Plain_size (T : Txt K mg) : Meth K (He.ga K "Plain") "size" (He.ma K (He.ga K "Plain") "size") := by obtain ⟨h, X, G⟩ := T.h; exact He.meth_ok (T.c.fact 108 rfl)
theorem Txt.m_Plain_has (T : Txt K mg) : Meth K (He.ga K "Plain") "has" (He.ma K (He.ga K "Plain") "has") := by obtain ⟨h, X, G⟩ := T.h; exact He.meth_ok (T.c.fact 109 rfl)
theorem Txt.m_Plain_fetch (T : Txt K mg) : Meth K (He.ga K "Plain") "fetch" (He.ma K (He.ga K "Plain") "fetch") := by obtain ⟨h, X, G⟩ := T.h; exact He.meth_ok (T.c.fact 110 rfl)
theorem Txt.m_Plain_deposit (T : Txt K mg) : Meth K (He.ga K "Plain") "deposit" (He.ma K (He.ga K "Plain") "deposit") := by obtain ⟨h, X, G⟩ := T.h; exact He.meth_ok (T.c.fact 111 rfl)
theorem Txt.m_Plain_granted (T : Txt K mg) : Meth K (He.ga K "Plain") "granted" (He.ma K (He.ga K "Plain") "granted") := by obtain ⟨h, X, G⟩ := T.h; exact He.meth_ok (T.c.fact 112 rfl)
theorem Txt.m_Plain_bring (T : Txt K mg) : Meth K (He.ga K "Plain") "bring" (He.ma K (He.ga K "Plain") "bring") := by obtain ⟨h, X, G⟩ := T.h; exact He.meth_ok (T.c.fact 113 rfl)
theorem Txt.m_Plain_yield_up (T : Txt K mg) : Meth K (He.ga K "Plain") "yield_up" (He.ma K (He.ga K "Plain") "yield_up") := by obtain ⟨h, X, G⟩ := T.h; exact He.meth_ok (T.c.fact 114 rfl)
theorem Txt.m_Plain_look_for (T : Txt K mg) : Meth K (He.ga K "Plain") "look_for" (He.ma K (He.ga K "Plain") "look_for") := by obtain ⟨h, X, G⟩ := T.h; exact He.meth_ok (T.c.fact 115 rfl)
theorem Txt.m_Plain_read (T : Txt K mg) : Meth K (He.ga K "Plain") "read" (He.ma K (He.ga K "Plain") "read") := by obtain ⟨h, X, G⟩ := T.h; exact He.meth_ok (T.c.fact 116 rfl)
theorem Txt.m_Plain_write (T : Txt K mg) : Meth K (He.ga K "Plain") "write" (He.ma K (He.ga K "Plain") "write") := by obtain ⟨h, X, G⟩ := T.h; exact He.meth_ok (T.c.fact 117 rfl)
theorem Txt.m_Plain_left (T : Txt K mg) : Meth K (He.ga K "Plain") "left" (He.ma K (He.ga K "Plain") "left") := by obtain ⟨h, X, G⟩ := T.h; exact He.meth_ok (T.c.fact 118 rfl)
theorem Txt.m_Plain_left_all (T : Txt K mg) : Meth K (He.ga K "Plain") "left_all" (He.ma K (He.ga K "Plain") "left_all") := by obtain ⟨h, X, G⟩ := T.h; exact He.meth_ok (T.c.fact 119 rfl)
theorem Txt.m_Plain_on_shelf (T : Txt K mg) : Meth K (He.ga K "Plain") "on_shelf" (He.ma K (He.ga K "Plain") "on_shelf") := by obtain ⟨h, X, G⟩ := T.h; exact He.meth_ok (T.c.fact 120 rfl)
theorem Txt.m_Plain_reach (T : Txt K mg) : Meth K (He.ga K "Plain") "reach" (He.ma K (He.ga K "Plain") "reach") := by obtain ⟨h, X, G⟩ := T.h; exact He.meth_ok (T.c.fact 121 rfl)
theorem Txt.m_Plain_load (T : Txt K mg) : Meth K (He.ga K "Plain") "load" (He.ma K (He.ga K "Plain") "load") := by obtain ⟨h, X, G⟩ := T.h; exact He.meth_ok (T.c.fact 122 rfl)
theorem Txt.m_Plain_save (T : Txt K mg) : Meth K (He.ga K "Plain") "save" (He.ma K (He.ga K "Plain") "save") := by obtain ⟨h, X, G⟩ := T.h; exact He.meth_ok (T.c.fact 123 rfl)
theorem Txt.m_Plain_page_at (T : Txt K mg) : Meth K (He.ga K "Plain") "page_at" (He.ma K (He.ga K "Plain") "page_at") := by obtain ⟨h, X, G⟩ := T.h; exact He.meth_ok (T.c.fact 124 rfl)
theorem Txt.m_Plain_peek (T : Txt K mg) : Meth K (He.ga K "Plain") "peek" (He.ma K (He.ga K "Plain") "peek") := by obtain ⟨h, X, G⟩ := T.h; exact He.meth_ok (T.c.fact 125 rfl)
theorem Txt.m_Plain_poke (T : Txt K mg) : Meth K (He.ga K "Plain") "poke" (He.ma K (He.ga K "Plain") "poke") := by obtain ⟨h, X, G⟩ := T.h; exact He.meth_ok (T.c.fact 126 rfl)
theorem Txt.m_Plain_root (T : Txt K mg) : Meth K (He.ga K "Plain") "root" (He.ma K (He.ga K "Plain") "root") := by obtain ⟨h, X, G⟩ := T.h; exact He.meth_ok (T.c.fact 127 rfl)
theorem Txt.m_Plain_turn_root (T : Txt K mg) : Meth K (He.ga K "Plain") "turn_root" (He.ma K (He.ga K "Plain") "turn_root") := by obtain ⟨h, X, G⟩ := T.h; exact He.meth_ok (T.c.fact 128 rfl)
theorem Txt.m_Plain_drop (T : Txt K mg) : Meth K (He.ga K "Plain") "drop" (He.ma K (He.ga K "Plain") "drop") := by obtain ⟨h, X, G⟩ := T.h; exact He.meth_ok (T.c.fact 129 rfl)
theorem Txt.m_Plain_give (T : Txt K mg) : Meth K (He.ga K "Plain") "give" (He.ma K (He.ga K "Plain") "give") := by obtain ⟨h, X, G⟩ := T.h; exact He.meth_ok (T.c.fact 130 rfl)
theorem Txt.m_Plain_want (T : Txt K mg) : Meth K (He.ga K "Plain") "want" (He.ma K (He.ga K "Plain") "want") := by obtain ⟨h, X, G⟩ := T.h; exact He.meth_ok (T.c.fact 131 rfl)
theorem Txt.m_Plain_shelf (T : Txt K mg) : Meth K (He.ga K "Plain") "shelf" (He.ma K (He.ga K "Plain") "shelf") := by obtain ⟨h, X, G⟩ := T.h; exact He.meth_ok (T.c.fact 132 rfl)
theorem Txt.m_Plain_words_of (T : Txt K mg) : Meth K (He.ga K "Plain") "words_of" (He.ma K (He.ga K "Plain") "words_of") := by obtain ⟨h, X, G⟩ := T.h; exact He.meth_ok (T.c.fact 133 rfl)
theorem Txt.m_Plain_pages (T : Txt K mg) : Meth K (He.ga K "Plain") "pages" (He.ma K (He.ga K "Plain") "pages") := by obtain ⟨h, X, G⟩ := T.h; exact He.meth_ok (T.c.fact 134 rfl)
theorem Txt.m_Machine_turn (T : Txt K mg) : Meth K (He.ga K "Machine") "turn" (He.ma K (He.ga K "Machine") "turn") := by obtain ⟨h, X, G⟩ := T.h; exact He.meth_ok (T.c.fact 135 rfl)
theorem Txt.m_Machine_step (T : Txt K mg) : Meth K (He.ga K "Machine") "step" (He.ma K (He.ga K "Machine") "step") := by obtain ⟨h, X, G⟩ := T.h; exact He.meth_ok (T.c.fact 136 rfl)
theorem Txt.m_Machine_fall (T : Txt K mg) : Meth K (He.ga K "Machine") "fall" (He.ma K (He.ga K "Machine") "fall") := by obtain ⟨h, X, G⟩ := T.h; exact He.meth_ok (T.c.fact 137 rfl)
theorem Txt.m_Machine_do (T : Txt K mg) : Meth K (He.ga K "Machine") "do" (He.ma K (He.ga K "Machine") "do") := by obtain ⟨h, X, G⟩ := T.h; exact He.meth_ok (T.c.fact 138 rfl)
theorem Txt.m_Machine_go (T : Txt K mg) : Meth K (He.ga K "Machine") "go" (He.ma K (He.ga K "Machine") "go") := by obtain ⟨h, X, G⟩ := T.h; exact He.meth_ok (T.c.fact 139 rfl)
theorem Txt.m_Machine_reckon (T : Txt K mg) : Meth K (He.ga K "Machine") "reckon" (He.ma K (He.ga K "Machine") "reckon") := by obtain ⟨h, X, G⟩ := T.h; exact He.meth_ok (T.c.fact 140 rfl)
theorem Txt.m_Machine_carry_word (T : Txt K mg) : Meth K (He.ga K "Machine") "carry_word" (He.ma K (He.ga K "Machine") "carry_word") := by obtain ⟨h, X, G⟩ := T.h; exact He.meth_ok (T.c.fact 141 rfl)
theorem Txt.m_Machine_tell_way (T : Txt K mg) : Meth K (He.ga K "Machine") "tell_way" (He.ma K (He.ga K "Machine") "tell_way") := by obtain ⟨h, X, G⟩ := T.h; exact He.meth_ok (T.c.fact 142 rfl)
theorem Txt.m_Machine_core (T : Txt K mg) : Meth K (He.ga K "Machine") "core" (He.ma K (He.ga K "Machine") "core") := by obtain ⟨h, X, G⟩ := T.h; exact He.meth_ok (T.c.fact 143 rfl)
theorem Txt.m_Machine_events (T : Txt K mg) : Meth K (He.ga K "Machine") "events" (He.ma K (He.ga K "Machine") "events") := by obtain ⟨h, X, G⟩ := T.h; exact He.meth_ok (T.c.fact 144 rfl)
theorem Txt.m_Machine_told (T : Txt K mg) : Meth K (He.ga K "Machine") "told" (He.ma K (He.ga K "Machine") "told") := by obtain ⟨h, X, G⟩ := T.h; exact He.meth_ok (T.c.fact 145 rfl)
theorem Txt.e_NoBound (T : Txt K mg) : PySem.W.excIn K (He.ga K "NoBound") He.veBase "ValueError.__new__" = true ∧ PySem.W.keepIn K (.ref (He.ga K "NoBound")) = true ∧ PySem.W.subIn K (.ref (He.ga K "NoBound")) (.type "BaseException") = some true ∧ PySem.W.typeIn K (.ref (He.ga K "NoBound")) = some (.type "type") := by obtain ⟨h, X, G⟩ := T.h; exact He.exc_ok (T.c.fact 146 rfl)
theorem Txt.x_Fault_Fault (T : Txt K mg) : PySem.W.exmOne K (.ref (He.ga K "Fault")) (.ref (He.ga K "Fault")) = some true := by obtain ⟨h, X, G⟩ := T.h; exact He.exm_ok (T.c.fact 147 rfl)
theorem Txt.x_NoBound_HouseError (T : Txt K mg) : PySem.W.exmOne K (.ref (He.ga K "NoBound")) (.ref (He.ga K "HouseError")) = some true := by obtain ⟨h, X, G⟩ := T.h; exact He.exm_ok (T.c.fact 148 rfl)
theorem Txt.f_is_whole (T : Txt K mg) : FunT K d_is_whole := T.def_ 0 rfl
theorem Txt.f_is_word (T : Txt K mg) : FunT K d_is_word := T.def_ 1 rfl
theorem Txt.f_plus (T : Txt K mg) : FunT K d_plus := T.def_ 2 rfl
theorem Txt.f_is_below (T : Txt K mg) : FunT K d_is_below := T.def_ 3 rfl
theorem Txt.f_are_words (T : Txt K mg) : FunT K d_are_words := T.def_ 4 rfl
theorem Txt.f_is_image (T : Txt K mg) : FunT K d_is_image := T.def_ 5 rfl
theorem Txt.f_is_register (T : Txt K mg) : FunT K d_is_register := T.def_ 6 rfl
theorem Txt.f_is_at (T : Txt K mg) : FunT K d_is_at := T.def_ 7 rfl
theorem Txt.f_form_of (T : Txt K mg) : FunT K d_form_of := T.def_ 8 rfl
theorem Txt.f_is_part (T : Txt K mg) : FunT K d_is_part := T.def_ 9 rfl
theorem Txt.f_is_order (T : Txt K mg) : FunT K d_is_order := T.def_ 10 rfl
theorem Txt.f_is_inner (T : Txt K mg) : FunT K d_is_inner := T.def_ 11 rfl
theorem Txt.f_kind_number (T : Txt K mg) : FunT K d_kind_number := T.def_ 12 rfl
theorem Txt.f_checked (T : Txt K mg) : FunT K d_checked := T.def_ 13 rfl
theorem Txt.f_look_at (T : Txt K mg) : FunT K d_look_at := T.def_ 14 rfl
theorem Txt.f_parts_of (T : Txt K mg) : FunT K d_parts_of := T.def_ 15 rfl
theorem Txt.f_page_of (T : Txt K mg) : FunT K d_page_of := T.def_ 16 rfl
theorem Txt.f_has (T : Txt K mg) : FunT K d_has := T.def_ 17 rfl
theorem Txt.f_put (T : Txt K mg) : FunT K d_put := T.def_ 18 rfl
theorem Txt.f_look_by (T : Txt K mg) : FunT K d_look_by := T.def_ 19 rfl
theorem Txt.f_rights_of (T : Txt K mg) : FunT K d_rights_of := T.def_ 20 rfl
theorem Txt.f_look (T : Txt K mg) : FunT K d_look := T.def_ 21 rfl
theorem Txt.f_stamp (T : Txt K mg) : FunT K d_stamp := T.def_ 22 rfl
theorem Txt.f_mark (T : Txt K mg) : FunT K d_mark := T.def_ 23 rfl
theorem Txt.f_lets (T : Txt K mg) : FunT K d_lets := T.def_ 24 rfl
theorem Txt.f_bare (T : Txt K mg) : FunT K d_bare := T.def_ 25 rfl
theorem Txt.f_law_cell_at (T : Txt K mg) : FunT K d_law_cell_at := T.def_ 26 rfl
theorem Txt.f_law_mix (T : Txt K mg) : FunT K d_law_mix := T.def_ 27 rfl
theorem Txt.f_law_pages (T : Txt K mg) : FunT K d_law_pages := T.def_ 28 rfl
theorem Txt.f_law_group (T : Txt K mg) : FunT K d_law_group := T.def_ 29 rfl
theorem Txt.f_law_program (T : Txt K mg) : FunT K d_law_program := T.def_ 30 rfl
theorem Txt.f_law_entry (T : Txt K mg) : FunT K d_law_entry := T.def_ 31 rfl
theorem Txt.f_law_no_bound (T : Txt K mg) : FunT K d_law_no_bound := T.def_ 32 rfl
theorem Txt.f_law (T : Txt K mg) : FunT K d_law := T.def_ 33 rfl
theorem Txt.f_Shelf_init (T : Txt K mg) : FunT K d_Shelf_init := T.def_ 34 rfl
theorem Txt.f_Shelf_seat (T : Txt K mg) : FunT K d_Shelf_seat := T.def_ 35 rfl
theorem Txt.f_Shelf_seek (T : Txt K mg) : FunT K d_Shelf_seek := T.def_ 36 rfl
theorem Txt.f_Shelf_keep (T : Txt K mg) : FunT K d_Shelf_keep := T.def_ 37 rfl
theorem Txt.f_Shelf_drop (T : Txt K mg) : FunT K d_Shelf_drop := T.def_ 38 rfl
theorem Txt.f_Shelf_empty (T : Txt K mg) : FunT K d_Shelf_empty := T.def_ 39 rfl
theorem Txt.f_Shelf_told (T : Txt K mg) : FunT K d_Shelf_told := T.def_ 40 rfl
theorem Txt.f_Memory_init (T : Txt K mg) : FunT K d_Memory_init := T.def_ 41 rfl
theorem Txt.f_Memory_size (T : Txt K mg) : FunT K d_Memory_size := T.def_ 42 rfl
theorem Txt.f_Memory_has (T : Txt K mg) : FunT K d_Memory_has := T.def_ 43 rfl
theorem Txt.f_Memory_fetch (T : Txt K mg) : FunT K d_Memory_fetch := T.def_ 44 rfl
theorem Txt.f_Memory_deposit (T : Txt K mg) : FunT K d_Memory_deposit := T.def_ 45 rfl
theorem Txt.f_Memory_give (T : Txt K mg) : FunT K d_Memory_give := T.def_ 46 rfl
theorem Txt.f_Memory_lay (T : Txt K mg) : FunT K d_Memory_lay := T.def_ 47 rfl
theorem Txt.f_Plain_init (T : Txt K mg) : FunT K d_Plain_init := T.def_ 48 rfl
theorem Txt.f_Plain_size (T : Txt K mg) : FunT K d_Plain_size := T.def_ 49 rfl
theorem Txt.f_Plain_has (T : Txt K mg) : FunT K d_Plain_has := T.def_ 50 rfl
theorem Txt.f_Plain_fetch (T : Txt K mg) : FunT K d_Plain_fetch := T.def_ 51 rfl
theorem Txt.f_Plain_deposit (T : Txt K mg) : FunT K d_Plain_deposit := T.def_ 52 rfl
theorem Txt.f_Plain_granted (T : Txt K mg) : FunT K d_Plain_granted := T.def_ 53 rfl
theorem Txt.f_Plain_bring (T : Txt K mg) : FunT K d_Plain_bring := T.def_ 54 rfl
theorem Txt.f_Plain_yield_up (T : Txt K mg) : FunT K d_Plain_yield_up := T.def_ 55 rfl
theorem Txt.f_Plain_look_for (T : Txt K mg) : FunT K d_Plain_look_for := T.def_ 56 rfl
theorem Txt.f_Plain_read (T : Txt K mg) : FunT K d_Plain_read := T.def_ 57 rfl
theorem Txt.f_Plain_write (T : Txt K mg) : FunT K d_Plain_write := T.def_ 58 rfl
theorem Txt.f_Plain_left (T : Txt K mg) : FunT K d_Plain_left := T.def_ 59 rfl
theorem Txt.f_Plain_left_all (T : Txt K mg) : FunT K d_Plain_left_all := T.def_ 60 rfl
theorem Txt.f_Plain_on_shelf (T : Txt K mg) : FunT K d_Plain_on_shelf := T.def_ 61 rfl
theorem Txt.f_Plain_reach (T : Txt K mg) : FunT K d_Plain_reach := T.def_ 62 rfl
theorem Txt.f_Plain_load (T : Txt K mg) : FunT K d_Plain_load := T.def_ 63 rfl
theorem Txt.f_Plain_save (T : Txt K mg) : FunT K d_Plain_save := T.def_ 64 rfl
theorem Txt.f_Plain_page_at (T : Txt K mg) : FunT K d_Plain_page_at := T.def_ 65 rfl
theorem Txt.f_Plain_peek (T : Txt K mg) : FunT K d_Plain_peek := T.def_ 66 rfl
theorem Txt.f_Plain_poke (T : Txt K mg) : FunT K d_Plain_poke := T.def_ 67 rfl
theorem Txt.f_Plain_root (T : Txt K mg) : FunT K d_Plain_root := T.def_ 68 rfl
theorem Txt.f_Plain_turn_root (T : Txt K mg) : FunT K d_Plain_turn_root := T.def_ 69 rfl
theorem Txt.f_Plain_drop (T : Txt K mg) : FunT K d_Plain_drop := T.def_ 70 rfl
theorem Txt.f_Plain_give (T : Txt K mg) : FunT K d_Plain_give := T.def_ 71 rfl
theorem Txt.f_Plain_want (T : Txt K mg) : FunT K d_Plain_want := T.def_ 72 rfl
theorem Txt.f_Plain_shelf (T : Txt K mg) : FunT K d_Plain_shelf := T.def_ 73 rfl
theorem Txt.f_Plain_words_of (T : Txt K mg) : FunT K d_Plain_words_of := T.def_ 74 rfl
theorem Txt.f_Plain_pages (T : Txt K mg) : FunT K d_Plain_pages := T.def_ 75 rfl
theorem Txt.f_Ways_init (T : Txt K mg) : FunT K d_Ways_init := T.def_ 76 rfl
theorem Txt.f_Machine_init (T : Txt K mg) : FunT K d_Machine_init := T.def_ 77 rfl
theorem Txt.f_Machine_turn (T : Txt K mg) : FunT K d_Machine_turn := T.def_ 78 rfl
theorem Txt.f_Machine_step (T : Txt K mg) : FunT K d_Machine_step := T.def_ 79 rfl
theorem Txt.f_Machine_fall (T : Txt K mg) : FunT K d_Machine_fall := T.def_ 80 rfl
theorem Txt.f_Machine_do (T : Txt K mg) : FunT K d_Machine_do := T.def_ 81 rfl
theorem Txt.f_Machine_go (T : Txt K mg) : FunT K d_Machine_go := T.def_ 82 rfl
theorem Txt.f_Machine_reckon (T : Txt K mg) : FunT K d_Machine_reckon := T.def_ 83 rfl
theorem Txt.f_Machine_carry_word (T : Txt K mg) : FunT K d_Machine_carry_word := T.def_ 84 rfl
theorem Txt.f_Machine_tell_way (T : Txt K mg) : FunT K d_Machine_tell_way := T.def_ 85 rfl
theorem Txt.f_Machine_core (T : Txt K mg) : FunT K d_Machine_core := T.def_ 86 rfl
theorem Txt.f_Machine_events (T : Txt K mg) : FunT K d_Machine_events := T.def_ 87 rfl
theorem Txt.f_Machine_told (T : Txt K mg) : FunT K d_Machine_told := T.def_ 88 rfl
theorem Txt.f_Fault_init (T : Txt K mg) : FunT K d_Fault_init := T.def_ 89 rfl
end
end M35

/-! ## text S1 -/
set_option maxHeartbeats 4000000
namespace M35
open PySem PySem.Spec PyProof.Rows L2
/-- a def of the text keeps its promise; its arguments bind one by one -/
structure Ok (P : Program) (w : World) (K : PySem.W.Frag) (mg : Str → Option Value) (base : Heap) (CX : CXT) (k : Nat) (d : He.DefD) (ps : List Str) (sp : Sp) : Prop where
  fn : FnOk P w K mg base CX k (He.fAd K d.at_) (fdOf K d.at_) ps sp
  bd : Binds K (fdOf K d.at_) ps []
  kp : PySem.W.keepIn K (.ref (He.fAd K d.at_)) = true
section
variable {P : Program} {w : World} {K : PySem.W.Frag} {mg : Str → Option Value} {base : Heap} {d : He.DefD}
theorem ok_mk {CX : CXT} {N ps : List Str} {k : Nat} {sp : Sp} (F : FunT K d) (S : FnScope N ps d.scope) (hd : d.dfl = [])
    (hb : ∀ (kV doc pm : Value) (an : Option Addr) (cdv ct : Value) (us : List Value), us.length = ps.length → bindArgs (PySem.W.fnOf d.name d.qual d.params d.body d.scope .none kV doc pm an cdv ct) ⟨us, []⟩ = pure (ps.zip us))
    (len : ∀ vs H Q E, sp vs H Q E → vs.length = ps.length)
    (hbody : ∀ (cdv : Value) (A : Around) (outer : List Env) (s : Shared) (H : Hp) (vs : List V) (Q : VK) (E : XK), Room k (A.deeper (envOfC d.qual d.scope s.heap.objs.size (He.fAd K d.at_) cdv)) → sp vs H Q E →
      ∃ t, PSs (cxOf CX P w K mg base N d.qual d.scope (He.fAd K d.at_) cdv A outer s H E) d.body t ∧ t { nx := fun _ H' => Q .non H', rt := Q } (start N vs) H) : Ok P w K mg base CX (k + 1) d ps sp := by
  have F2 : FunD K d.name d.qual d.params d.body d.scope [] (d.kws K) (He.fAd K d.at_) (fdOf K d.at_) := by
    have z : d.dvs K = [] := by
      unfold He.DefD.dvs
      rw [hd]
      rfl
    rw [← z]
    exact F
  exact ⟨F.ok S len hbody, F2.bindsN hb, F.kp⟩
/-- no exception leaves -/
theorem ok_no {N ps : List Str} {k : Nat} {sp : Sp} (F : FunT K d) (S : FnScope N ps d.scope) (hd : d.dfl = [])
    (hb : ∀ (kV doc pm : Value) (an : Option Addr) (cdv ct : Value) (us : List Value), us.length = ps.length → bindArgs (PySem.W.fnOf d.name d.qual d.params d.body d.scope .none kV doc pm an cdv ct) ⟨us, []⟩ = pure (ps.zip us))
    (len : ∀ vs H Q E, sp vs H Q E → vs.length = ps.length)
    (hbody : ∀ (cdv : Value) (A : Around) (outer : List Env) (s : Shared) (H : Hp) (vs : List V) (Q : VK) (E : XK), Room k (A.deeper (envOfC d.qual d.scope s.heap.objs.size (He.fAd K d.at_) cdv)) → sp vs H Q E →
      ∃ t, PSs (cxOf CX0 P w K mg base N d.qual d.scope (He.fAd K d.at_) cdv A outer s H E).nox d.body t ∧ t { nx := fun _ H' => Q .non H', rt := Q } (start N vs) H) : Ok P w K mg base CX0 (k + 1) d ps sp :=
  ok_mk F S hd hb len fun cdv A outer s H vs Q E hr h => let ⟨t, h1, h2⟩ := hbody cdv A outer s H vs Q E hr h; ⟨t, h1.nox, h2⟩
theorem Ok.mono {CX : CXT} {ps : List Str} {j k : Nat} {sp : Sp} (O : Ok P w K mg base CX j d ps sp) (h : j ≤ k) : Ok P w K mg base CX k d ps sp := ⟨O.fn.mono h, O.bd, O.kp⟩
end
section
variable {X : Cx} {CX : CXT} {k : Nat} {d : He.DefD} {ps : List Str} {sp : Sp} {E : XK} {x m c : Str} {p pos apos : Pos} {e o : Expr} {es : List Expr} {ta : TE} {t : TA}
/-- f(e, ..) -/
theorem pe_c (O : Ok X.prog X.w X.K X.mg X.base CX k d ps sp) (hr : Room k X.A) (hg : Gl X x) (hm : X.mg x = some (.ref (He.fAd X.K d.at_))) (hx : Passes CX X E) (ha : PA X (e :: es) t)
    (hdb : (x == ("__debug__" : Str)) = false := by decide) (he : starEach (e :: es) X.env = (false, eval e X.env) :: starEach es X.env := by rfl) (hpl : (backTo pos (starEach es X.env)).any (·.1) = false := by rfl) :
    PE X (.Call (.Name x p) (e :: es) [] pos) (tCall sp [] E t) := pe_call O.fn hr hg hm O.kp O.bd .nil hx ha hdb he hpl
end
section
variable {P : Program} {w : World} {K : PySem.W.Frag} {mg : Str → Option Value} {base : Heap}
/-! ### is_whole -/
/-- what is no int, or a truth -/
def wholeV : V → Bool
  | .int _ => true
  | _ => false
/-- the things that are asked whether they are whole -/
inductive WhV (H : Hp) : V → Prop
  | int (i : Int) : WhV H (.int i)
  | bl (b : Bool) : WhV H (.bl b)
  | non : WhV H .non
  | str (x : Str) : WhV H (.str x)
  | lst {a : Addr} {xs : List V} (h : H a = some (.lst xs)) : WhV H (.ref a)
theorem sc_is_whole : FnScope ["thing"] ["thing"] d_is_whole.scope := ⟨rfl, rfl, rfl, by decide +kernel, rfl, by decide +kernel, by decide +kernel⟩
def sp_is_whole : Sp := fun vs H Q _ => ∃ v, vs = [v] ∧ WhV H v ∧ Q (.bl (wholeV v)) H
theorem ok_is_whole (T : Txt K mg) : Ok P w K mg base CX0 1 d_is_whole ["thing"] sp_is_whole := by
  refine ok_no T.f_is_whole sc_is_whole rfl (fun _ _ _ _ _ _ us hl => match us, hl with | [_], _ => rfl) (fun vs H Q E h => ?_) (fun cdv A outer s H vs Q E hr h => ?_)
  · obtain ⟨v, rfl, _⟩ := h
    rfl
  · obtain ⟨v, rfl, hv, hQ⟩ := h
    refine ⟨_, pss_one (ps_ret (pe_and (pe_callB call_isi (by rfl) T.b_isinstance (by decide +kernel) (pa_cons (pv 0) (pa_cons (pe_bltn (v := .ty "int") (by rfl) T.b_int (by decide +kernel) rfl) pa_nil)))
      (pe_one (pe_not (pe_callB call_isi (by rfl) T.b_isinstance (by decide +kernel) (pa_cons (pv 0) (pa_cons (pe_bltn (v := .ty "bool") (by rfl) T.b_bool (by decide +kernel) rfl) pa_nil)))))) ), ?_⟩
    cases hv with
    | int i => exact ⟨_, rfl, _, _, _, _, true, rfl, .ty _, .base (.int i), kit_ty (by decide +kernel), _, rfl, _, rfl, _, _, _, _, false, rfl, .ty _, .base (.int i), kit_ty (by decide +kernel), _, rfl, hQ⟩
    | bl b => exact ⟨_, rfl, _, _, _, _, true, rfl, .ty _, .base (.bl b), kit_ty (by decide +kernel), _, rfl, _, rfl, _, _, _, _, true, rfl, .ty _, .base (.bl b), kit_ty (by decide +kernel), _, rfl, hQ⟩
    | non => exact ⟨_, rfl, _, _, _, _, false, rfl, .ty _, .base .non, kit_ty (by decide +kernel), _, rfl, hQ⟩
    | str x => exact ⟨_, rfl, _, _, _, _, false, rfl, .ty _, .base (.str x), kit_ty (by decide +kernel), _, rfl, hQ⟩
    | lst ha => exact ⟨_, rfl, _, _, _, _, false, rfl, .ty _, .base (.lst ha), kit_ty (by decide +kernel), _, rfl, hQ⟩
/-! ### is_word -/
end
end M35

/-! ## text S2 -/
set_option maxHeartbeats 4000000
namespace M35
open PySem PySem.Spec PyProof.Rows L2
/-! rules of this text: C.m(self, ..) where C is an own class -/
section
variable {X : Cx} {CX : CXT} {k : Nat} {d : He.DefD} {ps : List Str} {sp : Sp} {E : XK} {x m c : Str} {p p1 p2 pos apos : Pos} {e o : Expr} {es : List Expr} {ta : TE} {t : TA} {C : Addr} {pl : Sem Bool}
theorem pe_own (O : Ok X.prog X.w X.K X.mg X.base CX k d ps sp) (hr : Room k X.A) (hg : Gl X x) (hm : X.mg x = some (.ref C)) (hx : Passes CX X E)
    (h1 : PySem.W.readsIn X.K C (.type "type") = true) (h2 : PySem.W.specialIn X.K (.ref C) "__getattribute__" = some (some (.builtin "type.__getattribute__")))
    (h3 : PySem.W.findCls X.K (.ref C) (.type "type") m = some (.val (.ref (He.fAd X.K d.at_)))) (ha : PA X (e :: es) t)
    (ht : eval (.Call (.Attribute (.Name x p1) m p2) (e :: es) [] pos) X.env = (do
      let ov ← eval (.Name x p1) X.env
      standAt p2.atName
      let (f, first) ← holding [ov] (getMethod ov m pl)
      callWith pos f first (backTo pos (starEach (e :: es) X.env)) (backToKw pos (keywordEach [] X.env))) := by rfl)
    (hdb : (x == ("__debug__" : Str)) = false := by decide) (he : starEach (e :: es) X.env = (false, eval e X.env) :: starEach es X.env := by rfl) (hpl : (backTo pos (starEach es X.env)).any (·.1) = false := by rfl) :
    PE X (.Call (.Attribute (.Name x p1) m p2) (e :: es) [] pos) (tCall sp [] E t) := by
  refine ⟨fun pins s σ H Q I h => ?_⟩
  refine PySem.W.methodCall_KW (pl := pl) (ld_glob I hg hm ?_ hdb) ht
  refine PySem.W.method_cls I.kIn h2 (PySem.W.cls_value I.kIn h1 h3 rfl ?_)
  refine PySem.W.callWith_K (first := []) (h₀ := X.base) I.ok.mod.kin O.kp (thn (ha.run pos pins _ σ H _ (I.tok _) h) fun us s1 ⟨vs, H1, I1, r, q⟩ => ⟨I1.kIn, ?_⟩) he hpl
  exact run_fn O.fn hr O.bd .nil hx I1 r q
/-- HouseError.__init__(self, 'text'): the built-in one, found through the class at C -/
theorem pe_hinit (hg : Gl X x) (hm : X.mg x = some (.ref C))
    (h1 : PySem.W.readsIn X.K C (.type "type") = true) (h2 : PySem.W.specialIn X.K (.ref C) "__getattribute__" = some (some (.builtin "type.__getattribute__")))
    (h3 : PySem.W.findCls X.K (.ref C) (.type "type") "__init__" = some (.val (.builtin "ValueError.__init__"))) (ha : PA X (e :: es) t)
    (ht : eval (.Call (.Attribute (.Name x p1) "__init__" p2) (e :: es) [] pos) X.env = (do
      let ov ← eval (.Name x p1) X.env
      standAt p2.atName
      let (f, first) ← holding [ov] (getMethod ov "__init__" pl)
      callWith pos f first (backTo pos (starEach (e :: es) X.env)) (backToKw pos (keywordEach [] X.env))) := by rfl)
    (hdb : (x == ("__debug__" : Str)) = false := by decide) (he : starEach (e :: es) X.env = (false, eval e X.env) :: starEach es X.env := by rfl) (hpl : (backTo pos (starEach es X.env)).any (·.1) = false := by rfl) :
    PE X (.Call (.Attribute (.Name x p1) "__init__" p2) (e :: es) [] pos) (tVeI X.K t) := by
  refine ⟨fun pins s σ H Q I h => ?_⟩
  refine PySem.W.methodCall_KW (pl := pl) (ld_glob I hg hm ?_ hdb) ht
  refine PySem.W.method_cls I.kIn h2 (PySem.W.cls_value I.kIn h1 h3 rfl ?_)
  refine PyProof.Rows.callWith_method1 (first := []) (thn (ha.run pos pins _ σ H _ (I.tok _) h) fun us s1 ⟨vs, H1, I1, r1, a, D, ws, ev, hl, T, ea, q⟩ => ?_) he hpl
  subst ev
  cases r1 with
  | @cons _ u0 _ ur ra rw' =>
    obtain rfl : u0 = Value.ref a := ra
    have hlen : ur.length ≤ sizeLine := by
      have z := Paired.length rw'
      have z2 := sizeLine_eq
      omega
    exact oinit_ok T I1 ea hlen fun s' J => ⟨.non, H1, J, rfl, q⟩
/-- C(e, ..), C an own exception class with its own __init__; the exception's context is None -/
theorem pmk_own2 (T : OexC X.K C) (iC : PySem.W.findIn X.K (.ref C) "__init__" = some (some (.ref (He.fAd X.K d.at_)))) (tI : PySem.W.typeIn X.K (.ref (He.fAd X.K d.at_)) = some (.type "function"))
    (O : Ok X.prog X.w X.K X.mg X.base CX0 k d ps sp) (hr : Room (k + 1) X.A) (hg : Gl X x) (hm : X.mg x = some (.ref C)) (ha : PA X (e :: es) t)
    (hdb : (x == ("__debug__" : Str)) = false := by decide) (he : starEach (e :: es) X.env = (false, eval e X.env) :: starEach es X.env := by rfl) (hpl : (backTo pos (starEach es X.env)).any (·.1) = false := by rfl) :
    L2N.PMk X (.Call (.Name x p) (e :: es) [] pos) (tMkO C sp [] t) := by
  intro pins s σ H Q I h
  obtain ⟨nm, q, N, bs, bm, sn, sub, ab, col, dd, k0, k1, k2, k3, k5, hC, hbm⟩ := T.cls
  refine wpAny_Call_Name_kw (ld_glob I hg hm ?_ hdb)
  refine PySem.W.callWith_K (h₀ := X.base) I.ok.mod.kin T.kC (thn (ha.run pos pins s σ H _ I h) fun us s1 hh => ?_) he hpl
  obtain ⟨vs, H1, I1, rv, hz, hgo⟩ := hh
  refine ⟨I1.kIn, ?_⟩
  show wpAny _ _ (call (.ref C) us) _ _ _
  obtain ⟨h0, gn, dr, tk, os⟩ := s1
  -- the new exception stands behind its arguments' tuple
  obtain ⟨a, ea⟩ : ∃ a : Addr, a = h0.objs.size + 1 := ⟨_, rfl⟩
  have hsz : h0.objs.size ≤ a := by rw [ea]; exact Nat.le_succ _
  have hfr : H1 a = none := I1.hok.fresh hsz
  have hgo1 := hgo a hfr
  rw [List.append_nil] at hgo1
  have old : ∀ b o, h0.get? b = some o → ((h0.push (PySem.W.kdv_tup us)).push (PySem.HandSPX.excO C h0.objs.size)).get? b = some o := fun b o z => Heap.get?_push_of_some _ (Heap.get?_push_of_some _ z)
  have new : ((h0.push (PySem.W.kdv_tup us)).push (PySem.HandSPX.excO C h0.objs.size)).get? a = some (PySem.HandSPX.excO C h0.objs.size) := by
    rw [ea]
    heap_get
  have I2 : Inv X pins σ (upd H1 a (exo a C none)) ⟨(h0.push (PySem.W.kdv_tup us)).push (PySem.HandSPX.excO C h0.objs.size), gn, dr, tk, os⟩ := I1.laid (t' := tk) (a := a) (o := exo a C none) old hsz (exo_ok new)
  have rv2 : Vals (V.ref a :: vs) (Value.ref a :: us) := .cons rfl rv
  have len2 : (Value.ref a :: us ++ []).length = ps.length := by
    have z := rv2.length
    rw [O.fn.len _ _ _ _ hgo1] at z
    rw [List.append_nil]
    exact z.symm
  have len1 : us.length ≤ sizeLine := by
    have z := Paired.length rv
    have z2 := sizeLine_eq
    omega
  have bnd := O.bd _ (Value.ref a :: us) I2.kIn len2
  rw [List.append_nil] at bnd
  have code := O.fn.run (X.A.under (.builtin "type.__call__" ⟨.ref C :: us, []⟩)) X.stack _ _ ⟨Value.ref a :: us, []⟩ (Value.ref a :: us) (V.ref a :: vs) _ (fun _ _ _ => False) (hr.make C us []) (I2.env0.make C us []) bnd rv2 hgo1
  rw [ea] at code
  refine wpAny_call (PySem.HandSPX.call_own F.excBase_ValueError (fun Y => PySem.HandSPX.refsVE_contains Y bm hbm) (I1.kIn _ _ hC) (PySem.W.looks_findIn I1.kIn iC) (fun self => PySem.W.bind_fn I1.kIn self tI) len1 (codeAny_mono code fun r s2 hr2 => ?_))
  rw [← ea] at hr2 ⊢
  cases r with
  | error er => exact hr2.elim
  | ok fl =>
    cases fl with
    | next => exact hr2.elim
    | brk => exact hr2.elim
    | cont => exact hr2.elim
    | ret u =>
      obtain ⟨v, H2, os2, bare2, un2, hok2, rv3, ev, dd2, fs, e1, e2, e3, hQ⟩ := hr2
      subst ev
      obtain ⟨h2, g2, d2, t2, os3⟩ := s2
      obtain ⟨t0, G, J, kG, ge, hoe, na⟩ := mk_end0 (d2 := d2) (t2 := t2) I1 hsz old un2 hok2 os2 bare2 e1 e2 e3
      exact ⟨rv3, a, _, _, ⟨G, g2, d2, t2, os3⟩, _, .ref C, some dd2, rfl, J, kG, ge, hoe, ⟨rfl, rfl, fun vs hv => by cases hv; rfl⟩, rfl, rfl, na, rfl, bare2, raises_own T.exC T.tyC, hQ⟩
end
end M35

/-! ## text S3 -/
set_option maxHeartbeats 4000000
namespace M35
open PySem PySem.Spec PyProof.Rows L2
/-! a for over a tuple that is left by a return ahead of its end (also where an exception is handled) -/
def tForT (K : PySem.W.Frag) (tl : TE) (g : TG) (tb : TS) : TS := fun D σ H => tl σ H fun x H1 => ∃ (a : Addr) (xs : List V), x = .ref a ∧ SqT K H1 a xs ∧ ∃ W : Nat → L2.St → Hp → Prop, W 0 σ H1 ∧
  ∀ i σ H, W i σ H → ∃ y, xs[i]? = some y ∧ SqT K H a xs ∧ g y σ H fun σ2 H2 => tb { D with nx := W (i + 1), ct := W (i + 1), bk := D.nx } σ2 H2
section
variable {X : Cx} {tg iter : Expr} {tl : TE} {g : TG} {tb : TS} {body : List Stmt} {pos : Pos}
theorem ps_forT (hp : PassesOwn (model X.prog X.w) X.A X.env X.xe) (hl : PE X iter tl) (hg : PG X tg g) (hb : PSs X body tb)
    (hs : ∀ x, foldedSetIterable iter X.env x = pure x := by intro _; rfl) : PS X (.For tg iter body [] pos) (tForT X.K tl g tb) := by
  refine ⟨fun pins s σ H D I h => ?_⟩
  refine wpAny_For (thn (hl.run pins s σ H _ I h) fun v s1 hh => ?_) hs
  obtain ⟨x, H1, I1, r1, a, xs, ex, hq, W, w0, turn⟩ := hh
  subst ex
  obtain rfl : v = Value.ref a := r1
  obtain ⟨its, rv, tup, hz⟩ := I1.tuple hq
  refine wpAny_pyIter_tuple (show s1.heap.IsTuple a its.toArray from tup) ?_
  obtain ⟨it, eit⟩ : ∃ it : Addr, it = s1.heap.objs.size := ⟨_, rfl⟩
  rw [← eit]
  have f0 := I1.fpOk (H' := H1) (b := it) (by rw [eit]; exact Nat.le_refl _) (I1.hok.fresh (by rw [eit]; exact Nat.le_refl _))
  have fp : ∀ {H' : Hp}, H' it = none → FpOk X pins H' it := fun {H'} hn => ⟨hn, f0.2⟩
  refine codeAny_forLoop_any (fun n s' => ∃ i σ' H', n = xs.length - i ∧ Inv X pins σ' H' s' ∧ s'.heap.IsTupleIter it a i ∧ H' it = none ∧ W i σ' H') ?_ xs.length ⟨0, σ, H1, rfl, I1.kept (t' := s1.toks) fun b o e => Heap.get?_push_of_some _ e, ?_, f0.1, w0⟩
  · rintro n s3 ⟨i, σ3, H3, en, I3, st3, fr3, w3⟩
    obtain ⟨y, hy, hq3, step⟩ := turn i σ3 H3 w3
    have hi : i < xs.length := (List.getElem?_eq_some_iff.mp hy).1
    obtain ⟨its3, rv3, tup3, _⟩ := I3.tuple hq3
    obtain ⟨u, hu, ru⟩ := rv3.get hy
    obtain ⟨g0, g1, g2, g3, g4, g5⟩ := fp fr3
    refine wpAny_passesOwn hp ?_
    refine wpAny_pyNext_tuple_item st3 (show s3.heap.IsTuple a its3.toArray from tup3) (x := u) (by simpa using hu) fun h4 st4 sb => ?_
    have I4 : Inv X pins σ3 H3 { s3 with heap := h4 } := I3.turned (t' := s3.toks) (fun b o hb e => (sb.2 b hb).trans e) g0 g1 g3 g4 g5
    obtain ⟨oi, ei, ci, di⟩ := id st4
    refine wpAny_passesOwn hp ?_
    refine go_of (s := { s3 with heap := h4 }) ei ci di (by decide) ?_
    have I5 : Inv X (pins ++ [(it, oi)]) σ3 H3 { s3 with heap := h4 } := I4.pins_of fun p hpp => by
      rcases List.mem_append.mp hpp with z | z
      · exact I4.pin p (List.mem_append_right _ z)
      · obtain rfl : p = (it, oi) := by simpa using z
        exact ⟨ei, g0, g1, g2, fun v z2 => by rw [di] at z2; cases z2⟩
    refine wpAny_passesOwn hp (thn (hg.run _ _ σ3 H3 y u _ I5 ru step) fun _ s6 ⟨σ6, H6, I6, q6⟩ => ?_)
    refine wpAny_passesOwn hp (thn (hb.run _ s6 σ6 H6 _ I6 q6) fun f s7 q7 => ?_)
    have unp : ∀ {σ7 : L2.St} {H7 : Hp}, Inv X (pins ++ [(it, oi)]) σ7 H7 s7 → Inv X pins σ7 H7 s7 := fun {σ7 H7} J => J.pins_of fun p hpp => J.pin p (List.mem_append_right _ (List.mem_append_left _ hpp))
    have again : ∀ {σ7 : L2.St} {H7 : Hp}, Inv X (pins ++ [(it, oi)]) σ7 H7 s7 → W (i + 1) σ7 H7 → ∃ m, m < n ∧ ∃ i σ' H', m = xs.length - i ∧ Inv X pins σ' H' s7 ∧ s7.heap.IsTupleIter it a i ∧ H' it = none ∧ W i σ' H' := fun {σ7 H7} J w7 => by
      obtain ⟨p1, p2, _⟩ := J.pin (it, oi) (List.mem_append_right _ (List.mem_append_right _ List.mem_cons_self))
      exact ⟨xs.length - (i + 1), by omega, i + 1, σ7, H7, rfl, unp J, ⟨oi, p1, ci, di⟩, p2, w7⟩
    cases f with
    | next => obtain ⟨σ7, H7, J, w7⟩ := q7; exact again J w7
    | cont => obtain ⟨σ7, H7, J, w7⟩ := q7; exact again J w7
    | brk => obtain ⟨σ7, H7, J, w7⟩ := q7; exact ⟨σ7, H7, unp J, w7⟩
    | ret z => obtain ⟨x7, σ7, H7, J, r7, w7⟩ := q7; exact ⟨x7, σ7, H7, unp J, r7, w7⟩
  · rw [eit]
    exact ⟨_, Heap.get?_push_size _ rfl, rfl, rfl⟩
end
end M35

/-! ## text S4 -/
set_option maxHeartbeats 4000000
namespace M35
open PySem PySem.Spec PyProof.Rows L2
/-! an exception that outlives its except clause: except C as n: y = n -/
/-- at a: a caught exception of the class cls, its own dict at d -/
def exK (cls : Value) (d : Option Addr) (a : Addr) : HO := .ext fun h => ∃ (oe : Obj) (vs : Array Value), h.get? a = some oe ∧ Zc cls d oe ∧ oe.data = .fields vs
theorem exK_ok {P : Program} {w : World} {H : Hp} {h : Heap} {a : Addr} {cls : Value} {d : Option Addr} {oe : Obj} {vs : Array Value} (e : h.get? a = some oe) (z : Zc cls d oe) (q : oe.data = .fields vs) : ObjOk P w H h a (exK cls d a) :=
  ⟨⟨oe, vs, e, z, q⟩, ⟨oe, e⟩, fun _ _ ⟨o, v, e1, r⟩ k => ⟨o, v, k o e1, r⟩⟩
def wKeep (K : PySem.W.Frag) (c : Value) (i j : Nat) (D : Ends) : WX := fun cls d σ H =>
  PySem.W.exmOne K cls c = some true ∧ ∀ a, H a = none → D.nx (((σ.set i (some (.ref a))).set j (some (.ref a))).set i none) (upd H a (exK cls d a))
section
variable {X : Cx} {pins : List (Addr × Obj)} {σ : L2.St} {H : Hp} {s : Shared}
/-- out of the suite, the exception still pinned -/
theorem unsuite_pin {a : Addr} {oe : Obj} {pn' : List (Addr × Obj)} (I : Inv (X.suite a ((a, oe) :: (X.pn ++ pins))) pn' σ H s) (ok : X.Ok) : Inv X ((a, oe) :: pins) σ H s :=
  ⟨ok, I.os, I.bare, I.base, I.loc, I.cell, I.free, I.freeC, fun p hp => by
    rcases List.mem_append.mp hp with z | z
    · exact I.pin p (List.mem_append_left _ (List.mem_cons_of_mem _ (List.mem_append_left _ z)))
    · rcases List.mem_cons.mp z with z | z
      · rw [z]; exact I.pin (a, oe) (List.mem_append_left _ List.mem_cons_self)
      · exact I.pin p (List.mem_append_left _ (List.mem_cons_of_mem _ (List.mem_append_right _ z))), I.hok, I.len⟩
/-- a pinned exception is tracked from now on -/
theorem track_pin {a : Addr} {oe : Obj} {vs : Array Value} {cls : Value} {d : Option Addr} (I : Inv X ((a, oe) :: pins) σ H s) (z : Zc cls d oe) (hd : oe.data = .fields vs) (n0 : X.s_0.heap.get? a = none)
    (np : ∀ p ∈ X.pn ++ pins, p.1 ≠ a) : Inv X pins σ (upd H a (exK cls d a)) s := by
  obtain ⟨ha, na, nL, nF, nc⟩ := I.pin (a, oe) (List.mem_append_right _ List.mem_cons_self)
  have n0' : ∀ b o, X.s_0.heap.get? b = some o → b ≠ a := fun b o e q => by
    rw [q, n0] at e
    cases e
  refine ⟨I.ok, I.os, I.bare, ⟨I.base.keep, I.base.slot, fun b o e n hx => ?_, I.base.there, fun b xs e => ?_, fun b o u e => ?_, fun b ps e => ?_⟩, I.loc, I.cell, ?_, fun x c e => ?_, fun p hp => ?_, fun b u e => ?_, I.len⟩
  · rw [upd_ne (n0' b o e)]
    exact I.base.free b o e n hx
  · have q := I.base.tups b xs e
    rw [upd_ne (ne_of_none q na)]
    exact q
  · have q := I.base.frzs b o u e
    rw [upd_ne (ne_of_none q na)]
    exact q
  · obtain ⟨m, q⟩ := I.base.tbls b ps e
    exact ⟨m, by rw [upd_ne (ne_of_none q na)]; exact q⟩
  · rw [upd_ne (Ne.symm nL)]
    exact I.free
  · have ca : c ≠ a := fun q => by
      obtain ⟨v, o, ho, hv⟩ := I.cell x c e
      rw [q] at ho
      have ha' : s.heap.get? a = some oe := ha
      rw [ha'] at ho
      cases ho
      exact nc v hv
    rw [upd_ne ca]
    exact I.freeC x c e
  · have hp' : p ∈ X.pn ++ ((a, oe) :: pins) := by
      rcases List.mem_append.mp hp with q | q
      · exact List.mem_append_left _ q
      · exact List.mem_append_right _ (List.mem_cons_of_mem _ q)
    obtain ⟨p1, p2, p3, p4, p5⟩ := I.pin p hp'
    exact ⟨p1, by rw [upd_ne (np p hp)]; exact p2, p3, p4, p5⟩
  · by_cases hb : b = a
    · subst hb
      rw [upd_same] at e
      cases e
      exact exK_ok ha z hd
    · rw [upd_ne hb] at e
      exact (I.hok b u e).stay (fun _ _ _ q => q) (fun c q => by rw [upd_ne (ne_of_none q na)]; exact q) fun c xs q => by rw [upd_ne (ne_of_none q na)]; exact q
end
section
variable {X : Cx} {x n y : Str} {c : Value} {i j : Nat} {body : List Stmt} {np py pn2 ap pos pos' : Pos} {tb : WX → TS}
theorem ps_try_keep (hs : X.stack = X.env :: X.outer) (hf : X.env.frame = some X.env.locals) (hex : X.ex = []) (hN : X.N.Nodup) (hi : X.N[i]? = some n) (hln : X.env.kindOf n = some .local) (hj : X.N[j]? = some y) (hly : X.env.kindOf y = some .local) (hc : Names X x c)
    (hb : ∀ (W : WX) (pn : List (Addr × Obj)) (xe : Value → Shared → Prop), L2N.Takes (X.tr pn xe) W → PassesOwn (model X.prog X.w) X.A X.env xe → PSs (X.tr pn xe) body (tb W))
    (hdn : (n == ("__debug__" : Str)) = false := by decide) (hcd : (n == ("__classdict__" : Str)) = false := by decide)
    (hsw : ∀ env : Env, swapsWith (.Name n pn2) (some (.Name y py)) ap.line env = pure false := by intro _; rfl) :
    PS X (.Try body [.ExceptHandler (some (.Name x np)) (some n) [.Assign [.Name y py] (.Name n pn2) ap] pos'] [] [] pos) (fun D σ H => tb (wKeep X.K c i j D) D σ H) := by
  refine ⟨fun pins s σ H D I h => ?_⟩
  have ok := I.ok
  have hfr : X.A.frames = some (X.env :: X.outer) := by rw [ok.frames, hs]
  refine wpAny_Try_except ?_
  have tk : L2N.Takes (X.tr (X.pn ++ pins) (fun e s₁ => wpAny (model X.prog X.w) X.A (noteFrame e X.env) (fun _ s₂ => wpAny (model X.prog X.w) X.A (setFlight e none) (fun _ s₃ =>
    wpAny (model X.prog X.w) X.A (handleBy e X.env [.ExceptHandler (some (.Name x np)) (some n) [.Assign [.Name y py] (.Name n pn2) ap] pos']) (SP X pins D) X.xe s₃) X.xe s₂) X.xe s₁)) (wKeep X.K c i j D) := by
    intro u s2 xx
    obtain ⟨a, B, sI, pins2, σ2, H2, cls, d, rfl, J0, nb, up, sky, na, os, ag, hm, hyes⟩ := xx
    have J : Inv X pins σ2 H2 sI := J0.ofTry ok
    have sky2 : Sky B (X.env :: X.outer) a (L2N.Zn cls d) X.env.locals s2.heap := by rw [← hs]; exact sky
    show wpAny (model X.prog X.w) X.A (noteFrame (.ref a) X.env) _ _ _
    refine L2N.Sky.land L2N.Zn.steady hfr hf sky2 fun h3 fl3 up3 => ?_
    have J3 : Inv X pins σ2 H2 { s2 with heap := h3 } := J.landed nb fl3.1 (up.trans up3) os ag
    obtain ⟨oe3, vs3, he3, hz3, hd3⟩ := fl3.there
    have nfr : a ∉ frs (X.env :: X.outer) := fun hm2 => by
      obtain ⟨_, o2, e2, hnf⟩ := fl3.2.2.1.mem hm2
      rw [he3] at e2
      cases e2
      exact hnf _ hd3
    have nB : B.get? a = none := fl3.2.1
    have nI : sI.heap.get? a = none := by
      cases q : sI.heap.get? a with
      | none => rfl
      | some o =>
        have z := nb a o q (by rw [hs]; exact nfr)
        rw [nB] at z
        cases z
    have n0 : X.s_0.heap.get? a = none := by
      cases q : X.s_0.heap.get? a with
      | none => rfl
      | some o =>
        obtain ⟨o2, z⟩ := J.base.there a o q (by rw [hex]; exact fun z => nomatch z)
        rw [nI] at z
        cases z
    have npp : ∀ p ∈ X.pn ++ pins, p.1 ≠ a := fun p hp q => by
      have z := (J.pin p hp).1
      rw [q, nI] at z
      cases z
    have nL : a ≠ X.env.locals := fun z => nfr (List.mem_filterMap.mpr ⟨X.env, List.mem_cons_self, by rw [hf, z]⟩)
    have nF : a ∉ X.fs := fun hm2 => by
      obtain ⟨e2, he2, q⟩ := List.mem_filterMap.mp hm2
      exact nfr (List.mem_filterMap.mpr ⟨e2, List.mem_cons_of_mem _ he2, q⟩)
    have S3 := J3.suite he3 hd3 na nL nF
    refine wpAny_handleBy_cons (codeAny_handlers_test ?_) (by intro q; cases q)
    have LT : PySem.W.Looks (model X.prog X.w) h3 (typeOf (.ref a)) cls := fun A Q E s k q => wpAny_typeOf_ref (k _ _ he3) (by rw [hz3.1]; exact q)
    have LM := PySem.W.exm_one (M := model X.prog X.w) J3.kIn LT hm
    have test : ∀ {Q : Value → Shared → Prop} {E : Value → Shared → Prop}, Q c { s2 with heap := h3 } → wpAny (model X.prog X.w) (X.A.mark (some (.ref a))) (eval (.Name x np) X.env) Q E { s2 with heap := h3 } := fun {Q E} q => by
      obtain ⟨hg, hdbg, hmm | ⟨hmm, hv, hnn⟩⟩ := hc
      · exact ld_glob (X := X.suite a ((a, oe3) :: (X.pn ++ pins))) S3 hg hmm q hdbg
      · exact ld_blt (X := X.suite a ((a, oe3) :: (X.pn ++ pins))) S3 hg hmm hv q hnn hdbg
    refine test (LM.here ?_)
    refine codeAny_handlers_suite_as ?_
    refine HandSPX.lands_againZ fl3 fun h4 fl4 up4 => ?_
    have J4 : Inv X pins σ2 H2 { s2 with heap := h4 } := J.landed nb fl4.1 ((up.trans up3).trans up4) os ag
    obtain ⟨oe4, vs4, he4, hz4, hd4⟩ := fl4.there
    have S4 := J4.suite he4 hd4 na nL nF
    refine store_ok (X := X.suite a ((a, oe4) :: (X.pn ++ pins))) (v := .ref a) S4 hN hi (.inl hln) rfl (fun s5 S5 => ?_) (.inr hln)
    have lenN : i < σ2.length := by
      rw [J.len]
      exact (List.getElem?_eq_some_iff.mp hi).1
    have asg : PSs (X.suite a ((a, oe4) :: (X.pn ++ pins))) [.Assign [.Name y py] (.Name n pn2) ap] (tAsg (tVar i) (gName j)) :=
      pss_one (ps_set (X := X.suite a ((a, oe4) :: (X.pn ++ pins))) hN hj (.inl hly) (pe_var hi (.inl hln) hdn hcd) (hsw X.env) (.inr hly))
    refine wpAny_mono (asg.run [] s5 (σ2.set i (some (.ref a))) H2 { nx := fun σ6 H6 => σ6 = (σ2.set i (some (.ref a))).set j (some (.ref a)) ∧ H6 = H2, rt := fun _ _ => False } S5 ⟨.ref a, List.getElem?_set_self lenN, rfl, rfl⟩) (fun f s6 hsp => ?_) (fun _ _ z => False.elim z)
    cases f with
    | next =>
      obtain ⟨σ6, H6, S6, rfl, rfl⟩ := hsp
      refine gone_ok (unsuite_pin S6 ok) hN hi hln fun s7 J7 => ?_
      exact ⟨_, _, track_pin J7 hz4.zc hd4 n0 npp, hyes a na⟩
    | brk => obtain ⟨_, _, _, q⟩ := hsp; exact q.elim
    | cont => obtain ⟨_, _, _, q⟩ := hsp; exact q.elim
    | ret u => obtain ⟨_, _, _, _, _, q⟩ := hsp; exact q.elim
  refine wpAny_mono ((hb (wKeep X.K c i j D) (X.pn ++ pins) _ tk PassesOwn.looking).run [] s σ H D (I.toTry _) h) (fun f s1 hsp => ?_) (fun e s1 he => he)
  cases f with
  | next => obtain ⟨σ2, H2, J2, q⟩ := hsp; exact wpAny_execs_nil ⟨σ2, H2, J2.ofTry ok, q⟩
  | brk => obtain ⟨σ2, H2, J2, q⟩ := hsp; exact ⟨σ2, H2, J2.ofTry ok, q⟩
  | cont => obtain ⟨σ2, H2, J2, q⟩ := hsp; exact ⟨σ2, H2, J2.ofTry ok, q⟩
  | ret u => obtain ⟨v, σ2, H2, J2, r, q⟩ := hsp; exact ⟨v, σ2, H2, J2.ofTry ok, r, q⟩
end
/-! isinstance(y, c), y a kept exception -/
def rIsK (K : PySem.W.Frag) : List V → Hp → VK → Prop := fun xs H Q => ∃ (a D : Addr) (c : V) (cv : Value) (b : Bool), xs = [.ref a, c] ∧ H a = some (exK (.ref D) none a) ∧ ExcC K D ∧ ClsV c cv ∧ PySem.W.kitOne K (.ref D) cv = some b ∧ Q (.bl b) H
theorem call_isK {X : Cx} : CallR X (.builtin "isinstance") (rIsK X.K) := by
  intro pins s σ H xs us Q I r h
  obtain ⟨a, D, c, cv, b, rfl, ha, C, hcv, e, q⟩ := h
  obtain ⟨u1, u2, rfl, r1, r2⟩ := vals2 r
  obtain rfl : u1 = Value.ref a := r1
  obtain rfl := hcv.eq r2
  obtain ⟨⟨oe, vs, hget, hz, hv⟩, _, _⟩ := I.hok a _ ha
  have J : PySem.W.InstAt s.heap a oe D none := by
    obtain ⟨oc, od, oda, osl⟩ := oe
    obtain ⟨h1, h2⟩ := hz
    dsimp only at h1 h2 hv
    subst h1 h2 hv
    exact ⟨hget, rfl, rfl, trivial⟩
  exact PySem.W.kia_one (PySem.W.handS_kitx_exc C.hg C.hk C.hs C.hd C.ha C.hn C.ht C.hm) I.kIn J e (fun z => nomatch z) fun tk => ⟨.bl b, H, I.tok tk, rfl, q⟩
end M35

/-! ## text S5 -/
set_option maxHeartbeats 4000000
namespace M35
open PySem PySem.Spec PyProof.Rows L2
/-! zip(a tuple, a text) in a for -/
def Itts (K : PySem.W.Frag) (a : Addr) (z : Str) : It :=
  ⟨fun i H => ∃ (xs : List V) (x : V), SqT K H a xs ∧ xs[i]? = some x ∧ i < z.cps.size,
    fun i H v H' => ∃ T x c, v = .ref T ∧ H T = none ∧ H' = upd H T (.tup [x, .str ⟨#[c]⟩]) ∧ (∀ xs, SqT K H a xs → xs[i]? = some x) ∧ z.cps[i]? = some c,
    fun i H => ∃ xs : List V, SqT K H a xs ∧ i ≤ xs.length ∧ i ≤ z.cps.size ∧ (i = xs.length ∨ i = z.cps.size)⟩
/-- where the five records of such a zip lie -/
structure Zts (z TI TO i1 i2 a : Addr) : Prop where
  s : ZipSep2 z TI TO i1 i2 [i1, a] [i2]
  az : a ≠ z
  aTI : a ≠ TI
  aTO : a ≠ TO
  a1 : a ≠ i1
  a2 : a ≠ i2
theorem zts_apart (n a : Nat) (h : a < n) : Zts (n + 4) (n + 2) (n + 3) n (n + 1) a := by
  have e1 : ∀ {p q : Nat}, p < q → ¬ p = q := fun h => Nat.ne_of_lt h
  have e2 : ∀ {p q : Nat}, q < p → ¬ p = q := fun h => Nat.ne_of_gt h
  refine ⟨⟨e1 (by omega), e1 (by omega), e1 (by omega), e2 (by omega), by simp, ?_, ?_, e2 (by omega), by simp, ?_, ?_, ?_, ?_⟩, e1 (by omega), e1 (by omega), e1 (by omega), e1 (by omega), e1 (by omega)⟩ <;>
    (simp only [List.mem_cons, List.not_mem_nil, or_false, not_or]; first | exact ⟨e2 (by omega), e2 (by omega)⟩ | exact e2 (by omega) | exact e1 (by omega))
theorem turn_zipTS {P : Program} {w : World} {K : PySem.W.Frag} {elts : List Expr} {kk : Nat} {tpos : Pos} {a z TI TO i1 i2 : Addr} {x : Str} {t : Tok} (D : Zts z TI TO i1 i2 a) :
    Turn P w K (.Tuple elts kk tpos) (Itts K a x) [z, TI, TO, i1, i2] z (fun i h => IsZip h z TI TO .none ∧ IsTupOf2 h TI (.ref i1) (.ref i2) ∧ (∃ y1 y2, IsTupOf2 h TO y1 y2) ∧ h.IsTupleIter i1 a i ∧ h.IsStrIter i2 (strIterType x) x t i) where
  mem := by simp
  obj := fun i h st c hc => by
    obtain ⟨hz, hTI, ⟨y1, y2, hTO⟩, ⟨o1, e1, _, d1⟩, ⟨o2, e2, _, d2⟩⟩ := st
    have e' : c = z ∨ c = TI ∨ c = TO ∨ c = i1 ∨ c = i2 := by simpa using hc
    rcases e' with q | q | q | q | q
    · rw [q]; exact ⟨_, hz, fun v q => nomatch q⟩
    · rw [q]; exact ⟨_, hTI, fun v q => nomatch q⟩
    · rw [q]; exact ⟨_, hTO, fun v q => nomatch q⟩
    · rw [q]; exact ⟨o1, e1, fun v q => by rw [d1] at q; cases q⟩
    · rw [q]; exact ⟨o2, e2, fun v q => by rw [d2] at q; cases q⟩
  keep := fun i h h' st k => by
    obtain ⟨hz, hTI, ⟨y1, y2, hTO⟩, h1, h2⟩ := st
    exact ⟨k z (by simp) _ hz, k TI (by simp) _ hTI, ⟨y1, y2, k TO (by simp) _ hTO⟩, h1.at fun o q => k i1 (by simp) o q, let ⟨o, ho, r⟩ := h2; ⟨o, k i2 (by simp) o ho, r⟩⟩
  item := by
    intro X hP hw hK hc i pins s σ H E I hf st hg
    subst hP hw hK
    obtain ⟨hz, hTI, ⟨y1, y2, hTO⟩, h1, h2⟩ := st
    obtain ⟨xs, v, hq, hx, hlt⟩ := hg
    obtain ⟨its, rv, tup, _⟩ := I.tuple hq
    obtain ⟨u, hu, ru⟩ := rv.get hx
    have hzl : z < s.heap.objs.size := Heap.lt_size hz
    have hin : X.A.in1.handled = none := I.ok.hd hc
    have hil : i < its.toArray.size := by
      have z1 := (List.getElem?_eq_some_iff.mp hu).1
      simpa using z1
    refine wpAny_pyNext_zipD2_item (prog := X.prog) (w := X.w) (A := X.A) D.s (Draws.tuple hin i1 a D.a1 its.toArray) (Draws.text hin i2 x t) hz hTI hTO ⟨h1, (show s.heap.IsTuple a its.toArray from tup)⟩ h2 hil hlt fun x1 x2 h' tk p1 p2 z' TO' st1 st2 hT hsz hk => ?_
    obtain ⟨c, tc, hc2, rfl⟩ := p2
    have ex1 : x1 = u := by
      have q1 : its[i]? = some x1 := by simpa using p1
      rw [hu] at q1
      exact (Option.some.inj q1).symm
    subst ex1
    refine ⟨_, rfl, wpAny_letOwnedTupleGo_zip (s := { s with heap := h', toks := tk }) z' fun h'' z'' sb => ?_⟩
    have hT2 : h''.get? s.heap.objs.size = some { cls := .type "tuple", data := .seq #[x1, .str ⟨#[c]⟩ tc] } := (sb.2 _ (Nat.ne_of_gt hzl)).trans hT
    have new : ObjOk X.prog X.w (upd H s.heap.objs.size (.tup [v, .str ⟨#[c]⟩])) h'' s.heap.objs.size (.tup [v, .str ⟨#[c]⟩]) :=
      ⟨by show 2 ≤ sizeLine; decide, [x1, .str ⟨#[c]⟩ tc], .cons ru (.cons ⟨tc, rfl⟩ .nil), ⟨_, hT2, rfl, _, rfl⟩⟩
    have I1 : Inv X pins σ (upd H s.heap.objs.size (.tup [v, .str ⟨#[c]⟩])) { s with heap := h'', toks := tk } :=
      I.turnedNew (t' := tk) (ch := [z, TI, TO, i1, i2]) (fun b o hb q => (sb.2 b (fun q' => hb (by simp [q']))).trans (hk b o (fun q' => hb (by simp [q'])) (fun q' => hb (by simp [q'])) (fun q' => hb (by simp [q'])) (fun q' => hb (by simp [q'])) q)) hf (Nat.le_refl _) new
    refine ⟨.ref s.heap.objs.size, _, I1, rfl, ⟨_, v, c, rfl, I.hok.fresh (Nat.le_refl _), rfl, fun l hl => by rw [I.tuple_inj hl hq]; exact hx, hc2⟩, ⟨z'', ?_, ⟨x1, .str ⟨#[c]⟩ tc, ?_⟩, ?_, ?_⟩, fun b hb => ?_⟩
    · exact (sb.2 _ D.s.TIz).trans (hk _ _ D.s.TIz D.s.TITO D.s.TIi1 D.s.TIi2 hTI)
    · exact (sb.2 _ D.s.TOz).trans TO'
    · exact st1.1.at fun o q => (sb.2 _ (Ne.symm D.s.zi1)).trans q
    · obtain ⟨o, ho, r⟩ := st2
      exact ⟨o, (sb.2 _ (Ne.symm D.s.zi2)).trans ho, r⟩
    · have hlt2 : b < s.heap.objs.size := by
        have e' : b = z ∨ b = TI ∨ b = TO ∨ b = i1 ∨ b = i2 := by simpa using hb
        rcases e' with q | q | q | q | q
        · rw [q]; exact hzl
        · rw [q]; exact Heap.lt_size hTI
        · rw [q]; exact Heap.lt_size hTO
        · rw [q]; obtain ⟨_, e1, _⟩ := h1; exact Heap.lt_size e1
        · rw [q]; obtain ⟨_, e2, _⟩ := h2; exact Heap.lt_size e2
      rw [upd_ne (Nat.ne_of_lt hlt2)]
      exact (hf b hb).1
  done := by
    intro X hP hw hK hc i pins s σ H E I hf st hg
    subst hP hw hK
    obtain ⟨hz, hTI, ⟨y1, y2, hTO⟩, h1, h2⟩ := st
    obtain ⟨xs, hq, l1, l2, hend⟩ := hg
    obtain ⟨its, rv, tup, _⟩ := I.tuple hq
    have hin : X.A.in1.handled = none := I.ok.hd hc
    have hl := rv.length
    have es : its.toArray.size = its.length := by simp
    exact wpAny_pyNext_zipD2_end (prog := X.prog) (w := X.w) (A := X.A) D.s (Draws.tuple hin i1 a D.a1 its.toArray) (Draws.text hin i2 x t) hz hTI hTO ⟨h1, (show s.heap.IsTuple a its.toArray from tup)⟩ h2 (by omega) l2 (by omega) fun h' tk hk => ⟨rfl, I.turnedL (t' := tk) (ch := [z, TI, TO, i1, i2]) (fun b o hb q =>
      hk b o (fun q' => hb (by simp [q'])) (fun q' => hb (by simp [q'])) (fun q' => hb (by simp [q'])) (fun q' => hb (by simp [q'])) q) hf⟩
  self := fun A i s Q E st h => wpAny_pyIter_zip st.1 h
def iZts (K : PySem.W.Frag) (ta : TA) : TI := fun σ H R => ta σ H fun vs H1 => ∃ a xs z, vs = [.ref a, .str z] ∧ SqT K H1 a xs ∧ R (Itts K a z) H1
theorem pi_zts {X : Cx} {e e2 : Expr} {ta : TA} {p pos tpos : Pos} {elts : List Expr} {kk : Nat} (hg : Gl X "zip") (hm : X.mg "zip" = none) (ha : PA X [e, e2] ta)
    (hs : starEach [e, e2] X.env = (false, eval e X.env) :: starEach [e2] X.env := by rfl) (hpl : (backTo pos (starEach [e2] X.env)).any (·.1) = false := by rfl) :
    PI X (.Tuple elts kk tpos) (.Call (.Name "zip" p) [e, e2] [] pos) (iZts X.K ta) := by
  refine ⟨fun pins s σ H R I h => ?_⟩
  refine Call_ (ld_blt I hg hm PyProof.Rows.boot_zip (PyProof.Rows.callWith_type1 (thn (ha.run pos pins s σ H _ I h) fun us s1 hh => ?_) hs hpl))
  obtain ⟨vs, H1, I1, r1, a, xs, z, ex, hq, hR⟩ := hh
  subst ex
  obtain ⟨u1, u2, rfl, q1, q2⟩ := vals2 r1
  obtain rfl : u1 = Value.ref a := q1
  obtain ⟨t, rfl⟩ := q2
  obtain ⟨its, rv, tup, _⟩ := I1.tuple hq
  obtain ⟨oa, hoa, _⟩ := id tup
  have la : a < s1.heap.objs.size := Heap.lt_size hoa
  refine zip_begins2 (begins_tuple a its.toArray) (begins_text z t) (show s1.heap.IsTuple a its.toArray from tup) trivial fun h' hz hTI hTO h1 h2 hsz hk => wpAny_pyIter_zip hz ?_
  have I2 : Inv X pins σ H1 { s1 with heap := h' } := I1.kept (t' := s1.toks) hk
  have fr : ∀ b, b ∈ [s1.heap.objs.size + 4, s1.heap.objs.size + 2, s1.heap.objs.size + 3, s1.heap.objs.size, s1.heap.objs.size + 1] → FpOk X pins H1 b := fun b hb => by
    have hle : s1.heap.objs.size ≤ b := by
      simp only [List.mem_cons, List.not_mem_nil, or_false] at hb
      rcases hb with q | q | q | q | q <;> (rw [q]; first | exact Nat.le_add_right _ _ | exact Nat.le_refl _)
    exact I1.fpOk hle (I1.hok.fresh hle)
  have sep : Zts (s1.heap.objs.size + 4) (s1.heap.objs.size + 2) (s1.heap.objs.size + 3) s1.heap.objs.size (s1.heap.objs.size + 1) a := zts_apart _ _ la
  exact ⟨s1.heap.objs.size + 4, [s1.heap.objs.size + 4, s1.heap.objs.size + 2, s1.heap.objs.size + 3, s1.heap.objs.size, s1.heap.objs.size + 1], _, _, H1, rfl, I2, turn_zipTS (t := t) sep, ⟨hz, hTI, ⟨_, _, hTO⟩, ⟨_, h1, rfl, rfl⟩, ⟨_, h2, rfl, rfl⟩⟩, fr, hR⟩
theorem walk_zts {K : PySem.W.Frag} {a : Addr} {xs : List V} {z : Str} (hl : xs.length = z.cps.size) : Walk (Itts K a z) xs.length (fun H => SqT K H a xs) (YPair (fun i => xs[i]?) (fun i => z.cps[i]?.map fun c => V.str ⟨#[c]⟩)) := by
  refine ⟨fun i H hi q => ⟨xs, xs[i], q, by simp [hi], by omega⟩, fun H q => ⟨xs, q, Nat.le_refl _, by omega, .inl rfl⟩, fun i H v H' hi q y => ?_⟩
  obtain ⟨T, x, c, h1, h2, h3, h4, h5⟩ := y
  exact ⟨T, x, .str ⟨#[c]⟩, h1, h2, h3, h4 xs q, by simp [h5]⟩
end M35

/-! ## text S6 -/
set_option maxHeartbeats 4000000
namespace M35
open PySem PySem.Spec PyProof.Rows L2
/-! methods by Ok; in a try; where an exception is handled -/
/-- what a method's call looks like -/
abbrev MCall (X : Cx) (o : Expr) (m : Str) (apos pos : Pos) (es : List Expr) (pl : Sem Bool) : Prop := eval (.Call (.Attribute o m apos) es [] pos) X.env = (do
      let ov ← eval o X.env
      standAt apos.atName
      let (f, first) ← holding [ov] (getMethod ov m pl)
      callWith pos f first (backTo pos (starEach es X.env)) (backToKw pos (keywordEach [] X.env)))
def tMethE (C : Addr) (m : Str) (sp : Sp) (E : L2.St → XK) (ta : TE) (t : TA) : TE := fun σ H Q => ta σ H fun x H1 => ∃ a dx fs, x = .ref a ∧ H1 a = some (.ins C dx fs) ∧ fs.lookup m = none ∧ t σ H1 fun vs H2 => sp (x :: vs) H2 Q (E σ)
section
variable {X : Cx} {CX : CXT} {k : Nat} {d : He.DefD} {ps : List Str} {sp : Sp} {E : XK} {ES : L2.St → XK} {x m : Str} {C : Addr} {p pos apos : Pos} {e o : Expr} {es : List Expr} {ta : TE} {t : TA} {pl : Sem Bool}
theorem pe_m (O : Ok X.prog X.w X.K X.mg X.base CX k d ps sp) (he : PE X o ta) (c : Cls X.K C) (hm : Meth X.K C m (He.fAd X.K d.at_)) (hr : Room k X.A) (hx : Passes CX X E) (ha : PA X (e :: es) t)
    (hst : starEach (e :: es) X.env = (false, eval e X.env) :: starEach es X.env := by rfl) (hpl : (backTo pos (starEach es X.env)).any (·.1) = false := by rfl) (ht : MCall X o m apos pos (e :: es) pl := by rfl) :
    PE X (.Call (.Attribute o m apos) (e :: es) [] pos) (tMeth C m sp [] E ta t) := pe_meth he c hm O.fn hr O.bd .nil hx ha hst hpl ht
theorem pe_m0 (O : Ok X.prog X.w X.K X.mg X.base CX k d ps sp) (he : PE X o ta) (c : Cls X.K C) (hm : Meth X.K C m (He.fAd X.K d.at_)) (hr : Room k X.A) (hx : Passes CX X E) (ht : MCall X o m apos pos [] pl := by rfl) :
    PE X (.Call (.Attribute o m apos) [] [] pos) (tMeth C m sp [] E ta tNil) := pe_meth0 he c hm O.fn hr O.bd .nil hx ht
theorem pe_mE (O : Ok X.prog X.w X.K X.mg X.base CX k d ps sp) (he : PE X o ta) (c : Cls X.K C) (hm : Meth X.K C m (He.fAd X.K d.at_)) (hr : Room k X.A) (hx : ∀ σ, PassesAt CX X σ (ES σ)) (ha : PA X (e :: es) t)
    (hst : starEach (e :: es) X.env = (false, eval e X.env) :: starEach es X.env := by rfl) (hpl : (backTo pos (starEach es X.env)).any (·.1) = false := by rfl) (ht : MCall X o m apos pos (e :: es) pl := by rfl) :
    PE X (.Call (.Attribute o m apos) (e :: es) [] pos) (tMethE C m sp ES ta t) := by
  refine ⟨fun pins s σ H Q I h => ?_⟩
  refine PySem.W.methodCall_KW (pl := pl) (thn (he.run pins s σ H _ I h) fun u s1 hh => ?_) ht
  obtain ⟨y, H1, I1, ry, a, dx, fs, ey, ea, l, q⟩ := hh
  subst ey
  obtain rfl : u = Value.ref a := ry
  refine getmeth_ok I1 ea c hm l ?_
  refine PySem.W.callWith_K (first := [.ref a]) (h₀ := X.base) I.ok.mod.kin hm.kp (thn (ha.run pos pins s1 σ H1 _ I1 q) fun us s2 hz => ?_) hst hpl
  obtain ⟨vs, H2, I2, r, q2⟩ := hz
  exact ⟨I2.kIn, run_fnS (us := .ref a :: us) (vs := .ref a :: vs) O.fn hr O.bd (hx σ) I2 (.cons rfl r) q2⟩
end
/-- a def that may be called where an exception is handled -/
structure OkH (P : Program) (w : World) (K : PySem.W.Frag) (mg : Str → Option Value) (base : Heap) (k : Nat) (d : He.DefD) (ps : List Str) (sp : Sp) : Prop where
  fn : L2H.FnH P w K mg base CX0 k (He.fAd K d.at_) (fdOf K d.at_) ps sp
  bd : Binds K (fdOf K d.at_) ps []
  kp : PySem.W.keepIn K (.ref (He.fAd K d.at_)) = true
section
variable {P : Program} {w : World} {K : PySem.W.Frag} {mg : Str → Option Value} {base : Heap} {d : He.DefD}
theorem okH_mk {N ps : List Str} {k : Nat} {sp : Sp} (F : FunT K d) (S : FnScope N ps d.scope) (hd : d.dfl = [])
    (hb : ∀ (kV doc pm : Value) (an : Option Addr) (cdv ct : Value) (us : List Value), us.length = ps.length → bindArgs (PySem.W.fnOf d.name d.qual d.params d.body d.scope .none kV doc pm an cdv ct) ⟨us, []⟩ = pure (ps.zip us))
    (len : ∀ vs H Q E, sp vs H Q E → vs.length = ps.length)
    (hbody : ∀ (cdv : Value) (A : Around) (outer : List Env) (s : Shared) (H : Hp) (vs : List V) (Q : VK) (E : XK) (p : Addr × Obj), L2H.Hot1 A p → L2H.RoomH k (A.deeper (envOfC d.qual d.scope s.heap.objs.size (He.fAd K d.at_) cdv)) → sp vs H Q E →
      ∃ t, PSs (L2H.cxH CX0 P w K mg base N d.qual d.scope (He.fAd K d.at_) cdv A outer s H E p).nox d.body t ∧ t { nx := fun _ H' => Q .non H', rt := Q } (start N vs) H) : OkH P w K mg base (k + 1) d ps sp := by
  have F2 : FunD K d.name d.qual d.params d.body d.scope [] (d.kws K) (He.fAd K d.at_) (fdOf K d.at_) := by
    have z : d.dvs K = [] := by
      unfold He.DefD.dvs
      rw [hd]
      rfl
    rw [← z]
    exact F
  refine ⟨?_, F2.bindsN hb, F.kp⟩
  obtain ⟨oc, od, dV, kV, doc, pm, an, cdv, ct, osl, e, lk, hcd, _, _⟩ := F2.ex
  rw [e]
  rw [e] at lk
  exact L2H.fn_ofH lk hcd S len fun A outer s H vs Q E p hot hr hsp => let ⟨t, h1, h2⟩ := hbody cdv A outer s H vs Q E p hot hr hsp; ⟨t, h1.nox, h2⟩
end
section
variable {X : Cx} {k : Nat} {d : He.DefD} {ps : List Str} {sp : Sp} {x m : Str} {C : Addr} {p pos apos : Pos} {e o : Expr} {es : List Expr} {ta : TE} {t : TA} {pl : Sem Bool}
theorem passH {σ : L2.St} : PassesAt CX0 X σ E0 := fun _ _ _ _ _ _ h => h.elim
theorem pe_cH (O : OkH X.prog X.w X.K X.mg X.base k d ps sp) (hr : L2H.RoomH k X.A) (hc : L2H.HotC X) (hg : Gl X x) (hm : X.mg x = some (.ref (He.fAd X.K d.at_))) (ha : PA X (e :: es) t)
    (hdb : (x == ("__debug__" : Str)) = false := by decide) (he : starEach (e :: es) X.env = (false, eval e X.env) :: starEach es X.env := by rfl) (hpl : (backTo pos (starEach es X.env)).any (·.1) = false := by rfl) :
    PE X (.Call (.Name x p) (e :: es) [] pos) (tCallS sp (fun _ => E0) t) := L2H.pe_callH O.fn hr hc hg hm O.kp O.bd (fun _ => passH) ha hdb he hpl
theorem pe_mH (O : OkH X.prog X.w X.K X.mg X.base k d ps sp) (he : PE X o ta) (c : Cls X.K C) (hm : Meth X.K C m (He.fAd X.K d.at_)) (hr : L2H.RoomH k X.A) (hc : L2H.HotC X) (ha : PA X (e :: es) t)
    (hst : starEach (e :: es) X.env = (false, eval e X.env) :: starEach es X.env := by rfl) (hpl : (backTo pos (starEach es X.env)).any (·.1) = false := by rfl) (ht : MCall X o m apos pos (e :: es) pl := by rfl) :
    PE X (.Call (.Attribute o m apos) (e :: es) [] pos) (L2H.tMethH C m sp (fun _ => E0) ta t) := L2H.pe_methH he c hm O.fn hr hc O.bd (fun _ => passH) ha hst hpl ht
end
/-- what a def that may raise lets out, and takes from its callees -/
theorem takesN {P : Program} {w : World} {K : PySem.W.Frag} {mg : Str → Option Value} {base : Heap} {N : List Str} {qual : Str} {scope : Scope} {f : Addr} {cd : Value} {A : Around} {outer : List Env} {s : Shared} {H : Hp} {E : XK} :
    L2N.Takes (cxOf (L2N.CX P w) P w K mg base N qual scope f cd A outer s H E) (fun cls d _ H => E cls d H) := L2N.takes_of rfl rfl rfl rfl
theorem passN {P : Program} {w : World} {K : PySem.W.Frag} {mg : Str → Option Value} {base : Heap} {N : List Str} {qual : Str} {scope : Scope} {f : Addr} {cd : Value} {A : Around} {outer : List Env} {s : Shared} {H : Hp} {E : XK} :
    Passes (L2N.CX P w) (cxOf (L2N.CX P w) P w K mg base N qual scope f cd A outer s H E) E := L2N.passes_call takesN fun _ _ _ _ h => h
end M35

/-! ## text M0 -/
set_option maxHeartbeats 4000000
namespace M35
open PySem L2
/-! # the mirror: what the machine computes, in plain Lean -/
abbrev Pg := List (Option (List Int))
/-- two to the 48th -/
def W48 : Int := 281474976710656
def isW (x : Int) : Prop := 0 ≤ x ∧ x < W48
structure Flt where
  kind : Str
  place : Int
  level : Int
def pgAt (pg : Pg) (x : Int) : Option (List Int) := if 0 ≤ x ∧ x < (pg.length : Int) then pg.getD x.toNat none else none
def hasP (pg : Pg) (x : Int) : Bool := (pgAt pg x).isSome
def rd (pg : Pg) (x c : Int) : Int := ((pgAt pg x).getD []).getD c.toNat 0
def wr (pg : Pg) (x c v : Int) : Pg := pg.set x.toNat (some (((pgAt pg x).getD []).set c.toNat v))
def bits (row m : Int) : Bool := Builtin.bitAnd row m == m
def pageOf (row : Int) : Int := row / 256
def lookBy (pg : Pg) (row place level : Int) (write kernel : Bool) : Except Flt Int :=
  if bits row 1 = true then
    if hasP pg (pageOf row) = true then
      if (bits row 4 && !kernel) = true then .error ⟨"kernel", place, level⟩
      else if (write && !bits row 2) = true then .error ⟨"fixed", place, level⟩
      else .ok (pageOf row)
    else .error ⟨"beyond", place, level⟩
  else .error ⟨"absent", place, level⟩
def rightsOf (high low : Int) : Int := Builtin.bitOr (Builtin.bitOr (Builtin.bitAnd (Builtin.bitAnd high low) 2) (Builtin.bitAnd (Builtin.bitOr high low) 4)) (Builtin.bitAnd low 16)
structure Trail where
  root : Int
  outer : Int
  table : Int
  inner : Int
  page : Int
  rights : Int
def look (pg : Pg) (root place : Int) (write kernel : Bool) : Except Flt Trail :=
  if place > 511 then .error ⟨"far", place, 0⟩
  else if hasP pg root = true then
    match lookBy pg (rd pg root (place / 8 / 8)) place 1 write kernel with
    | .error f => .error f
    | .ok table =>
      match lookBy pg (rd pg table (place / 8 % 8)) place 2 write kernel with
      | .error f => .error f
      | .ok page => .ok ⟨root, place / 8 / 8, table, place / 8 % 8, page, rightsOf (rd pg root (place / 8 / 8)) (rd pg table (place / 8 % 8))⟩
  else .error ⟨"beyond", place, 0⟩
def stamp (pg : Pg) (x c m : Int) : Pg := if bits (rd pg x c) m = true then pg else wr pg x c (Builtin.bitOr (rd pg x c) m)
def mTS0 : Int := Builtin.bitOr 8 16
def mWS0 : Int := Builtin.bitOr 2 16
def markP (pg : Pg) (t : Trail) (write : Bool) : Pg := stamp (stamp pg t.root t.outer 8) t.table t.inner (if write = true then mTS0 else 8)
def markR (t : Trail) (write : Bool) : Int := if write = true then Builtin.bitOr t.rights 16 else t.rights
def letsB (r : Int) (write kernel : Bool) : Bool := if (bits r 4 && !kernel) = true then false else (!write || bits r mWS0)
abbrev Row := Int × Int × Int
def seat (l : List Row) (n : Int) : Nat := l.findIdx fun r => r.1 == n
def shSeek (l : List Row) (n : Int) : Option (Int × Int) := l[seat l n]?.map (·.2)
def shKeep (most : Int) (l : List Row) (n p r : Int) : List Row :=
  if seat l n < l.length then l.set (seat l n) (n, p, r) else if ((l ++ [(n, p, r)]).length : Int) ≤ most then l ++ [(n, p, r)] else (l ++ [(n, p, r)]).eraseIdx 0
def shDrop (l : List Row) (n : Int) : List Row := l.eraseIdx (seat l n)
/-- a way -/
structure Wy where
  pages : Pg
  base : Int
  line : List Row
  heard : Nat
def onShelf (W : Wy) (place : Int) (write kernel : Bool) : Option Int :=
  if place ≥ 512 then none else match shSeek W.line (place / 8) with
  | none => none
  | some q => if (hasP W.pages q.1 && letsB q.2 write kernel) = true then some q.1 else none
def reach (most : Int) (W : Wy) (place : Int) (write kernel : Bool) : Except Flt (Int × Wy) := match onShelf W place write kernel with
  | some p => .ok (p, W)
  | none => match look W.pages W.base place write kernel with
    | .error f => .error f
    | .ok t => .ok (t.page, { W with pages := markP W.pages t write, line := shKeep most W.line (place / 8) t.page (markR t write) })
def wload (most : Int) (W : Wy) (place : Int) (kernel : Bool) : Except Flt (Int × Wy) := match reach most W place false kernel with
  | .error f => .error f
  | .ok (p, W1) => .ok (rd W1.pages p (place % 8), W1)
def wsave (most : Int) (W : Wy) (place word : Int) (kernel : Bool) : Except Flt Wy := match reach most W place true kernel with
  | .error f => .error f
  | .ok (p, W1) => .ok { W1 with pages := wr W1.pages p (place % 8) word }
def wpeek (W : Wy) (spot : Int) : Except Flt Int := if hasP W.pages (spot / 8) = true then .ok (rd W.pages (spot / 8) (spot % 8)) else .error ⟨"beyond", spot, 0⟩
def wpoke (W : Wy) (spot word : Int) : Except Flt Wy := if hasP W.pages (spot / 8) = true then .ok { W with pages := wr W.pages (spot / 8) (spot % 8) word } else .error ⟨"beyond", spot, 0⟩
def wroot (W : Wy) (r : Int) : Wy := { W with base := r, line := [] }
def wdrop (W : Wy) (place : Int) : Wy := if place < 512 then { W with line := shDrop W.line (place / 8) } else W
def wgive (W : Wy) (page : Int) : Bool × Wy := if hasP W.pages page = true then (true, { W with pages := W.pages.set page.toNat none }) else (false, W)
def zeros : List Int := List.replicate 8 0
def wwant (replies : List Bool) (W : Wy) (page : Int) : Bool × Wy :=
  if page ≥ (W.pages.length : Int) then (false, W)
  else if hasP W.pages page = true then (false, W)
  else if W.heard = replies.length then (false, W)
  else if replies.getD W.heard false = true then (true, { W with pages := W.pages.set page.toNat (some zeros), heard := W.heard + 1 })
  else (false, { W with heard := W.heard + 1 })
/-! the rows of a program -/
inductive Ord where
  | set (a w : Int) | add (a b : Int) | load (a b : Int) | save (a b : Int) | peek (a b : Int) | poke (a b : Int) | why (a b : Int)
  | tell (a : Int) | root (a : Int) | drop (a : Int) | give (a : Int) | want (a : Int)
  | call | halt | past | jump (t : Int) | user (t : Int) | nought (a t : Int)
def Ord.vs : Ord → List V
  | .set a w => [.str "set", .int a, .int w] | .add a b => [.str "add", .int a, .int b] | .load a b => [.str "load", .int a, .int b] | .save a b => [.str "save", .int a, .int b]
  | .peek a b => [.str "peek", .int a, .int b] | .poke a b => [.str "poke", .int a, .int b] | .why a b => [.str "why", .int a, .int b]
  | .tell a => [.str "tell", .int a] | .root a => [.str "root", .int a] | .drop a => [.str "drop", .int a] | .give a => [.str "give", .int a] | .want a => [.str "want", .int a]
  | .call => [.str "call"] | .halt => [.str "halt"] | .past => [.str "past"] | .jump t => [.str "jump", .int t] | .user t => [.str "user", .int t] | .nought a t => [.str "nought", .int a, .int t]
def isR (a : Int) : Prop := 0 ≤ a ∧ a < 4
def isT (t : Int) : Prop := 0 ≤ t ∧ t ≤ 60
def Ord.good : Ord → Prop
  | .set a w => isR a ∧ isW w
  | .add a b | .load a b | .save a b | .peek a b | .poke a b | .why a b => isR a ∧ isR b
  | .tell a | .root a | .drop a | .give a | .want a => isR a
  | .call | .halt | .past => True
  | .jump t | .user t => isT t
  | .nought a t => isR a ∧ isT t
inductive Ev where
  | told (w : Int)
  | fault (kind : Str) (place level counter : Int)
def Ev.vs : Ev → List V
  | .told w => [.str "told", .int w]
  | .fault k p l c => [.str "fault", .str k, .int p, .int l, .int c]
structure Mc where
  cells : List Int
  counter : Int
  ruling : Bool
  fallen : Int × Int × Int × Bool
  stopped : Bool
  notes : List Ev
structure Cfg where
  most : Int
  replies : List Bool
  orders : List Ord
  door : Int
def Mc.get (M : Mc) (a : Int) : Int := M.cells.getD a.toNat 0
def Mc.put (M : Mc) (a v : Int) : Mc := { M with cells := M.cells.set a.toNat v }
def Mc.nxt (M : Mc) : Mc := { M with counter := M.counter + 1 }
def b2n (b : Bool) : Int := if b = true then 1 else 0
def Ord.inner : Ord → Bool
  | .peek .. | .poke .. | .root .. | .drop .. | .give .. | .want .. | .why .. | .past | .user .. => true
  | _ => false
/-- a row that tells where to go on -/
def goOrd (M : Mc) : Ord → Except Flt Mc
  | .call => .error ⟨"call", 0, 0⟩
  | .halt => .ok { M with stopped := true }
  | .jump t => .ok { M with counter := t }
  | .user t => .ok { M with ruling := false, counter := t }
  | .nought a t => .ok { M with counter := if M.get a = 0 then t else M.counter + 1 }
  | _ => .ok { M with counter := M.fallen.2.2.1 + 1, ruling := M.fallen.2.2.2 }
def reckon (M : Mc) : Ord → Mc
  | .set a w => M.put a w
  | .tell a => { M with notes := M.notes ++ [.told (M.get a)] }
  | .add a b => M.put a ((M.get a + M.get b) % W48)
  | .why a b => (M.put a M.fallen.1).put b M.fallen.2.1
  | _ => M
def carry (c : Cfg) (M : Mc) (W : Wy) : Ord → Except Flt (Mc × Wy)
  | .load a b => match wload c.most W (M.get b) M.ruling with
    | .error f => .error f
    | .ok (v, W1) => .ok (M.put a v, W1)
  | .save a b => match wsave c.most W (M.get b) (M.get a) M.ruling with
    | .error f => .error f
    | .ok W1 => .ok (M, W1)
  | .peek a b => match wpeek W (M.get b) with
    | .error f => .error f
    | .ok v => .ok (M.put a v, W)
  | .poke a b => match wpoke W (M.get b) (M.get a) with
    | .error f => .error f
    | .ok W1 => .ok (M, W1)
  | _ => .ok (M, W)
def tellWay (c : Cfg) (M : Mc) (W : Wy) : Ord → Mc × Wy
  | .root a => (M, wroot W (M.get a))
  | .drop a => (M, wdrop W (M.get a))
  | .give a => (M.put a (b2n (wgive W (M.get a)).1), (wgive W (M.get a)).2)
  | .want a => (M.put a (b2n (wwant c.replies W (M.get a)).1), (wwant c.replies W (M.get a)).2)
  | _ => (M, W)
def Ord.isGo : Ord → Bool
  | .jump .. | .nought .. | .user .. | .past | .halt | .call => true
  | _ => false
def Ord.isReck : Ord → Bool
  | .set .. | .add .. | .tell .. | .why .. => true
  | _ => false
def Ord.isCarry : Ord → Bool
  | .load .. | .save .. | .peek .. | .poke .. => true
  | _ => false
def doOrd (c : Cfg) (M : Mc) (W : Wy) (o : Ord) : Except Flt (Mc × Wy) :=
  if (o.inner && !M.ruling) = true then .error ⟨"deed", 0, 0⟩
  else if o.isGo = true then (match goOrd M o with
    | .error f => .error f
    | .ok M1 => .ok (M1, W))
  else if o.isReck = true then .ok ((reckon M o).nxt, W)
  else if o.isCarry = true then (match carry c M W o with
    | .error f => .error f
    | .ok (M1, W1) => .ok (M1.nxt, W1))
  else .ok ((tellWay c M W o).1.nxt, (tellWay c M W o).2)
def kindsL : List Str := ["far", "absent", "beyond", "kernel", "fixed", "deed", "call"]
def kindNum (k : Str) : Int := (kindsL.findIdx (fun x => x == k) : Int) + 1
def fall (door : Int) (M : Mc) (f : Flt) : Mc := { M with notes := M.notes ++ [.fault f.kind f.place f.level M.counter], fallen := (kindNum f.kind, f.place, M.counter, M.ruling), ruling := true, counter := door }
def fin (n : Nat) (M : Mc) : Mc := if M.counter ≥ (n : Int) then { M with stopped := true } else M
def step (c : Cfg) (s : Mc × Wy) : Mc × Wy := match c.orders[s.1.counter.toNat]? with
  | none => s
  | some o => match doOrd c s.1 s.2 o with
    | .ok (M1, W1) => (fin c.orders.length M1, W1)
    | .error f => (fin c.orders.length (fall c.door s.1 f), s.2)
def run (c : Cfg) : Nat → Mc × Wy → Nat × (Mc × Wy)
  | 0, s => (0, s)
  | n + 1, s => if s.1.stopped = true then (0, s) else ((run c n (step c s)).1 + 1, (run c n (step c s)).2)
/-! # the law of turns, in plain Lean -/
theorem run_stop (c : Cfg) (n : Nat) {s : Mc × Wy} (h : s.1.stopped = true) : run c n s = (0, s) := by
  cases n with
  | zero => rfl
  | succ n => simp [run, h]
theorem run_add (c : Cfg) : ∀ (a b : Nat) (s : Mc × Wy), run c (a + b) s = ((run c a s).1 + (run c b (run c a s).2).1, (run c b (run c a s).2).2)
  | 0, b, s => by simp [run]
  | a + 1, b, s => by
    by_cases h : s.1.stopped = true
    · rw [run_stop c _ h, run_stop c _ h, run_stop c _ h]
      rfl
    · have e : a + 1 + b = (a + b) + 1 := by omega
      have ih := run_add c a b (step c s)
      rw [e]
      simp only [run, h, if_false, Bool.false_eq_true]
      rw [ih]
      refine Prod.ext ?_ rfl
      show _ + _ + 1 = _ + 1 + _
      omega
theorem run_le (c : Cfg) : ∀ (a : Nat) (s : Mc × Wy), (run c a s).1 ≤ a
  | 0, s => by simp [run]
  | a + 1, s => by
    by_cases h : s.1.stopped = true
    · rw [run_stop c _ h]
      omega
    · have ih := run_le c a (step c s)
      simp only [run, h, if_false, Bool.false_eq_true]
      omega
theorem run_lt (c : Cfg) : ∀ (a : Nat) (s : Mc × Wy), (run c a s).1 < a → (run c a s).2.1.stopped = true
  | 0, s, h => by omega
  | a + 1, s, h => by
    by_cases hs : s.1.stopped = true
    · rw [run_stop c _ hs]
      exact hs
    · simp only [run, hs, if_false, Bool.false_eq_true] at h ⊢
      exact run_lt c a (step c s) (by omega)
end M35

/-! ## text M1 -/
set_option maxHeartbeats 4000000
namespace M35
open PySem L2
/-! # what stays well through the mirror -/
def gd (pg : Pg) : Prop := ∀ l, some l ∈ pg → l.length = 8 ∧ ∀ x ∈ l, isW x
theorem pgAt_some {pg : Pg} {x : Int} {l : List Int} (h : pgAt pg x = some l) : 0 ≤ x ∧ x < (pg.length : Int) ∧ pg[x.toNat]? = some (some l) := by
  unfold pgAt at h
  split at h
  · rename_i c
    refine ⟨c.1, c.2, ?_⟩
    have hl : x.toNat < pg.length := by omega
    rw [List.getD_eq_getElem?_getD, List.getElem?_eq_getElem hl] at h
    rw [List.getElem?_eq_getElem hl]
    simpa using h
  · cases h
theorem pgAt_of {pg : Pg} {x : Int} {o : Option (List Int)} (h0 : 0 ≤ x) (h : pg[x.toNat]? = some o) : pgAt pg x = o := by
  have hl : x.toNat < pg.length := (List.getElem?_eq_some_iff.mp h).1
  unfold pgAt
  rw [if_pos ⟨h0, by omega⟩, List.getD_eq_getElem?_getD, h]
  rfl
theorem hasP_ex {pg : Pg} {x : Int} (h : hasP pg x = true) : ∃ l, pgAt pg x = some l := Option.isSome_iff_exists.mp h
theorem hasP_of {pg : Pg} {x : Int} {l : List Int} (h : pgAt pg x = some l) : hasP pg x = true := by
  unfold hasP
  rw [h]
  rfl
theorem gd_at {pg : Pg} (g : gd pg) {x : Int} {l : List Int} (h : pgAt pg x = some l) : l.length = 8 ∧ ∀ y ∈ l, isW y := g l (List.mem_of_getElem? (pgAt_some h).2.2)
def isC (c : Int) : Prop := 0 ≤ c ∧ c < 8
theorem rd_at {pg : Pg} {x c : Int} {l : List Int} (h : pgAt pg x = some l) : rd pg x c = l.getD c.toNat 0 := by
  unfold rd
  rw [h]
  rfl
theorem rd_in {pg : Pg} (g : gd pg) {x c : Int} {l : List Int} (h : pgAt pg x = some l) (hc : isC c) : l[c.toNat]? = some (rd pg x c) := by
  have hl := (gd_at g h).1
  obtain ⟨c0, c8⟩ := hc
  have hc2 : c.toNat < l.length := by omega
  rw [rd_at h, List.getD_eq_getElem?_getD, List.getElem?_eq_getElem hc2]
  rfl
theorem rd_word {pg : Pg} (g : gd pg) {x c : Int} (h : hasP pg x = true) (hc : isC c) : isW (rd pg x c) := by
  obtain ⟨l, hl⟩ := hasP_ex h
  exact (gd_at g hl).2 _ (List.mem_of_getElem? (rd_in g hl hc))
theorem wr_at {pg : Pg} {x c v : Int} {l : List Int} (h : pgAt pg x = some l) : wr pg x c v = pg.set x.toNat (some (l.set c.toNat v)) := by
  unfold wr
  rw [h]
  rfl
theorem wr_len (pg : Pg) (x c v : Int) : (wr pg x c v).length = pg.length := by simp [wr]
theorem mem_set_of {α : Type} {l : List α} {i : Nat} {a b : α} (h : b ∈ l.set i a) : b ∈ l ∨ b = a := by
  rcases List.mem_or_eq_of_mem_set h with q | q
  · exact .inl q
  · exact .inr q
theorem gd_wr {pg : Pg} (g : gd pg) {x c v : Int} (h : hasP pg x = true) (hv : isW v) : gd (wr pg x c v) := by
  obtain ⟨l, hl⟩ := hasP_ex h
  rw [wr_at hl]
  intro l2 hm
  rcases mem_set_of hm with q | q
  · exact g l2 q
  · obtain rfl := Option.some.inj q
    obtain ⟨h1, h2⟩ := gd_at g hl
    refine ⟨by rw [List.length_set]; exact h1, fun y hy => ?_⟩
    rcases mem_set_of hy with q | q
    · exact h2 y q
    · rw [q]; exact hv
theorem hasP_set {pg : Pg} {x : Int} {l : List Int} (h0 : 0 ≤ x) (hx : x < (pg.length : Int)) {y : Int} (hy : hasP pg y = true) : hasP (pg.set x.toNat (some l)) y = true := by
  obtain ⟨l2, h2⟩ := hasP_ex hy
  obtain ⟨y0, y1, y2⟩ := pgAt_some h2
  by_cases e : x.toNat = y.toNat
  · refine hasP_of (l := l) (pgAt_of y0 ?_)
    rw [← e]
    exact List.getElem?_set_self (by omega)
  · refine hasP_of (l := l2) (pgAt_of y0 ?_)
    rw [List.getElem?_set_ne e]
    exact y2
theorem hasP_wr {pg : Pg} {x c v : Int} (h : hasP pg x = true) {y : Int} (hy : hasP pg y = true) : hasP (wr pg x c v) y = true := by
  obtain ⟨l, hl⟩ := hasP_ex h
  obtain ⟨x0, x1, x2⟩ := pgAt_some hl
  rw [wr_at hl]
  exact hasP_set x0 x1 hy
theorem or_w {a m : Int} (ha : isW a) (h0 : 0 ≤ m) (h1 : m < W48) : isW (Builtin.bitOr a m) := by
  obtain ⟨a0, a1⟩ := ha
  rw [Bits.bitOr_pp a0 h0]
  unfold W48 at a1 h1
  have l1 : a.toNat < 2 ^ 48 := by omega
  have l2 : m.toNat < 2 ^ 48 := by omega
  have l3 := Nat.or_lt_two_pow l1 l2
  exact ⟨by omega, by unfold W48; omega⟩
theorem mTS_eq : mTS0 = 24 := by decide +kernel
theorem mWS_eq : mWS0 = 18 := by decide +kernel
theorem gd_stamp {pg : Pg} (g : gd pg) {x c m : Int} (h : hasP pg x = true) (hc : isC c) (h0 : 0 ≤ m) (h1 : m < W48) : gd (stamp pg x c m) := by
  unfold stamp
  split
  · exact g
  · exact gd_wr g h (or_w (rd_word g h hc) h0 h1)
theorem stamp_len (pg : Pg) (x c m : Int) : (stamp pg x c m).length = pg.length := by
  unfold stamp
  split
  · rfl
  · exact wr_len ..
theorem hasP_stamp {pg : Pg} {x c m : Int} (h : hasP pg x = true) {y : Int} (hy : hasP pg y = true) : hasP (stamp pg x c m) y = true := by
  unfold stamp
  split
  · exact hy
  · exact hasP_wr h hy
theorem lookBy_ok {pg : Pg} {row place level : Int} {w k : Bool} {p : Int} (h : lookBy pg row place level w k = .ok p) : hasP pg p = true := by
  unfold lookBy at h
  split at h
  · split at h
    · rename_i hp
      split at h
      · cases h
      · split at h
        · cases h
        · cases h; exact hp
    · cases h
  · cases h
def goodF (f : Flt) : Prop := f.kind ∈ kindsL ∧ isW f.place
theorem lookBy_err {pg : Pg} {row place level : Int} {w k : Bool} {f : Flt} (hp : isW place) (h : lookBy pg row place level w k = .error f) : goodF f := by
  unfold lookBy at h
  split at h
  · split at h
    · split at h
      · cases h; exact ⟨by simp [kindsL], hp⟩
      · split at h
        · cases h; exact ⟨by simp [kindsL], hp⟩
        · cases h
    · cases h; exact ⟨by simp [kindsL], hp⟩
  · cases h; exact ⟨by simp [kindsL], hp⟩
/-- a trail that a walk tells -/
structure TrOk (pg : Pg) (t : Trail) : Prop where
  r : hasP pg t.root = true
  o : isC t.outer
  tb : hasP pg t.table = true
  i : isC t.inner
  p : hasP pg t.page = true
theorem look_ok {pg : Pg} {root place : Int} {w k : Bool} {t : Trail} (hp : isW place) (h : look pg root place w k = .ok t) : TrOk pg t := by
  obtain ⟨p0, p1⟩ := hp
  unfold look at h
  split at h
  · cases h
  · split at h
    · rename_i hr
      split at h
      · cases h
      · rename_i table ht
        split at h
        · cases h
        · rename_i page hg
          cases h
          exact ⟨hr, ⟨show 0 ≤ place / 8 / 8 by omega, show place / 8 / 8 < 8 by omega⟩, lookBy_ok ht, ⟨show 0 ≤ place / 8 % 8 by omega, show place / 8 % 8 < 8 by omega⟩, lookBy_ok hg⟩
    · cases h
theorem look_err {pg : Pg} {root place : Int} {w k : Bool} {f : Flt} (hp : isW place) (h : look pg root place w k = .error f) : goodF f := by
  unfold look at h
  split at h
  · cases h; exact ⟨by simp [kindsL], hp⟩
  · split at h
    · split at h
      · rename_i f2 hf
        cases h
        exact lookBy_err hp hf
      · split at h
        · rename_i f2 hf
          cases h
          exact lookBy_err hp hf
        · cases h
    · cases h; exact ⟨by simp [kindsL], hp⟩
theorem m8 : (0 : Int) ≤ 8 ∧ (8 : Int) < W48 := by unfold W48; omega
theorem mTS (w : Bool) : (0 : Int) ≤ (if w = true then mTS0 else 8) ∧ (if w = true then mTS0 else 8) < W48 := by
  rw [mTS_eq]
  unfold W48
  split <;> omega
theorem gd_mark {pg : Pg} (g : gd pg) {t : Trail} (h : TrOk pg t) (w : Bool) : gd (markP pg t w) :=
  gd_stamp (gd_stamp g h.r h.o m8.1 m8.2) (hasP_stamp h.r h.tb) h.i (mTS w).1 (mTS w).2
theorem mark_len (pg : Pg) (t : Trail) (w : Bool) : (markP pg t w).length = pg.length := (stamp_len ..).trans (stamp_len ..)
theorem hasP_mark {pg : Pg} {t : Trail} (h : TrOk pg t) (w : Bool) {y : Int} (hy : hasP pg y = true) : hasP (markP pg t w) y = true := hasP_stamp (hasP_stamp h.r h.tb) (hasP_stamp h.r hy)
/-! ## the way -/
structure GoodW (c : Cfg) (W : Wy) : Prop where
  g : gd W.pages
  n0 : 1 ≤ W.pages.length
  n1 : W.pages.length ≤ 24
  ln : (W.line.length : Int) ≤ c.most
  hd : W.heard ≤ c.replies.length
structure GoodC (c : Cfg) : Prop where
  m0 : 1 ≤ c.most
  m1 : c.most ≤ 12
  rp : c.replies.length ≤ 1000
  o0 : 1 ≤ c.orders.length
  o1 : c.orders.length ≤ 60
  og : ∀ o ∈ c.orders, o.good
  d0 : 0 ≤ c.door
  d1 : c.door ≤ 60
theorem keep_len {most : Int} (l : List Row) (n p r : Int) (h : (l.length : Int) ≤ most) (h0 : 1 ≤ most) : ((shKeep most l n p r).length : Int) ≤ most := by
  unfold shKeep
  split
  · rw [List.length_set]; exact h
  · split
    · assumption
    · rw [List.length_eraseIdx]
      split
      · rw [List.length_append]
        simp
        omega
      · rename_i hh
        simp at hh
theorem drop_len {most : Int} (l : List Row) (n : Int) (h : (l.length : Int) ≤ most) : ((shDrop l n).length : Int) ≤ most := by
  unfold shDrop
  rw [List.length_eraseIdx]
  split <;> omega
theorem onShelf_ok {W : Wy} {place : Int} {w k : Bool} {p : Int} (h : onShelf W place w k = some p) : hasP W.pages p = true ∧ place < 512 := by
  unfold onShelf at h
  split at h
  · cases h
  · rename_i hp
    split at h
    · cases h
    · split at h
      · rename_i q hq hb
        cases h
        exact ⟨(Bool.and_eq_true_iff.mp hb).1, by omega⟩
      · cases h
theorem reach_ok {c : Cfg} (hc : GoodC c) {W : Wy} (hW : GoodW c W) {place : Int} (hp : isW place) {w k : Bool} {p : Int} {W1 : Wy} (h : reach c.most W place w k = .ok (p, W1)) : GoodW c W1 ∧ hasP W1.pages p = true := by
  unfold reach at h
  split at h
  · rename_i q hq
    cases h
    exact ⟨hW, (onShelf_ok hq).1⟩
  · split at h
    · cases h
    · rename_i t ht
      cases h
      have T := look_ok hp ht
      exact ⟨⟨gd_mark hW.g T w, by rw [mark_len]; exact hW.n0, by rw [mark_len]; exact hW.n1, keep_len _ _ _ _ hW.ln hc.m0, hW.hd⟩, hasP_mark T w T.p⟩
theorem reach_err {c : Cfg} {W : Wy} {place : Int} (hp : isW place) {w k : Bool} {f : Flt} (h : reach c.most W place w k = .error f) : goodF f := by
  unfold reach at h
  split at h
  · cases h
  · split at h
    · rename_i f2 hf
      cases h
      exact look_err hp hf
    · cases h
theorem cellC (place : Int) : isC (place % 8) := ⟨by omega, by omega⟩
theorem good_wr {c : Cfg} {W : Wy} (hW : GoodW c W) {x d v : Int} (h : hasP W.pages x = true) (hv : isW v) : GoodW c { W with pages := wr W.pages x d v } :=
  ⟨gd_wr hW.g h hv, by rw [wr_len]; exact hW.n0, by rw [wr_len]; exact hW.n1, hW.ln, hW.hd⟩
theorem wload_ok {c : Cfg} (hc : GoodC c) {W : Wy} (hW : GoodW c W) {place : Int} (hp : isW place) {k : Bool} {v : Int} {W1 : Wy} (h : wload c.most W place k = .ok (v, W1)) : GoodW c W1 ∧ isW v := by
  unfold wload at h
  split at h
  · cases h
  · rename_i p W2 hr
    cases h
    obtain ⟨h1, h2⟩ := reach_ok hc hW hp hr
    exact ⟨h1, rd_word h1.g h2 (cellC place)⟩
theorem wload_err {c : Cfg} {W : Wy} {place : Int} (hp : isW place) {k : Bool} {f : Flt} (h : wload c.most W place k = .error f) : goodF f := by
  unfold wload at h
  split at h
  · rename_i f2 hf
    cases h
    exact reach_err hp hf
  · cases h
theorem wsave_ok {c : Cfg} (hc : GoodC c) {W : Wy} (hW : GoodW c W) {place v : Int} (hp : isW place) (hv : isW v) {k : Bool} {W1 : Wy} (h : wsave c.most W place v k = .ok W1) : GoodW c W1 := by
  unfold wsave at h
  split at h
  · cases h
  · rename_i p W2 hr
    cases h
    obtain ⟨h1, h2⟩ := reach_ok hc hW hp hr
    exact good_wr h1 h2 hv
theorem wsave_err {c : Cfg} {W : Wy} {place v : Int} (hp : isW place) {k : Bool} {f : Flt} (h : wsave c.most W place v k = .error f) : goodF f := by
  unfold wsave at h
  split at h
  · rename_i f2 hf
    cases h
    exact reach_err hp hf
  · cases h
theorem gd_none {pg : Pg} (g : gd pg) (i : Nat) : gd (pg.set i none) := fun l hm => by
  rcases mem_set_of hm with q | q
  · exact g l q
  · cases q
theorem gd_zero {pg : Pg} (g : gd pg) (i : Nat) : gd (pg.set i (some zeros)) := fun l hm => by
  rcases mem_set_of hm with q | q
  · exact g l q
  · obtain rfl := Option.some.inj q
    refine ⟨rfl, fun x hx => ?_⟩
    have e : x = 0 := List.eq_of_mem_replicate hx
    rw [e]
    exact ⟨by omega, by unfold W48; omega⟩
theorem wgive_ok {c : Cfg} {W : Wy} (hW : GoodW c W) (p : Int) : GoodW c (wgive W p).2 := by
  unfold wgive
  split
  · exact ⟨gd_none hW.g _, by rw [List.length_set]; exact hW.n0, by rw [List.length_set]; exact hW.n1, hW.ln, hW.hd⟩
  · exact hW
theorem wwant_ok {c : Cfg} {W : Wy} (hW : GoodW c W) (p : Int) : GoodW c (wwant c.replies W p).2 := by
  have hd := hW.hd
  unfold wwant
  split
  · exact hW
  · split
    · exact hW
    · split
      · exact hW
      · rename_i hh
        have hl : W.heard + 1 ≤ c.replies.length := by omega
        split
        · exact ⟨gd_zero hW.g _, by rw [List.length_set]; exact hW.n0, by rw [List.length_set]; exact hW.n1, hW.ln, hl⟩
        · exact ⟨hW.g, hW.n0, hW.n1, hW.ln, hl⟩
theorem wroot_ok {c : Cfg} (hc : GoodC c) {W : Wy} (hW : GoodW c W) (r : Int) : GoodW c (wroot W r) := ⟨hW.g, hW.n0, hW.n1, by have := hc.m0; show (0 : Int) ≤ _; omega, hW.hd⟩
theorem wdrop_ok {c : Cfg} {W : Wy} (hW : GoodW c W) (p : Int) : GoodW c (wdrop W p) := by
  unfold wdrop
  split
  · exact ⟨hW.g, hW.n0, hW.n1, drop_len _ _ hW.ln, hW.hd⟩
  · exact hW
/-! ## the machine -/
structure GoodM (c : Cfg) (M : Mc) : Prop where
  cl : M.cells.length = 4
  cw : ∀ x ∈ M.cells, isW x
  f0 : isW M.fallen.1
  f1 : isW M.fallen.2.1
  f2 : 0 ≤ M.fallen.2.2.1
  f3 : M.fallen.2.2.1 < (c.orders.length : Int)
  c0 : 0 ≤ M.counter
theorem get_w {c : Cfg} {M : Mc} (h : GoodM c M) {a : Int} (ha : isR a) : isW (M.get a) ∧ M.cells[a.toNat]? = some (M.get a) := by
  obtain ⟨a0, a4⟩ := ha
  have hl := h.cl
  have hi : a.toNat < M.cells.length := by omega
  have e : M.cells[a.toNat]? = some (M.get a) := by
    unfold Mc.get
    rw [List.getD_eq_getElem?_getD, List.getElem?_eq_getElem hi]
    rfl
  exact ⟨h.cw _ (List.mem_of_getElem? e), e⟩
theorem put_ok {c : Cfg} {M : Mc} (h : GoodM c M) {a v : Int} (hv : isW v) : GoodM c (M.put a v) :=
  ⟨by show (M.cells.set _ _).length = 4; rw [List.length_set]; exact h.cl, fun x hx => (mem_set_of hx).elim (h.cw x) fun e => by rw [e]; exact hv, h.f0, h.f1, h.f2, h.f3, h.c0⟩
theorem nxt_ok {c : Cfg} {M : Mc} (h : GoodM c M) : GoodM c M.nxt := ⟨h.cl, h.cw, h.f0, h.f1, h.f2, h.f3, by have := h.c0; show (0 : Int) ≤ M.counter + 1; omega⟩
theorem b2n_w (b : Bool) : isW (b2n b) := by
  unfold b2n isW W48
  split <;> omega
theorem plus_w (a b : Int) : isW ((a + b) % W48) := by
  unfold isW W48
  omega
theorem kind_w (k : Str) : isW (kindNum k) := by
  have h : kindsL.findIdx (fun x => x == k) ≤ kindsL.length := List.findIdx_le_length
  have h2 : kindsL.length = 7 := rfl
  unfold kindNum isW W48
  omega
theorem zero_w : isW 0 := ⟨by omega, by unfold W48; omega⟩
theorem fall_ok {c : Cfg} (hc : GoodC c) {M : Mc} (h : GoodM c M) (hn : M.counter < (c.orders.length : Int)) {f : Flt} (hf : goodF f) : GoodM c (fall c.door M f) :=
  ⟨h.cl, h.cw, kind_w _, hf.2, h.c0, hn, hc.d0⟩
theorem go_ok {c : Cfg} {M : Mc} (h : GoodM c M) {o : Ord} (ho : o.good) {M1 : Mc} (e : goOrd M o = .ok M1) : GoodM c M1 := by
  have c0 := h.c0
  have f2 := h.f2
  have past : GoodM c { M with counter := M.fallen.2.2.1 + 1, ruling := M.fallen.2.2.2 } := ⟨h.cl, h.cw, h.f0, h.f1, h.f2, h.f3, by show (0 : Int) ≤ M.fallen.2.2.1 + 1; omega⟩
  cases o <;> simp only [goOrd] at e <;> cases e <;> try exact past
  · exact ⟨h.cl, h.cw, h.f0, h.f1, h.f2, h.f3, h.c0⟩
  · exact ⟨h.cl, h.cw, h.f0, h.f1, h.f2, h.f3, ho.1⟩
  · exact ⟨h.cl, h.cw, h.f0, h.f1, h.f2, h.f3, ho.1⟩
  · rename_i a t
    refine ⟨h.cl, h.cw, h.f0, h.f1, h.f2, h.f3, ?_⟩
    show (0 : Int) ≤ if M.get a = 0 then t else M.counter + 1
    obtain ⟨_, t0, _⟩ := ho
    by_cases z : M.get a = 0
    · rw [if_pos z]; exact t0
    · rw [if_neg z]; omega
theorem go_err {M : Mc} {o : Ord} {f : Flt} (e : goOrd M o = .error f) : goodF f := by
  cases o <;> simp only [goOrd] at e <;> cases e
  exact ⟨by simp [kindsL], zero_w⟩
theorem reckon_ok {c : Cfg} {M : Mc} (h : GoodM c M) {o : Ord} (ho : o.good) : GoodM c (reckon M o) := by
  cases o <;> simp only [reckon] <;> try exact h
  · exact put_ok h ho.2
  · exact put_ok h (plus_w _ _)
  · exact put_ok (put_ok h h.f0) h.f1
  · exact ⟨h.cl, h.cw, h.f0, h.f1, h.f2, h.f3, h.c0⟩
theorem carry_ok {c : Cfg} (hc : GoodC c) {M : Mc} (h : GoodM c M) {W : Wy} (hW : GoodW c W) {o : Ord} (ho : o.good) {M1 : Mc} {W1 : Wy} (e : carry c M W o = .ok (M1, W1)) : GoodM c M1 ∧ GoodW c W1 := by
  cases o <;> simp only [carry] at e <;> try (cases e; exact ⟨h, hW⟩)
  · split at e
    · cases e
    · rename_i v W2 hl
      cases e
      obtain ⟨h1, h2⟩ := wload_ok hc hW (get_w h ho.2).1 hl
      exact ⟨put_ok h h2, h1⟩
  · split at e
    · cases e
    · rename_i W2 hl
      cases e
      exact ⟨h, wsave_ok hc hW (get_w h ho.2).1 (get_w h ho.1).1 hl⟩
  · split at e
    · cases e
    · rename_i v hl
      cases e
      unfold wpeek at hl
      split at hl
      · rename_i hp
        cases hl
        exact ⟨put_ok h (rd_word hW.g hp (cellC _)), hW⟩
      · cases hl
  · split at e
    · cases e
    · rename_i W2 hl
      cases e
      unfold wpoke at hl
      split at hl
      · rename_i hp
        cases hl
        exact ⟨h, good_wr hW hp (get_w h ho.1).1⟩
      · cases hl
theorem carry_err {c : Cfg} {M : Mc} (h : GoodM c M) {W : Wy} {o : Ord} (ho : o.good) {f : Flt} (e : carry c M W o = .error f) : goodF f := by
  cases o <;> simp only [carry] at e <;> try (cases e)
  · split at e
    · rename_i f2 hl
      cases e
      exact wload_err (get_w h ho.2).1 hl
    · cases e
  · split at e
    · rename_i f2 hl
      cases e
      exact wsave_err (get_w h ho.2).1 hl
    · cases e
  · split at e
    · rename_i f2 hl
      cases e
      unfold wpeek at hl
      split at hl
      · cases hl
      · cases hl
        exact ⟨by simp [kindsL], (get_w h ho.2).1⟩
    · cases e
  · split at e
    · rename_i f2 hl
      cases e
      unfold wpoke at hl
      split at hl
      · cases hl
      · cases hl
        exact ⟨by simp [kindsL], (get_w h ho.2).1⟩
    · cases e
theorem tell_ok {c : Cfg} (hc : GoodC c) {M : Mc} (h : GoodM c M) {W : Wy} (hW : GoodW c W) (o : Ord) : GoodM c (tellWay c M W o).1 ∧ GoodW c (tellWay c M W o).2 := by
  cases o <;> simp only [tellWay] <;> try exact ⟨h, hW⟩
  · exact ⟨h, wroot_ok hc hW _⟩
  · exact ⟨h, wdrop_ok hW _⟩
  · exact ⟨put_ok h (b2n_w _), wgive_ok hW _⟩
  · exact ⟨put_ok h (b2n_w _), wwant_ok hW _⟩
theorem do_ok {c : Cfg} (hc : GoodC c) {M : Mc} (h : GoodM c M) {W : Wy} (hW : GoodW c W) {o : Ord} (ho : o.good) {M1 : Mc} {W1 : Wy} (e : doOrd c M W o = .ok (M1, W1)) : GoodM c M1 ∧ GoodW c W1 := by
  unfold doOrd at e
  split at e
  · cases e
  · split at e
    · split at e
      · cases e
      · rename_i M2 hg
        cases e
        exact ⟨go_ok h ho hg, hW⟩
    · split at e
      · cases e
        exact ⟨nxt_ok (reckon_ok h ho), hW⟩
      · split at e
        · split at e
          · cases e
          · rename_i M2 W2 hg
            cases e
            obtain ⟨h1, h2⟩ := carry_ok hc h hW ho hg
            exact ⟨nxt_ok h1, h2⟩
        · cases e
          exact ⟨nxt_ok (tell_ok hc h hW o).1, (tell_ok hc h hW o).2⟩
theorem do_err {c : Cfg} {M : Mc} (h : GoodM c M) {W : Wy} {o : Ord} (ho : o.good) {f : Flt} (e : doOrd c M W o = .error f) : goodF f := by
  unfold doOrd at e
  split at e
  · cases e
    exact ⟨by simp [kindsL], zero_w⟩
  · split at e
    · split at e
      · rename_i f2 hg
        cases e
        exact go_err hg
      · cases e
    · split at e
      · cases e
      · split at e
        · split at e
          · rename_i f2 hg
            cases e
            exact carry_err h ho hg
          · cases e
        · cases e
theorem fin_ok {c : Cfg} {M : Mc} (h : GoodM c M) : GoodM c (fin c.orders.length M) := by
  unfold fin
  split
  · exact ⟨h.cl, h.cw, h.f0, h.f1, h.f2, h.f3, h.c0⟩
  · exact h
/-- a machine that has not stopped stands at a row -/
def atRow (c : Cfg) (M : Mc) : Prop := M.stopped = false → M.counter < (c.orders.length : Int)
theorem fin_at (c : Cfg) (M : Mc) : atRow c (fin c.orders.length M) := fun h => by
  unfold fin at h ⊢
  split at h
  · cases h
  · rename_i hh
    rw [if_neg hh]
    omega
theorem fin_notes (n : Nat) (M : Mc) : (fin n M).notes = M.notes := by
  unfold fin
  split <;> rfl
theorem step_good {c : Cfg} (hc : GoodC c) {s : Mc × Wy} (h : GoodM c s.1) (hW : GoodW c s.2) (ha : atRow c s.1) (hs : s.1.stopped = false) : GoodM c (step c s).1 ∧ GoodW c (step c s).2 ∧ atRow c (step c s).1 := by
  have hn := ha hs
  have h0 := h.c0
  have hi : s.1.counter.toNat < c.orders.length := by omega
  unfold step
  rw [List.getElem?_eq_getElem hi]
  have ho : (c.orders[s.1.counter.toNat]).good := hc.og _ (List.getElem_mem hi)
  dsimp only
  split
  · rename_i M1 W1 e
    obtain ⟨h1, h2⟩ := do_ok hc h hW ho e
    exact ⟨fin_ok h1, h2, fin_at c _⟩
  · rename_i f e
    exact ⟨fin_ok (fall_ok hc h hn (do_err h ho e)), hW, fin_at c _⟩
theorem carry_notes {c : Cfg} {M : Mc} {W : Wy} {o : Ord} {M1 : Mc} {W1 : Wy} (e : carry c M W o = .ok (M1, W1)) : M1.notes = M.notes := by
  cases o <;> simp only [carry] at e <;> (try split at e) <;> cases e <;> rfl
theorem tell_notes {c : Cfg} {M : Mc} {W : Wy} (o : Ord) : (tellWay c M W o).1.notes = M.notes := by
  cases o <;> rfl
theorem reckon_notes {M : Mc} (o : Ord) : (reckon M o).notes.length ≤ M.notes.length + 1 := by
  cases o <;> simp [reckon, Mc.put]
theorem go_notes {M : Mc} {o : Ord} {M1 : Mc} (e : goOrd M o = .ok M1) : M1.notes = M.notes := by
  cases o <;> simp only [goOrd] at e <;> cases e <;> rfl
theorem do_notes {c : Cfg} {M : Mc} {W : Wy} {o : Ord} {M1 : Mc} {W1 : Wy} (e : doOrd c M W o = .ok (M1, W1)) : M1.notes.length ≤ M.notes.length + 1 := by
  unfold doOrd at e
  split at e
  · cases e
  · split at e
    · split at e
      · cases e
      · rename_i M2 hg
        cases e
        rw [go_notes hg]
        omega
    · split at e
      · cases e
        exact reckon_notes o
      · split at e
        · split at e
          · cases e
          · rename_i M2 W2 hg
            cases e
            show M2.notes.length ≤ _
            rw [carry_notes hg]
            omega
        · cases e
          show (tellWay c M W o).1.notes.length ≤ _
          rw [tell_notes]
          omega
theorem step_notes (c : Cfg) (s : Mc × Wy) : (step c s).1.notes.length ≤ s.1.notes.length + 1 := by
  unfold step
  split
  · omega
  · split
    · rename_i M1 W1 e
      show (fin _ M1).notes.length ≤ _
      rw [fin_notes]
      exact do_notes e
    · show (fin _ _).notes.length ≤ _
      rw [fin_notes]
      simp [fall]
/-- all of it, along a run -/
structure Good (c : Cfg) (s : Mc × Wy) : Prop where
  m : GoodM c s.1
  w : GoodW c s.2
  a : atRow c s.1
theorem run_good {c : Cfg} (hc : GoodC c) : ∀ (n : Nat) (s : Mc × Wy), Good c s → Good c (run c n s).2
  | 0, s, h => h
  | n + 1, s, h => by
    by_cases hs : s.1.stopped = true
    · rw [run_stop c _ hs]
      exact h
    · simp only [run, hs, if_false, Bool.false_eq_true]
      obtain ⟨h1, h2, h3⟩ := step_good hc h.m h.w h.a (by simpa using hs)
      exact run_good hc n _ ⟨h1, h2, h3⟩
theorem run_notes (c : Cfg) : ∀ (n : Nat) (s : Mc × Wy), (run c n s).2.1.notes.length ≤ s.1.notes.length + (run c n s).1
  | 0, s => by simp [run]
  | n + 1, s => by
    by_cases hs : s.1.stopped = true
    · rw [run_stop c _ hs]
      exact Nat.le_refl _
    · simp only [run, hs, if_false, Bool.false_eq_true]
      have h1 := run_notes c n (step c s)
      have h2 := step_notes c s
      omega
end M35

/-! ## text A0 -/
set_option maxHeartbeats 4000000
namespace M35
open PySem PySem.Spec PyProof.Rows L2
/-! # what stands on the heap -/
theorem ite_t {c : Bool} {A B : Prop} (hc : c = true) (h : A) : if c = true then A else B := by
  rw [if_pos hc]
  exact h
theorem ite_f {c : Bool} {A B : Prop} (hc : c = false) (h : B) : if c = true then A else B := by
  rw [hc, if_neg Bool.false_ne_true]
  exact h
/-- both ways of a test, the answer known or not -/
theorem ite_b {c : Bool} {A B : Prop} (h1 : c = true → A) (h2 : c = false → B) : if c = true then A else B := by
  cases c with
  | true => exact iteT (h1 rfl)
  | false => exact iteF (h2 rfl)
theorem same_new {H : Hp} {p : Addr} {o : HO} (h : H p = none) : Same H (upd H p o) := fun b u e => by
  rw [upd_ne (ne_of_none e h)]
  exact e
theorem Same.up {H H1 : Hp} {p : Addr} {o : HO} (s : Same H H1) (h : H1 p = none) : Same H (upd H1 p o) := s.trans (same_new h)
/-- what may change in place -/
def mutO : HO → Bool
  | .lst _ => true
  | .ins _ _ _ => true
  | _ => false
/-- all that stood stands, but at F -/
def But (F : Addr → Prop) (H H' : Hp) : Prop := ∀ b o, H b = some o → ¬ F b → H' b = some o
/-- F has grown by what is new alone -/
def Gr (F : Addr → Prop) (H : Hp) (F' : Addr → Prop) : Prop := ∀ b, F' b → F b ∨ H b = none
theorem But.of_same {F : Addr → Prop} {H H' : Hp} (s : Same H H') : But F H H' := fun b o e _ => s b o e
theorem Gr.refl {F : Addr → Prop} {H : Hp} : Gr F H F := fun _ h => .inl h
theorem Gr.trans {F F1 F2 : Addr → Prop} {H H1 : Hp} (a : Gr F H F1) (k : ∀ b, H1 b = none → H b = none ∨ F b) (b : Gr F1 H1 F2) : Gr F H F2 := fun x h => by
  rcases b x h with q | q
  · exact a x q
  · rcases k x q with z | z
    · exact .inr z
    · exact .inl z
theorem But.none {F : Addr → Prop} {H H1 : Hp} (h : But F H H1) (b : Addr) (e : H1 b = none) : H b = none ∨ F b := by
  cases q : H b with
  | none => exact .inl rfl
  | some o =>
    by_cases f : F b
    · exact .inr f
    · rw [h b o q f] at e
      cases e
theorem But.trans {F F1 : Addr → Prop} {H H1 H2 : Hp} (a : But F H H1) (g : Gr F H F1) (b : But F1 H1 H2) : But F H H2 := fun x o e f => by
  refine b x o (a x o e f) fun f1 => ?_
  rcases g x f1 with q | q
  · exact f q
  · rw [e] at q
    cases q
theorem But.mono {F G : Addr → Prop} {H H' : Hp} (a : But F H H') (h : ∀ b, F b → G b) : But G H H' := fun b o e g => a b o e fun f => g (h b f)
/-- the classes -/
abbrev cPlain (K : PySem.W.Frag) : Addr := He.ga K "Plain"
abbrev cMem (K : PySem.W.Frag) : Addr := He.ga K "Memory"
abbrev cShelf (K : PySem.W.Frag) : Addr := He.ga K "Shelf"
abbrev cMach (K : PySem.W.Frag) : Addr := He.ga K "Machine"
abbrev cFault (K : PySem.W.Frag) : Addr := He.ga K "Fault"
/-! ## the way -/
def oV : Option Addr → V
  | none => .non
  | some p => .ref p
structure PgR (H : Hp) (ps : List (Option Addr)) (pg : Pg) : Prop where
  len : ps.length = pg.length
  no : ∀ i : Nat, pg[i]? = some none → ps[i]? = some none
  yes : ∀ (i : Nat) (l : List Int), pg[i]? = some (some l) → ∃ p, ps[i]? = some (some p) ∧ H p = some (.lst (l.map V.int))
  inj : ∀ (i j : Nat) (p : Addr), ps[i]? = some (some p) → ps[j]? = some (some p) → i = j
def rowV (r : Row) : List V := [.int r.1, .int r.2.1, .int r.2.2]
structure RwR (H : Hp) (rows : List Addr) (line : List Row) : Prop where
  len : rows.length = line.length
  at_ : ∀ (i : Nat) (r : Row), line[i]? = some r → ∃ t, rows[i]? = some t ∧ H t = some (.tup (rowV r))
def wF (m sh rp : Addr) (base heard : Int) : List (Str × V) := [("memory", .ref m), ("held", .ref sh), ("base", .int base), ("replies", .ref rp), ("heard", .int heard)]
def shF (most : Int) (ln : Addr) : List (Str × V) := [("most", .int most), ("line", .ref ln)]
def mmF (hl : Addr) : List (Str × V) := [("held", .ref hl)]
/-- a Shelf at sh, its line at ln -/
structure ShIn (K : PySem.W.Frag) (H : Hp) (sh ln : Addr) (rows : List Addr) (most : Int) (line : List Row) : Prop where
  osh : ∃ dx, H sh = some (.ins (cShelf K) dx (shF most ln))
  oln : H ln = some (.lst (rows.map V.ref))
  rr : RwR H rows line
/-- a Memory at m, its list of pages at hl -/
structure MmIn (K : PySem.W.Frag) (H : Hp) (m hl : Addr) (ps : List (Option Addr)) (pg : Pg) : Prop where
  om : ∃ dx, H m = some (.ins (cMem K) dx (mmF hl))
  ohl : H hl = some (.lst (ps.map oV))
  pr : PgR H ps pg
structure WayIn (K : PySem.W.Frag) (H : Hp) (w m hl sh ln rp : Addr) (ps : List (Option Addr)) (rows : List Addr) (c : Cfg) (W : Wy) (F : Addr → Prop) : Prop where
  ow : ∃ dx, H w = some (.ins (cPlain K) dx (wF m sh rp W.base W.heard))
  mmi : MmIn K H m hl ps W.pages
  shi : ShIn K H sh ln rows c.most W.line
  orp : H rp = some (.lst (c.replies.map V.bl))
  n1 : hl ≠ ln
  n2 : hl ≠ rp
  n3 : ln ≠ rp
  n4 : w ≠ m
  n5 : w ≠ sh
  n6 : m ≠ sh
  np : ∀ (i : Nat) (p : Addr), ps[i]? = some (some p) → p ≠ hl ∧ p ≠ ln ∧ p ≠ rp
  fw : F w
  fm : F m
  fhl : F hl
  fsh : F sh
  fln : F ln
  frp : F rp
  fp : ∀ (i : Nat) (p : Addr), ps[i]? = some (some p) → F p
  mu : ∀ b, F b → ∃ o, H b = some o ∧ mutO o = true
def WayAt (K : PySem.W.Frag) (H : Hp) (w : Addr) (c : Cfg) (W : Wy) (F : Addr → Prop) : Prop := ∃ m hl sh ln rp ps rows, WayIn K H w m hl sh ln rp ps rows c W F
section
variable {K : PySem.W.Frag} {H H' : Hp} {w m hl sh ln rp : Addr} {ps : List (Option Addr)} {rows : List Addr} {c : Cfg} {W : Wy} {F : Addr → Prop} {pg : Pg} {line : List Row}
theorem PgR.keep (h : PgR H ps pg) (k : ∀ (i : Nat) (p : Addr) o, ps[i]? = some (some p) → H p = some o → H' p = some o) : PgR H' ps pg :=
  ⟨h.len, h.no, fun i l e => let ⟨p, a, b⟩ := h.yes i l e; ⟨p, a, k i p _ a b⟩, h.inj⟩
theorem RwR.keep (h : RwR H rows line) (k : ∀ b xs, H b = some (.tup xs) → H' b = some (.tup xs)) : RwR H' rows line :=
  ⟨h.len, fun i r e => let ⟨t, a, b⟩ := h.at_ i r e; ⟨t, a, k t _ b⟩⟩
/-- what is the way's, and all tuples, stand -/
theorem WayIn.keep (h : WayIn K H w m hl sh ln rp ps rows c W F) (k : ∀ b o, F b → H b = some o → H' b = some o) (kt : ∀ b xs, H b = some (.tup xs) → H' b = some (.tup xs)) : WayIn K H' w m hl sh ln rp ps rows c W F := by
  obtain ⟨dx, ow⟩ := h.ow
  obtain ⟨dm, om⟩ := h.mmi.om
  obtain ⟨ds, os⟩ := h.shi.osh
  exact ⟨⟨dx, k _ _ h.fw ow⟩, ⟨⟨dm, k _ _ h.fm om⟩, k _ _ h.fhl h.mmi.ohl, h.mmi.pr.keep fun i p o a b => k _ _ (h.fp i p a) b⟩, ⟨⟨ds, k _ _ h.fsh os⟩, k _ _ h.fln h.shi.oln, h.shi.rr.keep kt⟩, k _ _ h.frp h.orp, h.n1, h.n2, h.n3, h.n4, h.n5, h.n6, h.np,
    h.fw, h.fm, h.fhl, h.fsh, h.fln, h.frp, h.fp, fun b f => let ⟨o, a, z⟩ := h.mu b f; ⟨o, k b o f a, z⟩⟩
theorem WayAt.keep (h : WayAt K H w c W F) (k : ∀ b o, F b → H b = some o → H' b = some o) (kt : ∀ b xs, H b = some (.tup xs) → H' b = some (.tup xs)) : WayAt K H' w c W F :=
  let ⟨m, hl, sh, ln, rp, ps, rows, h⟩ := h; ⟨m, hl, sh, ln, rp, ps, rows, h.keep k kt⟩
theorem WayAt.same (h : WayAt K H w c W F) (s : Same H H') : WayAt K H' w c W F := h.keep (fun b o _ e => s b o e) fun b xs e => s b _ e
theorem WayAt.mu (h : WayAt K H w c W F) {b : Addr} (f : F b) : ∃ o, H b = some o ∧ mutO o = true := let ⟨_, _, _, _, _, _, _, h⟩ := h; h.mu b f
theorem WayAt.inst (h : WayAt K H w c W F) : ∃ dx m sh rp, H w = some (.ins (cPlain K) dx (wF m sh rp W.base W.heard)) := let ⟨m, _, sh, _, rp, _, _, h⟩ := h; let ⟨dx, e⟩ := h.ow; ⟨dx, m, sh, rp, e⟩
theorem WayAt.fw (h : WayAt K H w c W F) : F w := let ⟨_, _, _, _, _, _, _, h⟩ := h; h.fw
/-- tuples lie outside -/
theorem WayAt.ntup (h : WayAt K H w c W F) {b : Addr} {xs : List V} (e : H b = some (.tup xs)) : ¬ F b := fun f => by
  obtain ⟨o, a, z⟩ := h.mu f
  rw [e] at a
  cases a
  cases z
end
/-! ## what a fault is, what a way's deed leaves -/
def fltF (f : Flt) : List (Str × V) := [("level", .int f.level), ("place", .int f.place), ("kind", .str f.kind)]
/-- a fault comes out: nothing has changed but what is new -/
def FE (K : PySem.W.Frag) (E : XK) (H : Hp) (f : Flt) : Prop := ∀ d H', Same H H' → H d = none → H' d = some (.xd (fltF f)) → E (.ref (cFault K)) (some d) H'
theorem FE.mono {K : PySem.W.Frag} {E : XK} {H H1 : Hp} {f : Flt} (h : FE K E H f) (s : Same H H1) : FE K E H1 f := fun d H' s1 n e => h d H' (s.trans s1) (s.free n) e
/-- a deed comes to W' -/
def WP (K : PySem.W.Frag) (H : Hp) (w : Addr) (c : Cfg) (F : Addr → Prop) (W' : Wy) (k : Hp → (Addr → Prop) → Prop) : Prop := ∀ H' F', But F H H' → Gr F H F' → WayAt K H' w c W' F' → k H' F'
theorem WP.imp {K : PySem.W.Frag} {H : Hp} {w : Addr} {c : Cfg} {F : Addr → Prop} {W' : Wy} {k k' : Hp → (Addr → Prop) → Prop} (h : WP K H w c F W' k) (i : ∀ H' F', k H' F' → k' H' F') : WP K H w c F W' k' := fun H' F' a b d => i _ _ (h H' F' a b d)
/-- a deed behind a deed -/
theorem WP.seq {K : PySem.W.Frag} {H H1 : Hp} {w : Addr} {c : Cfg} {F F1 : Addr → Prop} {W' : Wy} {k : Hp → (Addr → Prop) → Prop} (h : WP K H w c F W' k) (a : But F H H1) (g : Gr F H F1) : WP K H1 w c F1 W' k := fun H' F' b g' x =>
  h H' F' (a.trans g b) (g.trans (fun x e => a.none x e) g') x
theorem WP.same {K : PySem.W.Frag} {H H1 : Hp} {w : Addr} {c : Cfg} {F : Addr → Prop} {W' : Wy} {k : Hp → (Addr → Prop) → Prop} (h : WP K H w c F W' k) (s : Same H H1) : WP K H1 w c F W' k := h.seq (.of_same s) .refl
end M35

/-! ## text A1 -/
set_option maxHeartbeats 4000000
namespace M35
open PySem PySem.Spec PyProof.Rows L2
section
variable {P : Program} {w : World} {K : PySem.W.Frag} {mg : Str → Option Value} {base : Heap}
/-! ### is_word, plus, is_below -/
theorem sc_is_word : FnScope ["thing"] ["thing"] d_is_word.scope := ⟨rfl, rfl, rfl, by decide +kernel, rfl, by decide +kernel, by decide +kernel⟩
def sp_is_word : Sp := fun vs H Q _ => ∃ i, vs = [.int i] ∧ isW i ∧ Q (.bl true) H
theorem ok_is_word (T : Txt K mg) : Ok P w K mg base CX0 2 d_is_word ["thing"] sp_is_word := by
  refine ok_no T.f_is_word sc_is_word rfl (fun _ _ _ _ _ _ us hl => match us, hl with | [_], _ => rfl) (fun vs H Q E h => ?_) (fun cdv A outer s H vs Q E hr h => ?_)
  · obtain ⟨v, rfl, _⟩ := h
    rfl
  · obtain ⟨i, rfl, hi, hQ⟩ := h
    have O1 : Ok P w K mg base CX0 1 d_is_whole ["thing"] sp_is_whole := ok_is_whole T
    refine ⟨_, pss_one (ps_ret (pe_and (pe_c O1 hr rfl T.g_is_whole pass0 (pa_cons (pv 0) pa_nil)) (pe_one (pe_chain op_le op_lt pe_int (pv 0) (pe_op op_pow pe_int pe_int))))), ?_⟩
    refine ⟨_, rfl, _, rfl, .int i, _, rfl, iteT ?_⟩
    refine ⟨_, rfl, _, _, rfl, rfl, _, rfl, ite_t (decide_eq_true hi.1) ?_⟩
    refine ⟨_, _, rfl, rfl, ⟨by decide, by decide, by decide⟩, _, _, rfl, rfl, ?_⟩
    show Q (.bl (decide (i < W48))) H
    rw [decide_eq_true hi.2]
    exact hQ
theorem sc_plus : FnScope ["one", "other"] ["one", "other"] d_plus.scope := ⟨rfl, rfl, rfl, by decide +kernel, rfl, by decide +kernel, by decide +kernel⟩
def sp_plus : Sp := fun vs H Q _ => ∃ i j, vs = [.int i, .int j] ∧ Q (.int ((i + j) % W48)) H
theorem ok_plus (T : Txt K mg) : Ok P w K mg base CX0 1 d_plus ["one", "other"] sp_plus := by
  refine ok_no T.f_plus sc_plus rfl (fun _ _ _ _ _ _ us hl => match us, hl with | [_, _], _ => rfl) (fun vs H Q E h => ?_) (fun cdv A outer s H vs Q E hr h => ?_)
  · obtain ⟨i, j, rfl, _⟩ := h
    rfl
  · obtain ⟨i, j, rfl, hQ⟩ := h
    refine ⟨_, pss_one (ps_ret (pe_op op_mod (pe_op op_add (pv 0) (pv 1)) (pe_op op_pow pe_int pe_int))), ?_⟩
    exact ⟨_, rfl, _, rfl, _, _, rfl, rfl, _, _, rfl, rfl, ⟨by decide, by decide, by decide⟩, _, _, rfl, rfl, (show (0 : Int) < 2 ^ Int.toNat 48 by decide), hQ⟩
theorem sc_is_below : FnScope ["thing", "count"] ["thing", "count"] d_is_below.scope := ⟨rfl, rfl, rfl, by decide +kernel, rfl, by decide +kernel, by decide +kernel⟩
def sp_is_below : Sp := fun vs H Q _ => ∃ i j, vs = [.int i, .int j] ∧ Q (.bl (decide (0 ≤ i ∧ i < j))) H
theorem ok_is_below (T : Txt K mg) : Ok P w K mg base CX0 2 d_is_below ["thing", "count"] sp_is_below := by
  refine ok_no T.f_is_below sc_is_below rfl (fun _ _ _ _ _ _ us hl => match us, hl with | [_, _], _ => rfl) (fun vs H Q E h => ?_) (fun cdv A outer s H vs Q E hr h => ?_)
  · obtain ⟨i, j, rfl, _⟩ := h
    rfl
  · obtain ⟨i, j, rfl, hQ⟩ := h
    have O1 : Ok P w K mg base CX0 1 d_is_whole ["thing"] sp_is_whole := ok_is_whole T
    refine ⟨_, pss_one (ps_ret (pe_and (pe_c O1 hr rfl T.g_is_whole pass0 (pa_cons (pv 0) pa_nil)) (pe_one (pe_chain op_le op_lt pe_int (pv 0) (pv 1))))), ?_⟩
    refine ⟨_, rfl, _, rfl, .int i, _, rfl, iteT ?_⟩
    refine ⟨_, rfl, _, _, rfl, rfl, _, rfl, ite_b (fun c => ?_) (fun c => ?_)⟩
    · refine ⟨_, rfl, _, _, rfl, rfl, ?_⟩
      have e : decide (0 ≤ i ∧ i < j) = decide (i < j) := by
        have c' := of_decide_eq_true c
        by_cases z : i < j
        · rw [decide_eq_true z, decide_eq_true ⟨c', z⟩]
        · rw [decide_eq_false z, decide_eq_false fun q => z q.2]
      rw [e] at hQ
      exact hQ
    · have c' := of_decide_eq_false c
      rw [decide_eq_false fun q => c' q.1] at hQ
      exact hQ
/-! ### are_words, is_image -/
theorem sc_are_words : FnScope ["thing", "word"] ["thing"] d_are_words.scope := ⟨rfl, rfl, rfl, by decide +kernel, rfl, by decide +kernel, by decide +kernel⟩
/-- a list of eight words -/
def sp_are_words : Sp := fun vs H Q _ => ∃ a l, vs = [.ref a] ∧ H a = some (.lst ((l : List Int).map V.int)) ∧ l.length = 8 ∧ (∀ x ∈ l, isW x) ∧ ∀ H', Same H H' → Q (.bl true) H'
theorem all_true (n : Nat) : (List.replicate n true).all id = true := by
  rw [List.all_eq_true]
  intro x hx
  rw [List.eq_of_mem_replicate hx]
  rfl
theorem repl_snoc {α : Type} (n : Nat) (a : α) : List.replicate n a ++ [a] = List.replicate (n + 1) a := by
  rw [← List.replicate_succ']
theorem repl_small (n : Nat) (a : V) (h : n ≤ 100000) : (List.replicate n a).length < sizeLine := by
  rw [List.length_replicate]
  exact Nat.lt_of_le_of_lt h (by decide)
theorem ok_are_words (T : Txt K mg) : Ok P w K mg base CX0 3 d_are_words ["thing"] sp_are_words := by
  refine ok_no T.f_are_words sc_are_words rfl (fun _ _ _ _ _ _ us hl => match us, hl with | [_], _ => rfl) (fun vs H Q E h => ?_) (fun cdv A outer s H vs Q E hr h => ?_)
  · obtain ⟨a, l, rfl, _⟩ := h
    rfl
  · obtain ⟨a, l, rfl, ha, hl, hw, hQ⟩ := h
    have O2 : Ok P w K mg base CX0 2 d_is_word ["thing"] sp_is_word := ok_is_word T
    obtain ⟨tc, gc⟩ := T.i_CELLS
    refine ⟨_, pss_one (ps_ret (pe_and (pe_callB call_isi (by rfl) T.b_isinstance (by decide +kernel) (pa_cons (pv 0) (pa_cons (pe_bltn (v := .ty "list") (by rfl) T.b_list (by decide +kernel) rfl) pa_nil)))
      (pe_and (pe_cmpR op_eq (pe_callB call_len_seq (by rfl) T.b_len (by decide +kernel) (pa_cons (pv 0) pa_nil)) (pe_glob (v := .int 8) rfl gc ⟨_, rfl⟩) (nomark _))
      (pe_one (pe_callB (cr_all rfl) (by rfl) T.b_all (by decide +kernel) (pa_cons
        (pe_lc (own := [("word", 1)]) (g := gName 1) (tt := tYes) rfl sc_are_words.nd (pi_list (pv 0)) (blkOk_by (own := [("word", 1)]) (N := ["thing", "word"]) (sc := d_are_words.scope) (by decide +kernel))
          (fun _ _ _ _ _ => pg_name (i := 1) sc_are_words.nd rfl (Or.inl rfl)) (fun _ _ _ _ _ => pts_nil) (fun _ _ _ _ _ => pe_c O2 hr rfl T.g_is_word pass0 (pa_cons (pv 1) pa_nil))) pa_nil)))))), ?_⟩
    refine ⟨_, rfl, _, _, _, _, true, rfl, .ty _, .base (.lst ha), kit_ty (by decide +kernel), _, rfl, iteT ?_⟩
    refine ⟨_, rfl, _, _, rfl, .inl (SqL.of ha), rfl, _, rfl, ite_t ?_ ?_⟩
    · rw [List.length_map, hl]
      rfl
    refine ⟨_, rfl, a, rfl, ⟨_, SqL.of ha⟩, fun D hD => lc_list (K := K) (a := a) (xs := l.map V.int) (fun i H' => H' D = some (.lst ((List.replicate i true).map V.bl)) ∧ Same H H') ⟨upd_same, same_new hD⟩ (fun i H' _ q => q.2.seq (SqL.of ha)) ?_ ?_⟩
    · rintro i x H' hx ⟨hD', s'⟩
      obtain ⟨z, hz, rfl⟩ : ∃ z, l[i]? = some z ∧ x = V.int z := by
        rw [List.getElem?_map] at hx
        obtain ⟨z, q1, q2⟩ := Option.map_eq_some_iff.mp hx
        exact ⟨z, q1, q2.symm⟩
      have hil : i < l.length := (List.getElem?_eq_some_iff.mp hz).1
      refine ⟨rfl, ?_⟩
      refine ⟨_, rfl, z, rfl, hw z (List.mem_of_getElem? hz), _, hD', ?_, ?_, ?_⟩
      · rw [List.map_replicate]
        exact repl_small _ _ (by omega)
      · refine Eq.trans upd_same ?_
        rw [List.map_replicate, List.map_replicate, repl_snoc]
      · intro b o e
        rw [upd_ne (ne_of_none e hD)]
        exact s' b o e
    · rintro H' ⟨hD', s'⟩
      refine ⟨D, List.replicate (l.map V.int).length true, rfl, SqL.of hD', ?_⟩
      rw [all_true]
      exact hQ H' s'
theorem sc_is_image : FnScope ["thing", "words"] ["thing"] d_is_image.scope := ⟨rfl, rfl, rfl, by decide +kernel, rfl, by decide +kernel, by decide +kernel⟩
def sp_is_image : Sp := fun vs H Q _ => ∃ a ps pg, vs = [.ref a] ∧ H a = some (.lst (ps.map oV)) ∧ PgR H ps pg ∧ gd pg ∧ 1 ≤ pg.length ∧ pg.length ≤ 24 ∧ ∀ H', Same H H' → Q (.bl true) H'
theorem ok_is_image (T : Txt K mg) : Ok P w K mg base CX0 4 d_is_image ["thing"] sp_is_image := by
  refine ok_no T.f_is_image sc_is_image rfl (fun _ _ _ _ _ _ us hl => match us, hl with | [_], _ => rfl) (fun vs H Q E h => ?_) (fun cdv A outer s H vs Q E hr h => ?_)
  · obtain ⟨a, ps, pg, rfl, _⟩ := h
    rfl
  · obtain ⟨a, ps, pg, rfl, ha, hp, hg, h1, h24, hQ⟩ := h
    have O2 : Ok P w K mg base CX0 3 d_are_words ["thing"] sp_are_words := ok_are_words T
    obtain ⟨tc, gc⟩ := T.i_MOST_PAGES
    have hlen : (ps.map oV).length = pg.length := by rw [List.length_map, hp.len]
    refine ⟨_, pss_cons (ps_if (PW.pt (pw_or (pt_not (pt_val (pe_callB call_isi (by rfl) T.b_isinstance (by decide +kernel) (pa_cons (pv 0) (pa_cons (pe_bltn (v := .ty "list") (by rfl) T.b_list (by decide +kernel) rfl) pa_nil)))))
        (pw_or (pt_cmpR op_lt (pe_callB call_len_seq (by rfl) T.b_len (by decide +kernel) (pa_cons (pv 0) pa_nil)) pe_int (nomark _))
        (pw_or1 (pt_cmpR op_gt (pe_callB call_len_seq (by rfl) T.b_len (by decide +kernel) (pa_cons (pv 0) pa_nil)) (pe_glob (v := .int 24) rfl gc ⟨_, rfl⟩) (nomark _)))))) (pss_one (ps_ret pe_bl)) pss_nil)
      (pss_one (ps_ret (pe_callB (cr_all rfl) (by rfl) T.b_all (by decide +kernel) (pa_cons
        (pe_lc (own := [("words", 1)]) (g := gName 1) (tt := tYes) rfl sc_is_image.nd (pi_list (pv 0)) (blkOk_by (own := [("words", 1)]) (N := ["thing", "words"]) (sc := d_is_image.scope) (by decide +kernel))
          (fun _ _ _ _ _ => pg_name (i := 1) sc_is_image.nd rfl (Or.inl rfl)) (fun _ _ _ _ _ => pts_nil)
          (fun _ _ _ _ _ => pe_or (pe_cmpR op_isN (pv 1) pe_non (nomark _)) (pe_one (pe_c O2 hr rfl T.g_are_words pass0 (pa_cons (pv 1) pa_nil))))) pa_nil)))), ?_⟩
    refine ⟨_, rfl, _, _, _, _, true, rfl, .ty _, .base (.lst ha), kit_ty (by decide +kernel), _, rfl, iteF ?_⟩
    refine ⟨_, rfl, _, _, rfl, .inl (SqL.of ha), _, _, rfl, rfl, _, rfl, ite_f (decide_eq_false (by rw [hlen]; omega)) ?_⟩
    refine ⟨_, rfl, _, _, rfl, .inl (SqL.of ha), _, _, rfl, rfl, _, rfl, ite_f (decide_eq_false (by rw [hlen]; omega)) ?_⟩
    refine ⟨_, rfl, a, rfl, ⟨_, SqL.of ha⟩, fun D hD => lc_list (K := K) (a := a) (xs := ps.map oV) (fun i H' => H' D = some (.lst ((List.replicate i true).map V.bl)) ∧ Same H H') ⟨upd_same, same_new hD⟩ (fun i H' _ q => q.2.seq (SqL.of ha)) ?_ ?_⟩
    · rintro i x H' hx ⟨hD', s'⟩
      have hil : i < pg.length := by
        have z := (List.getElem?_eq_some_iff.mp hx).1
        omega
      have next : ∀ H2, Same H' H2 → ∃ acc, H2 D = some (.lst acc) ∧ acc.length < sizeLine ∧ (upd H2 D (.lst (acc ++ [V.bl true])) D = some (.lst ((List.replicate (i + 1) true).map V.bl)) ∧ Same H (upd H2 D (.lst (acc ++ [V.bl true])))) := fun H2 s2 => by
        refine ⟨_, s2 _ _ hD', ?_, ?_, ?_⟩
        · rw [List.map_replicate]
          exact repl_small _ _ (by omega)
        · refine Eq.trans upd_same ?_
          rw [List.map_replicate, List.map_replicate, repl_snoc]
        · intro b o e
          rw [upd_ne (ne_of_none e hD)]
          exact s2 b o (s' b o e)
      cases hpi : pg[i]'hil with
      | none =>
        have e1 : ps[i]? = some none := hp.no i (by rw [List.getElem?_eq_getElem hil, hpi])
        rw [List.getElem?_map, e1] at hx
        obtain rfl : V.non = x := Option.some.inj hx
        exact ⟨rfl, _, rfl, rfl, _, rfl, ite_t (decide_eq_true rfl) (next H' (Same.refl _))⟩
      | some l =>
        obtain ⟨p, e1, e2⟩ := hp.yes i l (by rw [List.getElem?_eq_getElem hil, hpi])
        rw [List.getElem?_map, e1] at hx
        obtain rfl : V.ref p = x := Option.some.inj hx
        obtain ⟨g1, g2⟩ := hg l (by rw [← hpi]; exact List.getElem_mem hil)
        exact ⟨rfl, _, rfl, rfl, _, rfl, ite_f (decide_eq_false fun z => nomatch z) ⟨_, rfl, p, l, rfl, s' _ _ e2, g1, g2, next⟩⟩
    · rintro H' ⟨hD', s'⟩
      refine ⟨D, List.replicate (ps.map oV).length true, rfl, SqL.of hD', ?_⟩
      rw [all_true]
      exact hQ H' s'
end
end M35

/-! ## text A2 -/
set_option maxHeartbeats 4000000
namespace M35
open PySem PySem.Spec PyProof.Rows L2
/-! # rows of programs -/
def Ord.word : Ord → Str
  | .set .. => "set" | .add .. => "add" | .load .. => "load" | .save .. => "save" | .peek .. => "peek" | .poke .. => "poke" | .why .. => "why"
  | .tell .. => "tell" | .root .. => "root" | .drop .. => "drop" | .give .. => "give" | .want .. => "want"
  | .call => "call" | .halt => "halt" | .past => "past" | .jump .. => "jump" | .user .. => "user" | .nought .. => "nought"
def Ord.fk : Ord → Nat
  | .set .. => 4 | .add .. | .load .. | .save .. | .peek .. | .poke .. | .why .. => 0
  | .tell .. | .root .. | .drop .. | .give .. | .want .. => 1
  | .call | .halt | .past => 2 | .jump .. | .user .. => 3 | .nought .. => 5
def formN : Nat → Str
  | 0 => "rr" | 1 => "r" | 2 => "" | 3 => "a" | 4 => "rw" | _ => "ra"
def Ord.form (o : Ord) : Str := formN o.fk
def Ord.args : Ord → List V
  | .set a w => [.int a, .int w] | .add a b | .load a b | .save a b | .peek a b | .poke a b | .why a b => [.int a, .int b]
  | .tell a | .root a | .drop a | .give a | .want a => [.int a]
  | .call | .halt | .past => [] | .jump t | .user t => [.int t] | .nought a t => [.int a, .int t]
theorem Ord.vs_eq (o : Ord) : o.vs = .str o.word :: o.args := by cases o <;> rfl
section
variable {K : PySem.W.Frag} {i : Nat} {ta : TA} {t u : L2.TS} {D : Ends} {σ : L2.St} {H : Hp} {x : Str} {xs : List V}
/-- if x in (written texts): .. -/
theorem if_in_no (hx : σ[i]? = some (some (.str x))) (hta : ∀ Q' : List V → Hp → Prop, Q' xs H → ta σ H Q') (hl : xs.length ≤ sizeLine) (hf : xs.all flatV = true) (hn : inV (.str x) xs = false) (h : ∀ H', Same H H' → u D σ H') :
    tIfS (tTest (tOp (rIn K false) (tVar i) (tTup ta))) t u D σ H := by
  refine ⟨_, hx, hta _ ⟨hl, fun p hp => ⟨p, xs, rfl, .inr (SqT.of upd_same), rfl, hf, _, rfl, ite_f hn (h _ (same_new hp))⟩⟩⟩
theorem if_in_yes (hx : σ[i]? = some (some (.str x))) (hta : ∀ Q' : List V → Hp → Prop, Q' xs H → ta σ H Q') (hl : xs.length ≤ sizeLine) (hf : xs.all flatV = true) (hn : inV (.str x) xs = true) (h : ∀ H', Same H H' → t D σ H') :
    tIfS (tTest (tOp (rIn K false) (tVar i) (tTup ta))) t u D σ H := by
  refine ⟨_, hx, hta _ ⟨hl, fun p hp => ⟨p, xs, rfl, .inr (SqT.of upd_same), rfl, hf, _, rfl, ite_t hn (h _ (same_new hp))⟩⟩⟩
/-- if x == 'text': .. -/
theorem if_eq_no {y : Str} (hx : σ[i]? = some (some (.str x))) (hn : decide (V.str x = V.str y) = false) (h : u D σ H) : tIfS (tTest (tOp rEq (tVar i) (tC (.str y)))) t u D σ H := ⟨_, hx, rfl, _, rfl, ite_f hn h⟩
theorem if_eq_yes {y : Str} (hx : σ[i]? = some (some (.str x))) (hn : decide (V.str x = V.str y) = true) (h : t D σ H) : tIfS (tTest (tOp rEq (tVar i) (tC (.str y)))) t u D σ H := ⟨_, hx, rfl, _, rfl, ite_t hn h⟩
end
section
variable {P : Program} {w : World} {K : PySem.W.Frag} {mg : Str → Option Value} {base : Heap}
/-! ### form_of -/
theorem sc_form_of : FnScope ["word"] ["word"] d_form_of.scope := ⟨rfl, rfl, rfl, by decide +kernel, rfl, by decide +kernel, by decide +kernel⟩
def sp_form_of : Sp := fun vs H Q _ => ∃ o : Ord, vs = [.str o.word] ∧ ∀ H', Same H H' → Q (.str o.form) H'
theorem ok_form_of (T : Txt K mg) : Ok P w K mg base CX0 1 d_form_of ["word"] sp_form_of := by
  refine ok_no T.f_form_of sc_form_of rfl (fun _ _ _ _ _ _ us hl => match us, hl with | [_], _ => rfl) (fun vs H Q E h => ?_) (fun cdv A outer s H vs Q E hr h => ?_)
  · obtain ⟨a, rfl, _⟩ := h
    rfl
  · obtain ⟨o, rfl, hQ⟩ := h
    refine ⟨_, pss_cons (ps_if (pt_cmpR op_in_seq (pv 0) (pe_tup (pa_cons pe_str (pa_cons pe_str (pa_cons pe_str (pa_cons pe_str (pa_cons pe_str (pa_cons pe_str (pa_cons pe_str (pa_cons pe_str pa_nil))))))))) (by rfl)) (pss_one (ps_ret pe_str)) pss_nil)
      (pss_cons (ps_if (pt_cmpR op_in_seq (pv 0) (pe_tup (pa_cons pe_str (pa_cons pe_str (pa_cons pe_str (pa_cons pe_str (pa_cons pe_str pa_nil)))))) (by rfl)) (pss_one (ps_ret pe_str)) pss_nil)
      (pss_cons (ps_if (pt_cmpR op_in_seq (pv 0) (pe_tup (pa_cons pe_str (pa_cons pe_str (pa_cons pe_str (pa_cons pe_str pa_nil))))) (by rfl)) (pss_one (ps_ret pe_str)) pss_nil)
      (pss_cons (ps_if (pt_cmpR op_in_seq (pv 0) (pe_tup (pa_cons pe_str (pa_cons pe_str pa_nil))) (by rfl)) (pss_one (ps_ret pe_str)) pss_nil)
      (pss_cons (ps_if (pt_cmpR op_eq (pv 0) pe_str (nomark _)) (pss_one (ps_ret pe_str)) pss_nil)
      (pss_cons (ps_if (pt_cmpR op_eq (pv 0) pe_str (nomark _)) (pss_one (ps_ret pe_str)) pss_nil)
      (pss_one (ps_ret pe_non))))))), ?_⟩
    by_cases e1 : o.fk = 0
    · have z : inV (.str o.word) [.str "add", .str "both", .str "odd", .str "load", .str "save", .str "peek", .str "poke", .str "why"] = true := by cases o <;> first | rfl | (simp [Ord.fk] at *)
      rw [Ord.form, e1] at hQ
      exact if_in_yes rfl (fun _ q => q) (by decide) rfl z fun H1 s1 => hQ H1 s1
    have z1 : inV (.str o.word) [.str "add", .str "both", .str "odd", .str "load", .str "save", .str "peek", .str "poke", .str "why"] = false := by cases o <;> first | rfl | (simp [Ord.fk] at *)
    refine if_in_no rfl (fun _ q => q) (by decide) rfl z1 fun H1 s1 => ?_
    by_cases e2 : o.fk = 1
    · have z : inV (.str o.word) [.str "tell", .str "root", .str "drop", .str "give", .str "want"] = true := by cases o <;> first | rfl | (simp [Ord.fk] at *)
      rw [Ord.form, e2] at hQ
      exact if_in_yes rfl (fun _ q => q) (by decide) rfl z fun H2 s2 => hQ H2 (s1.trans s2)
    have z2 : inV (.str o.word) [.str "tell", .str "root", .str "drop", .str "give", .str "want"] = false := by cases o <;> first | rfl | (simp [Ord.fk] at *)
    refine if_in_no rfl (fun _ q => q) (by decide) rfl z2 fun H2 s2 => ?_
    by_cases e3 : o.fk = 2
    · have z : inV (.str o.word) [.str "call", .str "halt", .str "back", .str "past"] = true := by cases o <;> first | rfl | (simp [Ord.fk] at *)
      rw [Ord.form, e3] at hQ
      exact if_in_yes rfl (fun _ q => q) (by decide) rfl z fun H3 s3 => hQ H3 ((s1.trans s2).trans s3)
    have z3 : inV (.str o.word) [.str "call", .str "halt", .str "back", .str "past"] = false := by cases o <;> first | rfl | (simp [Ord.fk] at *)
    refine if_in_no rfl (fun _ q => q) (by decide) rfl z3 fun H3 s3 => ?_
    by_cases e4 : o.fk = 3
    · have z : inV (.str o.word) [.str "jump", .str "user"] = true := by cases o <;> first | rfl | (simp [Ord.fk] at *)
      rw [Ord.form, e4] at hQ
      exact if_in_yes rfl (fun _ q => q) (by decide) rfl z fun H4 s4 => hQ H4 (((s1.trans s2).trans s3).trans s4)
    have z4 : inV (.str o.word) [.str "jump", .str "user"] = false := by cases o <;> first | rfl | (simp [Ord.fk] at *)
    refine if_in_no rfl (fun _ q => q) (by decide) rfl z4 fun H4 s4 => ?_
    by_cases e5 : o.fk = 4
    · have z : decide (V.str o.word = V.str "set") = true := by cases o <;> first | rfl | (simp [Ord.fk] at *)
      rw [Ord.form, e5] at hQ
      exact if_eq_yes rfl z (hQ H4 (((s1.trans s2).trans s3).trans s4))
    have z5 : decide (V.str o.word = V.str "set") = false := by cases o <;> first | rfl | (simp [Ord.fk] at *)
    refine if_eq_no rfl z5 ?_
    have z6 : decide (V.str o.word = V.str "nought") = true := by cases o <;> first | rfl | (simp [Ord.fk] at *)
    have e6 : o.fk = 5 := by cases o <;> first | rfl | (simp [Ord.fk] at *)
    rw [Ord.form, e6] at hQ
    exact if_eq_yes rfl z6 (hQ H4 (((s1.trans s2).trans s3).trans s4))
/-! ### is_register, is_at, is_part -/
theorem sc_is_register : FnScope ["thing"] ["thing"] d_is_register.scope := ⟨rfl, rfl, rfl, by decide +kernel, rfl, by decide +kernel, by decide +kernel⟩
def sp_is_register : Sp := fun vs H Q _ => ∃ i, vs = [.int i] ∧ isR i ∧ Q (.bl true) H
theorem ok_is_register (T : Txt K mg) : Ok P w K mg base CX0 2 d_is_register ["thing"] sp_is_register := by
  refine ok_no T.f_is_register sc_is_register rfl (fun _ _ _ _ _ _ us hl => match us, hl with | [_], _ => rfl) (fun vs H Q E h => ?_) (fun cdv A outer s H vs Q E hr h => ?_)
  · obtain ⟨v, rfl, _⟩ := h
    rfl
  · obtain ⟨i, rfl, hi, hQ⟩ := h
    have O1 : Ok P w K mg base CX0 1 d_is_whole ["thing"] sp_is_whole := ok_is_whole T
    refine ⟨_, pss_one (ps_ret (pe_and (pe_c O1 hr rfl T.g_is_whole pass0 (pa_cons (pv 0) pa_nil)) (pe_one (pe_chain op_le op_lt pe_int (pv 0) pe_int)))), ?_⟩
    refine ⟨_, rfl, _, rfl, .int i, _, rfl, iteT ⟨_, rfl, _, _, rfl, rfl, _, rfl, ite_t (decide_eq_true hi.1) ⟨_, _, rfl, rfl, ?_⟩⟩⟩
    show Q (.bl (decide (i < 4))) H
    rw [decide_eq_true hi.2]
    exact hQ
theorem sc_is_at : FnScope ["thing"] ["thing"] d_is_at.scope := ⟨rfl, rfl, rfl, by decide +kernel, rfl, by decide +kernel, by decide +kernel⟩
def sp_is_at : Sp := fun vs H Q _ => ∃ i, vs = [.int i] ∧ isT i ∧ Q (.bl true) H
theorem ok_is_at (T : Txt K mg) : Ok P w K mg base CX0 2 d_is_at ["thing"] sp_is_at := by
  refine ok_no T.f_is_at sc_is_at rfl (fun _ _ _ _ _ _ us hl => match us, hl with | [_], _ => rfl) (fun vs H Q E h => ?_) (fun cdv A outer s H vs Q E hr h => ?_)
  · obtain ⟨v, rfl, _⟩ := h
    rfl
  · obtain ⟨i, rfl, hi, hQ⟩ := h
    have O1 : Ok P w K mg base CX0 1 d_is_whole ["thing"] sp_is_whole := ok_is_whole T
    obtain ⟨tc, gc⟩ := T.i_MOST_ROWS
    refine ⟨_, pss_one (ps_ret (pe_and (pe_c O1 hr rfl T.g_is_whole pass0 (pa_cons (pv 0) pa_nil)) (pe_one (pe_chain op_le op_le pe_int (pv 0) (pe_glob (v := .int 60) rfl gc ⟨_, rfl⟩))))), ?_⟩
    refine ⟨_, rfl, _, rfl, .int i, _, rfl, iteT ⟨_, rfl, _, _, rfl, rfl, _, rfl, ite_t (decide_eq_true hi.1) ⟨_, _, rfl, rfl, ?_⟩⟩⟩
    show Q (.bl (decide (i ≤ 60))) H
    rw [decide_eq_true hi.2]
    exact hQ
theorem sc_is_part : FnScope ["thing", "sign"] ["thing", "sign"] d_is_part.scope := ⟨rfl, rfl, rfl, by decide +kernel, rfl, by decide +kernel, by decide +kernel⟩
/-- a part fits its sign -/
def fits (i : Int) (z : Str) : Prop := (z = "r" ∧ isR i) ∨ (z = "w" ∧ isW i) ∨ (z = "a" ∧ isT i)
def sp_is_part : Sp := fun vs H Q _ => ∃ i z, vs = [.int i, .str z] ∧ fits i z ∧ Q (.bl true) H
theorem ok_is_part (T : Txt K mg) : Ok P w K mg base CX0 3 d_is_part ["thing", "sign"] sp_is_part := by
  refine ok_no T.f_is_part sc_is_part rfl (fun _ _ _ _ _ _ us hl => match us, hl with | [_, _], _ => rfl) (fun vs H Q E h => ?_) (fun cdv A outer s H vs Q E hr h => ?_)
  · obtain ⟨v, z, rfl, _⟩ := h
    rfl
  · obtain ⟨i, z, rfl, hi, hQ⟩ := h
    have O1 : Ok P w K mg base CX0 2 d_is_register ["thing"] sp_is_register := ok_is_register T
    have O2 : Ok P w K mg base CX0 2 d_is_word ["thing"] sp_is_word := ok_is_word T
    have O3 : Ok P w K mg base CX0 2 d_is_at ["thing"] sp_is_at := ok_is_at T
    refine ⟨_, pss_cons (ps_if (pt_cmpR op_eq (pv 1) pe_str (nomark _)) (pss_one (ps_ret (pe_c O1 hr rfl T.g_is_register pass0 (pa_cons (pv 0) pa_nil)))) pss_nil)
      (pss_cons (ps_if (pt_cmpR op_eq (pv 1) pe_str (nomark _)) (pss_one (ps_ret (pe_c O2 hr rfl T.g_is_word pass0 (pa_cons (pv 0) pa_nil)))) pss_nil)
      (pss_one (ps_ret (pe_c O3 hr rfl T.g_is_at pass0 (pa_cons (pv 0) pa_nil))))), ?_⟩
    rcases hi with ⟨rfl, h1⟩ | ⟨rfl, h1⟩ | ⟨rfl, h1⟩
    · exact if_eq_yes rfl (by decide +kernel) ⟨_, rfl, _, rfl, h1, hQ⟩
    · exact if_eq_no rfl (by decide +kernel) (if_eq_yes rfl (by decide +kernel) ⟨_, rfl, _, rfl, h1, hQ⟩)
    · exact if_eq_no rfl (by decide +kernel) (if_eq_no rfl (by decide +kernel) ⟨_, rfl, _, rfl, h1, hQ⟩)
end
end M35

/-! ## text A3 -/
set_option maxHeartbeats 4000000
namespace M35
open PySem PySem.Spec PyProof.Rows L2
def Fit (xs : List V) (z : Str) : Prop := xs.length = z.cps.size ∧ ∀ (i : Nat) (x : V) (c : Nat), xs[i]? = some x → z.cps[i]? = some c → ∃ n, x = .int n ∧ fits n ⟨#[c]⟩
theorem fit0 : Fit [] "" := ⟨by decide +kernel, fun i x c h => by simp at h⟩
theorem fit1 {a : Int} {z : Str} {c0 : Nat} (hs : z.cps = #[c0]) (h : fits a ⟨#[c0]⟩) : Fit [.int a] z := by
  refine ⟨by rw [hs]; rfl, fun i x c hx hc => ?_⟩
  rw [hs] at hc
  rcases i with _ | i
  · cases hx; cases hc; exact ⟨a, rfl, h⟩
  · simp at hx
theorem fit2 {a b : Int} {z : Str} {c0 c1 : Nat} (hs : z.cps = #[c0, c1]) (h : fits a ⟨#[c0]⟩) (h1 : fits b ⟨#[c1]⟩) : Fit [.int a, .int b] z := by
  refine ⟨by rw [hs]; rfl, fun i x c hx hc => ?_⟩
  rw [hs] at hc
  rcases i with _ | _ | i
  · cases hx; cases hc; exact ⟨a, rfl, h⟩
  · cases hx; cases hc; exact ⟨b, rfl, h1⟩
  · simp at hx
theorem ft_r {a : Int} (h : isR a) : fits a ⟨#[114]⟩ := .inl ⟨by decide +kernel, h⟩
theorem ft_w {a : Int} (h : isW a) : fits a ⟨#[119]⟩ := .inr (.inl ⟨by decide +kernel, h⟩)
theorem ft_a {a : Int} (h : isT a) : fits a ⟨#[97]⟩ := .inr (.inr ⟨by decide +kernel, h⟩)
theorem args_fit {o : Ord} (h : o.good) : Fit o.args o.form := by
  have rr : ("rr" : Str).cps = #[114, 114] := by decide +kernel
  have rw2 : ("rw" : Str).cps = #[114, 119] := by decide +kernel
  have ra : ("ra" : Str).cps = #[114, 97] := by decide +kernel
  have r1 : ("r" : Str).cps = #[114] := by decide +kernel
  have a1 : ("a" : Str).cps = #[97] := by decide +kernel
  cases o with
  | set a w => exact fit2 rw2 (ft_r h.1) (ft_w h.2)
  | add a b => exact fit2 rr (ft_r h.1) (ft_r h.2)
  | load a b => exact fit2 rr (ft_r h.1) (ft_r h.2)
  | save a b => exact fit2 rr (ft_r h.1) (ft_r h.2)
  | peek a b => exact fit2 rr (ft_r h.1) (ft_r h.2)
  | poke a b => exact fit2 rr (ft_r h.1) (ft_r h.2)
  | why a b => exact fit2 rr (ft_r h.1) (ft_r h.2)
  | tell a => exact fit1 r1 (ft_r h)
  | root a => exact fit1 r1 (ft_r h)
  | drop a => exact fit1 r1 (ft_r h)
  | give a => exact fit1 r1 (ft_r h)
  | want a => exact fit1 r1 (ft_r h)
  | call => exact fit0
  | halt => exact fit0
  | past => exact fit0
  | jump t => exact fit1 a1 (ft_a h)
  | user t => exact fit1 a1 (ft_a h)
  | nought a t => exact fit2 ra (ft_r h.1) (ft_a h.2)
theorem formN_len : (formN 0).length = 2 ∧ (formN 1).length = 1 ∧ (formN 2).length = 0 ∧ (formN 3).length = 1 ∧ (formN 4).length = 2 ∧ (formN 5).length = 2 := by decide +kernel
theorem form_len (o : Ord) : o.form.length = o.args.length := by
  obtain ⟨h0, h1, h2, h3, h4, h5⟩ := formN_len
  cases o <;> first | exact h0 | exact h1 | exact h2 | exact h3 | exact h4 | exact h5
theorem args_len (o : Ord) : o.args.length ≤ 2 := by
  cases o <;> first | exact Nat.le_refl 2 | exact (by decide : 1 ≤ 2) | exact Nat.zero_le 2
theorem form_small (o : Ord) : o.form.length ≤ sizeLine ∧ o.form.length = o.args.length := ⟨Nat.le_trans (by rw [form_len]; exact args_len o) (by decide : 2 ≤ sizeLine), form_len o⟩
section
variable {P : Program} {w : World} {K : PySem.W.Frag} {mg : Str → Option Value} {base : Heap}
/-! ### is_order -/
theorem sc_is_order : FnScope ["thing", "form", "part", "sign"] ["thing"] d_is_order.scope := ⟨rfl, rfl, rfl, by decide +kernel, rfl, by decide +kernel, by decide +kernel⟩
def sp_is_order : Sp := fun vs H Q _ => ∃ (t : Addr) (o : Ord), vs = [.ref t] ∧ H t = some (.tup o.vs) ∧ o.good ∧ ∀ H', Same H H' → Q (.bl true) H'
theorem ok_is_order (T : Txt K mg) : Ok P w K mg base CX0 4 d_is_order ["thing"] sp_is_order := by
  refine ok_no T.f_is_order sc_is_order rfl (fun _ _ _ _ _ _ us hl => match us, hl with | [_], _ => rfl) (fun vs H Q E h => ?_) (fun cdv A outer s H vs Q E hr h => ?_)
  · obtain ⟨t, o, rfl, _⟩ := h
    rfl
  · obtain ⟨t, o, rfl, ht, ho, hQ⟩ := h
    have O1 : Ok P w K mg base CX0 1 d_form_of ["word"] sp_form_of := ok_form_of T
    have O2 : Ok P w K mg base CX0 3 d_is_part ["thing", "sign"] sp_is_part := ok_is_part T
    have nd := sc_is_order.nd
    refine ⟨_, pss_cons (ps_if (PW.pt (pw_or (pt_not (pt_val (pe_callB call_isi (by rfl) T.b_isinstance (by decide +kernel) (pa_cons (pv 0) (pa_cons (pe_bltn (v := .ty "tuple") (by rfl) T.b_tuple (by decide +kernel) rfl) pa_nil)))))
        (pw_or (pt_cmpR op_eq (pe_callB call_len_seq (by rfl) T.b_len (by decide +kernel) (pa_cons (pv 0) pa_nil)) pe_int (nomark _))
        (pw_or1 (pt_not (pt_val (pe_callB call_isi (by rfl) T.b_isinstance (by decide +kernel) (pa_cons (pe_ix ix_tup (pv 0) pe_int (fun _ _ => rfl)) (pa_cons (pe_bltn (v := .ty "str") (by rfl) T.b_str (by decide +kernel) rfl) pa_nil))))))))) (pss_one (ps_ret pe_bl)) pss_nil)
      (pss_cons (ps_set (i := 1) nd rfl (.inl rfl) (pe_c O1 (hr.mono (by decide)) rfl T.g_form_of pass0 (pa_cons (pe_ix ix_tup (pv 0) pe_int (fun _ _ => rfl)) pa_nil)))
      (pss_cons (ps_if (PW.pt (pw_or (pt_cmpR op_isN (pv 1) pe_non (nomark _))
        (pw_or1 (pt_cmpR op_ne (pe_callB call_len_str (by rfl) T.b_len (by decide +kernel) (pa_cons (pv 1) pa_nil)) (pe_op op_sub (pe_callB call_len_seq (by rfl) T.b_len (by decide +kernel) (pa_cons (pv 0) pa_nil)) pe_int) (nomark _))))) (pss_one (ps_ret pe_bl)) pss_nil)
      (pss_cons (ps_for PassesOwn.never rfl (pi_zts (by rfl) T.b_zip (pa_cons (pe_slice sl_tup (pv 0) (po_some pe_int) po_none) (pa_cons (pv 1) pa_nil)))
        (pg_tup rfl (pgs_cons (pg_name (i := 2) nd rfl (.inl rfl)) (pgs_cons (pg_name (i := 3) nd rfl (.inl rfl)) pgs_nil)))
        (pss_one (ps_if (pt_not (pt_val (pe_c O2 hr rfl T.g_is_part pass0 (pa_cons (pv 2) (pa_cons (pv 3) pa_nil))))) (pss_one (ps_ret pe_bl)) pss_nil)))
      (pss_one (ps_ret pe_bl))))), ?_⟩
    have hl : o.vs.length = o.args.length + 1 := by rw [o.vs_eq]; rfl
    have h0 : atI o.vs 0 = some (.str o.word) := by rw [o.vs_eq]; exact atI_nat (j := 0) rfl
    -- the first test
    refine ⟨_, rfl, _, _, _, _, true, rfl, .ty _, .base (.tup ht), kit_ty (by decide +kernel), _, rfl, iteF ?_⟩
    refine ⟨_, rfl, _, _, rfl, .inr (SqT.of ht), rfl, _, rfl, ite_f (decide_eq_false fun z => ?_) ?_⟩
    · have z2 := V.int.inj z
      rw [hl] at z2
      omega
    refine ⟨_, rfl, _, _, _, _, rfl, rfl, SqT.of ht, h0, _, _, _, _, true, rfl, .ty _, .base (.str _), kit_ty (by decide +kernel), _, rfl, iteF ?_⟩
    -- form = form_of(thing[0])
    refine ⟨_, rfl, _, _, _, _, rfl, rfl, SqT.of ht, h0, o, rfl, fun H1 s1 => ?_⟩
    have ht1 : H1 t = some (.tup o.vs) := s1 _ _ ht
    obtain ⟨hz1, hz2⟩ := form_small o
    refine ⟨_, rfl, rfl, _, rfl, ite_f (decide_eq_false fun z => nomatch z) ?_⟩
    refine ⟨_, rfl, _, rfl, hz1, _, rfl, _, _, rfl, .inr (SqT.of ht1), _, _, rfl, rfl, rfl, _, rfl, iteNS ?_ ?_⟩
    · have e : ((o.vs.length : Int) - 1) = (o.form.length : Int) := by rw [hl, hz2]; omega
      show V.int _ = V.int ((o.vs.length : Int) - 1)
      rw [e]
    -- the loop
    refine ⟨_, rfl, _, rfl, t, o.vs, rfl, SqT.of ht1, ?_, fun p hp => ?_⟩
    · rintro ⟨z, _⟩
      have z2 : HT.sIx o.vs.length 0 (some ((1 : Nat) : Int)) = 0 := z
      rw [HT.sIx_nat] at z2
      omega
    have hcut : cutV o.vs (some 1) none = o.args := by
      rw [o.vs_eq]
      show ((V.str o.word :: o.args).drop (HT.sIx (o.args.length + 1) 0 (some ((1 : Nat) : Int)))).take ((o.args.length + 1) - HT.sIx (o.args.length + 1) 0 (some ((1 : Nat) : Int))) = o.args
      rw [HT.sIx_nat]
      have e : min 1 (o.args.length + 1) = 1 := by omega
      rw [e]
      simp
    have hf := args_fit ho
    rw [hcut]
    have s2 : Same H (upd H1 p (.tup o.args)) := Same.up s1 hp
    refine ⟨_, rfl, p, o.args, _, rfl, SqT.of upd_same, for_it (walk_zts (K := K) (a := p) hf.1) (fun i σ H' => ∃ v2 v3 : Option V, σ = [some (.ref t), some (.str o.form), v2, v3] ∧ Same (upd H1 p (.tup o.args)) H') ⟨none, none, rfl, Same.refl _⟩ (fun i σ H' _ q => ?_) ?_ ?_⟩
    · obtain ⟨_, _, _, s3⟩ := q
      exact SqT.of (s3 _ _ upd_same)
    · rintro i x σ H2 H3 hi ⟨v2, v3, rfl, s3⟩ ⟨T2, x2, y2, rfl, nT, rfl, ex, ey⟩
      obtain ⟨c, hc, rfl⟩ := Option.map_eq_some_iff.mp ey
      obtain ⟨n, rfl, fn⟩ := hf.2 i x2 c ex hc
      refine ⟨T2, _, rfl, SqT.of upd_same, rfl, ?_⟩
      refine ⟨_, _, rfl, ⟨_, _, rfl, rfl, ?_⟩⟩
      refine ⟨_, rfl, _, rfl, n, _, rfl, fn, _, rfl, iteF ?_⟩
      exact ⟨_, _, rfl, Same.up s3 nT⟩
    · rintro σ H2 ⟨v2, v3, rfl, s3⟩
      exact hQ H2 (s2.trans s3)
end
end M35

/-! ## text A4 -/
set_option maxHeartbeats 4000000
namespace M35
open PySem PySem.Spec PyProof.Rows L2
/-- the rows of a program on the heap -/
structure OdR (H : Hp) (ts : List Addr) (os : List Ord) : Prop where
  len : ts.length = os.length
  at_ : ∀ (i : Nat) (o : Ord), os[i]? = some o → ∃ t, ts[i]? = some t ∧ H t = some (.tup o.vs)
theorem OdR.keep {H H' : Hp} {ts : List Addr} {os : List Ord} (h : OdR H ts os) (k : ∀ b xs, H b = some (.tup xs) → H' b = some (.tup xs)) : OdR H' ts os :=
  ⟨h.len, fun i o e => let ⟨t, a, b⟩ := h.at_ i o e; ⟨t, a, k t _ b⟩⟩
section
variable {P : Program} {w : World} {K : PySem.W.Frag} {mg : Str → Option Value} {base : Heap}
/-! ### what the head says besides -/
theorem Txt.e1 (T : Txt K mg) : ex1 K = true := (He.ba T.ex).1
theorem Txt.e2 (T : Txt K mg) : ex2 K = true := (He.ba (He.ba T.ex).2).1
theorem Txt.e3 (T : Txt K mg) : ex3 K = true := (He.ba (He.ba T.ex).2).2
theorem Txt.kinds (T : Txt K mg) (H : Hp) : SqT K H (He.ga K "KINDS") (kindsL.map V.str) := by
  obtain ⟨_, h⟩ := He.ba T.e2
  obtain ⟨_, h⟩ := He.ba h
  obtain ⟨_, h⟩ := He.ba h
  obtain ⟨_, h⟩ := He.ba h
  exact He.tupB_ok h H
theorem Txt.oex (T : Txt K mg) : OexC K (cFault K) ∧ XfC K (cFault K) ∧ PySem.W.findIn K (.ref (cFault K)) "kind" = some none ∧ PySem.W.findIn K (.ref (cFault K)) "place" = some none ∧ PySem.W.findIn K (.ref (cFault K)) "level" = some none ∧
    PySem.W.findIn K (.ref (cFault K)) "__init__" = some (some (.ref (He.ma K (cFault K) "__init__"))) ∧ PySem.W.typeIn K (.ref (He.ma K (cFault K) "__init__")) = some (.type "function") := by
  obtain ⟨h1, h⟩ := He.ba T.e1
  obtain ⟨h2, h⟩ := He.ba h
  obtain ⟨h3, h⟩ := He.ba h
  obtain ⟨h4, h⟩ := He.ba h
  obtain ⟨h5, h⟩ := He.ba h
  obtain ⟨h6, h⟩ := He.ba h
  obtain ⟨h7, h⟩ := He.ba h
  obtain ⟨h8, h⟩ := He.ba h
  obtain ⟨h9, h10⟩ := He.ba h
  have xf := xfB_ok h5
  exact ⟨⟨oexB_ok h1, of_decide_eq_true h2, xf.exC, of_decide_eq_true h3, h4⟩, xf, of_decide_eq_true h6, of_decide_eq_true h7, of_decide_eq_true h8, of_decide_eq_true h9, of_decide_eq_true h10⟩
theorem rdB_ok {C : Addr} (h : rdB K C = true) : PySem.W.readsIn K C (.type "type") = true ∧ PySem.W.specialIn K (.ref C) "__getattribute__" = some (some (.builtin "type.__getattribute__")) := by
  obtain ⟨h1, h2⟩ := He.ba h
  exact ⟨h1, of_decide_eq_true h2⟩
theorem Txt.house (T : Txt K mg) : (PySem.W.readsIn K (He.ga K "HouseError") (.type "type") = true ∧ PySem.W.specialIn K (.ref (He.ga K "HouseError")) "__getattribute__" = some (some (.builtin "type.__getattribute__"))) ∧
    PySem.W.findCls K (.ref (He.ga K "HouseError")) (.type "type") "__init__" = some (.val (.builtin "ValueError.__init__")) := by
  obtain ⟨h1, h⟩ := He.ba T.e2
  obtain ⟨h2, _⟩ := He.ba h
  exact ⟨rdB_ok h1, valB_ok h2⟩
theorem Txt.ways (T : Txt K mg) : (PySem.W.readsIn K (He.ga K "Ways") (.type "type") = true ∧ PySem.W.specialIn K (.ref (He.ga K "Ways")) "__getattribute__" = some (some (.builtin "type.__getattribute__"))) ∧
    PySem.W.findCls K (.ref (He.ga K "Ways")) (.type "type") "__init__" = some (.val (.ref (He.ma K (He.ga K "Ways") "__init__"))) := by
  obtain ⟨_, h⟩ := He.ba T.e2
  obtain ⟨_, h⟩ := He.ba h
  obtain ⟨h1, h⟩ := He.ba h
  obtain ⟨h2, _⟩ := He.ba h
  exact ⟨rdB_ok h1, valB_ok h2⟩
theorem Txt.bound (T : Txt K mg) : ExcC K (He.ga K "NoBound") ∧ PySem.W.kitOne K (.ref (He.ga K "NoBound")) (.ref (He.ga K "NoProgram")) = some false ∧ PySem.W.kitOne K (.ref (He.ga K "NoBound")) (.ref (He.ga K "Fault")) = some false ∧
    PySem.W.kitOne K (.ref (He.ga K "NoBound")) (.ref (He.ga K "NoShelf")) = some false ∧ PySem.W.kitOne K (.ref (He.ga K "NoBound")) (.ref (He.ga K "NoBound")) = some true ∧ PySem.W.kitOne K (.ref (He.ga K "NoBound")) (.type "ValueError") = some true := by
  obtain ⟨h1, h⟩ := He.ba T.e3
  obtain ⟨h2, h⟩ := He.ba h
  obtain ⟨h3, h⟩ := He.ba h
  obtain ⟨h4, h⟩ := He.ba h
  obtain ⟨h5, h6⟩ := He.ba h
  exact ⟨excCB_ok h1, of_decide_eq_true h2, of_decide_eq_true h3, of_decide_eq_true h4, of_decide_eq_true h5, of_decide_eq_true h6⟩
/-! ### is_inner -/
theorem sc_is_inner : FnScope ["word"] ["word"] d_is_inner.scope := ⟨rfl, rfl, rfl, by decide +kernel, rfl, by decide +kernel, by decide +kernel⟩
def sp_is_inner : Sp := fun vs H Q _ => ∃ o : Ord, vs = [.str o.word] ∧ ∀ H', Same H H' → Q (.bl o.inner) H'
theorem ok_is_inner (T : Txt K mg) : Ok P w K mg base CX0 1 d_is_inner ["word"] sp_is_inner := by
  refine ok_no T.f_is_inner sc_is_inner rfl (fun _ _ _ _ _ _ us hl => match us, hl with | [_], _ => rfl) (fun vs H Q E h => ?_) (fun cdv A outer s H vs Q E hr h => ?_)
  · obtain ⟨a, rfl, _⟩ := h
    rfl
  · obtain ⟨o, rfl, hQ⟩ := h
    refine ⟨_, pss_one (ps_ret (pe_cmpR op_in_seq (pv 0) (pe_tup (pa_cons pe_str (pa_cons pe_str (pa_cons pe_str (pa_cons pe_str (pa_cons pe_str (pa_cons pe_str (pa_cons pe_str (pa_cons pe_str (pa_cons pe_str (pa_cons pe_str pa_nil))))))))))) (by rfl))), ?_⟩
    refine ⟨_, rfl, (by decide), fun p hp => ⟨p, _, rfl, .inr (SqT.of upd_same), rfl, rfl, ?_⟩⟩
    have z : inV (.str o.word) [.str "peek", .str "poke", .str "root", .str "drop", .str "give", .str "want", .str "why", .str "back", .str "past", .str "user"] = o.inner := by cases o <;> rfl
    show Q (.bl (inV (.str o.word) [.str "peek", .str "poke", .str "root", .str "drop", .str "give", .str "want", .str "why", .str "back", .str "past", .str "user"])) _
    rw [z]
    exact hQ _ (same_new hp)
/-! ### checked -/
theorem sc_checked : FnScope ["program", "entry", "number", "thing"] ["program", "entry"] d_checked.scope := ⟨rfl, rfl, rfl, by decide +kernel, rfl, by decide +kernel, by decide +kernel⟩
def sp_checked : Sp := fun vs H Q _ => ∃ (a : Addr) (e : Int) (ts : List Addr) (os : List Ord), vs = [.ref a, .int e] ∧ H a = some (.lst (ts.map V.ref)) ∧ OdR H ts os ∧ (∀ o ∈ os, o.good) ∧ 1 ≤ os.length ∧ os.length ≤ 60 ∧ isT e ∧ ∀ H', Same H H' → Q .non H'
theorem ok_checked (T : Txt K mg) : Ok P w K mg base CX0 5 d_checked ["program", "entry"] sp_checked := by
  refine ok_no T.f_checked sc_checked rfl (fun _ _ _ _ _ _ us hl => match us, hl with | [_, _], _ => rfl) (fun vs H Q E h => ?_) (fun cdv A outer s H vs Q E hr h => ?_)
  · obtain ⟨a, e, ts, os, rfl, _⟩ := h
    rfl
  · obtain ⟨a, e, ts, os, rfl, ha, hO, hg, h1, h60, he, hQ⟩ := h
    have O1 : Ok P w K mg base CX0 4 d_is_order ["thing"] sp_is_order := ok_is_order T
    have O2 : Ok P w K mg base CX0 2 d_is_at ["thing"] sp_is_at := ok_is_at T
    have nd := sc_checked.nd
    obtain ⟨tc, gc⟩ := T.i_MOST_ROWS
    refine ⟨_, pss_cons (ps_if (PW.pt (pw_or (pt_not (pt_val (pe_callB call_isi (by rfl) T.b_isinstance (by decide +kernel) (pa_cons (pv 0) (pa_cons (pe_bltn (v := .ty "list") (by rfl) T.b_list (by decide +kernel) rfl) pa_nil)))))
        (pw_or1 (pt_not (pt_chain op_le op_le pe_int (pe_callB call_len_seq (by rfl) T.b_len (by decide +kernel) (pa_cons (pv 0) pa_nil)) (pe_glob (v := .int 60) rfl gc ⟨_, rfl⟩)))))) (pss_one ps_never) pss_nil)
      (pss_cons (ps_for PassesOwn.never rfl (pi_enum (by rfl) T.b_enumerate (pa_cons (pv 0) pa_nil))
        (pg_tup rfl (pgs_cons (pg_name (i := 2) nd rfl (.inl rfl)) (pgs_cons (pg_name (i := 3) nd rfl (.inl rfl)) pgs_nil)))
        (pss_one (ps_if (pt_not (pt_val (pe_c O1 hr rfl T.g_is_order pass0 (pa_cons (pv 3) pa_nil)))) (pss_one ps_never) pss_nil)))
      (pss_one (ps_if (pt_not (pt_val (pe_c O2 (hr.mono (by decide)) rfl T.g_is_at pass0 (pa_cons (pv 1) pa_nil)))) (pss_one ps_never) pss_nil))), ?_⟩
    have hl : (ts.map V.ref).length = os.length := by rw [List.length_map, hO.len]
    refine ⟨_, rfl, _, _, _, _, true, rfl, .ty _, .base (.lst ha), kit_ty (by decide +kernel), _, rfl, iteF ?_⟩
    refine ⟨_, rfl, _, _, rfl, .inl (SqL.of ha), _, _, rfl, rfl, _, rfl, ite_t (decide_eq_true (by rw [hl]; omega)) ⟨_, _, rfl, rfl, _, rfl, ?_⟩⟩
    rw [decide_eq_true (show ((ts.map V.ref).length : Int) ≤ 60 by rw [hl]; omega)]
    refine iteF ?_
    refine ⟨_, rfl, a, _, rfl, SqL.of ha, for_it (walk_enum (K := K) (a := a) (xs := ts.map V.ref)) (fun i σ H' => ∃ v2 v3 : Option V, σ = [some (.ref a), some (.int e), v2, v3] ∧ Same H H') ⟨none, none, rfl, Same.refl _⟩ (fun i σ H' _ q => ?_) ?_ ?_⟩
    · obtain ⟨_, _, _, s3⟩ := q
      exact SqL.of (s3 _ _ ha)
    · rintro i x σ H2 H3 hi ⟨v2, v3, rfl, s3⟩ ⟨T2, x2, y2, rfl, nT, rfl, ex, ey⟩
      refine ⟨T2, _, rfl, SqT.of upd_same, rfl, ?_⟩
      refine ⟨_, _, rfl, ⟨_, _, rfl, rfl, ?_⟩⟩
      have hio : i < os.length := by rw [hl] at hi; exact hi
      obtain ⟨t, e1, e2⟩ := hO.at_ i _ (List.getElem?_eq_getElem hio)
      have ey2 : (ts.map V.ref)[i]? = some y2 := ey
      rw [List.getElem?_map, e1] at ey2
      obtain rfl : V.ref t = y2 := Option.some.inj ey2
      have s4 : Same H (upd H2 T2 (.tup [x2, .ref t])) := Same.up s3 nT
      refine ⟨_, rfl, t, _, rfl, s4 _ _ e2, hg _ (List.getElem_mem hio), fun H4 s5 => ⟨_, rfl, iteF ?_⟩⟩
      exact ⟨_, _, rfl, s4.trans s5⟩
    · rintro σ H2 ⟨v2, v3, rfl, s3⟩
      exact ⟨_, rfl, e, rfl, he, _, rfl, iteF (hQ H2 s3)⟩
/-! ### kind_number, called where a fault is handled -/
theorem sc_kind_number : FnScope ["kind", "number", "name"] ["kind"] d_kind_number.scope := ⟨rfl, rfl, rfl, by decide +kernel, rfl, by decide +kernel, by decide +kernel⟩
def sp_kind_number : Sp := fun vs H Q _ => ∃ k : Str, vs = [.str k] ∧ k ∈ kindsL ∧ Q (.int (kindNum k)) H
theorem ok_kind_number (T : Txt K mg) : OkH P w K mg base 1 d_kind_number ["kind"] sp_kind_number := by
  refine okH_mk T.f_kind_number sc_kind_number rfl (fun _ _ _ _ _ _ us hl => match us, hl with | [_], _ => rfl) (fun vs H Q E h => ?_) (fun cdv A outer s H vs Q E p hot hr h => ?_)
  · obtain ⟨a, rfl, _⟩ := h
    rfl
  · obtain ⟨k, rfl, hk, hQ⟩ := h
    have nd := sc_kind_number.nd
    refine ⟨_, pss_cons (ps_set (i := 1) nd rfl (.inl rfl) pe_int)
      (pss_cons (ps_forT PassesOwn.never (pe_glob (v := .ref (He.ga K "KINDS")) rfl T.g_KINDS rfl) (pg_name (i := 2) nd rfl (.inl rfl))
        (pss_cons (ps_if (pt_cmpR op_eq (pv 2) (pv 0) (nomark _)) (pss_one (ps_ret (pv 1))) pss_nil)
          (pss_one (ps_set (i := 1) nd rfl (.inl rfl) (pe_op op_add (pv 1) pe_int)))))
      (pss_one (ps_ret pe_int))), ?_⟩
    have hlt : kindsL.findIdx (fun x => x == k) < kindsL.length := List.findIdx_lt_length_of_exists ⟨k, hk, by simp⟩
    refine ⟨_, _, rfl, T.kinds H, fun i σ H' => H' = H ∧ i ≤ kindsL.findIdx (fun x => x == k) ∧ ∃ v : Option V, σ = [some (.str k), some (.int ((i : Int) + 1)), v], ⟨rfl, Nat.zero_le _, none, rfl⟩, ?_⟩
    rintro i σ H' ⟨rfl, hi, v, rfl⟩
    have hil : i < kindsL.length := Nat.lt_of_le_of_lt hi hlt
    refine ⟨.str kindsL[i], by rw [List.getElem?_map, List.getElem?_eq_getElem hil]; rfl, T.kinds H', ?_⟩
    refine ⟨_, rfl, _, rfl, rfl, _, rfl, ite_b (fun c => ?_) (fun c => ?_)⟩
    · have c2 : kindsL[i] = k := V.str.inj (of_decide_eq_true c)
      refine ⟨_, rfl, ?_⟩
      have e : kindsL.findIdx (fun x => x == k) = i := by
        refine Nat.le_antisymm (Nat.le_of_not_lt fun z => ?_) hi
        have q := List.not_of_lt_findIdx z
        simp [c2] at q
      have e2 : kindNum k = (i : Int) + 1 := by
        unfold kindNum
        rw [e]
      rw [e2] at hQ
      exact hQ
    · have c2 : kindsL[i] ≠ k := fun z => (of_decide_eq_false c) (by rw [z])
      refine ⟨_, rfl, _, _, rfl, rfl, rfl, ?_, _, rfl⟩
      rcases Nat.lt_or_ge i (kindsL.findIdx fun x => x == k) with z | z
      · exact z
      · have e : kindsL.findIdx (fun x => x == k) = i := Nat.le_antisymm z hi
        have q := List.findIdx_getElem (w := hlt)
        simp only [e] at q
        exact absurd (by simpa using q) c2
end
end M35

/-! ## text A5 -/
set_option maxHeartbeats 4000000
namespace M35
open PySem PySem.Spec PyProof.Rows L2
/-! # the shelf -/
section
variable {K : PySem.W.Frag} {i : Nat} {σ : L2.St} {H : Hp} {a C dx : Addr} {fs : List (Str × V)} {f : Str} {v : V} {Q : VK}
/-- x.f, x a name -/
theorem q_fld (h : H a = some (.ins C dx fs)) (c : Cls K C) (n : NoAttr K C f) (l : fs.lookup f = some v) (hx : σ[i]? = some (some (.ref a))) (q : Q v H) : tFld K (tVar i) f σ H Q := ⟨_, hx, a, C, dx, fs, v, rfl, h, c, n, l, q⟩
end
/-- one address alone may have changed -/
def But1 (a : Addr) (H H' : Hp) : Prop := ∀ b o, b ≠ a → H b = some o → H' b = some o
theorem but1_upd {H H1 : Hp} {a : Addr} {o : HO} (s : Same H H1) : But1 a H (upd H1 a o) := fun b u n e => by
  rw [upd_ne n]
  exact s b u e
theorem upd_same_of {H H1 : Hp} {a : Addr} {o : HO} : upd H1 a o a = some o := upd_same
theorem RwR.set {H : Hp} {rows : List Addr} {line : List Row} (h : RwR H rows line) {i : Nat} {r : Row} {t : Addr} (ht : H t = some (.tup (rowV r))) : RwR H (rows.set i t) (line.set i r) := by
  refine ⟨by rw [List.length_set, List.length_set]; exact h.len, fun j q e => ?_⟩
  by_cases z : i = j
  · subst z
    have hj : i < line.length := by
      have q1 := (List.getElem?_eq_some_iff.mp e).1
      rwa [List.length_set] at q1
    rw [List.getElem?_set_self hj] at e
    cases e
    exact ⟨t, List.getElem?_set_self (by rw [h.len]; exact hj), ht⟩
  · rw [List.getElem?_set_ne z] at e
    rw [List.getElem?_set_ne z]
    exact h.at_ j q e
theorem RwR.app {H : Hp} {rows : List Addr} {line : List Row} (h : RwR H rows line) {r : Row} {t : Addr} (ht : H t = some (.tup (rowV r))) : RwR H (rows ++ [t]) (line ++ [r]) := by
  refine ⟨by rw [List.length_append, List.length_append, h.len]; rfl, fun j q e => ?_⟩
  rcases Nat.lt_or_ge j line.length with z | z
  · rw [List.getElem?_append_left z] at e
    rw [List.getElem?_append_left (by rw [h.len]; exact z)]
    exact h.at_ j q e
  · rw [List.getElem?_append_right z] at e
    rw [List.getElem?_append_right (by rw [h.len]; exact z), h.len]
    have z0 : j - line.length = 0 := by
      have q1 := (List.getElem?_eq_some_iff.mp e).1
      simp at q1
      exact q1
    rw [z0] at e ⊢
    cases e
    exact ⟨t, rfl, ht⟩
theorem RwR.erase {H : Hp} {rows : List Addr} {line : List Row} (h : RwR H rows line) (i : Nat) : RwR H (rows.eraseIdx i) (line.eraseIdx i) := by
  refine ⟨by rw [List.length_eraseIdx, List.length_eraseIdx, h.len], fun j q e => ?_⟩
  rw [List.getElem?_eraseIdx] at e ⊢
  by_cases z : j < i
  · rw [if_pos z] at e ⊢
    exact h.at_ _ q e
  · rw [if_neg z] at e ⊢
    exact h.at_ _ q e
theorem sqi_nat {i n : Nat} (h : i < n) : seqIndex? (i : Int) n = some i := by
  unfold seqIndex?
  have h1 : ¬ ((i : Int) < 0) := by omega
  have h2 : (0 : Int) ≤ i ∧ (i : Int) < n := by omega
  simp only [h1, if_false, Bool.and_eq_true, decide_eq_true_eq, h2, and_self, if_true, Int.toNat_natCast]
theorem erase_map {α β : Type} (f : α → β) : ∀ (l : List α) (j : Nat), (l.map f).eraseIdx j = (l.eraseIdx j).map f
  | [], _ => rfl
  | _ :: _, 0 => rfl
  | x :: l, j + 1 => congrArg (f x :: ·) (erase_map f l j)
theorem seat_le (l : List Row) (n : Int) : seat l n ≤ l.length := List.findIdx_le_length
section
variable {P : Program} {w : World} {K : PySem.W.Frag} {mg : Str → Option Value} {base : Heap}
theorem sc_Shelf_init : FnScope ["self", "most"] ["self", "most"] d_Shelf_init.scope := ⟨rfl, rfl, rfl, by decide +kernel, rfl, by decide +kernel, by decide +kernel⟩
def sp_Shelf_init (K : PySem.W.Frag) : Sp := fun vs H Q _ => ∃ (x dx : Addr) (m : Int), vs = [.ref x, .int m] ∧ H x = some (.ins (cShelf K) dx []) ∧ 1 ≤ m ∧ m ≤ 12 ∧ ∀ H' ln, H ln = none → But1 x H H' → ShIn K H' x ln [] m [] → Q .non H'
theorem ok_Shelf_init (T : Txt K mg) : Ok P w K mg base CX0 2 d_Shelf_init ["self", "most"] (sp_Shelf_init K) := by
  refine ok_no T.f_Shelf_init sc_Shelf_init rfl (fun _ _ _ _ _ _ us hl => match us, hl with | [_, _], _ => rfl) (fun vs H Q E h => ?_) (fun cdv A outer s H vs Q E hr h => ?_)
  · obtain ⟨x, dx, m, rfl, _⟩ := h
    rfl
  · obtain ⟨x, dx, m, rfl, hx, h1, h12, hQ⟩ := h
    have O1 : Ok P w K mg base CX0 1 d_is_whole ["thing"] sp_is_whole := ok_is_whole T
    obtain ⟨tc, gc⟩ := T.i_MOST
    refine ⟨_, pss_cons (ps_if (PW.pt (pw_or (pt_not (pt_val (pe_c O1 hr rfl T.g_is_whole pass0 (pa_cons (pv 1) pa_nil)))) (pw_or (pt_cmpR op_lt (pv 1) pe_int (nomark _)) (pw_or1 (pt_cmpR op_gt (pv 1) (pe_glob (v := .int 12) rfl gc ⟨_, rfl⟩) (nomark _)))))) (pss_one ps_never) pss_nil)
      (pss_cons (ps_fld (pv 0) (pv 1) rfl) (pss_one (ps_fld (pv 0) (pe_lst pa_nil) rfl))), ?_⟩
    refine ⟨_, rfl, _, rfl, .int m, _, rfl, iteF ?_⟩
    refine ⟨_, rfl, _, _, rfl, rfl, _, rfl, ite_f (decide_eq_false (by omega)) ?_⟩
    refine ⟨_, rfl, _, _, rfl, rfl, _, rfl, ite_f (decide_eq_false (by omega)) ?_⟩
    refine ⟨_, rfl, _, rfl, x, _, dx, _, rfl, hx, T.c_Shelf, T.n_Shelf_most, (by show 0 < 1000; decide), ?_⟩
    refine ⟨Nat.zero_le _, fun l hl => ⟨_, rfl, x, _, dx, [("most", .int m)], rfl, (by rw [upd_ne (ne_of_none upd_same hl)]; exact upd_same), T.c_Shelf, T.n_Shelf_line, (by show 1 < 1000; decide), ?_⟩⟩
    have xl : x ≠ l := ne_of_none upd_same hl
    have hl0 : H l = none := by
      rw [upd_ne (Ne.symm xl)] at hl
      exact hl
    refine hQ _ l hl0 (fun b o n e => ?_) ⟨⟨dx, upd_same⟩, ?_, ⟨rfl, fun i r e => by simp at e⟩⟩
    · rw [upd_ne n, upd_ne (ne_of_none e hl0), upd_ne n]
      exact e
    · rw [upd_ne (Ne.symm xl)]
      exact upd_same
theorem sc_Shelf_seat : FnScope ["self", "number", "at", "row"] ["self", "number"] d_Shelf_seat.scope := ⟨rfl, rfl, rfl, by decide +kernel, rfl, by decide +kernel, by decide +kernel⟩
def sp_Shelf_seat (K : PySem.W.Frag) : Sp := fun vs H Q _ => ∃ (sh ln : Addr) (rows : List Addr) (most : Int) (line : List Row) (n : Int), vs = [.ref sh, .int n] ∧ ShIn K H sh ln rows most line ∧ ∀ H', Same H H' → Q (.int (seat line n)) H'
theorem ok_Shelf_seat (T : Txt K mg) : Ok P w K mg base CX0 1 d_Shelf_seat ["self", "number"] (sp_Shelf_seat K) := by
  refine ok_no T.f_Shelf_seat sc_Shelf_seat rfl (fun _ _ _ _ _ _ us hl => match us, hl with | [_, _], _ => rfl) (fun vs H Q E h => ?_) (fun cdv A outer s H vs Q E hr h => ?_)
  · obtain ⟨sh, ln, rows, most, line, n, rfl, _⟩ := h
    rfl
  · obtain ⟨sh, ln, rows, most, line, n, rfl, ⟨⟨dx, osh⟩, oln, rr⟩, hQ⟩ := h
    have nd := sc_Shelf_seat.nd
    refine ⟨_, pss_cons (ps_for PassesOwn.never rfl (pi_enum (by rfl) T.b_enumerate (pa_cons (pe_fld (pv 0) rfl) pa_nil)) (pg_tup rfl (pgs_cons (pg_name (i := 2) nd rfl (.inl rfl)) (pgs_cons (pg_name (i := 3) nd rfl (.inl rfl)) pgs_nil)))
        (pss_one (ps_if (pt_cmpR op_eq (pe_ix ix_tup (pv 3) pe_int (fun _ _ => rfl)) (pv 1) (nomark _)) (pss_one (ps_ret (pv 2))) pss_nil)))
      (pss_one (ps_ret (pe_callB call_len_seq (by rfl) T.b_len (by decide +kernel) (pa_cons (pe_fld (pv 0) rfl) pa_nil)))), ?_⟩
    refine q_fld osh T.c_Shelf T.n_Shelf_line rfl rfl ⟨ln, _, rfl, SqL.of oln, for_it (walk_enum (K := K) (a := ln) (xs := rows.map V.ref)) (fun i σ H' => ∃ v2 v3 : Option V, σ = [some (.ref sh), some (.int n), v2, v3] ∧ Same H H' ∧ i ≤ seat line n) ⟨none, none, rfl, Same.refl _, Nat.zero_le _⟩ (fun i σ H' _ q => ?_) ?_ ?_⟩
    · obtain ⟨_, _, _, s3, _⟩ := q
      exact SqL.of (s3 _ _ oln)
    · rintro i x σ H2 H3 hi ⟨v2, v3, rfl, s3, hs⟩ ⟨T2, x2, y2, rfl, nT, rfl, ex, ey⟩
      have hil : i < line.length := by rw [List.length_map, rr.len] at hi; exact hi
      obtain ⟨t, e1, e2⟩ := rr.at_ i _ (List.getElem?_eq_getElem hil)
      have ey2 : (rows.map V.ref)[i]? = some y2 := ey
      rw [List.getElem?_map, e1] at ey2
      obtain rfl : V.ref t = y2 := Option.some.inj ey2
      obtain rfl : V.int (i : Int) = x2 := Option.some.inj ex
      have s4 : Same H (upd H2 T2 (.tup [.int i, .ref t])) := Same.up s3 nT
      refine ⟨T2, _, rfl, SqT.of upd_same, rfl, ?_⟩
      refine ⟨_, _, rfl, ⟨_, _, rfl, rfl, ?_⟩⟩
      refine ⟨_, rfl, t, _, 0, .int (line[i]).1, rfl, rfl, SqT.of (s4 _ _ e2), rfl, _, rfl, rfl, _, rfl, ite_b (fun c => ?_) (fun c => ?_)⟩
      · have c2 : (line[i]).1 = n := V.int.inj (of_decide_eq_true c)
        have e : seat line n = i := by
          refine Nat.le_antisymm (Nat.le_of_not_lt fun z => ?_) hs
          have q := List.not_of_lt_findIdx z
          simp [c2] at q
        refine ⟨_, rfl, ?_⟩
        rw [e] at hQ
        exact hQ _ s4
      · have c2 : (line[i]).1 ≠ n := fun z => (of_decide_eq_false c) (by rw [z])
        refine ⟨_, _, rfl, s4, ?_⟩
        rcases Nat.lt_or_ge i (seat line n) with z | z
        · exact z
        · have e : seat line n = i := Nat.le_antisymm z hs
          have hlt : seat line n < line.length := by rw [e]; exact hil
          have q := List.findIdx_getElem (w := hlt)
          have e' : line.findIdx (fun r => r.1 == n) = i := e
          simp only [e'] at q
          exact absurd (by simpa using q) c2
    · rintro σ H2 ⟨v2, v3, rfl, s3, hs⟩
      rw [List.length_map, rr.len] at hs
      have e : seat line n = line.length := Nat.le_antisymm (seat_le _ _) hs
      refine q_fld (s3 _ _ osh) T.c_Shelf T.n_Shelf_line rfl rfl ⟨ln, _, rfl, .inl (SqL.of (s3 _ _ oln)), ?_⟩
      rw [List.length_map, rr.len, ← e]
      exact hQ _ s3
theorem sc_Shelf_seek : FnScope ["self", "number", "at"] ["self", "number"] d_Shelf_seek.scope := ⟨rfl, rfl, rfl, by decide +kernel, rfl, by decide +kernel, by decide +kernel⟩
def sp_Shelf_seek (K : PySem.W.Frag) : Sp := fun vs H Q _ => ∃ (sh ln : Addr) (rows : List Addr) (most : Int) (line : List Row) (n : Int), vs = [.ref sh, .int n] ∧ ShIn K H sh ln rows most line ∧
  (shSeek line n = none → ∀ H', Same H H' → Q .non H') ∧ (∀ q, shSeek line n = some q → ∀ H' t, Same H H' → H' t = some (.tup [.int q.1, .int q.2]) → Q (.ref t) H')
theorem ok_Shelf_seek (T : Txt K mg) : Ok P w K mg base CX0 2 d_Shelf_seek ["self", "number"] (sp_Shelf_seek K) := by
  refine ok_no T.f_Shelf_seek sc_Shelf_seek rfl (fun _ _ _ _ _ _ us hl => match us, hl with | [_, _], _ => rfl) (fun vs H Q E h => ?_) (fun cdv A outer s H vs Q E hr h => ?_)
  · obtain ⟨sh, ln, rows, most, line, n, rfl, _⟩ := h
    rfl
  · obtain ⟨sh, ln, rows, most, line, n, rfl, hS, hN, hY⟩ := h
    obtain ⟨⟨dx, osh⟩, oln, rr⟩ := id hS
    have O1 : Ok P w K mg base CX0 1 d_Shelf_seat ["self", "number"] (sp_Shelf_seat K) := ok_Shelf_seat T
    have nd := sc_Shelf_seek.nd
    refine ⟨_, pss_cons (ps_set (i := 2) nd rfl (.inl rfl) (pe_m O1 (pv 0) T.c_Shelf T.m_Shelf_seat hr pass0 (pa_cons (pv 1) pa_nil)))
      (pss_cons (ps_if (pt_cmpR op_eq (pv 2) (pe_callB call_len_seq (by rfl) T.b_len (by decide +kernel) (pa_cons (pe_fld (pv 0) rfl) pa_nil)) (nomark _)) (pss_one (ps_ret pe_non)) pss_nil)
      (pss_one (ps_ret (pe_tup (pa_cons (pe_ix ix_tup (pe_ix ix_list (pe_fld (pv 0) rfl) (pv 2) (fun _ _ => rfl)) pe_int (fun _ _ => rfl)) (pa_cons (pe_ix ix_tup (pe_ix ix_list (pe_fld (pv 0) rfl) (pv 2) (fun _ _ => rfl)) pe_int (fun _ _ => rfl)) pa_nil)))))), ?_⟩
    refine ⟨_, rfl, sh, dx, _, rfl, osh, rfl, _, rfl, sh, ln, rows, most, line, n, rfl, hS, fun H1 s1 => ?_⟩
    have osh1 := s1 _ _ osh
    have oln1 := s1 _ _ oln
    refine ⟨_, rfl, q_fld osh1 T.c_Shelf T.n_Shelf_line rfl rfl ⟨ln, _, rfl, .inl (SqL.of oln1), rfl, _, rfl, ite_b (fun c => ?_) (fun c => ?_)⟩⟩
    · have c2 := V.int.inj (of_decide_eq_true c)
      rw [List.length_map, rr.len] at c2
      refine hN ?_ H1 s1
      unfold shSeek
      rw [List.getElem?_eq_none (by omega)]
      rfl
    · have c2 : seat line n < line.length := by
        rcases Nat.lt_or_ge (seat line n) line.length with z | z
        · exact z
        · exfalso
          refine of_decide_eq_false c ?_
          have e : seat line n = line.length := Nat.le_antisymm (seat_le _ _) z
          rw [List.length_map, rr.len, e]
      obtain ⟨t, e1, e2⟩ := rr.at_ _ _ (List.getElem?_eq_getElem c2)
      have e3 : atI (rows.map V.ref) ((seat line n : Nat) : Int) = some (.ref t) := atI_nat (by rw [List.getElem?_map, e1]; rfl)
      refine ⟨_, rfl, sh, _, dx, _, _, rfl, osh1, T.c_Shelf, T.n_Shelf_line, rfl, _, rfl, ln, _, _, _, rfl, rfl, SqL.of oln1, e3, t, _, 1, _, rfl, rfl, SqT.of (s1 _ _ e2), rfl, ?_⟩
      refine ⟨_, rfl, sh, _, dx, _, _, rfl, osh1, T.c_Shelf, T.n_Shelf_line, rfl, _, rfl, ln, _, _, _, rfl, rfl, SqL.of oln1, e3, t, _, 2, _, rfl, rfl, SqT.of (s1 _ _ e2), rfl, ?_⟩
      refine ⟨by show 2 ≤ sizeLine; decide, fun p hp => hY (line[seat line n].2) ?_ _ p (Same.up s1 hp) upd_same⟩
      unfold shSeek
      rw [List.getElem?_eq_getElem c2]
      rfl
theorem sc_Shelf_keep : FnScope ["self", "number", "page", "rights", "at"] ["self", "number", "page", "rights"] d_Shelf_keep.scope := ⟨rfl, rfl, rfl, by decide +kernel, rfl, by decide +kernel, by decide +kernel⟩
def sp_Shelf_keep (K : PySem.W.Frag) : Sp := fun vs H Q _ => ∃ (sh ln : Addr) (rows : List Addr) (most : Int) (line : List Row) (n p r : Int), vs = [.ref sh, .int n, .int p, .int r] ∧ ShIn K H sh ln rows most line ∧ line.length ≤ 12 ∧
  ∀ H' rows' v, But1 ln H H' → ShIn K H' sh ln rows' most (shKeep most line n p r) → (v = .non ∨ ∃ i, v = .int i) → Q v H'
theorem ok_Shelf_keep (T : Txt K mg) : Ok P w K mg base CX0 2 d_Shelf_keep ["self", "number", "page", "rights"] (sp_Shelf_keep K) := by
  refine ok_no T.f_Shelf_keep sc_Shelf_keep rfl (fun _ _ _ _ _ _ us hl => match us, hl with | [_, _, _, _], _ => rfl) (fun vs H Q E h => ?_) (fun cdv A outer s H vs Q E hr h => ?_)
  · obtain ⟨sh, ln, rows, most, line, n, p, r, rfl, _⟩ := h
    rfl
  · obtain ⟨sh, ln, rows, most, line, n, p, r, rfl, hS, h12, hQ⟩ := h
    obtain ⟨⟨dx, osh⟩, oln, rr⟩ := id hS
    have O1 : Ok P w K mg base CX0 1 d_Shelf_seat ["self", "number"] (sp_Shelf_seat K) := ok_Shelf_seat T
    have nd := sc_Shelf_keep.nd
    refine ⟨_, pss_cons (ps_set (i := 4) nd rfl (.inl rfl) (pe_m O1 (pv 0) T.c_Shelf T.m_Shelf_seat hr pass0 (pa_cons (pv 1) pa_nil)))
      (pss_cons (ps_if (pt_cmpR op_lt (pv 4) (pe_callB call_len_seq (by rfl) T.b_len (by decide +kernel) (pa_cons (pe_fld (pv 0) rfl) pa_nil)) (nomark _))
        (pss_cons (ps_asg (pe_tup (pa_cons (pv 1) (pa_cons (pv 2) (pa_cons (pv 3) pa_nil)))) (pg_sub (pe_fld (pv 0) rfl) (pv 4) set_list)) (pss_one (ps_ret pe_non))) pss_nil)
      (pss_cons (ps_expr (pe_bm PySem.F.plainAttrs_list PySem.F.slot_list_append PySem.F.type_list_append mt_append (pe_fld (pv 0) rfl) (pa_cons (pe_tup (pa_cons (pv 1) (pa_cons (pv 2) (pa_cons (pv 3) pa_nil)))) pa_nil)))
      (pss_cons (ps_if (pt_cmpR op_le (pe_callB call_len_seq (by rfl) T.b_len (by decide +kernel) (pa_cons (pe_fld (pv 0) rfl) pa_nil)) (pe_fld (pv 0) rfl) (nomark _)) (pss_one (ps_ret pe_non)) pss_nil)
      (pss_one (ps_ret (pe_ix ix_tup (pe_bm PySem.F.plainAttrs_list PySem.F.slot_list_pop PySem.F.type_list_pop mt_popAt (pe_fld (pv 0) rfl) (pa_cons pe_int pa_nil)) pe_int (fun _ _ => rfl))))))), ?_⟩
    refine ⟨_, rfl, sh, dx, _, rfl, osh, rfl, _, rfl, sh, ln, rows, most, line, n, rfl, hS, fun H1 s1 => ?_⟩
    have osh1 := s1 _ _ osh
    have oln1 := s1 _ _ oln
    have hrl : (rows.map V.ref).length = line.length := by rw [List.length_map, rr.len]
    have shln : sh ≠ ln := ne_of osh oln (fun z => nomatch z)
    have s1t : ∀ b xs, H b = some (.tup xs) → H1 b = some (.tup xs) := fun b xs e => s1 b _ e
    refine ⟨_, rfl, q_fld osh1 T.c_Shelf T.n_Shelf_line rfl rfl ⟨ln, _, rfl, .inl (SqL.of oln1), _, _, rfl, rfl, _, rfl, ite_b (fun c => ?_) (fun c => ?_)⟩⟩
    · have c2 : seat line n < line.length := by
        have z := of_decide_eq_true c
        rw [hrl] at z
        omega
      refine ⟨_, rfl, _, rfl, _, rfl, (by show 3 ≤ sizeLine; decide), fun t ht => ?_⟩
      have s2 : Same H (upd H1 t (.tup [.int n, .int p, .int r])) := Same.up s1 ht
      refine q_fld (s2 _ _ osh) T.c_Shelf T.n_Shelf_line rfl rfl ⟨_, rfl, ln, _, _, seat line n, rfl, rfl, s2 _ _ oln, ?_, ?_⟩
      · unfold ixN
        rw [if_pos (by omega), if_pos (by rw [hrl]; omega)]
        simp
      refine hQ _ (rows.set (seat line n) t) .non (but1_upd s2) ⟨⟨dx, ?_⟩, ?_, ?_⟩ (.inl rfl)
      · rw [upd_ne shln]
        exact s2 _ _ osh
      · rw [upd_same, List.map_set]
      · have e : shKeep most line n p r = line.set (seat line n) (n, p, r) := if_pos c2
        rw [e]
        have tln : t ≠ ln := Ne.symm (ne_of_none oln1 ht)
        refine RwR.set (rr.keep fun b xs e => ?_) ?_
        · rw [upd_ne (ne_of e oln (fun z => nomatch z))]
          exact s2 _ _ e
        · rw [upd_ne tln]
          exact upd_same
    · have c2 : ¬ seat line n < line.length := by
        have z := of_decide_eq_false c
        rw [hrl] at z
        omega
      refine ⟨_, rfl, sh, _, dx, _, _, rfl, osh1, T.c_Shelf, T.n_Shelf_line, rfl, .inl ⟨rfl, _, SqL.of oln1⟩, _, rfl, _, rfl, _, rfl, (by show 3 ≤ sizeLine; decide), fun t ht => ?_⟩
      have s2 : Same H (upd H1 t (.tup [.int n, .int p, .int r])) := Same.up s1 ht
      have tln : t ≠ ln := Ne.symm (ne_of_none oln1 ht)
      refine ⟨ln, _, _, rfl, rfl, s2 _ _ oln, (by rw [hrl]; exact Nat.lt_of_le_of_lt h12 (by decide)), ?_⟩
      have osh2 : (upd (upd H1 t (.tup [.int n, .int p, .int r])) ln (.lst (rows.map V.ref ++ [.ref t]))) sh = some (.ins (cShelf K) dx (shF most ln)) := by
        rw [upd_ne shln]
        exact s2 _ _ osh
      have oln2 : (upd (upd H1 t (.tup [.int n, .int p, .int r])) ln (.lst (rows.map V.ref ++ [.ref t]))) ln = some (.lst ((rows ++ [t]).map V.ref)) := by
        rw [upd_same, List.map_append]
        rfl
      have rr2 : RwR (upd (upd H1 t (.tup [.int n, .int p, .int r])) ln (.lst (rows.map V.ref ++ [.ref t]))) (rows ++ [t]) (line ++ [(n, p, r)]) := by
        refine RwR.app (rr.keep fun b xs e => ?_) ?_
        · rw [upd_ne (ne_of e oln (fun z => nomatch z))]
          exact s2 _ _ e
        · rw [upd_ne tln]
          exact upd_same
      have l2 : ((rows ++ [t]).map V.ref).length = (line ++ [(n, p, r)]).length := by rw [List.length_map, rr2.len]
      refine q_fld osh2 T.c_Shelf T.n_Shelf_line rfl rfl ⟨ln, _, rfl, .inl (SqL.of oln2), q_fld osh2 T.c_Shelf T.n_Shelf_most rfl rfl ⟨_, _, rfl, rfl, _, rfl, ite_b (fun d => ?_) (fun d => ?_)⟩⟩
      · have d2 : ((line ++ [(n, p, r)]).length : Int) ≤ most := by
          have z := of_decide_eq_true d
          rw [l2] at z
          exact z
        have e : shKeep most line n p r = line ++ [(n, p, r)] := by
          unfold shKeep
          rw [if_neg c2, if_pos d2]
        refine hQ _ (rows ++ [t]) .non (but1_upd s2) ?_ (.inl rfl)
        rw [e]
        exact ⟨⟨dx, osh2⟩, oln2, rr2⟩
      · have d2 : ¬ ((line ++ [(n, p, r)]).length : Int) ≤ most := by
          have z := of_decide_eq_false d
          rw [l2] at z
          exact z
        have e : shKeep most line n p r = (line ++ [(n, p, r)]).eraseIdx 0 := by
          unfold shKeep
          rw [if_neg c2, if_neg d2]
        have hpos : 0 < (line ++ [(n, p, r)]).length := by simp
        obtain ⟨t0, f1, f2⟩ := rr2.at_ 0 _ (List.getElem?_eq_getElem hpos)
        refine ⟨_, rfl, sh, _, dx, _, _, rfl, osh2, T.c_Shelf, T.n_Shelf_line, rfl, .inl ⟨rfl, _, SqL.of oln2⟩, ln, _, 0, 0, .ref t0, rfl, rfl, oln2, by decide, by decide, ?_, ?_, ?_⟩
        · have hp2 : 0 < ((rows ++ [t]).map V.ref).length := by rw [l2]; exact hpos
          exact sqi_nat hp2
        · rw [List.getElem?_map, f1]
          rfl
        have nt0 : t0 ≠ ln := ne_of f2 oln2 (fun z => nomatch z)
        refine ⟨t0, _, 0, _, rfl, rfl, SqT.of (by rw [upd_ne nt0]; exact f2), rfl, ?_⟩
        refine hQ _ ((rows ++ [t]).eraseIdx 0) _ (fun b o hb eb => ?_) ?_ (.inr ⟨_, rfl⟩)
        · rw [upd_ne hb]
          exact but1_upd s2 b o hb eb
        · rw [e]
          refine ⟨⟨dx, by rw [upd_ne shln]; exact osh2⟩, ?_, (rr2.erase 0).keep fun b xs eb => ?_⟩
          · rw [upd_same]
            exact congrArg (fun l => some (HO.lst l)) (erase_map ..)
          · rw [upd_ne (ne_of eb oln2 (fun z => nomatch z))]
            exact eb
theorem sc_Shelf_drop : FnScope ["self", "number", "at"] ["self", "number"] d_Shelf_drop.scope := ⟨rfl, rfl, rfl, by decide +kernel, rfl, by decide +kernel, by decide +kernel⟩
def sp_Shelf_drop (K : PySem.W.Frag) : Sp := fun vs H Q _ => ∃ (sh ln : Addr) (rows : List Addr) (most : Int) (line : List Row) (n : Int), vs = [.ref sh, .int n] ∧ ShIn K H sh ln rows most line ∧ line.length ≤ 12 ∧
  ∀ H' rows' b, But1 ln H H' → ShIn K H' sh ln rows' most (shDrop line n) → Q (.bl b) H'
theorem ok_Shelf_drop (T : Txt K mg) : Ok P w K mg base CX0 2 d_Shelf_drop ["self", "number"] (sp_Shelf_drop K) := by
  refine ok_no T.f_Shelf_drop sc_Shelf_drop rfl (fun _ _ _ _ _ _ us hl => match us, hl with | [_, _], _ => rfl) (fun vs H Q E h => ?_) (fun cdv A outer s H vs Q E hr h => ?_)
  · obtain ⟨sh, ln, rows, most, line, n, rfl, _⟩ := h
    rfl
  · obtain ⟨sh, ln, rows, most, line, n, rfl, hS, h12, hQ⟩ := h
    obtain ⟨⟨dx, osh⟩, oln, rr⟩ := id hS
    have O1 : Ok P w K mg base CX0 1 d_Shelf_seat ["self", "number"] (sp_Shelf_seat K) := ok_Shelf_seat T
    have nd := sc_Shelf_drop.nd
    refine ⟨_, pss_cons (ps_set (i := 2) nd rfl (.inl rfl) (pe_m O1 (pv 0) T.c_Shelf T.m_Shelf_seat hr pass0 (pa_cons (pv 1) pa_nil)))
      (pss_cons (ps_if (pt_cmpR op_eq (pv 2) (pe_callB call_len_seq (by rfl) T.b_len (by decide +kernel) (pa_cons (pe_fld (pv 0) rfl) pa_nil)) (nomark _)) (pss_one (ps_ret pe_bl)) pss_nil)
      (pss_cons (ps_expr (pe_bm PySem.F.plainAttrs_list PySem.F.slot_list_pop PySem.F.type_list_pop mt_popAt (pe_fld (pv 0) rfl) (pa_cons (pv 2) pa_nil)))
      (pss_one (ps_ret pe_bl)))), ?_⟩
    refine ⟨_, rfl, sh, dx, _, rfl, osh, rfl, _, rfl, sh, ln, rows, most, line, n, rfl, hS, fun H1 s1 => ?_⟩
    have osh1 := s1 _ _ osh
    have oln1 := s1 _ _ oln
    have hrl : (rows.map V.ref).length = line.length := by rw [List.length_map, rr.len]
    have shln : sh ≠ ln := ne_of osh oln (fun z => nomatch z)
    refine ⟨_, rfl, q_fld osh1 T.c_Shelf T.n_Shelf_line rfl rfl ⟨ln, _, rfl, .inl (SqL.of oln1), rfl, _, rfl, ite_b (fun c => ?_) (fun c => ?_)⟩⟩
    · have c2 := V.int.inj (of_decide_eq_true c)
      rw [hrl] at c2
      refine hQ H1 rows false (fun b o _ e => s1 b o e) ?_
      have e : shDrop line n = line := List.eraseIdx_of_length_le (by omega)
      rw [e]
      exact ⟨⟨dx, osh1⟩, oln1, rr.keep fun b xs e => s1 b _ e⟩
    · have c2 : seat line n < line.length := by
        rcases Nat.lt_or_ge (seat line n) line.length with z | z
        · exact z
        · exfalso
          refine of_decide_eq_false c ?_
          have e : seat line n = line.length := Nat.le_antisymm (seat_le _ _) z
          rw [hrl, e]
      obtain ⟨t0, f1, f2⟩ := rr.at_ _ _ (List.getElem?_eq_getElem c2)
      refine ⟨_, rfl, sh, _, dx, _, _, rfl, osh1, T.c_Shelf, T.n_Shelf_line, rfl, .inl ⟨rfl, _, SqL.of oln1⟩, _, rfl, ln, _, seat line n, seat line n, .ref t0, rfl, rfl, oln1, by omega, by omega, sqi_nat (by rw [hrl]; exact c2), ?_, ?_⟩
      · rw [List.getElem?_map, f1]
        rfl
      refine hQ _ (rows.eraseIdx (seat line n)) true (but1_upd s1) ⟨⟨dx, by rw [upd_ne shln]; exact osh1⟩, ?_, (rr.erase _).keep fun b xs eb => ?_⟩
      · rw [upd_same]
        exact congrArg (fun l => some (HO.lst l)) (erase_map ..)
      · rw [upd_ne (ne_of eb oln (fun z => nomatch z))]
        exact s1 _ _ eb
theorem sc_Shelf_empty : FnScope ["self"] ["self"] d_Shelf_empty.scope := ⟨rfl, rfl, rfl, by decide +kernel, rfl, by decide +kernel, by decide +kernel⟩
def sp_Shelf_empty (K : PySem.W.Frag) : Sp := fun vs H Q _ => ∃ (sh ln : Addr) (rows : List Addr) (most : Int) (line : List Row), vs = [.ref sh] ∧ ShIn K H sh ln rows most line ∧
  ∀ H' ln', H ln' = none → But1 sh H H' → ShIn K H' sh ln' [] most [] → Q .non H'
theorem ok_Shelf_empty (T : Txt K mg) : Ok P w K mg base CX0 1 d_Shelf_empty ["self"] (sp_Shelf_empty K) := by
  refine ok_no T.f_Shelf_empty sc_Shelf_empty rfl (fun _ _ _ _ _ _ us hl => match us, hl with | [_], _ => rfl) (fun vs H Q E h => ?_) (fun cdv A outer s H vs Q E hr h => ?_)
  · obtain ⟨sh, ln, rows, most, line, rfl, _⟩ := h
    rfl
  · obtain ⟨sh, ln, rows, most, line, rfl, ⟨⟨dx, osh⟩, oln, rr⟩, hQ⟩ := h
    refine ⟨_, pss_one (ps_fld (pv 0) (pe_lst pa_nil) rfl), ?_⟩
    refine ⟨Nat.zero_le _, fun l hl => ⟨_, rfl, sh, _, dx, _, rfl, (by rw [upd_ne (ne_of_none osh hl)]; exact osh), T.c_Shelf, T.n_Shelf_line, (by show 2 < 1000; decide), ?_⟩⟩
    have xl : sh ≠ l := ne_of_none osh hl
    refine hQ _ l hl (fun b o n e => ?_) ⟨⟨dx, upd_same⟩, ?_, ⟨rfl, fun i r e => by simp at e⟩⟩
    · rw [upd_ne n, upd_ne (ne_of_none e hl)]
      exact e
    · rw [upd_ne (Ne.symm xl)]
      exact upd_same
theorem sc_Shelf_told : FnScope ["self"] ["self"] d_Shelf_told.scope := ⟨rfl, rfl, rfl, by decide +kernel, rfl, by decide +kernel, by decide +kernel⟩
def sp_Shelf_told (K : PySem.W.Frag) : Sp := fun vs H Q _ => ∃ (sh ln : Addr) (rows : List Addr) (most : Int) (line : List Row), vs = [.ref sh] ∧ ShIn K H sh ln rows most line ∧
  ∀ H' l, Same H H' → H' l = some (.lst (rows.map V.ref)) → Q (.ref l) H'
theorem ok_Shelf_told (T : Txt K mg) : Ok P w K mg base CX0 1 d_Shelf_told ["self"] (sp_Shelf_told K) := by
  refine ok_no T.f_Shelf_told sc_Shelf_told rfl (fun _ _ _ _ _ _ us hl => match us, hl with | [_], _ => rfl) (fun vs H Q E h => ?_) (fun cdv A outer s H vs Q E hr h => ?_)
  · obtain ⟨sh, ln, rows, most, line, rfl, _⟩ := h
    rfl
  · obtain ⟨sh, ln, rows, most, line, rfl, ⟨⟨dx, osh⟩, oln, rr⟩, hQ⟩ := h
    refine ⟨_, pss_one (ps_ret (pe_callTy call_list_of (by rfl) T.b_list (by decide +kernel) (pa_cons (pe_fld (pv 0) rfl) pa_nil))), ?_⟩
    refine q_fld osh T.c_Shelf T.n_Shelf_line rfl rfl ⟨ln, _, rfl, .inl (SqL.of oln), fun l hl => hQ _ l (same_new hl) upd_same⟩
end
end M35

/-! ## text A6 -/
set_option maxHeartbeats 4000000
namespace M35
open PySem PySem.Spec PyProof.Rows L2

/-! # the memory -/
def rListK (K : PySem.W.Frag) : List V → Hp → VK → Prop := fun xs H Q => ∃ a ys, xs = [.ref a] ∧ (SqL K H a ys ∨ SqT K H a ys) ∧ ∀ b, H b = none → Q (.ref b) (upd H b (.lst ys))
theorem call_listK {X : Cx} {K : PySem.W.Frag} (h : X.K = K) : CallR X (.type "list") (rListK K) := h ▸ call_list_of
theorem ixN_int {n : Nat} {i : Int} (h0 : 0 ≤ i) (h : i < n) : ixN n i = some i.toNat := by
  unfold ixN
  rw [if_pos h0, if_pos h]
theorem atI_int {α : Type} {xs : List α} {i : Int} {v : α} (h0 : 0 ≤ i) (h : xs[i.toNat]? = some v) : atI xs i = some v := by
  have e : ((i.toNat : Nat) : Int) = i := Int.toNat_of_nonneg h0
  rw [← e]
  exact atI_nat h
section
variable {H H' : Hp} {ps : List (Option Addr)} {pg : Pg} {x : Int} {l l' : List Int} {q : Addr}
theorem PgR.at_ (h : PgR H ps pg) (e : pgAt pg x = some l) : ∃ q, ps[x.toNat]? = some (some q) ∧ H q = some (.lst (l.map V.int)) := h.yes _ _ (pgAt_some e).2.2
theorem PgR.ix (h : PgR H ps pg) (h0 : 0 ≤ x) (h1 : x < pg.length) : ∃ o, ps[x.toNat]? = some o ∧ hasP pg x = o.isSome := by
  have hl : x.toNat < pg.length := by omega
  cases e : pg[x.toNat]'hl with
  | none =>
    refine ⟨none, h.no _ (by rw [List.getElem?_eq_getElem hl, e]), ?_⟩
    unfold hasP
    rw [pgAt_of h0 (by rw [List.getElem?_eq_getElem hl, e])]
    rfl
  | some l =>
    obtain ⟨p, a, b⟩ := h.yes x.toNat l (by rw [List.getElem?_eq_getElem hl, e])
    refine ⟨some p, a, ?_⟩
    unfold hasP
    rw [pgAt_of h0 (by rw [List.getElem?_eq_getElem hl, e])]
    rfl
theorem set_some {α : Type} {l : List α} {i j : Nat} {a b : α} (h : (l.set i a)[j]? = some b) : (i = j ∧ b = a) ∨ (i ≠ j ∧ l[j]? = some b) := by
  by_cases z : i = j
  · subst z
    have q1 := (List.getElem?_eq_some_iff.mp h).1
    rw [List.length_set] at q1
    rw [List.getElem?_set_self q1] at h
    exact .inl ⟨rfl, (Option.some.inj h).symm⟩
  · rw [List.getElem?_set_ne z] at h
    exact .inr ⟨z, h⟩
theorem PgR.setw (h : PgR H ps pg) (hq : ps[x.toNat]? = some (some q)) (b : But1 q H H') (e : H' q = some (.lst (l'.map V.int))) : PgR H' ps (pg.set x.toNat (some l')) := by
  refine ⟨by rw [List.length_set]; exact h.len, fun i z => ?_, fun i m z => ?_, h.inj⟩
  · rcases set_some z with ⟨_, c⟩ | ⟨_, c⟩
    · cases c
    · exact h.no i c
  · rcases set_some z with ⟨rfl, c⟩ | ⟨n, c⟩
    · cases c
      exact ⟨q, hq, e⟩
    · obtain ⟨p, e1, e2⟩ := h.yes i m c
      refine ⟨p, e1, b p _ (fun pq => ?_) e2⟩
      subst pq
      exact n (h.inj _ _ _ hq e1)
theorem PgR.setnone (h : PgR H ps pg) (i : Nat) (k : ∀ (i : Nat) (p : Addr) o, ps[i]? = some (some p) → H p = some o → H' p = some o) : PgR H' (ps.set i none) (pg.set i none) := by
  refine ⟨by rw [List.length_set, List.length_set]; exact h.len, fun j z => ?_, fun j m z => ?_, fun j1 j2 p z1 z2 => ?_⟩
  · rcases set_some z with ⟨rfl, c⟩ | ⟨n, c⟩
    · have q1 := (List.getElem?_eq_some_iff.mp z).1
      rw [List.length_set] at q1
      exact List.getElem?_set_self (by rw [h.len]; exact q1)
    · rw [List.getElem?_set_ne n]
      exact h.no j c
  · rcases set_some z with ⟨_, c⟩ | ⟨n, c⟩
    · cases c
    · obtain ⟨p, e1, e2⟩ := h.yes j m c
      exact ⟨p, by rw [List.getElem?_set_ne n]; exact e1, k _ _ _ e1 e2⟩
  · rcases set_some z1 with ⟨_, c⟩ | ⟨n1, c1⟩
    · cases c
    · rcases set_some z2 with ⟨_, c⟩ | ⟨n2, c2⟩
      · cases c
      · exact h.inj _ _ _ c1 c2
theorem PgR.setnew (h : PgR H ps pg) (i : Nat) (k : ∀ (i : Nat) (p : Addr) o, ps[i]? = some (some p) → H p = some o → H' p = some o) (hn : ∀ (i : Nat) (p : Addr), ps[i]? = some (some p) → p ≠ q) (e : H' q = some (.lst (l.map V.int))) :
    PgR H' (ps.set i (some q)) (pg.set i (some l)) := by
  refine ⟨by rw [List.length_set, List.length_set]; exact h.len, fun j z => ?_, fun j m z => ?_, fun j1 j2 p z1 z2 => ?_⟩
  · rcases set_some z with ⟨rfl, c⟩ | ⟨n, c⟩
    · cases c
    · rw [List.getElem?_set_ne n]
      exact h.no j c
  · rcases set_some z with ⟨rfl, c⟩ | ⟨n, c⟩
    · cases c
      have q1 := (List.getElem?_eq_some_iff.mp z).1
      rw [List.length_set] at q1
      exact ⟨q, List.getElem?_set_self (by rw [h.len]; exact q1), e⟩
    · obtain ⟨p, e1, e2⟩ := h.yes j m c
      exact ⟨p, by rw [List.getElem?_set_ne n]; exact e1, k _ _ _ e1 e2⟩
  · rcases set_some z1 with ⟨a1, c⟩ | ⟨n1, c1⟩
    · rcases set_some z2 with ⟨a2, c⟩ | ⟨n2, c2⟩
      · rw [← a1, ← a2]
      · cases c
        exact absurd rfl (hn _ _ c2)
    · rcases set_some z2 with ⟨a2, c⟩ | ⟨n2, c2⟩
      · cases c
        exact absurd rfl (hn _ _ c1)
      · exact h.inj _ _ _ c1 c2
end
section
variable {P : Program} {w : World} {K : PySem.W.Frag} {mg : Str → Option Value} {base : Heap}
theorem sc_Memory_size : FnScope ["self"] ["self"] d_Memory_size.scope := ⟨rfl, rfl, rfl, by decide +kernel, rfl, by decide +kernel, by decide +kernel⟩
def sp_Memory_size (K : PySem.W.Frag) : Sp := fun vs H Q _ => ∃ m hl ps pg, vs = [.ref m] ∧ MmIn K H m hl ps pg ∧ Q (.int pg.length) H
theorem ok_Memory_size (T : Txt K mg) : Ok P w K mg base CX0 1 d_Memory_size ["self"] (sp_Memory_size K) := by
  refine ok_no T.f_Memory_size sc_Memory_size rfl (fun _ _ _ _ _ _ us hl => match us, hl with | [_], _ => rfl) (fun vs H Q E h => ?_) (fun cdv A outer s H vs Q E hr h => ?_)
  · obtain ⟨m, hl, ps, pg, rfl, _⟩ := h
    rfl
  · obtain ⟨m, hl, ps, pg, rfl, hM, hQ⟩ := h
    obtain ⟨⟨dm, om⟩, ohl, pr⟩ := hM
    refine ⟨_, pss_one (ps_ret (pe_callB call_len_seq (by rfl) T.b_len (by decide +kernel) (pa_cons (pe_fld (pv 0) rfl) pa_nil))), ?_⟩
    refine ⟨_, rfl, _, _, _, _, _, rfl, om, T.c_Memory, T.n_Memory_held, rfl, hl, _, rfl, .inl (SqL.of ohl), ?_⟩
    rw [List.length_map, pr.len]
    exact hQ
theorem sc_Memory_has : FnScope ["self", "page"] ["self", "page"] d_Memory_has.scope := ⟨rfl, rfl, rfl, by decide +kernel, rfl, by decide +kernel, by decide +kernel⟩
def sp_Memory_has (K : PySem.W.Frag) : Sp := fun vs H Q _ => ∃ m hl ps pg x, vs = [.ref m, .int x] ∧ MmIn K H m hl ps pg ∧ Q (.bl (hasP pg x)) H
theorem ok_Memory_has (T : Txt K mg) : Ok P w K mg base CX0 3 d_Memory_has ["self", "page"] (sp_Memory_has K) := by
  refine ok_no T.f_Memory_has sc_Memory_has rfl (fun _ _ _ _ _ _ us hl => match us, hl with | [_, _], _ => rfl) (fun vs H Q E h => ?_) (fun cdv A outer s H vs Q E hr h => ?_)
  · obtain ⟨m, hl, ps, pg, x, rfl, _⟩ := h
    rfl
  · obtain ⟨m, hl, ps, pg, x, rfl, hM, hQ⟩ := h
    obtain ⟨⟨dm, om⟩, ohl, pr⟩ := hM
    have O1 : Ok P w K mg base CX0 2 d_is_below ["thing", "count"] sp_is_below := ok_is_below T
    refine ⟨_, pss_one (ps_ret (pe_and (pe_c O1 hr rfl T.g_is_below pass0 (pa_cons (pv 1) (pa_cons (pe_callB call_len_seq (by rfl) T.b_len (by decide +kernel) (pa_cons (pe_fld (pv 0) rfl) pa_nil)) pa_nil))) (pe_one (pe_cmpR op_notN (pe_ix ix_list (pe_fld (pv 0) rfl) (pv 1) (fun _ _ => rfl)) pe_non (nomark _))))), ?_⟩
    refine ⟨_, rfl, _, rfl, _, _, _, _, _, rfl, om, T.c_Memory, T.n_Memory_held, rfl, hl, _, rfl, .inl (SqL.of ohl), x, _, rfl, _, rfl, ite_b (fun c => ?_) (fun c => ?_)⟩
    · have c2 := of_decide_eq_true c
      rw [List.length_map, pr.len] at c2
      obtain ⟨o, e1, e2⟩ := pr.ix c2.1 c2.2
      have e3 : atI (ps.map oV) x = some (oV o) := atI_int c2.1 (by rw [List.getElem?_map, e1]; rfl)
      refine ⟨_, rfl, _, _, _, _, _, rfl, om, T.c_Memory, T.n_Memory_held, rfl, _, rfl, hl, _, _, _, rfl, rfl, SqL.of ohl, e3, rfl, ?_⟩
      rw [e2] at hQ
      cases o with
      | none => exact hQ
      | some p => exact hQ
    · have c2 := of_decide_eq_false c
      rw [List.length_map, pr.len] at c2
      have e : hasP pg x = false := by
        unfold hasP pgAt
        rw [if_neg c2]
        rfl
      rw [e] at hQ
      exact hQ
theorem sc_Memory_fetch : FnScope ["self", "page", "cell"] ["self", "page", "cell"] d_Memory_fetch.scope := ⟨rfl, rfl, rfl, by decide +kernel, rfl, by decide +kernel, by decide +kernel⟩
def sp_Memory_fetch (K : PySem.W.Frag) : Sp := fun vs H Q _ => ∃ m hl ps pg x c, vs = [.ref m, .int x, .int c] ∧ MmIn K H m hl ps pg ∧ gd pg ∧ hasP pg x = true ∧ isC c ∧ Q (.int (rd pg x c)) H
theorem ok_Memory_fetch (T : Txt K mg) : Ok P w K mg base CX0 1 d_Memory_fetch ["self", "page", "cell"] (sp_Memory_fetch K) := by
  refine ok_no T.f_Memory_fetch sc_Memory_fetch rfl (fun _ _ _ _ _ _ us hl => match us, hl with | [_, _, _], _ => rfl) (fun vs H Q E h => ?_) (fun cdv A outer s H vs Q E hr h => ?_)
  · obtain ⟨m, hl, ps, pg, x, c, rfl, _⟩ := h
    rfl
  · obtain ⟨m, hl, ps, pg, x, c, rfl, hM, g, hx, hc, hQ⟩ := h
    obtain ⟨⟨dm, om⟩, ohl, pr⟩ := hM
    obtain ⟨l, hl2⟩ := hasP_ex hx
    obtain ⟨q, e1, e2⟩ := pr.at_ hl2
    have e3 : atI (ps.map oV) x = some (.ref q) := atI_int (pgAt_some hl2).1 (by rw [List.getElem?_map, e1]; rfl)
    have e4 : atI (l.map V.int) c = some (.int (rd pg x c)) := atI_int hc.1 (by rw [List.getElem?_map, rd_in g hl2 hc]; rfl)
    refine ⟨_, pss_one (ps_ret (pe_ix ix_list (pe_ix ix_list (pe_fld (pv 0) rfl) (pv 1) (fun _ _ => rfl)) (pv 2) (fun _ _ => rfl))), ?_⟩
    exact ⟨_, rfl, _, _, _, _, _, rfl, om, T.c_Memory, T.n_Memory_held, rfl, _, rfl, hl, _, _, _, rfl, rfl, SqL.of ohl, e3, _, rfl, q, _, _, _, rfl, rfl, SqL.of e2, e4, hQ⟩
theorem sc_Memory_deposit : FnScope ["self", "page", "cell", "word"] ["self", "page", "cell", "word"] d_Memory_deposit.scope := ⟨rfl, rfl, rfl, by decide +kernel, rfl, by decide +kernel, by decide +kernel⟩
def sp_Memory_deposit (K : PySem.W.Frag) : Sp := fun vs H Q _ => ∃ m hl ps pg x c v, vs = [.ref m, .int x, .int c, .int v] ∧ MmIn K H m hl ps pg ∧ gd pg ∧ hasP pg x = true ∧ isC c ∧ (∀ (i : Nat) (p : Addr), ps[i]? = some (some p) → p ≠ hl) ∧
  ∀ H' q, ps[x.toNat]? = some (some q) → But1 q H H' → (∃ xs, H' q = some (.lst xs)) → MmIn K H' m hl ps (wr pg x c v) → Q .non H'
theorem ok_Memory_deposit (T : Txt K mg) : Ok P w K mg base CX0 1 d_Memory_deposit ["self", "page", "cell", "word"] (sp_Memory_deposit K) := by
  refine ok_no T.f_Memory_deposit sc_Memory_deposit rfl (fun _ _ _ _ _ _ us hl => match us, hl with | [_, _, _, _], _ => rfl) (fun vs H Q E h => ?_) (fun cdv A outer s H vs Q E hr h => ?_)
  · obtain ⟨m, hl, ps, pg, x, c, v, rfl, _⟩ := h
    rfl
  · obtain ⟨m, hl, ps, pg, x, c, v, rfl, hM, g, hx, hc, hn, hQ⟩ := h
    obtain ⟨⟨dm, om⟩, ohl, pr⟩ := hM
    obtain ⟨l, hl2⟩ := hasP_ex hx
    obtain ⟨q, e1, e2⟩ := pr.at_ hl2
    have e3 : atI (ps.map oV) x = some (.ref q) := atI_int (pgAt_some hl2).1 (by rw [List.getElem?_map, e1]; rfl)
    have hl8 := (gd_at g hl2).1
    have hc2 := hc
    obtain ⟨c0, c8⟩ := hc2
    refine ⟨_, pss_one (ps_asg (pv 3) (pg_sub (pe_ix ix_list (pe_fld (pv 0) rfl) (pv 1) (fun _ _ => rfl)) (pv 2) set_list)), ?_⟩
    refine ⟨_, rfl, _, rfl, _, _, _, _, _, rfl, om, T.c_Memory, T.n_Memory_held, rfl, _, rfl, hl, _, _, _, rfl, rfl, SqL.of ohl, e3, _, rfl, q, _, _, _, rfl, rfl, e2, ixN_int c0 (by rw [List.length_map, hl8]; omega), ?_⟩
    have em : (l.map V.int).set c.toNat (.int v) = (l.set c.toNat v).map V.int := List.map_set.symm
    have b : But1 q H (upd H q (.lst ((l.map V.int).set c.toNat (.int v)))) := but1_upd (Same.refl _)
    refine hQ _ q e1 b ⟨_, upd_same⟩ ⟨⟨dm, b _ _ (ne_of om e2 (fun z => nomatch z)) om⟩, b _ _ (Ne.symm (hn _ _ e1)) ohl, ?_⟩
    rw [wr_at hl2]
    exact pr.setw e1 b (by rw [upd_same, em])
theorem sc_Memory_give : FnScope ["self", "page"] ["self", "page"] d_Memory_give.scope := ⟨rfl, rfl, rfl, by decide +kernel, rfl, by decide +kernel, by decide +kernel⟩
def sp_Memory_give (K : PySem.W.Frag) : Sp := fun vs H Q _ => ∃ m hl ps pg x, vs = [.ref m, .int x] ∧ MmIn K H m hl ps pg ∧ hasP pg x = true ∧ (∀ (i : Nat) (p : Addr), ps[i]? = some (some p) → p ≠ hl) ∧
  ∀ H', But1 hl H H' → MmIn K H' m hl (ps.set x.toNat none) (pg.set x.toNat none) → Q .non H'
theorem ok_Memory_give (T : Txt K mg) : Ok P w K mg base CX0 4 d_Memory_give ["self", "page"] (sp_Memory_give K) := by
  refine ok_no T.f_Memory_give sc_Memory_give rfl (fun _ _ _ _ _ _ us hl => match us, hl with | [_, _], _ => rfl) (fun vs H Q E h => ?_) (fun cdv A outer s H vs Q E hr h => ?_)
  · obtain ⟨m, hl, ps, pg, x, rfl, _⟩ := h
    rfl
  · obtain ⟨m, hl, ps, pg, x, rfl, hM, hx, hn, hQ⟩ := h
    obtain ⟨⟨dm, om⟩, ohl, pr⟩ := id hM
    have O1 : Ok P w K mg base CX0 3 d_Memory_has ["self", "page"] (sp_Memory_has K) := ok_Memory_has T
    obtain ⟨l, hl2⟩ := hasP_ex hx
    obtain ⟨x0, x1, _⟩ := pgAt_some hl2
    refine ⟨_, pss_cons (ps_if (pt_not (pt_val (pe_m O1 (pv 0) T.c_Memory T.m_Memory_has hr pass0 (pa_cons (pv 1) pa_nil)))) (pss_one ps_never) pss_nil)
      (pss_one (ps_asg pe_non (pg_sub (pe_fld (pv 0) rfl) (pv 1) set_list))), ?_⟩
    refine ⟨_, rfl, m, dm, _, rfl, om, rfl, _, rfl, m, hl, ps, pg, x, rfl, hM, _, rfl, ite_f (by rw [hx]; rfl) ?_⟩
    refine ⟨_, rfl, _, _, _, _, _, rfl, om, T.c_Memory, T.n_Memory_held, rfl, _, rfl, hl, _, _, _, rfl, rfl, ohl, ixN_int x0 (by rw [List.length_map, pr.len]; exact x1), ?_⟩
    have b : But1 hl H (upd H hl (.lst ((ps.map oV).set x.toNat .non))) := but1_upd (Same.refl _)
    refine hQ _ b ⟨⟨dm, b _ _ (ne_of om ohl (fun z => nomatch z)) om⟩, ?_, pr.setnone _ fun i p o e1 e2 => b _ _ (hn _ _ e1) e2⟩
    rw [upd_same, List.map_set]
    rfl
theorem sc_Memory_lay : FnScope ["self", "page", "words"] ["self", "page", "words"] d_Memory_lay.scope := ⟨rfl, rfl, rfl, by decide +kernel, rfl, by decide +kernel, by decide +kernel⟩
def sp_Memory_lay (K : PySem.W.Frag) : Sp := fun vs H Q _ => ∃ m hl ps pg x a l, vs = [.ref m, .int x, .ref a] ∧ MmIn K H m hl ps pg ∧ 0 ≤ x ∧ x < (pg.length : Int) ∧ H a = some (.lst ((l : List Int).map V.int)) ∧ l.length = 8 ∧ (∀ y ∈ l, isW y) ∧ (∀ (i : Nat) (p : Addr), ps[i]? = some (some p) → p ≠ hl) ∧
  ∀ H' q, H q = none → But1 hl H H' → (∃ xs, H' q = some (.lst xs)) → MmIn K H' m hl (ps.set x.toNat (some q)) (pg.set x.toNat (some l)) → Q .non H'
theorem ok_Memory_lay (T : Txt K mg) : Ok P w K mg base CX0 4 d_Memory_lay ["self", "page", "words"] (sp_Memory_lay K) := by
  refine ok_no T.f_Memory_lay sc_Memory_lay rfl (fun _ _ _ _ _ _ us hl => match us, hl with | [_, _, _], _ => rfl) (fun vs H Q E h => ?_) (fun cdv A outer s H vs Q E hr h => ?_)
  · obtain ⟨m, hl, ps, pg, x, a, l, rfl, _⟩ := h
    rfl
  · obtain ⟨m, hl, ps, pg, x, a, l, rfl, hM, x0, x1, ha, l8, lw, hn, hQ⟩ := h
    obtain ⟨⟨dm, om⟩, ohl, pr⟩ := id hM
    have O1 : Ok P w K mg base CX0 2 d_is_below ["thing", "count"] sp_is_below := ok_is_below T
    have O2 : Ok P w K mg base CX0 3 d_are_words ["thing"] sp_are_words := ok_are_words T
    refine ⟨_, pss_cons (ps_if (pt_not (pt_val (pe_c O1 (hr.mono (by decide)) rfl T.g_is_below pass0 (pa_cons (pv 1) (pa_cons (pe_callB call_len_seq (by rfl) T.b_len (by decide +kernel) (pa_cons (pe_fld (pv 0) rfl) pa_nil)) pa_nil))))) (pss_one ps_never) pss_nil)
      (pss_cons (ps_if (pt_not (pt_val (pe_c O2 hr rfl T.g_are_words pass0 (pa_cons (pv 2) pa_nil)))) (pss_one ps_never) pss_nil)
      (pss_one (ps_asg (pe_callTy (T := "list") (call_listK (K := K) rfl) (by rfl) T.b_list (by decide +kernel) (pa_cons (pv 2) pa_nil)) (pg_sub (pe_fld (pv 0) rfl) (pv 1) set_list)))), ?_⟩
    refine ⟨_, rfl, _, rfl, _, _, _, _, _, rfl, om, T.c_Memory, T.n_Memory_held, rfl, hl, _, rfl, .inl (SqL.of ohl), x, _, rfl, _, rfl, ite_f (by rw [List.length_map, pr.len, decide_eq_true ⟨x0, x1⟩]; rfl) ?_⟩
    refine ⟨_, rfl, a, l, rfl, ha, l8, lw, fun H1 s1 => ⟨_, rfl, iteF ?_⟩⟩
    refine ⟨_, rfl, a, _, rfl, .inl (SqL.of (s1 _ _ ha)), fun q hq => ?_⟩
    have s2 : Same H (upd H1 q (.lst (l.map V.int))) := Same.up s1 hq
    have hq0 : H q = none := s1.free hq
    have qhl : q ≠ hl := Ne.symm (ne_of_none ohl hq0)
    refine ⟨_, rfl, _, _, _, _, _, rfl, s2 _ _ om, T.c_Memory, T.n_Memory_held, rfl, _, rfl, hl, _, _, _, rfl, rfl, s2 _ _ ohl, ixN_int x0 (by rw [List.length_map, pr.len]; exact x1), ?_⟩
    have b : But1 hl H (upd (upd H1 q (.lst (l.map V.int))) hl (.lst ((ps.map oV).set x.toNat (.ref q)))) := but1_upd s2
    have eq : (upd (upd H1 q (.lst (l.map V.int))) hl (.lst ((ps.map oV).set x.toNat (.ref q)))) q = some (.lst (l.map V.int)) := by
      rw [upd_ne qhl]
      exact upd_same
    refine hQ _ q hq0 b ⟨_, eq⟩ ⟨⟨dm, b _ _ (ne_of om ohl (fun z => nomatch z)) om⟩, ?_, pr.setnew _ (fun i p o e1 e2 => b _ _ (hn _ _ e1) e2) (fun i p e1 => ?_) eq⟩
    · rw [upd_same, List.map_set]
      rfl
    · have hp := pr.len
      intro z
      subst z
      have il : i < pg.length := by
        have q1 := (List.getElem?_eq_some_iff.mp e1).1
        omega
      cases e : pg[i]'il with
      | none =>
        have := pr.no i (by rw [List.getElem?_eq_getElem il, e])
        rw [e1] at this
        cases this
      | some l2 =>
        obtain ⟨p2, f1, f2⟩ := pr.yes i l2 (by rw [List.getElem?_eq_getElem il, e])
        rw [e1] at f1
        cases f1
        rw [hq0] at f2
        cases f2
theorem sc_Memory_init : FnScope ["self", "pages", "words"] ["self", "pages"] d_Memory_init.scope := ⟨rfl, rfl, rfl, by decide +kernel, rfl, by decide +kernel, by decide +kernel⟩
def sp_Memory_init (K : PySem.W.Frag) : Sp := fun vs H Q _ => ∃ x dx a ps pg, vs = [.ref x, .ref a] ∧ H x = some (.ins (cMem K) dx []) ∧ H a = some (.lst (ps.map oV)) ∧ PgR H ps pg ∧ gd pg ∧ 1 ≤ pg.length ∧ pg.length ≤ 24 ∧
  ∀ H' hl ps', H hl = none → But1 x H H' → MmIn K H' x hl ps' pg → (∀ (i : Nat) (p : Addr), ps'[i]? = some (some p) → H p = none ∧ p ≠ hl) → Q .non H'
theorem ok_Memory_init (T : Txt K mg) : Ok P w K mg base CX0 5 d_Memory_init ["self", "pages"] (sp_Memory_init K) := by
  refine ok_no T.f_Memory_init sc_Memory_init rfl (fun _ _ _ _ _ _ us hl => match us, hl with | [_, _], _ => rfl) (fun vs H Q E h => ?_) (fun cdv A outer s H vs Q E hr h => ?_)
  · obtain ⟨x, dx, a, ps, pg, rfl, _⟩ := h
    rfl
  · obtain ⟨x, dx, a, ps, pg, rfl, hx, ha, hp, hg, h1, h24, hQ⟩ := h
    have O1 : Ok P w K mg base CX0 4 d_is_image ["thing"] sp_is_image := ok_is_image T
    have hlen : (ps.map oV).length = pg.length := by rw [List.length_map, hp.len]
    refine ⟨_, pss_cons (ps_if (pt_not (pt_val (pe_c O1 hr rfl T.g_is_image pass0 (pa_cons (pv 1) pa_nil)))) (pss_one ps_never) pss_nil)
      (pss_one (ps_fld (pv 0) (pe_lc (own := [("words", 2)]) (g := gName 2) (tt := tYes) rfl sc_Memory_init.nd (pi_list (pv 1)) (blkOk_by (own := [("words", 2)]) (N := ["self", "pages", "words"]) (sc := d_Memory_init.scope) (by decide +kernel))
          (fun _ _ _ _ _ => pg_name (i := 2) sc_Memory_init.nd rfl (Or.inl rfl)) (fun _ _ _ _ _ => pts_nil)
          (fun _ _ _ _ _ => pe_ifExp (pt_cmpR op_isN (pv 2) pe_non (nomark _)) pe_non (pe_callTy (T := "list") (call_listK (K := K) rfl) (by rfl) T.b_list (by decide +kernel) (pa_cons (pv 2) pa_nil)))) rfl)), ?_⟩
    refine ⟨_, rfl, a, ps, pg, rfl, ha, hp, hg, h1, h24, fun H1 s1 => ⟨_, rfl, iteF ?_⟩⟩
    refine ⟨_, rfl, a, rfl, ⟨_, SqL.of (s1 _ _ ha)⟩, fun D hD => lc_list (K := K) (a := a) (xs := ps.map oV) (fun i H' => ∃ ps1 : List (Option Addr), H' D = some (.lst (ps1.map oV)) ∧ PgR H' ps1 (pg.take i) ∧ (∀ (i : Nat) (p : Addr), ps1[i]? = some (some p) → H p = none ∧ p ≠ D) ∧ Same H1 H') ⟨[], upd_same, ⟨rfl, fun i e => by simp at e, fun i l e => by simp at e, fun i j p e => by simp at e⟩, fun i p e => by simp at e, same_new hD⟩ (fun i H' _ ⟨_, _, _, _, q⟩ => q.seq (SqL.of (s1 _ _ ha))) ?_ ?_⟩
    · rintro i v H' hv ⟨ps1, hD', pr1, hn1, s'⟩
      have hil : i < pg.length := by
        have z := (List.getElem?_eq_some_iff.mp hv).1
        omega
      have l1 : ps1.length = i := by
        rw [pr1.len, List.length_take]
        omega
      have tk : pg.take (i + 1) = pg.take i ++ [pg[i]] := List.take_succ_eq_append_getElem hil
      have il2 : (ps1.map oV).length < sizeLine := by
        rw [List.length_map, l1]
        exact Nat.lt_of_lt_of_le hil (Nat.le_trans h24 (by decide))
      have gx : ∀ {α : Type} {l : List α} {y : α} {j : Nat} {z : α}, (l ++ [y])[j]? = some z → l[j]? = some z ∨ (j = l.length ∧ z = y) := fun {α l y j z} e => by
        rcases Nat.lt_or_ge j l.length with q | q
        · rw [List.getElem?_append_left q] at e
          exact .inl e
        · rw [List.getElem?_append_right q] at e
          have z0 : j - l.length = 0 := by
            have q1 := (List.getElem?_eq_some_iff.mp e).1
            simp at q1
            exact q1
          rw [z0] at e
          exact .inr ⟨by omega, (Option.some.inj e).symm⟩
      have gl : ∀ {α : Type} {l : List α} {y : α} {j : Nat} {z : α}, l[j]? = some z → (l ++ [y])[j]? = some z := fun {α l y j z} e => by
        rw [List.getElem?_append_left (List.getElem?_eq_some_iff.mp e).1]
        exact e
      have gr : ∀ {α : Type} {l : List α} {y : α}, (l ++ [y])[l.length]? = some y := fun {α l y} => by
        rw [List.getElem?_append_right (Nat.le_refl _), Nat.sub_self]
        rfl
      have tl : (pg.take i).length = ps1.length := pr1.len.symm
      cases hpi : pg[i]'hil with
      | none =>
        have e1 : ps[i]? = some none := hp.no i (by rw [List.getElem?_eq_getElem hil, hpi])
        rw [List.getElem?_map, e1] at hv
        obtain rfl : V.non = v := Option.some.inj hv
        refine ⟨rfl, _, rfl, rfl, _, rfl, ite_t (decide_eq_true rfl) ⟨_, hD', il2, ps1 ++ [none], ?_, ⟨?_, fun j e => ?_, fun j l e => ?_, fun j1 j2 p e1 e2 => ?_⟩, fun j p e => ?_, fun b o e => ?_⟩⟩
        · rw [upd_same, List.map_append]
          rfl
        · rw [tk, List.length_append, List.length_append, tl]
          rfl
        · rw [tk, hpi] at e
          rcases gx e with q | ⟨q, _⟩
          · exact gl (pr1.no j q)
          · rw [q, tl]
            exact gr
        · rw [tk, hpi] at e
          rcases gx e with q | ⟨q, z⟩
          · obtain ⟨p, f1, f2⟩ := pr1.yes j l q
            exact ⟨p, gl f1, by rw [upd_ne (hn1 _ _ f1).2]; exact f2⟩
          · cases z
        · rcases gx e1 with q1 | ⟨_, z⟩
          · rcases gx e2 with q2 | ⟨_, z⟩
            · exact pr1.inj _ _ _ q1 q2
            · cases z
          · cases z
        · rcases gx e with q1 | ⟨_, z⟩
          · exact hn1 _ _ q1
          · cases z
        · rw [upd_ne (ne_of_none e hD)]
          exact s' b o e
      | some l =>
        obtain ⟨p, e1, e2⟩ := hp.yes i l (by rw [List.getElem?_eq_getElem hil, hpi])
        rw [List.getElem?_map, e1] at hv
        obtain rfl : V.ref p = v := Option.some.inj hv
        refine ⟨rfl, _, rfl, rfl, _, rfl, ite_f (decide_eq_false fun z => nomatch z) ⟨_, rfl, p, _, rfl, .inl (SqL.of (s' _ _ (s1 _ _ e2))), fun q hq => ?_⟩⟩
        have qD : q ≠ D := Ne.symm (ne_of_none hD' hq)
        have s2 : Same H1 (upd H' q (.lst (l.map V.int))) := Same.up s' hq
        have hq0 : H q = none := s1.free (s'.free hq)
        have fr : ∀ (j : Nat) (p : Addr), ps1[j]? = some (some p) → p ≠ q := fun j p e z => by
          subst z
          obtain ⟨l2, f2⟩ : ∃ l2, pg.take i = l2 := ⟨_, rfl⟩
          have jl : j < (pg.take i).length := by
            rw [tl]
            exact (List.getElem?_eq_some_iff.mp e).1
          cases ej : (pg.take i)[j]'jl with
          | none =>
            have := pr1.no j (by rw [List.getElem?_eq_getElem jl, ej])
            rw [e] at this
            cases this
          | some l3 =>
            obtain ⟨p2, f1, f2⟩ := pr1.yes j l3 (by rw [List.getElem?_eq_getElem jl, ej])
            rw [e] at f1
            cases f1
            rw [hq] at f2
            cases f2
        refine ⟨_, (by rw [upd_ne (Ne.symm qD)]; exact hD'), il2, ps1 ++ [some q], ?_, ⟨?_, fun j e => ?_, fun j l e => ?_, fun j1 j2 p e1 e2 => ?_⟩, fun j p e => ?_, fun b o e => ?_⟩
        · rw [upd_same, List.map_append]
          rfl
        · rw [tk, List.length_append, List.length_append, tl]
          rfl
        · rw [tk, hpi] at e
          rcases gx e with z | ⟨_, z⟩
          · exact gl (pr1.no j z)
          · cases z
        · rw [tk, hpi] at e
          rcases gx e with z | ⟨z1, z2⟩
          · obtain ⟨p, f1, f2⟩ := pr1.yes j l z
            exact ⟨p, gl f1, by rw [upd_ne (hn1 _ _ f1).2, upd_ne (fr _ _ f1)]; exact f2⟩
          · cases z2
            refine ⟨q, by rw [z1, tl]; exact gr, ?_⟩
            rw [upd_ne qD]
            exact upd_same
        · rcases gx e1 with q1 | ⟨a1, z1⟩
          · rcases gx e2 with q2 | ⟨a2, z2⟩
            · exact pr1.inj _ _ _ q1 q2
            · cases z2
              exact absurd rfl (fr _ _ q1)
          · rcases gx e2 with q2 | ⟨a2, z2⟩
            · cases z1
              exact absurd rfl (fr _ _ q2)
            · rw [a1, a2]
        · rcases gx e with q1 | ⟨_, z⟩
          · exact hn1 _ _ q1
          · cases z
            exact ⟨hq0, qD⟩
        · rw [upd_ne (ne_of_none e hD)]
          exact s2 b o e
    · rintro H' ⟨ps1, hD', pr1, hn1, s'⟩
      have hx1 := s' _ _ (s1 _ _ hx)
      have xD : x ≠ D := ne_of_none (s1 _ _ hx) hD
      refine ⟨_, rfl, x, _, dx, _, rfl, hx1, T.c_Memory, T.n_Memory_held, (by show 0 < 1000; decide), ?_⟩
      refine hQ _ D ps1 (s1.free hD) (but1_upd (s1.trans s')) ⟨⟨dx, upd_same⟩, ?_, ?_⟩ hn1
      · rw [upd_ne (Ne.symm xD)]
        exact hD'
      · have e : pg.take (ps.map oV).length = pg := by rw [hlen]; exact List.take_length
        rw [e] at pr1
        refine pr1.keep fun i p o e1 e2 => ?_
        rw [upd_ne (Ne.symm (ne_of_none hx (hn1 _ _ e1).1))]
        exact e2
end
end M35

/-! ## text A7 -/
set_option maxHeartbeats 4000000
namespace M35
open PySem PySem.Spec PyProof.Rows L2

/-! # the way's own words -/
section
variable {K : PySem.W.Frag} {H H' : Hp} {o m hl sh ln rp z : Addr} {ps ps' : List (Option Addr)} {rows rows' : List Addr} {c : Cfg} {W : Wy} {F : Addr → Prop} {pg' : Pg} {line' : List Row} {ln' : Addr}
theorem WayIn.newMem (h : WayIn K H o m hl sh ln rp ps rows c W F) (hM : MmIn K H' m hl ps' pg') (hz : z = hl ∨ ∃ i : Nat, ps[i]? = some (some z)) (b : But1 z H H') (hz2 : ∃ xs, H' z = some (.lst xs))
    (hn : ∀ (i : Nat) (p : Addr), ps'[i]? = some (some p) → (∃ j : Nat, ps[j]? = some (some p)) ∨ (H p = none ∧ ∃ xs, H' p = some (.lst xs))) :
    WayIn K H' o m hl sh ln rp ps' rows c { W with pages := pg' } (fun b => F b ∨ (H b = none ∧ ∃ i : Nat, ps'[i]? = some (some b))) := by
  obtain ⟨dx, ow⟩ := h.ow
  obtain ⟨ds, os⟩ := h.shi.osh
  have pl : ∀ (i : Nat) (p : Addr), ps[i]? = some (some p) → ∃ xs, H p = some (.lst xs) := fun i p e => by
    have il : i < W.pages.length := by
      rw [← h.mmi.pr.len]
      exact (List.getElem?_eq_some_iff.mp e).1
    cases q : W.pages[i]'il with
    | none =>
      have := h.mmi.pr.no i (by rw [List.getElem?_eq_getElem il, q])
      rw [e] at this
      cases this
    | some l =>
      obtain ⟨p2, f1, f2⟩ := h.mmi.pr.yes i l (by rw [List.getElem?_eq_getElem il, q])
      rw [e] at f1
      cases f1
      exact ⟨_, f2⟩
  obtain ⟨xs, zl⟩ : ∃ xs, H z = some (.lst xs) := by
    rcases hz with e | ⟨i, e⟩
    · rw [e]
      exact ⟨_, h.mmi.ohl⟩
    · exact pl i z e
  have fz : F z := by
    rcases hz with e | ⟨i, e⟩
    · rw [e]
      exact h.fhl
    · exact h.fp i z e
  have z1 : ln ≠ z := by
    rcases hz with e | ⟨i, e⟩
    · rw [e]
      exact Ne.symm h.n1
    · exact Ne.symm (h.np i z e).2.1
  have z2 : rp ≠ z := by
    rcases hz with e | ⟨i, e⟩
    · rw [e]
      exact Ne.symm h.n2
    · exact Ne.symm (h.np i z e).2.2
  refine ⟨⟨dx, b _ _ (ne_of ow zl (fun z => nomatch z)) ow⟩, hM, ⟨⟨ds, b _ _ (ne_of os zl (fun z => nomatch z)) os⟩, b _ _ z1 h.shi.oln, h.shi.rr.keep fun t xs e => b _ _ (ne_of e zl (fun z => nomatch z)) e⟩, b _ _ z2 h.orp, h.n1, h.n2, h.n3, h.n4, h.n5, h.n6, fun i p e => ?_,
    .inl h.fw, .inl h.fm, .inl h.fhl, .inl h.fsh, .inl h.fln, .inl h.frp, fun i p e => ?_, fun t ft => ?_⟩
  · rcases hn i p e with ⟨j, e2⟩ | ⟨e2, _⟩
    · exact h.np j p e2
    · exact ⟨Ne.symm (ne_of_none h.mmi.ohl e2), Ne.symm (ne_of_none h.shi.oln e2), Ne.symm (ne_of_none h.orp e2)⟩
  · rcases hn i p e with ⟨j, e2⟩ | ⟨e2, _⟩
    · exact .inl (h.fp j p e2)
    · exact .inr ⟨e2, i, e⟩
  · rcases ft with ft | ⟨e1, i, e2⟩
    · obtain ⟨oo, e, mo⟩ := h.mu t ft
      by_cases tz : t = z
      · obtain ⟨xs, e3⟩ := hz2
        rw [tz]
        exact ⟨_, e3, rfl⟩
      · exact ⟨oo, b _ _ tz e, mo⟩
    · rcases hn i t e2 with ⟨j, e3⟩ | ⟨_, xs, e3⟩
      · obtain ⟨xs, e4⟩ := pl j t e3
        rw [e1] at e4
        cases e4
      · exact ⟨_, e3, rfl⟩
theorem WayIn.newW {W' : Wy} (h : WayIn K H o m hl sh ln rp ps rows c W F) (b : But1 o H H') (e1 : W'.pages = W.pages) (e2 : W'.line = W.line) (ow' : ∃ dx, H' o = some (.ins (cPlain K) dx (wF m sh rp W'.base W'.heard))) : WayIn K H' o m hl sh ln rp ps rows c W' F := by
  obtain ⟨dx, ow⟩ := h.ow
  obtain ⟨ds, os⟩ := h.shi.osh
  obtain ⟨dm, om⟩ := h.mmi.om
  have nl : ∀ {a : Addr} {xs : List V}, H a = some (.lst xs) → a ≠ o := fun e => ne_of e ow (fun z => nomatch z)
  refine ⟨ow', ⟨⟨dm, b _ _ (Ne.symm h.n4) om⟩, b _ _ (nl h.mmi.ohl) h.mmi.ohl, ?_⟩, ⟨⟨ds, b _ _ (Ne.symm h.n5) os⟩, b _ _ (nl h.shi.oln) h.shi.oln, ?_⟩, b _ _ (nl h.orp) h.orp, h.n1, h.n2, h.n3, h.n4, h.n5, h.n6, h.np,
    h.fw, h.fm, h.fhl, h.fsh, h.fln, h.frp, h.fp, fun t ft => ?_⟩
  · rw [e1]
    refine ⟨h.mmi.pr.len, h.mmi.pr.no, fun i l e => ?_, h.mmi.pr.inj⟩
    obtain ⟨p, f1, f2⟩ := h.mmi.pr.yes i l e
    exact ⟨p, f1, b _ _ (nl f2) f2⟩
  · rw [e2]
    exact h.shi.rr.keep fun t xs e => b _ _ (ne_of e ow (fun z => nomatch z)) e
  · by_cases to : t = o
    · obtain ⟨dx2, e⟩ := ow'
      rw [to]
      exact ⟨_, e, rfl⟩
    · obtain ⟨oo, e, mo⟩ := h.mu t ft
      exact ⟨oo, b _ _ to e, mo⟩
theorem WayIn.newSh (h : WayIn K H o m hl sh ln rp ps rows c W F) (hz : z = ln ∨ z = sh) (b : But1 z H H') (hz2 : ∃ oo, H' z = some oo ∧ mutO oo = true) (hS : ShIn K H' sh ln' rows' c.most line') (hn : ln' = ln ∨ H ln' = none) :
    WayIn K H' o m hl sh ln' rp ps rows' c { W with line := line' } (fun b => F b ∨ (H b = none ∧ b = ln')) := by
  obtain ⟨dx, ow⟩ := h.ow
  obtain ⟨ds, os⟩ := h.shi.osh
  obtain ⟨dm, om⟩ := h.mmi.om
  have old : ∀ {a : Addr} {x : HO}, H a = some x → a ≠ ln → ln' ≠ a := fun {a x} e n y => by
    rcases hn with q | q
    · exact n (y.symm.trans q)
    · rw [y, e] at q
      cases q
  have zi : ∀ {a C d : Addr} {fs : List (Str × V)}, H a = some (.ins C d fs) → a ≠ sh → a ≠ z := fun {a C d fs} e n y => by
    rcases hz with q | q
    · rw [y, q, h.shi.oln] at e
      cases e
    · exact n (y.trans q)
  have zl : ∀ {a : Addr} {xs : List V}, H a = some (.lst xs) → a ≠ ln → a ≠ z := fun {a xs} e n y => by
    rcases hz with q | q
    · exact n (y.trans q)
    · rw [y, q, os] at e
      cases e
  refine ⟨⟨dx, b _ _ (zi ow h.n5) ow⟩, ⟨⟨dm, b _ _ (zi om h.n6) om⟩, b _ _ (zl h.mmi.ohl h.n1) h.mmi.ohl, ?_⟩, hS, b _ _ (zl h.orp (Ne.symm h.n3)) h.orp, Ne.symm (old h.mmi.ohl h.n1), h.n2, old h.orp (Ne.symm h.n3), h.n4, h.n5, h.n6, fun i p e => ?_,
    .inl h.fw, .inl h.fm, .inl h.fhl, .inl h.fsh, ?_, .inl h.frp, fun i p e => .inl (h.fp i p e), fun t ft => ?_⟩
  · refine ⟨h.mmi.pr.len, h.mmi.pr.no, fun i l e => ?_, h.mmi.pr.inj⟩
    obtain ⟨p, f1, f2⟩ := h.mmi.pr.yes i l e
    exact ⟨p, f1, b _ _ (zl f2 (h.np i p f1).2.1) f2⟩
  · obtain ⟨oo, e2, _⟩ := h.mu p (h.fp i p e)
    exact ⟨(h.np i p e).1, Ne.symm (old e2 (h.np i p e).2.1), (h.np i p e).2.2⟩
  · rcases hn with q | q
    · rw [q]
      exact .inl h.fln
    · exact .inr ⟨q, rfl⟩
  · rcases ft with ft | ⟨_, e⟩
    · obtain ⟨oo, e, mo⟩ := h.mu t ft
      by_cases tz : t = z
      · rw [tz]
        exact hz2
      · exact ⟨oo, b _ _ tz e, mo⟩
    · rw [e]
      exact ⟨_, hS.oln, rfl⟩
theorem But1.but (b : But1 z H H') (f : F z) : But F H H' := fun a x e n => b a x (fun y => n (by rw [y]; exact f)) e
end
section
variable {P : Program} {w : World} {K : PySem.W.Frag} {mg : Str → Option Value} {base : Heap}
theorem sc_Plain_size : FnScope ["self"] ["self"] d_Plain_size.scope := ⟨rfl, rfl, rfl, by decide +kernel, rfl, by decide +kernel, by decide +kernel⟩
def sp_Plain_size (K : PySem.W.Frag) : Sp := fun vs H Q _ => ∃ o c W F, vs = [.ref o] ∧ WayAt K H o c W F ∧ Q (.int W.pages.length) H
theorem ok_Plain_size (T : Txt K mg) : Ok P w K mg base CX0 2 d_Plain_size ["self"] (sp_Plain_size K) := by
  refine ok_no T.f_Plain_size sc_Plain_size rfl (fun _ _ _ _ _ _ us hl => match us, hl with | [_], _ => rfl) (fun vs H Q E h => ?_) (fun cdv A outer s H vs Q E hr h => ?_)
  · obtain ⟨o, c, W, F, rfl, _⟩ := h
    rfl
  · obtain ⟨o, c, W, F, rfl, hW, hQ⟩ := h
    obtain ⟨m, hl, sh, ln, rp, ps, rows, hW⟩ := hW
    obtain ⟨dx, ow⟩ := hW.ow
    obtain ⟨dm, om⟩ := hW.mmi.om
    have O1 : Ok P w K mg base CX0 1 d_Memory_size ["self"] (sp_Memory_size K) := ok_Memory_size T
    refine ⟨_, pss_one (ps_ret (pe_m0 O1 (pe_fld (pv 0) rfl) T.c_Memory T.m_Memory_size hr pass0)), ?_⟩
    exact ⟨_, rfl, _, _, _, _, _, rfl, ow, T.c_Plain, T.n_Plain_memory, rfl, m, dm, _, rfl, om, rfl, m, hl, ps, _, rfl, hW.mmi, hQ⟩
theorem sc_Plain_has : FnScope ["self", "page"] ["self", "page"] d_Plain_has.scope := ⟨rfl, rfl, rfl, by decide +kernel, rfl, by decide +kernel, by decide +kernel⟩
def sp_Plain_has (K : PySem.W.Frag) : Sp := fun vs H Q _ => ∃ o c W F x, vs = [.ref o, .int x] ∧ WayAt K H o c W F ∧ Q (.bl (hasP W.pages x)) H
theorem ok_Plain_has (T : Txt K mg) : Ok P w K mg base CX0 4 d_Plain_has ["self", "page"] (sp_Plain_has K) := by
  refine ok_no T.f_Plain_has sc_Plain_has rfl (fun _ _ _ _ _ _ us hl => match us, hl with | [_, _], _ => rfl) (fun vs H Q E h => ?_) (fun cdv A outer s H vs Q E hr h => ?_)
  · obtain ⟨o, c, W, F, x, rfl, _⟩ := h
    rfl
  · obtain ⟨o, c, W, F, x, rfl, hW, hQ⟩ := h
    obtain ⟨m, hl, sh, ln, rp, ps, rows, hW⟩ := hW
    obtain ⟨dx, ow⟩ := hW.ow
    obtain ⟨dm, om⟩ := hW.mmi.om
    have O1 : Ok P w K mg base CX0 3 d_Memory_has ["self", "page"] (sp_Memory_has K) := ok_Memory_has T
    refine ⟨_, pss_one (ps_ret (pe_m O1 (pe_fld (pv 0) rfl) T.c_Memory T.m_Memory_has hr pass0 (pa_cons (pv 1) pa_nil))), ?_⟩
    exact ⟨_, rfl, _, _, _, _, _, rfl, ow, T.c_Plain, T.n_Plain_memory, rfl, m, dm, _, rfl, om, rfl, _, rfl, m, hl, ps, _, x, rfl, hW.mmi, hQ⟩
theorem sc_Plain_fetch : FnScope ["self", "page", "cell"] ["self", "page", "cell"] d_Plain_fetch.scope := ⟨rfl, rfl, rfl, by decide +kernel, rfl, by decide +kernel, by decide +kernel⟩
def sp_Plain_fetch (K : PySem.W.Frag) : Sp := fun vs H Q _ => ∃ o c W F x d, vs = [.ref o, .int x, .int d] ∧ WayAt K H o c W F ∧ gd W.pages ∧ hasP W.pages x = true ∧ isC d ∧ Q (.int (rd W.pages x d)) H
theorem ok_Plain_fetch (T : Txt K mg) : Ok P w K mg base CX0 2 d_Plain_fetch ["self", "page", "cell"] (sp_Plain_fetch K) := by
  refine ok_no T.f_Plain_fetch sc_Plain_fetch rfl (fun _ _ _ _ _ _ us hl => match us, hl with | [_, _, _], _ => rfl) (fun vs H Q E h => ?_) (fun cdv A outer s H vs Q E hr h => ?_)
  · obtain ⟨o, c, W, F, x, d, rfl, _⟩ := h
    rfl
  · obtain ⟨o, c, W, F, x, d, rfl, hW, g, hx, hd, hQ⟩ := h
    obtain ⟨m, hl, sh, ln, rp, ps, rows, hW⟩ := hW
    obtain ⟨dx, ow⟩ := hW.ow
    obtain ⟨dm, om⟩ := hW.mmi.om
    have O1 : Ok P w K mg base CX0 1 d_Memory_fetch ["self", "page", "cell"] (sp_Memory_fetch K) := ok_Memory_fetch T
    refine ⟨_, pss_one (ps_ret (pe_m O1 (pe_fld (pv 0) rfl) T.c_Memory T.m_Memory_fetch hr pass0 (pa_cons (pv 1) (pa_cons (pv 2) pa_nil)))), ?_⟩
    exact ⟨_, rfl, _, _, _, _, _, rfl, ow, T.c_Plain, T.n_Plain_memory, rfl, m, dm, _, rfl, om, rfl, _, rfl, _, rfl, m, hl, ps, _, x, d, rfl, hW.mmi, g, hx, hd, hQ⟩
theorem sc_Plain_deposit : FnScope ["self", "page", "cell", "word"] ["self", "page", "cell", "word"] d_Plain_deposit.scope := ⟨rfl, rfl, rfl, by decide +kernel, rfl, by decide +kernel, by decide +kernel⟩
def sp_Plain_deposit (K : PySem.W.Frag) : Sp := fun vs H Q _ => ∃ o c W F x d v, vs = [.ref o, .int x, .int d, .int v] ∧ WayAt K H o c W F ∧ gd W.pages ∧ hasP W.pages x = true ∧ isC d ∧ WP K H o c F { W with pages := wr W.pages x d v } fun H' _ => Q .non H'
theorem ok_Plain_deposit (T : Txt K mg) : Ok P w K mg base CX0 2 d_Plain_deposit ["self", "page", "cell", "word"] (sp_Plain_deposit K) := by
  refine ok_no T.f_Plain_deposit sc_Plain_deposit rfl (fun _ _ _ _ _ _ us hl => match us, hl with | [_, _, _, _], _ => rfl) (fun vs H Q E h => ?_) (fun cdv A outer s H vs Q E hr h => ?_)
  · obtain ⟨o, c, W, F, x, d, v, rfl, _⟩ := h
    rfl
  · obtain ⟨o, c, W, F, x, d, v, rfl, hW, g, hx, hd, hQ⟩ := h
    obtain ⟨m, hl, sh, ln, rp, ps, rows, hW⟩ := hW
    obtain ⟨dx, ow⟩ := hW.ow
    obtain ⟨dm, om⟩ := hW.mmi.om
    have O1 : Ok P w K mg base CX0 1 d_Memory_deposit ["self", "page", "cell", "word"] (sp_Memory_deposit K) := ok_Memory_deposit T
    refine ⟨_, pss_one (ps_expr (pe_m O1 (pe_fld (pv 0) rfl) T.c_Memory T.m_Memory_deposit hr pass0 (pa_cons (pv 1) (pa_cons (pv 2) (pa_cons (pv 3) pa_nil))))), ?_⟩
    refine ⟨_, rfl, _, _, _, _, _, rfl, ow, T.c_Plain, T.n_Plain_memory, rfl, m, dm, _, rfl, om, rfl, _, rfl, _, rfl, _, rfl, m, hl, ps, _, x, d, v, rfl, hW.mmi, g, hx, hd, fun i p e => (hW.np i p e).1, fun H' q e b l hM => ?_⟩
    exact hQ H' _ (b.but (hW.fp _ _ e)) (fun t h => h.imp id (·.1)) ⟨_, _, _, _, _, _, _, hW.newMem hM (.inr ⟨_, e⟩) b l fun i p e => .inl ⟨i, e⟩⟩
theorem sc_Plain_granted : FnScope ["self"] ["self"] d_Plain_granted.scope := ⟨rfl, rfl, rfl, by decide +kernel, rfl, by decide +kernel, by decide +kernel⟩
def sp_Plain_granted (K : PySem.W.Frag) : Sp := fun vs H Q _ => ∃ o c W F, vs = [.ref o] ∧ WayAt K H o c W F ∧ W.heard ≤ c.replies.length ∧ (W.heard = c.replies.length → Q (.bl false) H) ∧
  (∀ b, c.replies[W.heard]? = some b → WP K H o c F { W with heard := W.heard + 1 } fun H' _ => Q (.bl b) H')
theorem ok_Plain_granted (T : Txt K mg) : Ok P w K mg base CX0 1 d_Plain_granted ["self"] (sp_Plain_granted K) := by
  refine ok_no T.f_Plain_granted sc_Plain_granted rfl (fun _ _ _ _ _ _ us hl => match us, hl with | [_], _ => rfl) (fun vs H Q E h => ?_) (fun cdv A outer s H vs Q E hr h => ?_)
  · obtain ⟨o, c, W, F, rfl, _⟩ := h
    rfl
  · obtain ⟨o, c, W, F, rfl, hW, hl1, hN, hY⟩ := h
    obtain ⟨m, hl, sh, ln, rp, ps, rows, hW⟩ := hW
    obtain ⟨dx, ow⟩ := hW.ow
    refine ⟨_, pss_cons (ps_if (pt_cmpR op_eq (pe_fld (pv 0) rfl) (pe_callB call_len_seq (by rfl) T.b_len (by decide +kernel) (pa_cons (pe_fld (pv 0) rfl) pa_nil)) (nomark _)) (pss_one (ps_ret pe_bl)) pss_nil)
      (pss_cons (ps_fld (pv 0) (pe_op op_add (pe_fld (pv 0) rfl) pe_int) rfl)
      (pss_one (ps_ret (pe_ix ix_list (pe_fld (pv 0) rfl) (pe_op op_sub (pe_fld (pv 0) rfl) pe_int) (fun _ _ => rfl))))), ?_⟩
    refine ⟨_, rfl, _, _, _, _, _, rfl, ow, T.c_Plain, T.n_Plain_heard, rfl, _, rfl, _, _, _, _, _, rfl, ow, T.c_Plain, T.n_Plain_replies, rfl, rp, _, rfl, .inl (SqL.of hW.orp), rfl, _, rfl, ite_b (fun e => ?_) (fun e => ?_)⟩
    · have e2 := V.int.inj (of_decide_eq_true e)
      rw [List.length_map] at e2
      exact hN (Int.ofNat.inj e2)
    · have e2 : W.heard < c.replies.length := by
        rcases Nat.lt_or_eq_of_le hl1 with q | q
        · exact q
        · exfalso
          refine of_decide_eq_false e ?_
          rw [List.length_map, q]
      refine ⟨_, rfl, _, _, _, _, _, rfl, ow, T.c_Plain, T.n_Plain_heard, rfl, _, _, rfl, rfl, _, rfl, o, _, dx, _, rfl, ow, T.c_Plain, T.n_Plain_heard, (by show 5 < 1000; decide), ?_⟩
      have hb := List.getElem?_eq_getElem e2
      have b : But1 o H (upd H o (.ins (cPlain K) dx (wF m sh rp W.base (W.heard + 1 : Nat)))) := but1_upd (Same.refl _)
      have ow2 : (upd H o (.ins (cPlain K) dx (wF m sh rp W.base (W.heard + 1 : Nat)))) o = some (.ins (cPlain K) dx (wF m sh rp W.base (W.heard + 1 : Nat))) := upd_same
      have hW2 : WayIn K (upd H o (.ins (cPlain K) dx (wF m sh rp W.base (W.heard + 1 : Nat)))) o m hl sh ln rp ps rows c { W with heard := W.heard + 1 } F := hW.newW b rfl rfl ⟨dx, ow2⟩
      have e4 : atI (c.replies.map V.bl) (((W.heard + 1 : Nat) : Int) - 1) = some (.bl c.replies[W.heard]) := atI_int (by omega) (by
        have z : (((W.heard + 1 : Nat) : Int) - 1).toNat = W.heard := by omega
        rw [z, List.getElem?_map, hb]
        rfl)
      exact ⟨_, rfl, _, _, _, _, _, rfl, ow2, T.c_Plain, T.n_Plain_replies, rfl, _, rfl, _, _, _, _, _, rfl, ow2, T.c_Plain, T.n_Plain_heard, rfl, _, _, rfl, rfl, rp, _, _, _, rfl, rfl, SqL.of hW2.orp, e4, hY _ hb _ F (b.but hW.fw) Gr.refl ⟨_, _, _, _, _, _, _, hW2⟩⟩
theorem sc_Plain_bring : FnScope ["self", "page"] ["self", "page"] d_Plain_bring.scope := ⟨rfl, rfl, rfl, by decide +kernel, rfl, by decide +kernel, by decide +kernel⟩
def sp_Plain_bring (K : PySem.W.Frag) : Sp := fun vs H Q _ => ∃ o c W F x, vs = [.ref o, .int x] ∧ WayAt K H o c W F ∧ 0 ≤ x ∧ x < (W.pages.length : Int) ∧ WP K H o c F { W with pages := W.pages.set x.toNat (some zeros) } fun H' _ => Q .non H'
theorem ok_Plain_bring (T : Txt K mg) : Ok P w K mg base CX0 5 d_Plain_bring ["self", "page"] (sp_Plain_bring K) := by
  refine ok_no T.f_Plain_bring sc_Plain_bring rfl (fun _ _ _ _ _ _ us hl => match us, hl with | [_, _], _ => rfl) (fun vs H Q E h => ?_) (fun cdv A outer s H vs Q E hr h => ?_)
  · obtain ⟨o, c, W, F, x, rfl, _⟩ := h
    rfl
  · obtain ⟨o, c, W, F, x, rfl, hW, x0, x1, hQ⟩ := h
    obtain ⟨m, hl, sh, ln, rp, ps, rows, hW⟩ := hW
    obtain ⟨dx, ow⟩ := hW.ow
    obtain ⟨dm, om⟩ := hW.mmi.om
    have O1 : Ok P w K mg base CX0 4 d_Memory_lay ["self", "page", "words"] (sp_Memory_lay K) := ok_Memory_lay T
    refine ⟨_, pss_one (ps_expr (pe_m O1 (pe_fld (pv 0) rfl) T.c_Memory T.m_Memory_lay hr pass0 (pa_cons (pv 1) (pa_cons (pe_op op_rep (pe_lst (pa_cons pe_int pa_nil)) pe_int) pa_nil)))), ?_⟩
    refine ⟨_, rfl, _, _, _, _, _, rfl, ow, T.c_Plain, T.n_Plain_memory, rfl, m, dm, _, rfl, om, rfl, _, rfl, (by show 1 ≤ sizeLine; decide), fun a0 h0 => ⟨a0, 8, _, rfl, rfl, upd_same, by decide, by decide, (by show 8 ≤ sizeLine; decide), fun a ha => ?_⟩⟩
    have s1 : Same H (upd (upd H a0 (.lst [.int 0])) a (.lst (List.replicate (8 : Int).toNat [V.int 0]).flatten)) := Same.up (same_new h0) ha
    have hW1 := hW.keep (fun b x _ e => s1 b x e) (fun b xs e => s1 b _ e)
    refine ⟨m, hl, ps, _, x, a, zeros, rfl, hW1.mmi, x0, x1, upd_same, rfl, fun y hy => ?_, fun i p e => (hW.np i p e).1, fun H' q hq b l hM => ?_⟩
    · rw [List.eq_of_mem_replicate hy]
      exact zero_w
    · have hW2 := hW1.newMem hM (.inl rfl) b ⟨_, hM.ohl⟩ fun i p e => by
        rcases set_some e with ⟨_, z⟩ | ⟨_, z⟩
        · cases z
          exact .inr ⟨hq, l⟩
        · exact .inl ⟨i, z⟩
      refine hQ H' _ (But.trans (.of_same s1) Gr.refl (b.but hW.fhl)) (fun t h => h.imp id fun z => s1.free z.1) ⟨_, _, _, _, _, _, _, hW2⟩
theorem sc_Plain_yield_up : FnScope ["self", "page"] ["self", "page"] d_Plain_yield_up.scope := ⟨rfl, rfl, rfl, by decide +kernel, rfl, by decide +kernel, by decide +kernel⟩
def sp_Plain_yield_up (K : PySem.W.Frag) : Sp := fun vs H Q _ => ∃ o c W F x, vs = [.ref o, .int x] ∧ WayAt K H o c W F ∧ hasP W.pages x = true ∧ WP K H o c F { W with pages := W.pages.set x.toNat none } fun H' _ => Q .non H'
theorem ok_Plain_yield_up (T : Txt K mg) : Ok P w K mg base CX0 5 d_Plain_yield_up ["self", "page"] (sp_Plain_yield_up K) := by
  refine ok_no T.f_Plain_yield_up sc_Plain_yield_up rfl (fun _ _ _ _ _ _ us hl => match us, hl with | [_, _], _ => rfl) (fun vs H Q E h => ?_) (fun cdv A outer s H vs Q E hr h => ?_)
  · obtain ⟨o, c, W, F, x, rfl, _⟩ := h
    rfl
  · obtain ⟨o, c, W, F, x, rfl, hW, hx, hQ⟩ := h
    obtain ⟨m, hl, sh, ln, rp, ps, rows, hW⟩ := hW
    obtain ⟨dx, ow⟩ := hW.ow
    obtain ⟨dm, om⟩ := hW.mmi.om
    have O1 : Ok P w K mg base CX0 4 d_Memory_give ["self", "page"] (sp_Memory_give K) := ok_Memory_give T
    refine ⟨_, pss_one (ps_expr (pe_m O1 (pe_fld (pv 0) rfl) T.c_Memory T.m_Memory_give hr pass0 (pa_cons (pv 1) pa_nil))), ?_⟩
    refine ⟨_, rfl, _, _, _, _, _, rfl, ow, T.c_Plain, T.n_Plain_memory, rfl, m, dm, _, rfl, om, rfl, _, rfl, m, hl, ps, _, x, rfl, hW.mmi, hx, fun i p e => (hW.np i p e).1, fun H' b hM => ?_⟩
    refine hQ H' _ (b.but hW.fhl) (fun t h => h.imp id (·.1)) ⟨_, _, _, _, _, _, _, hW.newMem hM (.inl rfl) b ⟨_, hM.ohl⟩ fun i p e => ?_⟩
    rcases set_some e with ⟨_, z⟩ | ⟨_, z⟩
    · cases z
    · exact .inl ⟨i, z⟩
theorem sc_Plain_look_for : FnScope ["self", "page", "cell"] ["self", "page", "cell"] d_Plain_look_for.scope := ⟨rfl, rfl, rfl, by decide +kernel, rfl, by decide +kernel, by decide +kernel⟩
def sp_Plain_look_for (K : PySem.W.Frag) : Sp := fun vs H Q _ => ∃ o c W F x d, vs = [.ref o, .int x, .int d] ∧ WayAt K H o c W F ∧ hasP W.pages x = true ∧ isC d ∧ Q .non H
theorem ok_Plain_look_for (T : Txt K mg) : Ok P w K mg base CX0 5 d_Plain_look_for ["self", "page", "cell"] (sp_Plain_look_for K) := by
  refine ok_no T.f_Plain_look_for sc_Plain_look_for rfl (fun _ _ _ _ _ _ us hl => match us, hl with | [_, _, _], _ => rfl) (fun vs H Q E h => ?_) (fun cdv A outer s H vs Q E hr h => ?_)
  · obtain ⟨o, c, W, F, x, d, rfl, _⟩ := h
    rfl
  · obtain ⟨o, c, W, F, x, d, rfl, hW, hx, hd, hQ⟩ := h
    obtain ⟨dx, m, sh, rp, ow⟩ := hW.inst
    have O1 : Ok P w K mg base CX0 4 d_Plain_has ["self", "page"] (sp_Plain_has K) := ok_Plain_has T
    have O2 : Ok P w K mg base CX0 2 d_is_below ["thing", "count"] sp_is_below := ok_is_below T
    obtain ⟨tc, gc⟩ := T.i_CELLS
    refine ⟨_, pss_cons (ps_if (pt_not (pt_val (pe_m O1 (pv 0) T.c_Plain T.m_Plain_has hr pass0 (pa_cons (pv 1) pa_nil)))) (pss_one ps_never) pss_nil)
      (pss_one (ps_if (pt_not (pt_val (pe_c O2 (hr.mono (by decide)) rfl T.g_is_below pass0 (pa_cons (pv 2) (pa_cons (pe_glob (v := .int 8) rfl gc ⟨_, rfl⟩) pa_nil))))) (pss_one ps_never) pss_nil)), ?_⟩
    refine ⟨_, rfl, o, dx, _, rfl, ow, rfl, _, rfl, o, c, W, F, x, rfl, hW, _, rfl, ite_f (by rw [hx]; rfl) ?_⟩
    exact ⟨_, rfl, d, 8, rfl, _, rfl, ite_f (by rw [decide_eq_true (show 0 ≤ d ∧ d < 8 from hd)]; rfl) hQ⟩
theorem sc_Plain_read : FnScope ["self", "page", "cell"] ["self", "page", "cell"] d_Plain_read.scope := ⟨rfl, rfl, rfl, by decide +kernel, rfl, by decide +kernel, by decide +kernel⟩
def sp_Plain_read (K : PySem.W.Frag) : Sp := fun vs H Q _ => ∃ o c W F x d, vs = [.ref o, .int x, .int d] ∧ WayAt K H o c W F ∧ gd W.pages ∧ hasP W.pages x = true ∧ isC d ∧ Q (.int (rd W.pages x d)) H
theorem ok_Plain_read (T : Txt K mg) : Ok P w K mg base CX0 6 d_Plain_read ["self", "page", "cell"] (sp_Plain_read K) := by
  refine ok_no T.f_Plain_read sc_Plain_read rfl (fun _ _ _ _ _ _ us hl => match us, hl with | [_, _, _], _ => rfl) (fun vs H Q E h => ?_) (fun cdv A outer s H vs Q E hr h => ?_)
  · obtain ⟨o, c, W, F, x, d, rfl, _⟩ := h
    rfl
  · obtain ⟨o, c, W, F, x, d, rfl, hW, g, hx, hd, hQ⟩ := h
    obtain ⟨dx, m, sh, rp, ow⟩ := hW.inst
    have O1 : Ok P w K mg base CX0 5 d_Plain_look_for ["self", "page", "cell"] (sp_Plain_look_for K) := ok_Plain_look_for T
    have O2 : Ok P w K mg base CX0 2 d_Plain_fetch ["self", "page", "cell"] (sp_Plain_fetch K) := ok_Plain_fetch T
    refine ⟨_, pss_cons (ps_expr (pe_m O1 (pv 0) T.c_Plain T.m_Plain_look_for hr pass0 (pa_cons (pv 1) (pa_cons (pv 2) pa_nil))))
      (pss_one (ps_ret (pe_m O2 (pv 0) T.c_Plain T.m_Plain_fetch (hr.mono (by decide)) pass0 (pa_cons (pv 1) (pa_cons (pv 2) pa_nil))))), ?_⟩
    refine ⟨_, rfl, o, dx, _, rfl, ow, rfl, _, rfl, _, rfl, o, c, W, F, x, d, rfl, hW, hx, hd, ?_⟩
    exact ⟨_, rfl, o, dx, _, rfl, ow, rfl, _, rfl, _, rfl, o, c, W, F, x, d, rfl, hW, g, hx, hd, hQ⟩
theorem sc_Plain_write : FnScope ["self", "page", "cell", "word"] ["self", "page", "cell", "word"] d_Plain_write.scope := ⟨rfl, rfl, rfl, by decide +kernel, rfl, by decide +kernel, by decide +kernel⟩
def sp_Plain_write (K : PySem.W.Frag) : Sp := fun vs H Q _ => ∃ o c W F x d v, vs = [.ref o, .int x, .int d, .int v] ∧ WayAt K H o c W F ∧ gd W.pages ∧ hasP W.pages x = true ∧ isC d ∧ isW v ∧ WP K H o c F { W with pages := wr W.pages x d v } fun H' _ => Q .non H'
theorem ok_Plain_write (T : Txt K mg) : Ok P w K mg base CX0 6 d_Plain_write ["self", "page", "cell", "word"] (sp_Plain_write K) := by
  refine ok_no T.f_Plain_write sc_Plain_write rfl (fun _ _ _ _ _ _ us hl => match us, hl with | [_, _, _, _], _ => rfl) (fun vs H Q E h => ?_) (fun cdv A outer s H vs Q E hr h => ?_)
  · obtain ⟨o, c, W, F, x, d, v, rfl, _⟩ := h
    rfl
  · obtain ⟨o, c, W, F, x, d, v, rfl, hW, g, hx, hd, hv, hQ⟩ := h
    obtain ⟨dx, m, sh, rp, ow⟩ := hW.inst
    have O1 : Ok P w K mg base CX0 5 d_Plain_look_for ["self", "page", "cell"] (sp_Plain_look_for K) := ok_Plain_look_for T
    have O2 : Ok P w K mg base CX0 2 d_is_word ["thing"] sp_is_word := ok_is_word T
    have O3 : Ok P w K mg base CX0 2 d_Plain_deposit ["self", "page", "cell", "word"] (sp_Plain_deposit K) := ok_Plain_deposit T
    refine ⟨_, pss_cons (ps_expr (pe_m O1 (pv 0) T.c_Plain T.m_Plain_look_for hr pass0 (pa_cons (pv 1) (pa_cons (pv 2) pa_nil))))
      (pss_cons (ps_if (pt_not (pt_val (pe_c O2 (hr.mono (by decide)) rfl T.g_is_word pass0 (pa_cons (pv 3) pa_nil)))) (pss_one ps_never) pss_nil)
      (pss_one (ps_expr (pe_m O3 (pv 0) T.c_Plain T.m_Plain_deposit (hr.mono (by decide)) pass0 (pa_cons (pv 1) (pa_cons (pv 2) (pa_cons (pv 3) pa_nil))))))), ?_⟩
    refine ⟨_, rfl, o, dx, _, rfl, ow, rfl, _, rfl, _, rfl, o, c, W, F, x, d, rfl, hW, hx, hd, ?_⟩
    refine ⟨_, rfl, v, rfl, hv, _, rfl, iteF ?_⟩
    exact ⟨_, rfl, o, dx, _, rfl, ow, rfl, _, rfl, _, rfl, _, rfl, o, c, W, F, x, d, v, rfl, hW, g, hx, hd, hQ⟩
end
end M35

/-! ## text A8 -/
set_option maxHeartbeats 4000000
namespace M35
open PySem PySem.Spec PyProof.Rows L2

/-! # the walk -/
theorem dec_int (a b : Int) : decide (V.int a = V.int b) = (a == b) := by
  by_cases e : a = b
  · subst e
    rw [decide_eq_true rfl]
    exact (beq_self_eq_true a).symm
  · rw [decide_eq_false fun z => e (V.int.inj z)]
    exact (beq_eq_false_iff_ne.mpr e).symm
theorem not_f {b : Bool} (h : (!b) = true) : b = false := by
  cases b with
  | false => rfl
  | true => cases h
theorem not_t {b : Bool} (h : (!b) = false) : b = true := by
  cases b with
  | true => rfl
  | false => cases h
/-- c and not k -/
theorem and_kn {c kn : Bool} {i : Nat} {σ : L2.St} {H : Hp} {Q : Bool → Hp → Prop} (hk : σ[i]? = some (some (.bl kn))) (h : Q (c && !kn) H) : if c = true then tNot (tB (tVar i)) σ H Q else Q false H := by
  cases c with
  | false => exact iteF h
  | true => exact iteT ⟨_, hk, kn, rfl, h⟩
section
variable {P : Program} {w : World} {K : PySem.W.Frag} {mg : Str → Option Value} {base : Heap}
theorem sc_look_at : FnScope ["place"] ["place"] d_look_at.scope := ⟨rfl, rfl, rfl, by decide +kernel, rfl, by decide +kernel, by decide +kernel⟩
def sp_look_at (K : PySem.W.Frag) : Sp := fun vs H Q _ => ∃ x, vs = [.int x] ∧ 0 ≤ x ∧ x ≤ 511 ∧ Q .non H
theorem ok_look_at (T : Txt K mg) : Ok P w K mg base CX0 2 d_look_at ["place"] (sp_look_at K) := by
  refine ok_no T.f_look_at sc_look_at rfl (fun _ _ _ _ _ _ us hl => match us, hl with | [_], _ => rfl) (fun vs H Q E h => ?_) (fun cdv A outer s H vs Q E hr h => ?_)
  · obtain ⟨x, rfl, _⟩ := h
    rfl
  · obtain ⟨x, rfl, x0, x1, hQ⟩ := h
    have O1 : Ok P w K mg base CX0 1 d_is_whole ["thing"] sp_is_whole := ok_is_whole T
    refine ⟨_, pss_one (ps_if (PW.pt (pw_or (pt_not (pt_val (pe_c O1 hr rfl T.g_is_whole pass0 (pa_cons (pv 0) pa_nil)))) (pw_or (pt_cmpR op_lt (pv 0) pe_int (nomark _)) (pw_or1 (pt_cmpR op_gt (pv 0) pe_int (nomark _)))))) (pss_one ps_never) pss_nil), ?_⟩
    refine ⟨_, rfl, _, rfl, .int x, _, rfl, iteF ?_⟩
    refine ⟨_, rfl, _, _, rfl, rfl, _, rfl, ite_f (decide_eq_false (by omega)) ?_⟩
    exact ⟨_, rfl, _, _, rfl, rfl, _, rfl, ite_f (decide_eq_false (by omega)) hQ⟩
theorem sc_parts_of : FnScope ["place", "number", "cell", "outer", "inner"] ["place"] d_parts_of.scope := ⟨rfl, rfl, rfl, by decide +kernel, rfl, by decide +kernel, by decide +kernel⟩
def sp_parts_of (K : PySem.W.Frag) : Sp := fun vs H Q _ => ∃ x, vs = [.int x] ∧ 0 ≤ x ∧ x ≤ 511 ∧ ∀ H' a, Same H H' → H' a = some (.tup [.int (x / 8 / 8), .int (x / 8 % 8), .int (x % 8)]) → Q (.ref a) H'
theorem ok_parts_of (T : Txt K mg) : Ok P w K mg base CX0 3 d_parts_of ["place"] (sp_parts_of K) := by
  refine ok_no T.f_parts_of sc_parts_of rfl (fun _ _ _ _ _ _ us hl => match us, hl with | [_], _ => rfl) (fun vs H Q E h => ?_) (fun cdv A outer s H vs Q E hr h => ?_)
  · obtain ⟨x, rfl, _⟩ := h
    rfl
  · obtain ⟨x, rfl, x0, x1, hQ⟩ := h
    have O1 : Ok P w K mg base CX0 2 d_look_at ["place"] (sp_look_at K) := ok_look_at T
    have nd := sc_parts_of.nd
    refine ⟨_, pss_cons (ps_expr (pe_c O1 hr rfl T.g_look_at pass0 (pa_cons (pv 0) pa_nil)))
      (pss_cons (ps_asg (pe_callB call_divmod (by rfl) T.b_divmod (by decide +kernel) (pa_cons (pv 0) (pa_cons pe_int pa_nil))) (pg_tup rfl (pgs_cons (pg_name (i := 1) nd rfl (.inl rfl)) (pgs_cons (pg_name (i := 2) nd rfl (.inl rfl)) pgs_nil))))
      (pss_cons (ps_asg (pe_callB call_divmod (by rfl) T.b_divmod (by decide +kernel) (pa_cons (pv 1) (pa_cons pe_int pa_nil))) (pg_tup rfl (pgs_cons (pg_name (i := 3) nd rfl (.inl rfl)) (pgs_cons (pg_name (i := 4) nd rfl (.inl rfl)) pgs_nil))))
      (pss_one (ps_ret (pe_tup (pa_cons (pv 3) (pa_cons (pv 4) (pa_cons (pv 2) pa_nil)))))))), ?_⟩
    refine ⟨_, rfl, x, rfl, x0, x1, ?_⟩
    refine ⟨_, rfl, x, 8, rfl, ⟨by decide, by decide⟩, fun p hp => ⟨p, _, rfl, SqT.of upd_same, rfl, ?_⟩⟩
    refine ⟨_, _, rfl, _, _, rfl, rfl, ?_⟩
    refine ⟨_, rfl, x / 8, 8, rfl, ⟨by decide, by decide⟩, fun q hq => ⟨q, _, rfl, SqT.of upd_same, rfl, ?_⟩⟩
    refine ⟨_, _, rfl, _, _, rfl, rfl, ?_⟩
    exact ⟨_, rfl, _, rfl, _, rfl, (by show 3 ≤ sizeLine; decide), fun r hr2 => hQ _ r (Same.up (Same.up (same_new hp) hq) hr2) upd_same⟩
theorem sc_page_of : FnScope ["row"] ["row"] d_page_of.scope := ⟨rfl, rfl, rfl, by decide +kernel, rfl, by decide +kernel, by decide +kernel⟩
def sp_page_of (K : PySem.W.Frag) : Sp := fun vs H Q _ => ∃ x, vs = [.int x] ∧ Q (.int (pageOf x)) H
theorem ok_page_of (T : Txt K mg) : Ok P w K mg base CX0 1 d_page_of ["row"] (sp_page_of K) := by
  refine ok_no T.f_page_of sc_page_of rfl (fun _ _ _ _ _ _ us hl => match us, hl with | [_], _ => rfl) (fun vs H Q E h => ?_) (fun cdv A outer s H vs Q E hr h => ?_)
  · obtain ⟨x, rfl, _⟩ := h
    rfl
  · obtain ⟨x, rfl, hQ⟩ := h
    refine ⟨_, pss_one (ps_ret (pe_op op_shr (pv 0) pe_int)), ?_⟩
    exact ⟨_, rfl, x, 8, rfl, rfl, (show (0 : Int) ≤ 8 by decide), hQ⟩
theorem sc_has : FnScope ["row", "marks"] ["row", "marks"] d_has.scope := ⟨rfl, rfl, rfl, by decide +kernel, rfl, by decide +kernel, by decide +kernel⟩
def sp_has (K : PySem.W.Frag) : Sp := fun vs H Q _ => ∃ x m, vs = [.int x, .int m] ∧ Q (.bl (bits x m)) H
theorem ok_has (T : Txt K mg) : Ok P w K mg base CX0 1 d_has ["row", "marks"] (sp_has K) := by
  refine ok_no T.f_has sc_has rfl (fun _ _ _ _ _ _ us hl => match us, hl with | [_, _], _ => rfl) (fun vs H Q E h => ?_) (fun cdv A outer s H vs Q E hr h => ?_)
  · obtain ⟨x, m, rfl, _⟩ := h
    rfl
  · obtain ⟨x, m, rfl, hQ⟩ := h
    refine ⟨_, pss_one (ps_ret (pe_cmpR op_eq (pe_op op_and (pv 0) (pv 1)) (pv 1) (by rfl))), ?_⟩
    refine ⟨_, rfl, _, rfl, x, m, rfl, rfl, _, rfl, rfl, ?_⟩
    rw [dec_int]
    exact hQ
theorem sc_put : FnScope ["row", "marks"] ["row", "marks"] d_put.scope := ⟨rfl, rfl, rfl, by decide +kernel, rfl, by decide +kernel, by decide +kernel⟩
def sp_put (K : PySem.W.Frag) : Sp := fun vs H Q _ => ∃ x m, vs = [.int x, .int m] ∧ Q (.int (Builtin.bitOr x m)) H
theorem ok_put (T : Txt K mg) : Ok P w K mg base CX0 1 d_put ["row", "marks"] (sp_put K) := by
  refine ok_no T.f_put sc_put rfl (fun _ _ _ _ _ _ us hl => match us, hl with | [_, _], _ => rfl) (fun vs H Q E h => ?_) (fun cdv A outer s H vs Q E hr h => ?_)
  · obtain ⟨x, m, rfl, _⟩ := h
    rfl
  · obtain ⟨x, m, rfl, hQ⟩ := h
    refine ⟨_, pss_one (ps_ret (pe_op op_or (pv 0) (pv 1))), ?_⟩
    exact ⟨_, rfl, _, rfl, x, m, rfl, rfl, hQ⟩
theorem sc_rights_of : FnScope ["high", "low", "rights"] ["high", "low"] d_rights_of.scope := ⟨rfl, rfl, rfl, by decide +kernel, rfl, by decide +kernel, by decide +kernel⟩
def sp_rights_of (K : PySem.W.Frag) : Sp := fun vs H Q _ => ∃ x m, vs = [.int x, .int m] ∧ Q (.int (rightsOf x m)) H
theorem ok_rights_of (T : Txt K mg) : Ok P w K mg base CX0 1 d_rights_of ["high", "low"] (sp_rights_of K) := by
  refine ok_no T.f_rights_of sc_rights_of rfl (fun _ _ _ _ _ _ us hl => match us, hl with | [_, _], _ => rfl) (fun vs H Q E h => ?_) (fun cdv A outer s H vs Q E hr h => ?_)
  · obtain ⟨x, m, rfl, _⟩ := h
    rfl
  · obtain ⟨x, m, rfl, hQ⟩ := h
    obtain ⟨tw, gw⟩ := T.i_WRITABLE
    obtain ⟨tk, gk⟩ := T.i_KERNEL
    obtain ⟨ts, gs⟩ := T.i_SOILED
    have nd := sc_rights_of.nd
    refine ⟨_, pss_cons (ps_set (i := 2) nd rfl (.inl rfl) (pe_op op_and (pe_op op_and (pv 0) (pv 1)) (pe_glob (v := .int 2) rfl gw ⟨_, rfl⟩)))
      (pss_cons (ps_set (i := 2) nd rfl (.inl rfl) (pe_op op_or (pv 2) (pe_op op_and (pe_op op_or (pv 0) (pv 1)) (pe_glob (v := .int 4) rfl gk ⟨_, rfl⟩))))
      (pss_one (ps_ret (pe_op op_or (pv 2) (pe_op op_and (pv 1) (pe_glob (v := .int 16) rfl gs ⟨_, rfl⟩)))))), ?_⟩
    refine ⟨_, rfl, _, rfl, _, _, rfl, rfl, _, _, rfl, rfl, ?_⟩
    refine ⟨_, rfl, _, rfl, _, rfl, _, _, rfl, rfl, _, _, rfl, rfl, _, _, rfl, rfl, ?_⟩
    exact ⟨_, rfl, _, rfl, _, _, rfl, rfl, _, _, rfl, rfl, hQ⟩
theorem sc_lets : FnScope ["rights", "write", "kernel"] ["rights", "write", "kernel"] d_lets.scope := ⟨rfl, rfl, rfl, by decide +kernel, rfl, by decide +kernel, by decide +kernel⟩
def sp_lets (K : PySem.W.Frag) : Sp := fun vs H Q _ => ∃ x wr kn, vs = [.int x, .bl wr, .bl kn] ∧ Q (.bl (letsB x wr kn)) H
theorem ok_lets (T : Txt K mg) : Ok P w K mg base CX0 2 d_lets ["rights", "write", "kernel"] (sp_lets K) := by
  refine ok_no T.f_lets sc_lets rfl (fun _ _ _ _ _ _ us hl => match us, hl with | [_, _, _], _ => rfl) (fun vs H Q E h => ?_) (fun cdv A outer s H vs Q E hr h => ?_)
  · obtain ⟨x, wr, kn, rfl, _⟩ := h
    rfl
  · obtain ⟨x, wr, kn, rfl, hQ⟩ := h
    obtain ⟨tw, gw⟩ := T.i_WRITABLE
    obtain ⟨tk, gk⟩ := T.i_KERNEL
    obtain ⟨ts, gs⟩ := T.i_SOILED
    have O1 : Ok P w K mg base CX0 1 d_has ["row", "marks"] (sp_has K) := ok_has T
    refine ⟨_, pss_cons (ps_if (PW.pt (pw_and (pt_val (pe_c O1 hr rfl T.g_has pass0 (pa_cons (pv 0) (pa_cons (pe_glob (v := .int 4) rfl gk ⟨_, rfl⟩) pa_nil)))) (pw_and1 (pt_not (pt_val (pv 2)))))) (pss_one (ps_ret pe_bl)) pss_nil)
      (pss_one (ps_ret (pe_or (pe_not (pv 1)) (pe_one (pe_c O1 hr rfl T.g_has pass0 (pa_cons (pv 0) (pa_cons (pe_op op_or (pe_glob (v := .int 2) rfl gw ⟨_, rfl⟩) (pe_glob (v := .int 16) rfl gs ⟨_, rfl⟩)) pa_nil))))))), ?_⟩
    have e0 : letsB x wr kn = if (bits x 4 && !kn) = true then false else (!wr || bits x mWS0) := rfl
    refine ⟨_, rfl, x, 4, rfl, _, rfl, and_kn rfl (ite_b (fun c => ?_) (fun c => ?_))⟩
    · rw [e0, c] at hQ
      exact hQ
    · rw [e0, c] at hQ
      refine ⟨_, rfl, wr, rfl, _, rfl, ?_⟩
      cases wr with
      | false => exact iteT hQ
      | true => exact iteF ⟨_, rfl, _, _, rfl, rfl, x, _, rfl, hQ⟩
/-! ### a fault is made -/
theorem sc_Fault_init : FnScope ["self", "kind", "place", "level"] ["self", "kind", "place", "level"] d_Fault_init.scope := ⟨rfl, rfl, rfl, by decide +kernel, rfl, by decide +kernel, by decide +kernel⟩
def sp_Fault_init (K : PySem.W.Frag) : Sp := fun vs H Q _ => ∃ a f, vs = [.ref a, .str (Flt.kind f), .int f.place, .int f.level] ∧ H a = some (exo a (cFault K) none) ∧
  ∀ H' d, H d = none → d ≠ a → H' a = some (exo a (cFault K) (some d)) → H' d = some (exd d (fltF f)) → (∀ b, b ≠ a → b ≠ d → H' b = H b) → Q .non H'
theorem ok_Fault_init (T : Txt K mg) : Ok P w K mg base CX0 1 d_Fault_init ["self", "kind", "place", "level"] (sp_Fault_init K) := by
  refine ok_no T.f_Fault_init sc_Fault_init rfl (fun _ _ _ _ _ _ us hl => match us, hl with | [_, _, _, _], _ => rfl) (fun vs H Q E h => ?_) (fun cdv A outer s H vs Q E hr h => ?_)
  · obtain ⟨a, f, rfl, _⟩ := h
    rfl
  · obtain ⟨a, f, rfl, ha, hQ⟩ := h
    obtain ⟨ox, _, f1, f2, f3, _, _⟩ := T.oex
    obtain ⟨⟨r1, r2⟩, r3⟩ := T.house
    refine ⟨_, pss_cons (ps_expr (pe_hinit rfl T.g_HouseError r1 r2 r3 (pa_cons (pv 0) (pa_cons pe_str pa_nil))))
      (pss_cons (ps_ost (pv 0) (pv 1)) (pss_cons (ps_ost (pv 0) (pv 2)) (pss_one (ps_ost (pv 0) (pv 3))))), ?_⟩
    refine ⟨_, rfl, a, cFault K, _, rfl, (by show 1 ≤ 1000; decide), ox, ha, ?_⟩
    refine ⟨_, rfl, _, rfl, a, cFault K, rfl, ox, f1, .inl ⟨ha, fun d hd da => ?_⟩⟩
    refine ⟨_, rfl, _, rfl, a, cFault K, rfl, ox, f2, .inr ⟨d, [("kind", .str f.kind)], upd_same, (by rw [upd_ne da]; exact upd_same), (by show 1 ≤ 900; decide), ?_⟩⟩
    refine ⟨_, rfl, _, rfl, a, cFault K, rfl, ox, f3, .inr ⟨d, [("place", .int f.place), ("kind", .str f.kind)], (by rw [upd_ne (Ne.symm da)]; exact upd_same), upd_same, (by show 2 ≤ 900; decide), ?_⟩⟩
    refine hQ _ d hd da ?_ upd_same fun b b1 b2 => ?_
    · rw [upd_ne (Ne.symm da), upd_ne (Ne.symm da)]
      exact upd_same
    · rw [upd_ne b2, upd_ne b2, upd_ne b1, upd_ne b2]
theorem mk_fault {H : Hp} {Q : XK} {f : Flt} (h : FE K Q H f) : ([V.str f.kind, V.int f.place, V.int f.level] : List V).length ≤ 1000 ∧ ∀ a, H a = none → sp_Fault_init K (.ref a :: ([V.str f.kind, V.int f.place, V.int f.level] ++ [])) (upd H a (exo a (cFault K) none))
    (fun v H2 => v = .non ∧ ∃ (d : Addr) (fs : List (Str × V)), H2 a = some (exo a (cFault K) (some d)) ∧ H2 d = some (exd d fs) ∧ H d = none ∧ Q (.ref (cFault K)) (some d) (upd (del H2 a) d (.xd fs))) (fun _ _ _ => False) := by
  refine ⟨by show 3 ≤ 1000; decide, fun a ha => ⟨a, f, rfl, upd_same, fun H' d hd da e1 e2 e3 => ⟨rfl, d, _, e1, e2, ?_, h d _ (fun b o e => ?_) ?_ upd_same⟩⟩⟩
  · rw [upd_ne da] at hd
    exact hd
  · have hd2 : H d = none := by
      rw [upd_ne da] at hd
      exact hd
    have ba := ne_of_none e ha
    have bd := ne_of_none e hd2
    rw [upd_ne bd, del_ne ba, e3 b ba bd, upd_ne ba]
    exact e
  · rw [upd_ne da] at hd
    exact hd
theorem sc_look_by : FnScope ["store", "row", "place", "level", "write", "kernel", "page"] ["store", "row", "place", "level", "write", "kernel"] d_look_by.scope := ⟨rfl, rfl, rfl, by decide +kernel, rfl, by decide +kernel, by decide +kernel⟩
def sp_look_by (K : PySem.W.Frag) : Sp := fun vs H Q E => ∃ o c W F row place level wr kn, vs = [.ref o, .int row, .int place, .int level, .bl wr, .bl kn] ∧ WayAt K H o c W F ∧
  (∀ p, lookBy W.pages row place level wr kn = .ok p → Q (.int p) H) ∧ (∀ f, lookBy W.pages row place level wr kn = .error f → FE K E H f)
theorem ok_look_by (T : Txt K mg) : Ok P w K mg base (L2N.CX P w) 5 d_look_by ["store", "row", "place", "level", "write", "kernel"] (sp_look_by K) := by
  refine ok_mk T.f_look_by sc_look_by rfl (fun _ _ _ _ _ _ us hl => match us, hl with | [_, _, _, _, _, _], _ => rfl) (fun vs H Q E h => ?_) (fun cdv A outer s H vs Q E hr h => ?_)
  · obtain ⟨o, c, W, F, row, place, level, wr, kn, rfl, _⟩ := h
    rfl
  · obtain ⟨o, c, W, F, row, place, level, wr, kn, rfl, hW, hQ, hE⟩ := h
    obtain ⟨tp, gp⟩ := T.i_PRESENT
    obtain ⟨tw, gw⟩ := T.i_WRITABLE
    obtain ⟨tk, gk⟩ := T.i_KERNEL
    obtain ⟨ox, _, _, _, _, iC, tI⟩ := T.oex
    obtain ⟨dx, m, sh, rp, ow⟩ := hW.inst
    have O1 : Ok P w K mg base CX0 1 d_has ["row", "marks"] (sp_has K) := ok_has T
    have O2 : Ok P w K mg base CX0 4 d_Plain_has ["self", "page"] (sp_Plain_has K) := ok_Plain_has T
    have O3 : Ok P w K mg base CX0 1 d_Fault_init ["self", "kind", "place", "level"] (sp_Fault_init K) := ok_Fault_init T
    have O4 : Ok P w K mg base CX0 1 d_page_of ["row"] (sp_page_of K) := ok_page_of T
    have nd := sc_look_by.nd
    have h1 := hr.mono (show 1 ≤ 4 by decide)
    have h2 := hr.mono (show 2 ≤ 4 by decide)
    refine ⟨_, pss_cons (ps_set (i := 6) nd rfl (.inl rfl) (pe_c O4 h1 rfl T.g_page_of pass0 (pa_cons (pv 1) pa_nil)))
      (pss_cons (ps_if (pt_not (pt_val (pe_c O1 h1 rfl T.g_has pass0 (pa_cons (pv 1) (pa_cons (pe_glob (v := .int 1) rfl gp ⟨_, rfl⟩) pa_nil)))))
        (pss_one (L2N.ps_raise rfl takesN (pmk_own2 (d := d_Fault_init) ox iC tI O3 h2 rfl T.g_Fault (pa_cons pe_str (pa_cons (pv 2) (pa_cons (pv 3) pa_nil)))))) pss_nil)
      (pss_cons (ps_if (pt_not (pt_val (pe_m O2 (pv 0) T.c_Plain T.m_Plain_has hr pass0 (pa_cons (pv 6) pa_nil))))
        (pss_one (L2N.ps_raise rfl takesN (pmk_own2 (d := d_Fault_init) ox iC tI O3 h2 rfl T.g_Fault (pa_cons pe_str (pa_cons (pv 2) (pa_cons (pv 3) pa_nil)))))) pss_nil)
      (pss_cons (ps_if (PW.pt (pw_and (pt_val (pe_c O1 h1 rfl T.g_has pass0 (pa_cons (pv 1) (pa_cons (pe_glob (v := .int 4) rfl gk ⟨_, rfl⟩) pa_nil)))) (pw_and1 (pt_not (pt_val (pv 5))))))
        (pss_one (L2N.ps_raise rfl takesN (pmk_own2 (d := d_Fault_init) ox iC tI O3 h2 rfl T.g_Fault (pa_cons pe_str (pa_cons (pv 2) (pa_cons (pv 3) pa_nil)))))) pss_nil)
      (pss_cons (ps_if (PW.pt (pw_and (pt_val (pv 4)) (pw_and1 (pt_not (pt_val (pe_c O1 h1 rfl T.g_has pass0 (pa_cons (pv 1) (pa_cons (pe_glob (v := .int 2) rfl gw ⟨_, rfl⟩) pa_nil))))))))
        (pss_one (L2N.ps_raise rfl takesN (pmk_own2 (d := d_Fault_init) ox iC tI O3 h2 rfl T.g_Fault (pa_cons pe_str (pa_cons (pv 2) (pa_cons (pv 3) pa_nil)))))) pss_nil)
      (pss_one (ps_ret (pv 6))))))), ?_⟩
    refine ⟨_, rfl, row, rfl, ?_⟩
    refine ⟨_, rfl, row, 1, rfl, _, rfl, ite_b (fun c1 => ?_) (fun c1 => ?_)⟩
    · exact ⟨_, rfl, _, rfl, mk_fault (f := ⟨"absent", place, level⟩) (hE _ (by simp [lookBy, not_f c1]))⟩
    refine ⟨_, rfl, o, dx, _, rfl, ow, rfl, _, rfl, o, c, W, F, pageOf row, rfl, hW, _, rfl, ite_b (fun c2 => ?_) (fun c2 => ?_)⟩
    · exact ⟨_, rfl, _, rfl, mk_fault (f := ⟨"beyond", place, level⟩) (hE _ (by simp [lookBy, not_t c1, not_f c2]))⟩
    refine ⟨_, rfl, row, 4, rfl, _, rfl, and_kn rfl (ite_b (fun c3 => ?_) (fun c3 => ?_))⟩
    · refine ⟨_, rfl, _, rfl, mk_fault (f := ⟨"kernel", place, level⟩) (hE _ ?_)⟩
      unfold lookBy
      rw [not_t c1, not_t c2, c3]
      rfl
    have fin : ∀ d, (wr && !bits row 2) = d → (d = true → FE K E H ⟨"fixed", place, level⟩) ∧ (d = false → Q (.int (pageOf row)) H) := fun d e => by
      constructor
      · intro z
        subst z
        refine hE _ ?_
        unfold lookBy
        rw [not_t c1, not_t c2, c3, e]
        rfl
      · intro z
        subst z
        refine hQ _ ?_
        unfold lookBy
        rw [not_t c1, not_t c2, c3, e]
        rfl
    refine ⟨_, rfl, wr, rfl, ?_⟩
    cases wr with
    | false => exact iteF (iteF ⟨_, rfl, (fin false rfl).2 rfl⟩)
    | true =>
      refine iteT ⟨_, rfl, row, 2, rfl, _, rfl, ite_b (fun c4 => ?_) (fun c4 => ?_)⟩
      · exact ⟨_, rfl, _, rfl, mk_fault (f := ⟨"fixed", place, level⟩) ((fin true c4).1 rfl)⟩
      · exact ⟨_, rfl, (fin false c4).2 rfl⟩
theorem sc_look : FnScope ["store", "root", "place", "write", "kernel", "outer", "inner", "cell", "high", "table", "low", "page"] ["store", "root", "place", "write", "kernel"] d_look.scope := ⟨rfl, rfl, rfl, by decide +kernel, rfl, by decide +kernel, by decide +kernel⟩
def sp_look (K : PySem.W.Frag) : Sp := fun vs H Q E => ∃ o c W F root place wr kn, vs = [.ref o, .int root, .int place, .bl wr, .bl kn] ∧ WayAt K H o c W F ∧ gd W.pages ∧ 0 ≤ place ∧
  (∀ t, look W.pages root place wr kn = .ok t → ∀ H' a a1 a2, Same H H' → H' a1 = some (.tup [.int t.root, .int t.outer]) → H' a2 = some (.tup [.int t.table, .int t.inner]) → H' a = some (.tup [.ref a1, .ref a2, .int t.page, .int t.rights]) → Q (.ref a) H') ∧
  (∀ f, look W.pages root place wr kn = .error f → FE K E H f)
theorem ok_look (T : Txt K mg) : Ok P w K mg base (L2N.CX P w) 7 d_look ["store", "root", "place", "write", "kernel"] (sp_look K) := by
  refine ok_mk T.f_look sc_look rfl (fun _ _ _ _ _ _ us hl => match us, hl with | [_, _, _, _, _], _ => rfl) (fun vs H Q E h => ?_) (fun cdv A outer s H vs Q E hr h => ?_)
  · obtain ⟨o, c, W, F, root, place, wr, kn, rfl, _⟩ := h
    rfl
  · obtain ⟨o, c, W, F, root, place, wr, kn, rfl, hW, g, p0, hQ, hE⟩ := h
    obtain ⟨tl, gl⟩ := T.i_LAST
    obtain ⟨ox, _, _, _, _, iC, tI⟩ := T.oex
    obtain ⟨dx, m, sh, rp, ow⟩ := hW.inst
    have O1 : Ok P w K mg base CX0 4 d_Plain_has ["self", "page"] (sp_Plain_has K) := ok_Plain_has T
    have O2 : Ok P w K mg base CX0 3 d_parts_of ["place"] (sp_parts_of K) := ok_parts_of T
    have O3 : Ok P w K mg base CX0 1 d_Fault_init ["self", "kind", "place", "level"] (sp_Fault_init K) := ok_Fault_init T
    have O4 : Ok P w K mg base CX0 6 d_Plain_read ["self", "page", "cell"] (sp_Plain_read K) := ok_Plain_read T
    have O5 : Ok P w K mg base (L2N.CX P w) 5 d_look_by ["store", "row", "place", "level", "write", "kernel"] (sp_look_by K) := ok_look_by T
    have O6 : Ok P w K mg base CX0 1 d_rights_of ["high", "low"] (sp_rights_of K) := ok_rights_of T
    have nd := sc_look.nd
    have h1 := hr.mono (show 1 ≤ 6 by decide)
    have h2 := hr.mono (show 2 ≤ 6 by decide)
    have h3 := hr.mono (show 3 ≤ 6 by decide)
    have h4 := hr.mono (show 4 ≤ 6 by decide)
    have h5 := hr.mono (show 5 ≤ 6 by decide)
    refine ⟨_, pss_cons (ps_if (pt_cmpR op_gt (pv 2) (pe_glob (v := .int 511) rfl gl ⟨_, rfl⟩) (nomark _)) (pss_one (L2N.ps_raise rfl takesN (pmk_own2 (d := d_Fault_init) ox iC tI O3 h2 rfl T.g_Fault (pa_cons pe_str (pa_cons (pv 2) (pa_cons pe_int pa_nil)))))) pss_nil)
      (pss_cons (ps_if (pt_not (pt_val (pe_m O1 (pv 0) T.c_Plain T.m_Plain_has h4 pass0 (pa_cons (pv 1) pa_nil)))) (pss_one (L2N.ps_raise rfl takesN (pmk_own2 (d := d_Fault_init) ox iC tI O3 h2 rfl T.g_Fault (pa_cons pe_str (pa_cons (pv 2) (pa_cons pe_int pa_nil)))))) pss_nil)
      (pss_cons (ps_asg (pe_c O2 h3 rfl T.g_parts_of pass0 (pa_cons (pv 2) pa_nil)) (pg_tup rfl (pgs_cons (pg_name (i := 5) nd rfl (.inl rfl)) (pgs_cons (pg_name (i := 6) nd rfl (.inl rfl)) (pgs_cons (pg_name (i := 7) nd rfl (.inl rfl)) pgs_nil)))))
      (pss_cons (ps_set (i := 8) nd rfl (.inl rfl) (pe_m O4 (pv 0) T.c_Plain T.m_Plain_read hr pass0 (pa_cons (pv 1) (pa_cons (pv 5) pa_nil))))
      (pss_cons (ps_set (i := 9) nd rfl (.inl rfl) (pe_c O5 h5 rfl T.g_look_by passN (pa_cons (pv 0) (pa_cons (pv 8) (pa_cons (pv 2) (pa_cons pe_int (pa_cons (pv 3) (pa_cons (pv 4) pa_nil))))))))
      (pss_cons (ps_set (i := 10) nd rfl (.inl rfl) (pe_m O4 (pv 0) T.c_Plain T.m_Plain_read hr pass0 (pa_cons (pv 9) (pa_cons (pv 6) pa_nil))))
      (pss_cons (ps_set (i := 11) nd rfl (.inl rfl) (pe_c O5 h5 rfl T.g_look_by passN (pa_cons (pv 0) (pa_cons (pv 10) (pa_cons (pv 2) (pa_cons pe_int (pa_cons (pv 3) (pa_cons (pv 4) pa_nil))))))))
      (pss_one (ps_ret (pe_tup (pa_cons (pe_tup (pa_cons (pv 1) (pa_cons (pv 5) pa_nil))) (pa_cons (pe_tup (pa_cons (pv 9) (pa_cons (pv 6) pa_nil))) (pa_cons (pv 11) (pa_cons (pe_c O6 h1 rfl T.g_rights_of pass0 (pa_cons (pv 8) (pa_cons (pv 10) pa_nil))) pa_nil))))))))))))), ?_⟩
    refine ⟨_, rfl, _, _, rfl, rfl, _, rfl, ite_b (fun c1 => ?_) (fun c1 => ?_)⟩
    · refine ⟨_, rfl, mk_fault (f := ⟨"far", place, 0⟩) (hE _ ?_)⟩
      unfold look
      rw [if_pos (of_decide_eq_true c1)]
    have p1 : ¬ place > 511 := of_decide_eq_false c1
    refine ⟨_, rfl, o, dx, _, rfl, ow, rfl, _, rfl, o, c, W, F, root, rfl, hW, _, rfl, ite_b (fun c2 => ?_) (fun c2 => ?_)⟩
    · refine ⟨_, rfl, mk_fault (f := ⟨"beyond", place, 0⟩) (hE _ ?_)⟩
      unfold look
      rw [if_neg p1, not_f c2, if_neg Bool.false_ne_true]
    have c2' := not_t c2
    have el : look W.pages root place wr kn = (match lookBy W.pages (rd W.pages root (place / 8 / 8)) place 1 wr kn with
        | .error f => .error f
        | .ok table =>
          match lookBy W.pages (rd W.pages table (place / 8 % 8)) place 2 wr kn with
          | .error f => .error f
          | .ok page => .ok ⟨root, place / 8 / 8, table, place / 8 % 8, page, rightsOf (rd W.pages root (place / 8 / 8)) (rd W.pages table (place / 8 % 8))⟩) := by
      unfold look
      rw [if_neg p1, c2', if_pos rfl]
      all_goals rfl
    rw [el] at hQ hE
    refine ⟨_, rfl, place, rfl, p0, by omega, fun H1 a1 s1 ea1 => ⟨a1, _, rfl, SqT.of ea1, rfl, ?_⟩⟩
    have hW1 := hW.same s1
    have ow1 := s1 _ _ ow
    refine ⟨_, _, rfl, _, _, rfl, _, _, rfl, rfl, ?_⟩
    have co : isC (place / 8 / 8) := ⟨by omega, by omega⟩
    have ci : isC (place / 8 % 8) := ⟨by omega, by omega⟩
    refine ⟨_, rfl, o, dx, _, rfl, ow1, rfl, _, rfl, _, rfl, o, c, W, F, root, _, rfl, hW1, g, c2', co, ?_⟩
    refine ⟨_, rfl, _, rfl, _, rfl, _, rfl, _, rfl, o, c, W, F, _, place, 1, wr, kn, rfl, hW1, fun tb ht => ?_, fun f hf => ?_⟩
    · simp only [ht] at hQ hE
      have ptb := lookBy_ok ht
      refine ⟨_, rfl, o, dx, _, rfl, ow1, rfl, _, rfl, _, rfl, o, c, W, F, tb, _, rfl, hW1, g, ptb, ci, ?_⟩
      refine ⟨_, rfl, _, rfl, _, rfl, _, rfl, _, rfl, o, c, W, F, _, place, 2, wr, kn, rfl, hW1, fun pg hp => ?_, fun f hf => ?_⟩
      · simp only [hp] at hQ
        refine ⟨_, rfl, _, rfl, (by show 2 ≤ sizeLine; decide), fun b1 hb1 => ?_⟩
        refine ⟨_, rfl, _, rfl, (by show 2 ≤ sizeLine; decide), fun b2 hb2 => ?_⟩
        refine ⟨_, rfl, _, rfl, _, rfl, _, _, rfl, (by show 4 ≤ sizeLine; decide), fun b3 hb3 => ?_⟩
        have z1 : (upd (upd (upd H1 b1 (.tup [.int root, .int (place / 8 / 8)])) b2 (.tup [.int tb, .int (place / 8 % 8)])) b3 (.tup [.ref b1, .ref b2, .int pg, .int (rightsOf (rd W.pages root (place / 8 / 8)) (rd W.pages tb (place / 8 % 8)))])) b1 = some (.tup [.int root, .int (place / 8 / 8)]) := by
          have n2 : b1 ≠ b2 := ne_of_none upd_same hb2
          rw [upd_ne (ne_of_none (by rw [upd_ne n2]; exact upd_same) hb3), upd_ne n2]
          exact upd_same
        have z2 : (upd (upd (upd H1 b1 (.tup [.int root, .int (place / 8 / 8)])) b2 (.tup [.int tb, .int (place / 8 % 8)])) b3 (.tup [.ref b1, .ref b2, .int pg, .int (rightsOf (rd W.pages root (place / 8 / 8)) (rd W.pages tb (place / 8 % 8)))])) b2 = some (.tup [.int tb, .int (place / 8 % 8)]) := by
          rw [upd_ne (ne_of_none upd_same hb3)]
          exact upd_same
        exact hQ _ rfl _ b3 b1 b2 (Same.up (Same.up (Same.up s1 hb1) hb2) hb3) z1 z2 upd_same
      · simp only [hf] at hE
        exact (hE f rfl).mono s1
    · simp only [hf] at hE
      exact (hE f rfl).mono s1
theorem sc_stamp : FnScope ["store", "spot", "marks", "word"] ["store", "spot", "marks"] d_stamp.scope := ⟨rfl, rfl, rfl, by decide +kernel, rfl, by decide +kernel, by decide +kernel⟩
def sp_stamp (K : PySem.W.Frag) : Sp := fun vs H Q _ => ∃ o c W F s x d k, vs = [.ref o, .ref s, .int k] ∧ H s = some (.tup [.int x, .int d]) ∧ WayAt K H o c W F ∧ gd W.pages ∧ hasP W.pages x = true ∧ isC d ∧ 0 ≤ k ∧ k < W48 ∧
  WP K H o c F { W with pages := stamp W.pages x d k } fun H' _ => Q .non H'
theorem ok_stamp (T : Txt K mg) : Ok P w K mg base CX0 7 d_stamp ["store", "spot", "marks"] (sp_stamp K) := by
  refine ok_no T.f_stamp sc_stamp rfl (fun _ _ _ _ _ _ us hl => match us, hl with | [_, _, _], _ => rfl) (fun vs H Q E h => ?_) (fun cdv A outer s H vs Q E hr h => ?_)
  · obtain ⟨o, c, W, F, s, x, d, k, rfl, _⟩ := h
    rfl
  · obtain ⟨o, c, W, F, s, x, d, k, rfl, hs, hW, g, hx, hd, k0, k1, hQ⟩ := h
    obtain ⟨dx, m, sh, rp, ow⟩ := hW.inst
    have O1 : Ok P w K mg base CX0 6 d_Plain_read ["self", "page", "cell"] (sp_Plain_read K) := ok_Plain_read T
    have O2 : Ok P w K mg base CX0 6 d_Plain_write ["self", "page", "cell", "word"] (sp_Plain_write K) := ok_Plain_write T
    have O3 : Ok P w K mg base CX0 1 d_has ["row", "marks"] (sp_has K) := ok_has T
    have O4 : Ok P w K mg base CX0 1 d_put ["row", "marks"] (sp_put K) := ok_put T
    have nd := sc_stamp.nd
    have h1 := hr.mono (show 1 ≤ 6 by decide)
    refine ⟨_, pss_cons (ps_set (i := 3) nd rfl (.inl rfl) (pe_m O1 (pv 0) T.c_Plain T.m_Plain_read hr pass0 (pa_cons (pe_ix ix_tup (pv 1) pe_int (fun _ _ => rfl)) (pa_cons (pe_ix ix_tup (pv 1) pe_int (fun _ _ => rfl)) pa_nil))))
      (pss_one (ps_if (pt_not (pt_val (pe_c O3 h1 rfl T.g_has pass0 (pa_cons (pv 3) (pa_cons (pv 2) pa_nil)))))
        (pss_one (ps_expr (pe_m O2 (pv 0) T.c_Plain T.m_Plain_write hr pass0 (pa_cons (pe_ix ix_tup (pv 1) pe_int (fun _ _ => rfl)) (pa_cons (pe_ix ix_tup (pv 1) pe_int (fun _ _ => rfl)) (pa_cons (pe_c O4 h1 rfl T.g_put pass0 (pa_cons (pv 3) (pa_cons (pv 2) pa_nil))) pa_nil)))))) pss_nil)), ?_⟩
    refine ⟨_, rfl, o, dx, _, rfl, ow, rfl, _, rfl, s, _, 0, _, rfl, rfl, SqT.of hs, rfl, _, rfl, s, _, 1, _, rfl, rfl, SqT.of hs, rfl, o, c, W, F, x, d, rfl, hW, g, hx, hd, ?_⟩
    refine ⟨_, rfl, _, rfl, _, k, rfl, _, rfl, ite_b (fun c1 => ?_) (fun c1 => ?_)⟩
    · refine ⟨_, rfl, o, dx, _, rfl, ow, rfl, _, rfl, s, _, 0, _, rfl, rfl, SqT.of hs, rfl, _, rfl, s, _, 1, _, rfl, rfl, SqT.of hs, rfl, _, rfl, _, rfl, _, k, rfl, o, c, W, F, x, d, _, rfl, hW, g, hx, hd, or_w (rd_word g hx hd) k0 k1, ?_⟩
      unfold stamp at hQ
      rw [not_f c1, if_neg Bool.false_ne_true] at hQ
      exact hQ
    · unfold stamp at hQ
      rw [not_t c1, if_pos rfl] at hQ
      exact hQ H F (.of_same (Same.refl _)) Gr.refl hW
theorem sc_mark : FnScope ["store", "trail", "write"] ["store", "trail", "write"] d_mark.scope := ⟨rfl, rfl, rfl, by decide +kernel, rfl, by decide +kernel, by decide +kernel⟩
def sp_mark (K : PySem.W.Frag) : Sp := fun vs H Q _ => ∃ o c W F a a1 a2 t wr, vs = [.ref o, .ref a, .bl wr] ∧ H a1 = some (.tup [.int (Trail.root t), .int t.outer]) ∧ H a2 = some (.tup [.int t.table, .int t.inner]) ∧ H a = some (.tup [.ref a1, .ref a2, .int t.page, .int t.rights]) ∧
  WayAt K H o c W F ∧ gd W.pages ∧ TrOk W.pages t ∧ WP K H o c F { W with pages := markP W.pages t wr } fun H' _ => Q (.int (markR t wr)) H'
theorem ok_mark (T : Txt K mg) : Ok P w K mg base CX0 8 d_mark ["store", "trail", "write"] (sp_mark K) := by
  refine ok_no T.f_mark sc_mark rfl (fun _ _ _ _ _ _ us hl => match us, hl with | [_, _, _], _ => rfl) (fun vs H Q E h => ?_) (fun cdv A outer s H vs Q E hr h => ?_)
  · obtain ⟨o, c, W, F, a, a1, a2, t, wr, rfl, _⟩ := h
    rfl
  · obtain ⟨o, c, W, F, a, a1, a2, t, wr, rfl, e1, e2, e, hW, g, ht, hQ⟩ := h
    obtain ⟨tt, gt⟩ := T.i_TOUCHED
    obtain ⟨ts, gs⟩ := T.i_SOILED
    have O1 : Ok P w K mg base CX0 7 d_stamp ["store", "spot", "marks"] (sp_stamp K) := ok_stamp T
    refine ⟨_, pss_cons (ps_expr (pe_c O1 hr rfl T.g_stamp pass0 (pa_cons (pv 0) (pa_cons (pe_ix ix_tup (pv 1) pe_int (fun _ _ => rfl)) (pa_cons (pe_glob (v := .int 8) rfl gt ⟨_, rfl⟩) pa_nil)))))
      (pss_cons (ps_if (pt_not (pt_val (pv 2))) (pss_cons (ps_expr (pe_c O1 hr rfl T.g_stamp pass0 (pa_cons (pv 0) (pa_cons (pe_ix ix_tup (pv 1) pe_int (fun _ _ => rfl)) (pa_cons (pe_glob (v := .int 8) rfl gt ⟨_, rfl⟩) pa_nil))))) (pss_one (ps_ret (pe_ix ix_tup (pv 1) pe_int (fun _ _ => rfl))))) pss_nil)
      (pss_cons (ps_expr (pe_c O1 hr rfl T.g_stamp pass0 (pa_cons (pv 0) (pa_cons (pe_ix ix_tup (pv 1) pe_int (fun _ _ => rfl)) (pa_cons (pe_op op_or (pe_glob (v := .int 8) rfl gt ⟨_, rfl⟩) (pe_glob (v := .int 16) rfl gs ⟨_, rfl⟩)) pa_nil)))))
      (pss_one (ps_ret (pe_op op_or (pe_ix ix_tup (pv 1) pe_int (fun _ _ => rfl)) (pe_glob (v := .int 16) rfl gs ⟨_, rfl⟩)))))), ?_⟩
    refine ⟨_, rfl, _, rfl, a, _, 0, _, rfl, rfl, SqT.of e, rfl, o, c, W, F, a1, t.root, t.outer, 8, rfl, e1, hW, g, ht.r, ht.o, m8.1, m8.2, fun H1 F1 b1 g1 hW1 => ?_⟩
    have f : H1 a = _ := b1 _ _ e (hW.ntup e)
    have f2 : H1 a2 = _ := b1 _ _ e2 (hW.ntup e2)
    have gd1 := gd_stamp (m := 8) g ht.r ht.o m8.1 m8.2
    have ptb : hasP (stamp W.pages t.root t.outer 8) t.table = true := hasP_stamp ht.r ht.tb
    have hQ1 := hQ.seq b1 g1
    refine ⟨_, rfl, wr, rfl, ?_⟩
    cases wr with
    | false =>
      refine iteT ⟨_, rfl, _, rfl, a, _, 1, _, rfl, rfl, SqT.of f, rfl, o, c, _, F1, a2, t.table, t.inner, 8, rfl, f2, hW1, gd1, ptb, ht.i, m8.1, m8.2, fun H2 F2 b2 g2 hW2 => ?_⟩
      exact ⟨_, rfl, a, _, 3, _, rfl, rfl, SqT.of (b2 _ _ f (hW1.ntup f)), rfl, hQ1 H2 F2 b2 g2 hW2⟩
    | true =>
      refine iteF ⟨_, rfl, _, rfl, a, _, 1, _, rfl, rfl, SqT.of f, rfl, _, _, rfl, rfl, o, c, _, F1, a2, t.table, t.inner, mTS0, rfl, f2, hW1, gd1, ptb, ht.i, (mTS true).1, (mTS true).2, fun H2 F2 b2 g2 hW2 => ?_⟩
      exact ⟨_, rfl, a, _, 3, _, rfl, rfl, SqT.of (b2 _ _ f (hW1.ntup f)), rfl, _, _, rfl, rfl, hQ1 H2 F2 b2 g2 hW2⟩
end
end M35

/-! ## text A9 -/
set_option maxHeartbeats 4000000
namespace M35
open PySem PySem.Spec PyProof.Rows L2

/-! # the way's deeds -/
def oI : Option Int → V
  | none => .non
  | some p => .int p
/-- a reading of pages, each a list of its own -/
structure PgV (H : Hp) (ps : List (Option Addr)) (pg : Pg) : Prop where
  len : ps.length = pg.length
  no : ∀ i : Nat, pg[i]? = some none → ps[i]? = some none
  yes : ∀ (i : Nat) (l : List Int), pg[i]? = some (some l) → ∃ p, ps[i]? = some (some p) ∧ H p = some (.lst (l.map V.int))
theorem app_some {α : Type} {l : List α} {y : α} {j : Nat} {z : α} (e : (l ++ [y])[j]? = some z) : l[j]? = some z ∨ (j = l.length ∧ z = y) := by
  rcases Nat.lt_or_ge j l.length with q | q
  · rw [List.getElem?_append_left q] at e
    exact .inl e
  · rw [List.getElem?_append_right q] at e
    have z0 : j - l.length = 0 := by
      have q1 := (List.getElem?_eq_some_iff.mp e).1
      simp at q1
      exact q1
    rw [z0] at e
    exact .inr ⟨by omega, (Option.some.inj e).symm⟩
theorem app_old {α : Type} {l : List α} {y : α} {j : Nat} {z : α} (e : l[j]? = some z) : (l ++ [y])[j]? = some z := by
  rw [List.getElem?_append_left (List.getElem?_eq_some_iff.mp e).1]
  exact e
theorem app_new {α : Type} {l : List α} {y : α} {n : Nat} (h : n = l.length) : (l ++ [y])[n]? = some y := by
  rw [h, List.getElem?_append_right (Nat.le_refl _), Nat.sub_self]
  rfl
theorem PgV.app {H H' : Hp} {ps : List (Option Addr)} {pg : Pg} {o : Option (List Int)} {q : Option Addr} (h : PgV H ps pg) (k : ∀ (i : Nat) (p : Addr) x, ps[i]? = some (some p) → H p = some x → H' p = some x) (hn : o = none → q = none) (hy : ∀ l, o = some l → ∃ p, q = some p ∧ H' p = some (.lst (l.map V.int))) : PgV H' (ps ++ [q]) (pg ++ [o]) := by
  refine ⟨by rw [List.length_append, List.length_append, h.len]; rfl, fun i e => ?_, fun i l e => ?_⟩
  · rcases app_some e with z | ⟨z1, z2⟩
    · exact app_old (h.no i z)
    · rw [hn z2.symm]
      exact app_new (by rw [z1, h.len])
  · rcases app_some e with z | ⟨z1, z2⟩
    · obtain ⟨p, a, b⟩ := h.yes i l z
      exact ⟨p, app_old a, k i p _ a b⟩
    · obtain ⟨p, a, b⟩ := hy l z2.symm
      exact ⟨p, by rw [a]; exact app_new (by rw [z1, h.len]), b⟩
section
variable {P : Program} {w : World} {K : PySem.W.Frag} {mg : Str → Option Value} {base : Heap}
theorem fe_wp {H : Hp} {E : XK} {f : Flt} {H1 : Hp} (h : FE K E H f) (s : Same H H1) : FE K E H1 f := h.mono s
theorem sc_Plain_left : FnScope ["self", "number"] ["self", "number"] d_Plain_left.scope := ⟨rfl, rfl, rfl, by decide +kernel, rfl, by decide +kernel, by decide +kernel⟩
def sp_Plain_left (K : PySem.W.Frag) : Sp := fun vs H Q _ => ∃ o v, vs = [.ref o, v] ∧ Q .non H
theorem ok_Plain_left (T : Txt K mg) : Ok P w K mg base CX0 1 d_Plain_left ["self", "number"] (sp_Plain_left K) := by
  refine ok_no T.f_Plain_left sc_Plain_left rfl (fun _ _ _ _ _ _ us hl => match us, hl with | [_, _], _ => rfl) (fun vs H Q E h => ?_) (fun cdv A outer s H vs Q E hr h => ?_)
  · obtain ⟨o, v, rfl, _⟩ := h
    rfl
  · obtain ⟨o, v, rfl, hQ⟩ := h
    exact ⟨_, pss_one ps_pass, hQ⟩
theorem sc_Plain_left_all : FnScope ["self"] ["self"] d_Plain_left_all.scope := ⟨rfl, rfl, rfl, by decide +kernel, rfl, by decide +kernel, by decide +kernel⟩
def sp_Plain_left_all (K : PySem.W.Frag) : Sp := fun vs H Q _ => ∃ o, vs = [.ref o] ∧ Q .non H
theorem ok_Plain_left_all (T : Txt K mg) : Ok P w K mg base CX0 1 d_Plain_left_all ["self"] (sp_Plain_left_all K) := by
  refine ok_no T.f_Plain_left_all sc_Plain_left_all rfl (fun _ _ _ _ _ _ us hl => match us, hl with | [_], _ => rfl) (fun vs H Q E h => ?_) (fun cdv A outer s H vs Q E hr h => ?_)
  · obtain ⟨o, rfl, _⟩ := h
    rfl
  · obtain ⟨o, rfl, hQ⟩ := h
    exact ⟨_, pss_one ps_pass, hQ⟩
theorem sc_Plain_on_shelf : FnScope ["self", "place", "write", "kernel", "row"] ["self", "place", "write", "kernel"] d_Plain_on_shelf.scope := ⟨rfl, rfl, rfl, by decide +kernel, rfl, by decide +kernel, by decide +kernel⟩
def sp_Plain_on_shelf (K : PySem.W.Frag) : Sp := fun vs H Q _ => ∃ o c W F place wr kn, vs = [.ref o, .int place, .bl wr, .bl kn] ∧ WayAt K H o c W F ∧ ∀ H', Same H H' → Q (oI (onShelf W place wr kn)) H'
theorem ok_Plain_on_shelf (T : Txt K mg) : Ok P w K mg base CX0 5 d_Plain_on_shelf ["self", "place", "write", "kernel"] (sp_Plain_on_shelf K) := by
  refine ok_no T.f_Plain_on_shelf sc_Plain_on_shelf rfl (fun _ _ _ _ _ _ us hl => match us, hl with | [_, _, _, _], _ => rfl) (fun vs H Q E h => ?_) (fun cdv A outer s H vs Q E hr h => ?_)
  · obtain ⟨o, c, W, F, place, wr, kn, rfl, _⟩ := h
    rfl
  · obtain ⟨o, c, W, F, place, wr, kn, rfl, hW, hQ⟩ := h
    obtain ⟨m, hl, sh, ln, rp, ps, rows, hI⟩ := id hW
    obtain ⟨dx, ow⟩ := hI.ow
    obtain ⟨ds, os⟩ := hI.shi.osh
    obtain ⟨tp, gp⟩ := T.i_PLACES
    have O1 : Ok P w K mg base CX0 2 d_Shelf_seek ["self", "number"] (sp_Shelf_seek K) := ok_Shelf_seek T
    have O2 : Ok P w K mg base CX0 4 d_Plain_has ["self", "page"] (sp_Plain_has K) := ok_Plain_has T
    have O3 : Ok P w K mg base CX0 2 d_lets ["rights", "write", "kernel"] (sp_lets K) := ok_lets T
    have nd := sc_Plain_on_shelf.nd
    have h2 := hr.mono (show 2 ≤ 4 by decide)
    refine ⟨_, pss_cons (ps_if (pt_cmpR op_ge (pv 1) (pe_glob (v := .int 512) rfl gp ⟨_, rfl⟩) (nomark _)) (pss_one (ps_ret pe_non)) pss_nil)
      (pss_cons (ps_set (i := 4) nd rfl (.inl rfl) (pe_m O1 (pe_fld (pv 0) rfl) T.c_Shelf T.m_Shelf_seek h2 pass0 (pa_cons (pe_op op_fdiv (pv 1) pe_int) pa_nil)))
      (pss_cons (ps_if (PW.pt (pw_or (pt_cmpR op_isN (pv 4) pe_non (nomark _)) (pw_or (pt_not (pt_val (pe_m O2 (pv 0) T.c_Plain T.m_Plain_has hr pass0 (pa_cons (pe_ix ix_tup (pv 4) pe_int (fun _ _ => rfl)) pa_nil))))
        (pw_or1 (pt_not (pt_val (pe_c O3 h2 rfl T.g_lets pass0 (pa_cons (pe_ix ix_tup (pv 4) pe_int (fun _ _ => rfl)) (pa_cons (pv 2) (pa_cons (pv 3) pa_nil)))))))))) (pss_one (ps_ret pe_non)) pss_nil)
      (pss_one (ps_ret (pe_ix ix_tup (pv 4) pe_int (fun _ _ => rfl)))))), ?_⟩
    refine ⟨_, rfl, _, _, rfl, rfl, _, rfl, ite_b (fun c1 => ?_) (fun c1 => ?_)⟩
    · have e : onShelf W place wr kn = none := if_pos (of_decide_eq_true c1)
      rw [e] at hQ
      exact hQ H (Same.refl _)
    have e0 : onShelf W place wr kn = (match shSeek W.line (place / 8) with
      | none => none
      | some q => if (hasP W.pages q.1 && letsB q.2 wr kn) = true then some q.1 else none) := if_neg (of_decide_eq_false c1)
    rw [e0] at hQ
    refine ⟨_, rfl, _, _, _, _, _, rfl, ow, T.c_Plain, T.n_Plain_held, rfl, sh, ds, _, rfl, os, rfl, _, rfl, _, _, rfl, rfl, ⟨by decide, by decide⟩, sh, ln, rows, _, W.line, place / 8, rfl, hI.shi, fun hn H1 s1 => ?_, fun q hq H1 t s1 ht => ?_⟩
    · simp only [hn] at hQ
      exact ⟨_, rfl, rfl, _, rfl, ite_t (decide_eq_true rfl) (hQ H1 s1)⟩
    · simp only [hq] at hQ
      have hW1 := hW.same s1
      have ow1 := s1 _ _ ow
      refine ⟨_, rfl, rfl, _, rfl, ite_f (decide_eq_false fun z => nomatch z) ?_⟩
      refine ⟨_, rfl, o, dx, _, rfl, ow1, rfl, _, rfl, t, _, 0, _, rfl, rfl, SqT.of ht, rfl, o, c, W, F, q.1, rfl, hW1, _, rfl, ite_b (fun c2 => ?_) (fun c2 => ?_)⟩
      · rw [not_f c2] at hQ
        exact hQ H1 s1
      · rw [not_t c2] at hQ
        refine ⟨_, rfl, t, _, 1, _, rfl, rfl, SqT.of ht, rfl, _, rfl, _, rfl, q.2, wr, kn, rfl, _, rfl, ite_b (fun c3 => ?_) (fun c3 => ?_)⟩
        · rw [not_f c3] at hQ
          exact hQ H1 s1
        · rw [not_t c3] at hQ
          exact ⟨_, rfl, t, _, 0, _, rfl, rfl, SqT.of ht, rfl, hQ H1 s1⟩
theorem sc_Plain_reach : FnScope ["self", "place", "write", "kernel", "page", "trail", "rights", "out"] ["self", "place", "write", "kernel"] d_Plain_reach.scope := ⟨rfl, rfl, rfl, by decide +kernel, rfl, by decide +kernel, by decide +kernel⟩
def sp_Plain_reach (K : PySem.W.Frag) : Sp := fun vs H Q E => ∃ o c W F place wr kn, vs = [.ref o, .int place, .bl wr, .bl kn] ∧ WayAt K H o c W F ∧ GoodC c ∧ GoodW c W ∧ isW place ∧
  (∀ p W', reach c.most W place wr kn = .ok (p, W') → WP K H o c F W' fun H' _ => Q (.int p) H') ∧ (∀ f, reach c.most W place wr kn = .error f → FE K E H f)
theorem ok_Plain_reach (T : Txt K mg) : Ok P w K mg base (L2N.CX P w) 9 d_Plain_reach ["self", "place", "write", "kernel"] (sp_Plain_reach K) := by
  refine ok_mk T.f_Plain_reach sc_Plain_reach rfl (fun _ _ _ _ _ _ us hl => match us, hl with | [_, _, _, _], _ => rfl) (fun vs H Q E h => ?_) (fun cdv A outer s H vs Q E hr h => ?_)
  · obtain ⟨o, c, W, F, place, wr, kn, rfl, _⟩ := h
    rfl
  · obtain ⟨o, c, W, F, place, wr, kn, rfl, hW, hc, hG, hp, hQ, hE⟩ := h
    obtain ⟨dx, m, sh, rp, ow⟩ := hW.inst
    have O1 : Ok P w K mg base CX0 5 d_Plain_on_shelf ["self", "place", "write", "kernel"] (sp_Plain_on_shelf K) := ok_Plain_on_shelf T
    have O2 : Ok P w K mg base (L2N.CX P w) 7 d_look ["store", "root", "place", "write", "kernel"] (sp_look K) := ok_look T
    have O3 : Ok P w K mg base CX0 8 d_mark ["store", "trail", "write"] (sp_mark K) := ok_mark T
    have O4 : Ok P w K mg base CX0 2 d_Shelf_keep ["self", "number", "page", "rights"] (sp_Shelf_keep K) := ok_Shelf_keep T
    have O5 : Ok P w K mg base CX0 1 d_Plain_left ["self", "number"] (sp_Plain_left K) := ok_Plain_left T
    have nd := sc_Plain_reach.nd
    have h1 := hr.mono (show 1 ≤ 8 by decide)
    have h2 := hr.mono (show 2 ≤ 8 by decide)
    have h5 := hr.mono (show 5 ≤ 8 by decide)
    have h7 := hr.mono (show 7 ≤ 8 by decide)
    refine ⟨_, pss_cons (ps_set (i := 4) nd rfl (.inl rfl) (pe_m O1 (pv 0) T.c_Plain T.m_Plain_on_shelf h5 pass0 (pa_cons (pv 1) (pa_cons (pv 2) (pa_cons (pv 3) pa_nil)))))
      (pss_cons (ps_if (pt_cmpR op_notN (pv 4) pe_non (nomark _)) (pss_one (ps_ret (pv 4))) pss_nil)
      (pss_cons (ps_set (i := 5) nd rfl (.inl rfl) (pe_c O2 h7 rfl T.g_look passN (pa_cons (pv 0) (pa_cons (pe_fld (pv 0) rfl) (pa_cons (pv 1) (pa_cons (pv 2) (pa_cons (pv 3) pa_nil)))))))
      (pss_cons (ps_set (i := 6) nd rfl (.inl rfl) (pe_c O3 hr rfl T.g_mark pass0 (pa_cons (pv 0) (pa_cons (pv 5) (pa_cons (pv 2) pa_nil)))))
      (pss_cons (ps_set (i := 7) nd rfl (.inl rfl) (pe_m O4 (pe_fld (pv 0) rfl) T.c_Shelf T.m_Shelf_keep h2 pass0 (pa_cons (pe_op op_fdiv (pv 1) pe_int) (pa_cons (pe_ix ix_tup (pv 5) pe_int (fun _ _ => rfl)) (pa_cons (pv 6) pa_nil)))))
      (pss_cons (ps_if (pt_cmpR op_notN (pv 7) pe_non (nomark _)) (pss_one (ps_expr (pe_m O5 (pv 0) T.c_Plain T.m_Plain_left h1 pass0 (pa_cons (pv 7) pa_nil)))) pss_nil)
      (pss_one (ps_ret (pe_ix ix_tup (pv 5) pe_int (fun _ _ => rfl))))))))), ?_⟩
    refine ⟨_, rfl, o, dx, _, rfl, ow, rfl, _, rfl, _, rfl, _, rfl, o, c, W, F, place, wr, kn, rfl, hW, fun H1 s1 => ?_⟩
    have hW1 := hW.same s1
    have ow1 := s1 _ _ ow
    cases eo : onShelf W place wr kn with
    | some p =>
      have er : reach c.most W place wr kn = .ok (p, W) := by
        unfold reach
        rw [eo]
      exact ⟨_, rfl, rfl, _, rfl, ite_t rfl ⟨_, rfl, hQ _ _ er H1 F (.of_same s1) Gr.refl hW1⟩⟩
    | none =>
      have er : reach c.most W place wr kn = (match look W.pages W.base place wr kn with
        | .error f => .error f
        | .ok t => .ok (t.page, { W with pages := markP W.pages t wr, line := shKeep c.most W.line (place / 8) t.page (markR t wr) })) := by
        unfold reach
        rw [eo]
        all_goals rfl
      rw [er] at hQ hE
      refine ⟨_, rfl, rfl, _, rfl, ite_f rfl ?_⟩
      refine ⟨_, rfl, _, rfl, _, _, _, _, _, rfl, ow1, T.c_Plain, T.n_Plain_base, rfl, _, rfl, _, rfl, _, rfl, o, c, W, F, W.base, place, wr, kn, rfl, hW1, hG.g, hp.1, fun t ht H2 a a1 a2 s2 e1 e2 ea => ?_, fun f hf => ?_⟩
      · simp only [ht] at hQ
        have tok := look_ok hp ht
        have hW2 := hW1.same s2
        refine ⟨_, rfl, _, rfl, _, rfl, o, c, W, F, a, a1, a2, t, wr, rfl, e1, e2, ea, hW2, hG.g, tok, fun H3 F3 b3 g3 hW3 => ?_⟩
        obtain ⟨m3, hl3, sh3, ln3, rp3, ps3, rows3, hI3⟩ := id hW3
        obtain ⟨dx3, ow3⟩ := hI3.ow
        obtain ⟨ds3, os3⟩ := hI3.shi.osh
        have ea3 : H3 a = _ := b3 _ _ ea (hW2.ntup ea)
        have l12 : W.line.length ≤ 12 := by
          have := hG.ln
          have := hc.m1
          omega
        refine ⟨_, rfl, _, _, _, _, _, rfl, ow3, T.c_Plain, T.n_Plain_held, rfl, sh3, ds3, _, rfl, os3, rfl, _, rfl, _, _, rfl, rfl, ⟨by decide, by decide⟩, _, rfl, a, _, 2, _, rfl, rfl, SqT.of ea3, rfl, _, rfl, sh3, ln3, rows3, _, W.line, place / 8, t.page, markR t wr, rfl, hI3.shi, l12, fun H4 rows4 v b4 hS4 hv => ?_⟩
        have hI4 := hI3.newSh (.inl rfl) b4 ⟨_, hS4.oln, rfl⟩ hS4 (.inl rfl)
        obtain ⟨dx4, ow4⟩ := hI4.ow
        have b4' : But F3 H3 H4 := b4.but hI3.fln
        have g4 : Gr F3 H3 (fun b => F3 b ∨ (H3 b = none ∧ b = ln3)) := fun x h => h.imp id (·.1)
        have ea4 : H4 a = _ := b4' _ _ ea3 (hW3.ntup ea3)
        have fin : Q (.int t.page) H4 := hQ _ _ rfl H4 _ (((But.of_same (s1.trans s2)).trans Gr.refl b3).trans (Gr.refl.trans (fun x e => .inl ((s1.trans s2).free e)) g3) b4')
          ((Gr.refl.trans (fun x e => .inl ((s1.trans s2).free e)) g3).trans (fun x e => (((But.of_same (s1.trans s2)).trans Gr.refl b3)).none x e) g4) ⟨_, _, _, _, _, _, _, hI4⟩
        rcases hv with rfl | ⟨i, rfl⟩
        · exact ⟨_, rfl, rfl, _, rfl, ite_f rfl ⟨_, rfl, a, _, 2, _, rfl, rfl, SqT.of ea4, rfl, fin⟩⟩
        · exact ⟨_, rfl, rfl, _, rfl, ite_t rfl ⟨_, rfl, o, dx4, _, rfl, ow4, rfl, _, rfl, o, _, rfl, _, rfl, a, _, 2, _, rfl, rfl, SqT.of ea4, rfl, fin⟩⟩
      · simp only [hf] at hE
        exact ((hE f rfl).mono s1)
theorem sc_Plain_load : FnScope ["self", "place", "kernel"] ["self", "place", "kernel"] d_Plain_load.scope := ⟨rfl, rfl, rfl, by decide +kernel, rfl, by decide +kernel, by decide +kernel⟩
def sp_Plain_load (K : PySem.W.Frag) : Sp := fun vs H Q E => ∃ o c W F place kn, vs = [.ref o, .int place, .bl kn] ∧ WayAt K H o c W F ∧ GoodC c ∧ GoodW c W ∧ isW place ∧
  (∀ v W', wload c.most W place kn = .ok (v, W') → WP K H o c F W' fun H' _ => Q (.int v) H') ∧ (∀ f, wload c.most W place kn = .error f → FE K E H f)
theorem ok_Plain_load (T : Txt K mg) : Ok P w K mg base (L2N.CX P w) 10 d_Plain_load ["self", "place", "kernel"] (sp_Plain_load K) := by
  refine ok_mk T.f_Plain_load sc_Plain_load rfl (fun _ _ _ _ _ _ us hl => match us, hl with | [_, _, _], _ => rfl) (fun vs H Q E h => ?_) (fun cdv A outer s H vs Q E hr h => ?_)
  · obtain ⟨o, c, W, F, place, kn, rfl, _⟩ := h
    rfl
  · obtain ⟨o, c, W, F, place, kn, rfl, hW, hc, hG, hp, hQ, hE⟩ := h
    obtain ⟨dx, m, sh, rp, ow⟩ := hW.inst
    have O1 : Ok P w K mg base (L2N.CX P w) 9 d_Plain_reach ["self", "place", "write", "kernel"] (sp_Plain_reach K) := ok_Plain_reach T
    have O2 : Ok P w K mg base CX0 6 d_Plain_read ["self", "page", "cell"] (sp_Plain_read K) := ok_Plain_read T
    have h6 := hr.mono (show 6 ≤ 9 by decide)
    refine ⟨_, pss_one (ps_ret (pe_m O2 (pv 0) T.c_Plain T.m_Plain_read h6 pass0 (pa_cons (pe_m O1 (pv 0) T.c_Plain T.m_Plain_reach hr passN (pa_cons (pv 1) (pa_cons pe_bl (pa_cons (pv 2) pa_nil)))) (pa_cons (pe_op op_mod (pv 1) pe_int) pa_nil)))), ?_⟩
    refine ⟨_, rfl, o, dx, _, rfl, ow, rfl, _, rfl, o, dx, _, rfl, ow, rfl, _, rfl, _, rfl, o, c, W, F, place, false, kn, rfl, hW, hc, hG, hp, fun p W1 e H1 F1 b1 g1 hW1 => ?_, fun f e => hE f (by unfold wload; rw [e])⟩
    obtain ⟨hG1, hp1⟩ := reach_ok hc hG hp e
    refine ⟨_, rfl, _, _, rfl, rfl, (show (0 : Int) < 8 by decide), o, c, W1, F1, p, _, rfl, hW1, hG1.g, hp1, cellC place, ?_⟩
    exact hQ _ W1 (by unfold wload; rw [e]) H1 F1 b1 g1 hW1
theorem sc_Plain_save : FnScope ["self", "place", "word", "kernel"] ["self", "place", "word", "kernel"] d_Plain_save.scope := ⟨rfl, rfl, rfl, by decide +kernel, rfl, by decide +kernel, by decide +kernel⟩
def sp_Plain_save (K : PySem.W.Frag) : Sp := fun vs H Q E => ∃ o c W F place v kn, vs = [.ref o, .int place, .int v, .bl kn] ∧ WayAt K H o c W F ∧ GoodC c ∧ GoodW c W ∧ isW place ∧ isW v ∧
  (∀ W', wsave c.most W place v kn = .ok W' → WP K H o c F W' fun H' _ => Q .non H') ∧ (∀ f, wsave c.most W place v kn = .error f → FE K E H f)
theorem ok_Plain_save (T : Txt K mg) : Ok P w K mg base (L2N.CX P w) 10 d_Plain_save ["self", "place", "word", "kernel"] (sp_Plain_save K) := by
  refine ok_mk T.f_Plain_save sc_Plain_save rfl (fun _ _ _ _ _ _ us hl => match us, hl with | [_, _, _, _], _ => rfl) (fun vs H Q E h => ?_) (fun cdv A outer s H vs Q E hr h => ?_)
  · obtain ⟨o, c, W, F, place, v, kn, rfl, _⟩ := h
    rfl
  · obtain ⟨o, c, W, F, place, v, kn, rfl, hW, hc, hG, hp, hv, hQ, hE⟩ := h
    obtain ⟨dx, m, sh, rp, ow⟩ := hW.inst
    have O1 : Ok P w K mg base (L2N.CX P w) 9 d_Plain_reach ["self", "place", "write", "kernel"] (sp_Plain_reach K) := ok_Plain_reach T
    have O2 : Ok P w K mg base CX0 6 d_Plain_write ["self", "page", "cell", "word"] (sp_Plain_write K) := ok_Plain_write T
    have h6 := hr.mono (show 6 ≤ 9 by decide)
    refine ⟨_, pss_one (ps_expr (pe_m O2 (pv 0) T.c_Plain T.m_Plain_write h6 pass0 (pa_cons (pe_m O1 (pv 0) T.c_Plain T.m_Plain_reach hr passN (pa_cons (pv 1) (pa_cons pe_bl (pa_cons (pv 3) pa_nil)))) (pa_cons (pe_op op_mod (pv 1) pe_int) (pa_cons (pv 2) pa_nil))))), ?_⟩
    refine ⟨_, rfl, o, dx, _, rfl, ow, rfl, _, rfl, o, dx, _, rfl, ow, rfl, _, rfl, _, rfl, o, c, W, F, place, true, kn, rfl, hW, hc, hG, hp, fun p W1 e H1 F1 b1 g1 hW1 => ?_, fun f e => hE f (by unfold wsave; rw [e])⟩
    obtain ⟨hG1, hp1⟩ := reach_ok hc hG hp e
    refine ⟨_, rfl, _, _, rfl, rfl, (show (0 : Int) < 8 by decide), _, rfl, o, c, W1, F1, p, _, v, rfl, hW1, hG1.g, hp1, cellC place, hv, ?_⟩
    exact (hQ _ (by unfold wsave; rw [e])).seq b1 g1
theorem sc_Plain_page_at : FnScope ["self", "spot", "page"] ["self", "spot"] d_Plain_page_at.scope := ⟨rfl, rfl, rfl, by decide +kernel, rfl, by decide +kernel, by decide +kernel⟩
def sp_Plain_page_at (K : PySem.W.Frag) : Sp := fun vs H Q E => ∃ o c W F x, vs = [.ref o, .int x] ∧ WayAt K H o c W F ∧ (hasP W.pages (x / 8) = true → Q (.int (x / 8)) H) ∧ (hasP W.pages (x / 8) = false → FE K E H ⟨"beyond", x, 0⟩)
theorem ok_Plain_page_at (T : Txt K mg) : Ok P w K mg base (L2N.CX P w) 5 d_Plain_page_at ["self", "spot"] (sp_Plain_page_at K) := by
  refine ok_mk T.f_Plain_page_at sc_Plain_page_at rfl (fun _ _ _ _ _ _ us hl => match us, hl with | [_, _], _ => rfl) (fun vs H Q E h => ?_) (fun cdv A outer s H vs Q E hr h => ?_)
  · obtain ⟨o, c, W, F, x, rfl, _⟩ := h
    rfl
  · obtain ⟨o, c, W, F, x, rfl, hW, hQ, hE⟩ := h
    obtain ⟨dx, m, sh, rp, ow⟩ := hW.inst
    obtain ⟨ox, _, _, _, _, iC, tI⟩ := T.oex
    have O1 : Ok P w K mg base CX0 4 d_Plain_has ["self", "page"] (sp_Plain_has K) := ok_Plain_has T
    have O3 : Ok P w K mg base CX0 1 d_Fault_init ["self", "kind", "place", "level"] (sp_Fault_init K) := ok_Fault_init T
    have nd := sc_Plain_page_at.nd
    have h2 := hr.mono (show 2 ≤ 4 by decide)
    refine ⟨_, pss_cons (ps_set (i := 2) nd rfl (.inl rfl) (pe_op op_fdiv (pv 1) pe_int))
      (pss_cons (ps_if (pt_not (pt_val (pe_m O1 (pv 0) T.c_Plain T.m_Plain_has hr pass0 (pa_cons (pv 2) pa_nil)))) (pss_one (L2N.ps_raise rfl takesN (pmk_own2 (d := d_Fault_init) ox iC tI O3 h2 rfl T.g_Fault (pa_cons pe_str (pa_cons (pv 1) (pa_cons pe_int pa_nil)))))) pss_nil)
      (pss_one (ps_ret (pv 2)))), ?_⟩
    refine ⟨_, rfl, _, _, rfl, rfl, ⟨by decide, by decide⟩, ?_⟩
    refine ⟨_, rfl, o, dx, _, rfl, ow, rfl, _, rfl, o, c, W, F, x / 8, rfl, hW, _, rfl, ite_b (fun e => ?_) (fun e => ?_)⟩
    · exact ⟨_, rfl, mk_fault (f := ⟨"beyond", x, 0⟩) (hE (not_f e))⟩
    · exact ⟨_, rfl, hQ (not_t e)⟩
theorem sc_Plain_peek : FnScope ["self", "spot"] ["self", "spot"] d_Plain_peek.scope := ⟨rfl, rfl, rfl, by decide +kernel, rfl, by decide +kernel, by decide +kernel⟩
def sp_Plain_peek (K : PySem.W.Frag) : Sp := fun vs H Q E => ∃ o c W F x, vs = [.ref o, .int x] ∧ WayAt K H o c W F ∧ gd W.pages ∧ (∀ v, wpeek W x = .ok v → Q (.int v) H) ∧ (∀ f, wpeek W x = .error f → FE K E H f)
theorem ok_Plain_peek (T : Txt K mg) : Ok P w K mg base (L2N.CX P w) 7 d_Plain_peek ["self", "spot"] (sp_Plain_peek K) := by
  refine ok_mk T.f_Plain_peek sc_Plain_peek rfl (fun _ _ _ _ _ _ us hl => match us, hl with | [_, _], _ => rfl) (fun vs H Q E h => ?_) (fun cdv A outer s H vs Q E hr h => ?_)
  · obtain ⟨o, c, W, F, x, rfl, _⟩ := h
    rfl
  · obtain ⟨o, c, W, F, x, rfl, hW, g, hQ, hE⟩ := h
    obtain ⟨dx, m, sh, rp, ow⟩ := hW.inst
    have O1 : Ok P w K mg base (L2N.CX P w) 5 d_Plain_page_at ["self", "spot"] (sp_Plain_page_at K) := ok_Plain_page_at T
    have O2 : Ok P w K mg base CX0 6 d_Plain_read ["self", "page", "cell"] (sp_Plain_read K) := ok_Plain_read T
    have h5 := hr.mono (show 5 ≤ 6 by decide)
    refine ⟨_, pss_one (ps_ret (pe_m O2 (pv 0) T.c_Plain T.m_Plain_read hr pass0 (pa_cons (pe_m O1 (pv 0) T.c_Plain T.m_Plain_page_at h5 passN (pa_cons (pv 1) pa_nil)) (pa_cons (pe_op op_mod (pv 1) pe_int) pa_nil)))), ?_⟩
    refine ⟨_, rfl, o, dx, _, rfl, ow, rfl, _, rfl, o, dx, _, rfl, ow, rfl, _, rfl, o, c, W, F, x, rfl, hW, fun e => ?_, fun e => hE _ (by unfold wpeek; rw [if_neg (by rw [e]; exact Bool.false_ne_true)])⟩
    exact ⟨_, rfl, _, _, rfl, rfl, (show (0 : Int) < 8 by decide), o, c, W, F, _, _, rfl, hW, g, e, cellC x, hQ _ (by unfold wpeek; rw [if_pos e])⟩
theorem sc_Plain_poke : FnScope ["self", "spot", "word"] ["self", "spot", "word"] d_Plain_poke.scope := ⟨rfl, rfl, rfl, by decide +kernel, rfl, by decide +kernel, by decide +kernel⟩
def sp_Plain_poke (K : PySem.W.Frag) : Sp := fun vs H Q E => ∃ o c W F x v, vs = [.ref o, .int x, .int v] ∧ WayAt K H o c W F ∧ gd W.pages ∧ isW v ∧ (∀ W', wpoke W x v = .ok W' → WP K H o c F W' fun H' _ => Q .non H') ∧ (∀ f, wpoke W x v = .error f → FE K E H f)
theorem ok_Plain_poke (T : Txt K mg) : Ok P w K mg base (L2N.CX P w) 7 d_Plain_poke ["self", "spot", "word"] (sp_Plain_poke K) := by
  refine ok_mk T.f_Plain_poke sc_Plain_poke rfl (fun _ _ _ _ _ _ us hl => match us, hl with | [_, _, _], _ => rfl) (fun vs H Q E h => ?_) (fun cdv A outer s H vs Q E hr h => ?_)
  · obtain ⟨o, c, W, F, x, v, rfl, _⟩ := h
    rfl
  · obtain ⟨o, c, W, F, x, v, rfl, hW, g, hv, hQ, hE⟩ := h
    obtain ⟨dx, m, sh, rp, ow⟩ := hW.inst
    have O1 : Ok P w K mg base (L2N.CX P w) 5 d_Plain_page_at ["self", "spot"] (sp_Plain_page_at K) := ok_Plain_page_at T
    have O2 : Ok P w K mg base CX0 6 d_Plain_write ["self", "page", "cell", "word"] (sp_Plain_write K) := ok_Plain_write T
    have h5 := hr.mono (show 5 ≤ 6 by decide)
    refine ⟨_, pss_one (ps_expr (pe_m O2 (pv 0) T.c_Plain T.m_Plain_write hr pass0 (pa_cons (pe_m O1 (pv 0) T.c_Plain T.m_Plain_page_at h5 passN (pa_cons (pv 1) pa_nil)) (pa_cons (pe_op op_mod (pv 1) pe_int) (pa_cons (pv 2) pa_nil))))), ?_⟩
    refine ⟨_, rfl, o, dx, _, rfl, ow, rfl, _, rfl, o, dx, _, rfl, ow, rfl, _, rfl, o, c, W, F, x, rfl, hW, fun e => ?_, fun e => hE _ (by unfold wpoke; rw [if_neg (by rw [e]; exact Bool.false_ne_true)])⟩
    exact ⟨_, rfl, _, _, rfl, rfl, (show (0 : Int) < 8 by decide), _, rfl, o, c, W, F, _, _, v, rfl, hW, g, e, cellC x, hv, hQ _ (by unfold wpoke; rw [if_pos e])⟩
theorem sc_Plain_root : FnScope ["self"] ["self"] d_Plain_root.scope := ⟨rfl, rfl, rfl, by decide +kernel, rfl, by decide +kernel, by decide +kernel⟩
def sp_Plain_root (K : PySem.W.Frag) : Sp := fun vs H Q _ => ∃ o c W F, vs = [.ref o] ∧ WayAt K H o c W F ∧ Q (.int W.base) H
theorem ok_Plain_root (T : Txt K mg) : Ok P w K mg base CX0 1 d_Plain_root ["self"] (sp_Plain_root K) := by
  refine ok_no T.f_Plain_root sc_Plain_root rfl (fun _ _ _ _ _ _ us hl => match us, hl with | [_], _ => rfl) (fun vs H Q E h => ?_) (fun cdv A outer s H vs Q E hr h => ?_)
  · obtain ⟨o, c, W, F, rfl, _⟩ := h
    rfl
  · obtain ⟨o, c, W, F, rfl, hW, hQ⟩ := h
    obtain ⟨dx, m, sh, rp, ow⟩ := hW.inst
    refine ⟨_, pss_one (ps_ret (pe_fld (pv 0) rfl)), ?_⟩
    exact ⟨_, rfl, _, _, _, _, _, rfl, ow, T.c_Plain, T.n_Plain_base, rfl, hQ⟩
theorem sc_Plain_turn_root : FnScope ["self", "root"] ["self", "root"] d_Plain_turn_root.scope := ⟨rfl, rfl, rfl, by decide +kernel, rfl, by decide +kernel, by decide +kernel⟩
def sp_Plain_turn_root (K : PySem.W.Frag) : Sp := fun vs H Q _ => ∃ o c W F x, vs = [.ref o, .int x] ∧ WayAt K H o c W F ∧ WP K H o c F (wroot W x) fun H' _ => Q .non H'
theorem ok_Plain_turn_root (T : Txt K mg) : Ok P w K mg base CX0 2 d_Plain_turn_root ["self", "root"] (sp_Plain_turn_root K) := by
  refine ok_no T.f_Plain_turn_root sc_Plain_turn_root rfl (fun _ _ _ _ _ _ us hl => match us, hl with | [_, _], _ => rfl) (fun vs H Q E h => ?_) (fun cdv A outer s H vs Q E hr h => ?_)
  · obtain ⟨o, c, W, F, x, rfl, _⟩ := h
    rfl
  · obtain ⟨o, c, W, F, x, rfl, hW, hQ⟩ := h
    obtain ⟨m, hl, sh, ln, rp, ps, rows, hI⟩ := id hW
    obtain ⟨dx, ow⟩ := hI.ow
    have O1 : Ok P w K mg base CX0 1 d_Shelf_empty ["self"] (sp_Shelf_empty K) := ok_Shelf_empty T
    have O2 : Ok P w K mg base CX0 1 d_Plain_left_all ["self"] (sp_Plain_left_all K) := ok_Plain_left_all T
    refine ⟨_, pss_cons (ps_fld (pv 0) (pv 1) rfl)
      (pss_cons (ps_expr (pe_m0 O1 (pe_fld (pv 0) rfl) T.c_Shelf T.m_Shelf_empty hr pass0))
      (pss_one (ps_expr (pe_m0 O2 (pv 0) T.c_Plain T.m_Plain_left_all hr pass0)))), ?_⟩
    refine ⟨_, rfl, _, rfl, o, _, dx, _, rfl, ow, T.c_Plain, T.n_Plain_base, (by show 5 < 1000; decide), ?_⟩
    have b : But1 o H (upd H o (.ins (cPlain K) dx (wF m sh rp x W.heard))) := but1_upd (Same.refl _)
    have ow2 : (upd H o (.ins (cPlain K) dx (wF m sh rp x W.heard))) o = some (.ins (cPlain K) dx (wF m sh rp x W.heard)) := upd_same
    have hI2 : WayIn K (upd H o (.ins (cPlain K) dx (wF m sh rp x W.heard))) o m hl sh ln rp ps rows c { W with base := x } F := hI.newW b rfl rfl ⟨dx, ow2⟩
    obtain ⟨ds, os⟩ := hI2.shi.osh
    refine ⟨_, rfl, _, _, _, _, _, rfl, ow2, T.c_Plain, T.n_Plain_held, rfl, sh, ds, _, rfl, os, rfl, sh, ln, rows, _, W.line, rfl, hI2.shi, fun H' ln' hn b' hS' => ?_⟩
    have hI3 := hI2.newSh (.inr rfl) b' (let ⟨d, e⟩ := hS'.osh; ⟨_, e, rfl⟩) hS' (.inr hn)
    obtain ⟨dx3, ow3⟩ := hI3.ow
    refine ⟨_, rfl, o, dx3, _, rfl, ow3, rfl, o, rfl, ?_⟩
    exact hQ H' _ ((b.but hI.fw).trans Gr.refl (b'.but hI2.fsh)) (Gr.refl.trans (fun x e => (b.but hI.fw).none x e) fun y h => h.imp id (·.1)) ⟨_, _, _, _, _, _, _, hI3⟩
theorem sc_Plain_drop : FnScope ["self", "place"] ["self", "place"] d_Plain_drop.scope := ⟨rfl, rfl, rfl, by decide +kernel, rfl, by decide +kernel, by decide +kernel⟩
def sp_Plain_drop (K : PySem.W.Frag) : Sp := fun vs H Q _ => ∃ o c W F x, vs = [.ref o, .int x] ∧ WayAt K H o c W F ∧ W.line.length ≤ 12 ∧ WP K H o c F (wdrop W x) fun H' _ => Q .non H'
theorem ok_Plain_drop (T : Txt K mg) : Ok P w K mg base CX0 3 d_Plain_drop ["self", "place"] (sp_Plain_drop K) := by
  refine ok_no T.f_Plain_drop sc_Plain_drop rfl (fun _ _ _ _ _ _ us hl => match us, hl with | [_, _], _ => rfl) (fun vs H Q E h => ?_) (fun cdv A outer s H vs Q E hr h => ?_)
  · obtain ⟨o, c, W, F, x, rfl, _⟩ := h
    rfl
  · obtain ⟨o, c, W, F, x, rfl, hW, l12, hQ⟩ := h
    obtain ⟨m, hl, sh, ln, rp, ps, rows, hI⟩ := id hW
    obtain ⟨dx, ow⟩ := hI.ow
    obtain ⟨ds, os⟩ := hI.shi.osh
    obtain ⟨tp, gp⟩ := T.i_PLACES
    have O1 : Ok P w K mg base CX0 2 d_Shelf_drop ["self", "number"] (sp_Shelf_drop K) := ok_Shelf_drop T
    have O2 : Ok P w K mg base CX0 1 d_Plain_left ["self", "number"] (sp_Plain_left K) := ok_Plain_left T
    have h1 := hr.mono (show 1 ≤ 2 by decide)
    refine ⟨_, pss_one (ps_if (PW.pt (pw_and (pt_cmpR op_lt (pv 1) (pe_glob (v := .int 512) rfl gp ⟨_, rfl⟩) (nomark _)) (pw_and1 (pt_val (pe_m O1 (pe_fld (pv 0) rfl) T.c_Shelf T.m_Shelf_drop hr pass0 (pa_cons (pe_op op_fdiv (pv 1) pe_int) pa_nil))))))
      (pss_one (ps_expr (pe_m O2 (pv 0) T.c_Plain T.m_Plain_left h1 pass0 (pa_cons (pe_op op_fdiv (pv 1) pe_int) pa_nil)))) pss_nil), ?_⟩
    refine ⟨_, rfl, _, _, rfl, rfl, _, rfl, ite_b (fun e => ?_) (fun e => ?_)⟩
    · have ew : wdrop W x = { W with line := shDrop W.line (x / 8) } := if_pos (of_decide_eq_true e)
      rw [ew] at hQ
      refine ⟨_, rfl, _, _, _, _, _, rfl, ow, T.c_Plain, T.n_Plain_held, rfl, sh, ds, _, rfl, os, rfl, _, rfl, _, _, rfl, rfl, ⟨by decide, by decide⟩, sh, ln, rows, _, W.line, x / 8, rfl, hI.shi, l12, fun H' rows' q b hS' => ?_⟩
      have hI2 := hI.newSh (.inl rfl) b ⟨_, hS'.oln, rfl⟩ hS' (.inl rfl)
      have fin := hQ H' _ (b.but hI.fln) (fun y h => h.imp id (·.1)) ⟨_, _, _, _, _, _, _, hI2⟩
      obtain ⟨dx2, ow2⟩ := hI2.ow
      refine ⟨_, rfl, ?_⟩
      cases q with
      | true => exact iteT ⟨_, rfl, o, dx2, _, rfl, ow2, rfl, _, rfl, _, _, rfl, rfl, ⟨by decide, by decide⟩, o, _, rfl, fin⟩
      | false => exact iteF fin
    · have ew : wdrop W x = W := if_neg (of_decide_eq_false e)
      rw [ew] at hQ
      exact hQ H F (.of_same (Same.refl _)) Gr.refl hW
theorem sc_Plain_give : FnScope ["self", "page"] ["self", "page"] d_Plain_give.scope := ⟨rfl, rfl, rfl, by decide +kernel, rfl, by decide +kernel, by decide +kernel⟩
def sp_Plain_give (K : PySem.W.Frag) : Sp := fun vs H Q _ => ∃ o c W F x, vs = [.ref o, .int x] ∧ WayAt K H o c W F ∧ WP K H o c F (wgive W x).2 fun H' _ => Q (.bl (wgive W x).1) H'
theorem ok_Plain_give (T : Txt K mg) : Ok P w K mg base CX0 6 d_Plain_give ["self", "page"] (sp_Plain_give K) := by
  refine ok_no T.f_Plain_give sc_Plain_give rfl (fun _ _ _ _ _ _ us hl => match us, hl with | [_, _], _ => rfl) (fun vs H Q E h => ?_) (fun cdv A outer s H vs Q E hr h => ?_)
  · obtain ⟨o, c, W, F, x, rfl, _⟩ := h
    rfl
  · obtain ⟨o, c, W, F, x, rfl, hW, hQ⟩ := h
    obtain ⟨dx, m, sh, rp, ow⟩ := hW.inst
    have O1 : Ok P w K mg base CX0 4 d_Plain_has ["self", "page"] (sp_Plain_has K) := ok_Plain_has T
    have O2 : Ok P w K mg base CX0 5 d_Plain_yield_up ["self", "page"] (sp_Plain_yield_up K) := ok_Plain_yield_up T
    have h4 := hr.mono (show 4 ≤ 5 by decide)
    refine ⟨_, pss_cons (ps_if (pt_not (pt_val (pe_m O1 (pv 0) T.c_Plain T.m_Plain_has h4 pass0 (pa_cons (pv 1) pa_nil)))) (pss_one (ps_ret pe_bl)) pss_nil)
      (pss_cons (ps_expr (pe_m O2 (pv 0) T.c_Plain T.m_Plain_yield_up hr pass0 (pa_cons (pv 1) pa_nil))) (pss_one (ps_ret pe_bl))), ?_⟩
    refine ⟨_, rfl, o, dx, _, rfl, ow, rfl, _, rfl, o, c, W, F, x, rfl, hW, _, rfl, ite_b (fun e => ?_) (fun e => ?_)⟩
    · have ew : wgive W x = (false, W) := if_neg (by rw [not_f e]; exact Bool.false_ne_true)
      rw [ew] at hQ
      exact hQ H F (.of_same (Same.refl _)) Gr.refl hW
    · have ew : wgive W x = (true, { W with pages := W.pages.set x.toNat none }) := if_pos (not_t e)
      rw [ew] at hQ
      exact ⟨_, rfl, o, dx, _, rfl, ow, rfl, _, rfl, o, c, W, F, x, rfl, hW, not_t e, hQ⟩
theorem sc_Plain_want : FnScope ["self", "page"] ["self", "page"] d_Plain_want.scope := ⟨rfl, rfl, rfl, by decide +kernel, rfl, by decide +kernel, by decide +kernel⟩
def sp_Plain_want (K : PySem.W.Frag) : Sp := fun vs H Q _ => ∃ o c W F x, vs = [.ref o, .int x] ∧ WayAt K H o c W F ∧ 0 ≤ x ∧ W.heard ≤ c.replies.length ∧ WP K H o c F (wwant c.replies W x).2 fun H' _ => Q (.bl (wwant c.replies W x).1) H'
theorem ok_Plain_want (T : Txt K mg) : Ok P w K mg base CX0 6 d_Plain_want ["self", "page"] (sp_Plain_want K) := by
  refine ok_no T.f_Plain_want sc_Plain_want rfl (fun _ _ _ _ _ _ us hl => match us, hl with | [_, _], _ => rfl) (fun vs H Q E h => ?_) (fun cdv A outer s H vs Q E hr h => ?_)
  · obtain ⟨o, c, W, F, x, rfl, _⟩ := h
    rfl
  · obtain ⟨o, c, W, F, x, rfl, hW, x0, hl, hQ⟩ := h
    obtain ⟨dx, m, sh, rp, ow⟩ := hW.inst
    have O1 : Ok P w K mg base CX0 2 d_Plain_size ["self"] (sp_Plain_size K) := ok_Plain_size T
    have O2 : Ok P w K mg base CX0 4 d_Plain_has ["self", "page"] (sp_Plain_has K) := ok_Plain_has T
    have O3 : Ok P w K mg base CX0 1 d_Plain_granted ["self"] (sp_Plain_granted K) := ok_Plain_granted T
    have O4 : Ok P w K mg base CX0 5 d_Plain_bring ["self", "page"] (sp_Plain_bring K) := ok_Plain_bring T
    have h1 := hr.mono (show 1 ≤ 5 by decide)
    have h2 := hr.mono (show 2 ≤ 5 by decide)
    have h4 := hr.mono (show 4 ≤ 5 by decide)
    refine ⟨_, pss_cons (ps_if (PW.pt (pw_or (pt_cmpR op_ge (pv 1) (pe_m0 O1 (pv 0) T.c_Plain T.m_Plain_size h2 pass0) (nomark _)) (pw_or (pt_val (pe_m O2 (pv 0) T.c_Plain T.m_Plain_has h4 pass0 (pa_cons (pv 1) pa_nil)))
      (pw_or1 (pt_not (pt_val (pe_m0 O3 (pv 0) T.c_Plain T.m_Plain_granted h1 pass0))))))) (pss_one (ps_ret pe_bl)) pss_nil)
      (pss_cons (ps_expr (pe_m O4 (pv 0) T.c_Plain T.m_Plain_bring hr pass0 (pa_cons (pv 1) pa_nil))) (pss_one (ps_ret pe_bl))), ?_⟩
    have same : ∀ e : wwant c.replies W x = (false, W), Q (.bl false) H := fun e => by
      rw [e] at hQ
      exact hQ H F (.of_same (Same.refl _)) Gr.refl hW
    refine ⟨_, rfl, _, rfl, o, dx, _, rfl, ow, rfl, o, c, W, F, rfl, hW, _, _, rfl, rfl, _, rfl, ite_b (fun e1 => ?_) (fun e1 => ?_)⟩
    · exact iteT (same (by unfold wwant; rw [if_pos (of_decide_eq_true e1)]))
    have n1 := of_decide_eq_false e1
    refine ⟨_, rfl, o, dx, _, rfl, ow, rfl, _, rfl, o, c, W, F, x, rfl, hW, _, rfl, ite_b (fun e2 => ?_) (fun e2 => ?_)⟩
    · exact iteT (same (by unfold wwant; rw [if_neg n1, if_pos e2]))
    have n2 : ¬ hasP W.pages x = true := by rw [e2]; exact Bool.false_ne_true
    refine ⟨_, rfl, o, dx, _, rfl, ow, rfl, o, c, W, F, rfl, hW, hl, fun e3 => ?_, fun b hb H1 F1 b1 g1 hW1 => ?_⟩
    · exact ⟨_, rfl, iteT (same (by unfold wwant; rw [if_neg n1, if_neg n2, if_pos e3]))⟩
    · have n3 : ¬ W.heard = c.replies.length := fun z => by
        have := (List.getElem?_eq_some_iff.mp hb).1
        omega
      have gb : c.replies.getD W.heard false = b := by
        rw [List.getD_eq_getElem?_getD, hb]
        rfl
      obtain ⟨dx1, m1, sh1, rp1, ow1⟩ := hW1.inst
      refine ⟨_, rfl, ?_⟩
      cases b with
      | false =>
        have ew : wwant c.replies W x = (false, { W with heard := W.heard + 1 }) := by
          unfold wwant
          rw [if_neg n1, if_neg n2, if_neg n3, if_neg (by rw [gb]; exact Bool.false_ne_true)]
        rw [ew] at hQ
        exact iteT (hQ H1 F1 b1 g1 hW1)
      | true =>
        have ew : wwant c.replies W x = (true, { W with pages := W.pages.set x.toNat (some zeros), heard := W.heard + 1 }) := by
          unfold wwant
          rw [if_neg n1, if_neg n2, if_neg n3, if_pos gb]
        rw [ew] at hQ
        exact iteF ⟨_, rfl, o, dx1, _, rfl, ow1, rfl, _, rfl, o, c, _, F1, x, rfl, hW1, x0, Int.not_le.mp n1, hQ.seq b1 g1⟩
theorem sc_Plain_shelf : FnScope ["self"] ["self"] d_Plain_shelf.scope := ⟨rfl, rfl, rfl, by decide +kernel, rfl, by decide +kernel, by decide +kernel⟩
def sp_Plain_shelf (K : PySem.W.Frag) : Sp := fun vs H Q _ => ∃ o c W F, vs = [.ref o] ∧ WayAt K H o c W F ∧ ∀ H' l rows, Same H H' → H' l = some (.lst (rows.map V.ref)) → RwR H' rows W.line → Q (.ref l) H'
theorem ok_Plain_shelf (T : Txt K mg) : Ok P w K mg base CX0 2 d_Plain_shelf ["self"] (sp_Plain_shelf K) := by
  refine ok_no T.f_Plain_shelf sc_Plain_shelf rfl (fun _ _ _ _ _ _ us hl => match us, hl with | [_], _ => rfl) (fun vs H Q E h => ?_) (fun cdv A outer s H vs Q E hr h => ?_)
  · obtain ⟨o, c, W, F, rfl, _⟩ := h
    rfl
  · obtain ⟨o, c, W, F, rfl, hW, hQ⟩ := h
    obtain ⟨m, hl, sh, ln, rp, ps, rows, hI⟩ := id hW
    obtain ⟨dx, ow⟩ := hI.ow
    obtain ⟨ds, os⟩ := hI.shi.osh
    have O1 : Ok P w K mg base CX0 1 d_Shelf_told ["self"] (sp_Shelf_told K) := ok_Shelf_told T
    refine ⟨_, pss_one (ps_ret (pe_m0 O1 (pe_fld (pv 0) rfl) T.c_Shelf T.m_Shelf_told hr pass0)), ?_⟩
    exact ⟨_, rfl, _, _, _, _, _, rfl, ow, T.c_Plain, T.n_Plain_held, rfl, sh, ds, _, rfl, os, rfl, sh, ln, rows, _, W.line, rfl, hI.shi, fun H' l s' e => hQ H' l rows s' e (hI.shi.rr.keep fun b xs z => s' b _ z)⟩
theorem sc_Plain_words_of : FnScope ["self", "page", "cell"] ["self", "page"] d_Plain_words_of.scope := ⟨rfl, rfl, rfl, by decide +kernel, rfl, by decide +kernel, by decide +kernel⟩
def sp_Plain_words_of (K : PySem.W.Frag) : Sp := fun vs H Q _ => ∃ o c W F x, vs = [.ref o, .int x] ∧ WayAt K H o c W F ∧ gd W.pages ∧ (pgAt W.pages x = none → Q .non H) ∧ (∀ l, pgAt W.pages x = some l → ∀ H' a, H a = none → Same H H' → H' a = some (.lst (l.map V.int)) → Q (.ref a) H')
theorem ok_Plain_words_of (T : Txt K mg) : Ok P w K mg base CX0 7 d_Plain_words_of ["self", "page"] (sp_Plain_words_of K) := by
  refine ok_no T.f_Plain_words_of sc_Plain_words_of rfl (fun _ _ _ _ _ _ us hl => match us, hl with | [_, _], _ => rfl) (fun vs H Q E h => ?_) (fun cdv A outer s H vs Q E hr h => ?_)
  · obtain ⟨o, c, W, F, x, rfl, _⟩ := h
    rfl
  · obtain ⟨o, c, W, F, x, rfl, hW, g, hN, hY⟩ := h
    obtain ⟨dx, m, sh, rp, ow⟩ := hW.inst
    have O1 : Ok P w K mg base CX0 4 d_Plain_has ["self", "page"] (sp_Plain_has K) := ok_Plain_has T
    have O2 : Ok P w K mg base CX0 6 d_Plain_read ["self", "page", "cell"] (sp_Plain_read K) := ok_Plain_read T
    have h4 := hr.mono (show 4 ≤ 6 by decide)
    refine ⟨_, pss_cons (ps_if (pt_not (pt_val (pe_m O1 (pv 0) T.c_Plain T.m_Plain_has h4 pass0 (pa_cons (pv 1) pa_nil)))) (pss_one (ps_ret pe_non)) pss_nil)
      (pss_one (ps_ret (pe_lc (own := [("cell", 2)]) (g := gName 2) (tt := tYes) rfl sc_Plain_words_of.nd (pi_range1 (by rfl) T.b_range (pa_cons pe_int pa_nil)) (blkOk_by (own := [("cell", 2)]) (N := ["self", "page", "cell"]) (sc := d_Plain_words_of.scope) (by decide +kernel))
          (fun _ _ _ _ _ => pg_name (i := 2) sc_Plain_words_of.nd rfl (Or.inl rfl)) (fun _ _ _ _ _ => pts_nil)
          (fun _ _ _ _ _ => pe_m O2 (pv 0) T.c_Plain T.m_Plain_read hr pass0 (pa_cons (pv 1) (pa_cons (pv 2) pa_nil)))))), ?_⟩
    refine ⟨_, rfl, o, dx, _, rfl, ow, rfl, _, rfl, o, c, W, F, x, rfl, hW, _, rfl, ite_b (fun e => ?_) (fun e => ?_)⟩
    · refine hN ?_
      have := not_f e
      unfold hasP at this
      cases q : pgAt W.pages x with
      | none => rfl
      | some l =>
        rw [q] at this
        cases this
    have hx := not_t e
    obtain ⟨l, hl⟩ := hasP_ex hx
    have l8 := (gd_at g hl).1
    refine ⟨8, rfl, by decide, by decide, fun D hD => lc_range (lo := 0) (n := 8) (fun i H' => H' D = some (.lst ((l.take i).map V.int)) ∧ Same H H') ⟨upd_same, same_new hD⟩ (fun i H' hi ⟨hD', s'⟩ => ?_) (fun H' ⟨hD', s'⟩ => ?_)⟩
    · have hil : i < l.length := by omega
      refine ⟨rfl, _, rfl, o, dx, _, rfl, s' _ _ ow, rfl, _, rfl, _, rfl, o, c, W, F, x, 0 + (i : Int), rfl, hW.same s', g, hx, ⟨by omega, by omega⟩, _, hD', ?_, ?_, fun b oo eb => ?_⟩
      · rw [List.length_map, List.length_take]
        exact Nat.lt_of_le_of_lt (Nat.min_le_left _ _) (Nat.lt_of_lt_of_le hi (by decide))
      · rw [upd_same, List.take_succ_eq_append_getElem hil, List.map_append]
        have z := rd_in g hl (c := 0 + (i : Int)) ⟨by omega, by omega⟩
        have z2 : (0 + (i : Int)).toNat = i := by omega
        rw [z2, List.getElem?_eq_getElem hil] at z
        rw [← Option.some.inj z]
        rfl
      · rw [upd_ne (ne_of_none eb hD)]
        exact s' b oo eb
    · refine hY l hl H' D hD s' ?_
      rw [hD', show l.take 8 = l from List.take_of_length_le (by omega)]
theorem sc_Plain_pages : FnScope ["self", "page"] ["self"] d_Plain_pages.scope := ⟨rfl, rfl, rfl, by decide +kernel, rfl, by decide +kernel, by decide +kernel⟩
def sp_Plain_pages (K : PySem.W.Frag) : Sp := fun vs H Q _ => ∃ o c W F, vs = [.ref o] ∧ WayAt K H o c W F ∧ gd W.pages ∧ W.pages.length ≤ 24 ∧ (∀ H' a ps, Same H H' → H' a = some (.lst (ps.map oV)) → PgV H' ps W.pages → Q (.ref a) H')
theorem ok_Plain_pages (T : Txt K mg) : Ok P w K mg base CX0 8 d_Plain_pages ["self"] (sp_Plain_pages K) := by
  refine ok_no T.f_Plain_pages sc_Plain_pages rfl (fun _ _ _ _ _ _ us hl => match us, hl with | [_], _ => rfl) (fun vs H Q E h => ?_) (fun cdv A outer s H vs Q E hr h => ?_)
  · obtain ⟨o, c, W, F, rfl, _⟩ := h
    rfl
  · obtain ⟨o, c, W, F, rfl, hW, g, l24, hQ⟩ := h
    obtain ⟨dx, m, sh, rp, ow⟩ := hW.inst
    have O1 : Ok P w K mg base CX0 2 d_Plain_size ["self"] (sp_Plain_size K) := ok_Plain_size T
    have O2 : Ok P w K mg base CX0 7 d_Plain_words_of ["self", "page"] (sp_Plain_words_of K) := ok_Plain_words_of T
    have h2 := hr.mono (show 2 ≤ 7 by decide)
    refine ⟨_, pss_one (ps_ret (pe_lc (own := [("page", 1)]) (g := gName 1) (tt := tYes) rfl sc_Plain_pages.nd (pi_range1 (by rfl) T.b_range (pa_cons (pe_m0 O1 (pv 0) T.c_Plain T.m_Plain_size h2 pass0) pa_nil)) (blkOk_by (own := [("page", 1)]) (N := ["self", "page"]) (sc := d_Plain_pages.scope) (by decide +kernel))
          (fun _ _ _ _ _ => pg_name (i := 1) sc_Plain_pages.nd rfl (Or.inl rfl)) (fun _ _ _ _ _ => pts_nil)
          (fun _ _ _ _ _ => pe_m O2 (pv 0) T.c_Plain T.m_Plain_words_of hr pass0 (pa_cons (pv 1) pa_nil)))), ?_⟩
    refine ⟨_, rfl, o, dx, _, rfl, ow, rfl, o, c, W, F, rfl, hW, _, rfl, by omega, by omega, fun D hD => lc_range (lo := 0) (n := W.pages.length) (fun i H' => ∃ ps1 : List (Option Addr), H' D = some (.lst (ps1.map oV)) ∧ PgV H' ps1 (W.pages.take i) ∧ (∀ (i : Nat) (p : Addr), ps1[i]? = some (some p) → p ≠ D) ∧ Same H H')
      ⟨[], upd_same, ⟨rfl, fun i e => by simp at e, fun i l e => by simp at e⟩, fun i p e => by simp at e, same_new hD⟩ (fun i H' hi ⟨ps1, hD', pr1, hn1, s'⟩ => ?_) (fun H' ⟨ps1, hD', pr1, _, s'⟩ => ?_)⟩
    · have l1 : ps1.length = i := by
        rw [pr1.len, List.length_take]
        omega
      have small : (ps1.map oV).length < sizeLine := by
        rw [List.length_map, l1]
        exact Nat.lt_of_lt_of_le (Nat.lt_of_lt_of_le hi l24) (by decide)
      have z2 : (0 + (i : Int)).toNat = i := by omega
      have at_ : ∀ o, W.pages[i] = o → pgAt W.pages (0 + (i : Int)) = o := fun o e => pgAt_of (by omega) (by rw [z2, List.getElem?_eq_getElem hi, e])
      have tk : W.pages.take (i + 1) = W.pages.take i ++ [W.pages[i]] := List.take_succ_eq_append_getElem hi
      refine ⟨rfl, _, rfl, o, dx, _, rfl, s' _ _ ow, rfl, _, rfl, o, c, W, F, 0 + (i : Int), rfl, hW.same s', g, fun e => ?_, fun l e H2 a na s2 ha => ?_⟩
      · have e2 : W.pages[i] = none := by
          rw [at_ _ rfl] at e
          exact e
        refine ⟨_, hD', small, ps1 ++ [none], ?_, ?_, fun j p ep => ?_, fun b oo eb => ?_⟩
        · rw [upd_same, List.map_append]
          rfl
        · rw [tk, e2]
          exact pr1.app (fun j p x ep ex => by rw [upd_ne (hn1 j p ep)]; exact ex) (fun _ => rfl) fun l z => nomatch z
        · rcases app_some ep with z | ⟨_, z⟩
          · exact hn1 j p z
          · cases z
        · rw [upd_ne (ne_of_none eb hD)]
          exact s' b oo eb
      · have e2 : W.pages[i] = some l := by
          rw [at_ _ rfl] at e
          exact e
        have aD : a ≠ D := Ne.symm (ne_of_none hD' na)
        refine ⟨_, s2 _ _ hD', small, ps1 ++ [some a], ?_, ?_, fun j p ep => ?_, fun b oo eb => ?_⟩
        · rw [upd_same, List.map_append]
          rfl
        · rw [tk, e2]
          exact pr1.app (fun j p x ep ex => by rw [upd_ne (hn1 j p ep)]; exact s2 _ _ ex) (fun z => nomatch z) fun l' z => by
            cases z
            exact ⟨a, rfl, by rw [upd_ne aD]; exact ha⟩
        · rcases app_some ep with z | ⟨_, z⟩
          · exact hn1 j p z
          · cases z
            exact aD
        · rw [upd_ne (ne_of_none eb hD)]
          exact s2 b oo (s' b oo eb)
    · have e : W.pages.take W.pages.length = W.pages := List.take_length
      rw [e] at pr1
      exact hQ H' D ps1 s' hD' pr1
end
end M35

/-! ## text A10 -/
set_option maxHeartbeats 4000000
namespace M35
open PySem PySem.Spec PyProof.Rows L2

/-! # a way is made -/
section
variable {P : Program} {w : World} {K : PySem.W.Frag} {mg : Str → Option Value} {base : Heap}
theorem sc_Ways_init : FnScope ["self", "most"] ["self", "most"] d_Ways_init.scope := ⟨rfl, rfl, rfl, by decide +kernel, rfl, by decide +kernel, by decide +kernel⟩
def sp_Ways_init (K : PySem.W.Frag) : Sp := fun vs H Q _ => ∃ x dx m k, vs = [.ref x, .int k] ∧ H x = some (.ins (cPlain K) dx [("memory", .ref m)]) ∧ 1 ≤ k ∧ k ≤ 12 ∧
  ∀ H' sh ln, H sh = none → H ln = none → sh ≠ ln → But1 x H H' → H' x = some (.ins (cPlain K) dx [("memory", .ref m), ("held", .ref sh), ("base", .int 0)]) → ShIn K H' sh ln [] k [] → Q .non H'
theorem ok_Ways_init (T : Txt K mg) : Ok P w K mg base CX0 4 d_Ways_init ["self", "most"] (sp_Ways_init K) := by
  refine ok_no T.f_Ways_init sc_Ways_init rfl (fun _ _ _ _ _ _ us hl => match us, hl with | [_, _], _ => rfl) (fun vs H Q E h => ?_) (fun cdv A outer s H vs Q E hr h => ?_)
  · obtain ⟨x, dx, m, k, rfl, _⟩ := h
    rfl
  · obtain ⟨x, dx, m, k, rfl, hx, k1, k2, hQ⟩ := h
    have O1 : Ok P w K mg base CX0 2 d_Shelf_init ["self", "most"] (sp_Shelf_init K) := ok_Shelf_init T
    refine ⟨_, pss_cons (ps_fld (pv 0) (pe_make T.k_Shelf O1.fn hr rfl T.g_Shelf O1.bd .nil pass0 (pa_cons (pv 1) pa_nil)) rfl) (pss_one (ps_fld (pv 0) pe_int rfl)), ?_⟩
    refine ⟨_, rfl, fun sh d1 hsh hd1 n1 => ⟨sh, d1, k, rfl, upd_same, k1, k2, fun H1 ln hln b1 hS => ⟨rfl, ?_⟩⟩⟩
    have xsh : x ≠ sh := ne_of_none hx hsh
    have xd : x ≠ d1 := ne_of_none hx hd1
    have hx1 : H1 x = some (.ins (cPlain K) dx [("memory", .ref m)]) := b1 _ _ xsh (by rw [upd_ne xsh, upd_ne xd]; exact hx)
    refine ⟨_, rfl, x, _, dx, _, rfl, hx1, T.c_Plain, T.n_Plain_held, (by show 1 < 1000; decide), ?_⟩
    refine ⟨_, rfl, x, _, dx, _, rfl, upd_same, T.c_Plain, T.n_Plain_base, (by show 2 < 1000; decide), ?_⟩
    have sln : sh ≠ ln := ne_of_none upd_same hln
    have xln : x ≠ ln := ne_of_none (by rw [upd_ne xsh, upd_ne xd]; exact hx) hln
    have hln0 : H ln = none := by
      have e := hln
      rw [upd_ne (Ne.symm sln)] at e
      by_cases z : ln = d1
      · rw [z, upd_same] at e
        cases e
      · rw [upd_ne z] at e
        exact e
    have b2 : But1 x H (upd (upd H1 x (.ins (cPlain K) dx [("memory", .ref m), ("held", .ref sh)])) x (.ins (cPlain K) dx [("memory", .ref m), ("held", .ref sh), ("base", .int 0)])) := fun b o n e => by
      rw [upd_ne n, upd_ne n]
      have n2 := ne_of_none e hsh
      exact b1 b o n2 (by rw [upd_ne n2, upd_ne (ne_of_none e hd1)]; exact e)
    obtain ⟨ds, os⟩ := hS.osh
    refine hQ _ sh ln hsh hln0 sln b2 upd_same ⟨⟨ds, ?_⟩, ?_, ⟨rfl, fun i r e => by simp at e⟩⟩
    · rw [upd_ne (Ne.symm xsh), upd_ne (Ne.symm xsh)]
      exact os
    · rw [upd_ne (Ne.symm xln), upd_ne (Ne.symm xln)]
      exact hS.oln
theorem sc_Plain_init : FnScope ["self", "pages", "most", "words"] ["self", "pages", "most", "words"] d_Plain_init.scope := ⟨rfl, rfl, rfl, by decide +kernel, rfl, by decide +kernel, by decide +kernel⟩
def sp_Plain_init (K : PySem.W.Frag) : Sp := fun vs H Q _ => ∃ x dx a r ps pg c, vs = [.ref x, .ref a, .int (Cfg.most c), .ref r] ∧ H x = some (.ins (cPlain K) dx []) ∧ H a = some (.lst (ps.map oV)) ∧ PgR H ps pg ∧ gd pg ∧ 1 ≤ pg.length ∧ pg.length ≤ 24 ∧ 1 ≤ c.most ∧ c.most ≤ 12 ∧ H r = some (.lst (c.replies.map V.bl)) ∧
  ∀ H' F, But1 x H H' → (∀ b, F b → b = x ∨ H b = none) → WayAt K H' x c ⟨pg, 0, [], 0⟩ F → Q .non H'
theorem ok_Plain_init (T : Txt K mg) : Ok P w K mg base CX0 7 d_Plain_init ["self", "pages", "most", "words"] (sp_Plain_init K) := by
  refine ok_no T.f_Plain_init sc_Plain_init rfl (fun _ _ _ _ _ _ us hl => match us, hl with | [_, _, _, _], _ => rfl) (fun vs H Q E h => ?_) (fun cdv A outer s H vs Q E hr h => ?_)
  · obtain ⟨x, dx, a, r, ps, pg, c, rfl, _⟩ := h
    rfl
  · obtain ⟨x, dx, a, r, ps, pg, c, rfl, hx, ha, hp, hg, p1, p24, m1, m12, hrp, hQ⟩ := h
    have O1 : Ok P w K mg base CX0 5 d_Memory_init ["self", "pages"] (sp_Memory_init K) := ok_Memory_init T
    have O2 : Ok P w K mg base CX0 4 d_Ways_init ["self", "most"] (sp_Ways_init K) := ok_Ways_init T
    obtain ⟨⟨r1, r2⟩, r3⟩ := T.ways
    have h4 := hr.mono (show 4 ≤ 6 by decide)
    refine ⟨_, pss_cons (ps_fld (pv 0) (pe_make T.k_Memory O1.fn hr rfl T.g_Memory O1.bd .nil pass0 (pa_cons (pv 1) pa_nil)) rfl)
      (pss_cons (ps_expr (pe_own O2 h4 rfl T.g_Ways pass0 r1 r2 r3 (pa_cons (pv 0) (pa_cons (pv 2) pa_nil))))
      (pss_cons (ps_fld (pv 0) (pe_callTy (T := "list") (call_listK (K := K) rfl) (by rfl) T.b_list (by decide +kernel) (pa_cons (pv 3) pa_nil)) rfl) (pss_one (ps_fld (pv 0) pe_int rfl)))), ?_⟩
    refine ⟨_, rfl, fun m d1 hm hd1 n1 => ?_⟩
    have oldA : ∀ {b o}, H b = some o → (upd (upd H d1 (.own m)) m (.ins (cMem K) d1 [])) b = some o := fun {b o} e => by
      rw [upd_ne (ne_of_none e hm), upd_ne (ne_of_none e hd1)]
      exact e
    have newA : ∀ {b}, (upd (upd H d1 (.own m)) m (.ins (cMem K) d1 [])) b = none → H b = none ∧ b ≠ m := fun {b} e => by
      by_cases z : b = m
      · rw [z, upd_same] at e
        cases e
      · rw [upd_ne z] at e
        by_cases z2 : b = d1
        · rw [z2, upd_same] at e
          cases e
        · rw [upd_ne z2] at e
          exact ⟨e, z⟩
    refine ⟨m, d1, a, ps, pg, rfl, upd_same, oldA ha, hp.keep fun i p o _ e => oldA e, hg, p1, p24, fun H1 hl ps' hhl b1 hM hps => ⟨rfl, ?_⟩⟩
    have xm : x ≠ m := ne_of_none hx hm
    have old1 : ∀ {b o}, H b = some o → H1 b = some o := fun {b o} e => b1 _ _ (ne_of_none e hm) (oldA e)
    refine ⟨_, rfl, x, _, dx, _, rfl, old1 hx, T.c_Plain, T.n_Plain_memory, (by show 0 < 1000; decide), ?_⟩
    refine ⟨_, rfl, _, rfl, x, dx, m, c.most, rfl, upd_same, m1, m12, fun H2 sh ln hsh hln sln b2 hx2 hS => ?_⟩
    have hx1 := old1 hx
    have oldN : ∀ {b}, (upd H1 x (.ins (cPlain K) dx [("memory", .ref m)])) b = none → H1 b = none ∧ b ≠ x := fun {b} e => by
      by_cases z : b = x
      · rw [z, upd_same] at e
        cases e
      · rw [upd_ne z] at e
        exact ⟨e, z⟩
    have old2 : ∀ {b o}, b ≠ x → H1 b = some o → H2 b = some o := fun {b o} n e => b2 _ _ n (by rw [upd_ne n]; exact e)
    have rx : r ≠ x := ne_of hrp hx (fun z => nomatch z)
    have hr2 := old2 rx (old1 hrp)
    refine ⟨_, rfl, r, _, rfl, .inl (SqL.of hr2), fun rp hrp2 => ?_⟩
    have xrp : x ≠ rp := ne_of_none hx2 hrp2
    refine ⟨_, rfl, x, _, dx, _, rfl, (by rw [upd_ne xrp]; exact hx2), T.c_Plain, T.n_Plain_replies, (by show 3 < 1000; decide), ?_⟩
    refine ⟨_, rfl, x, _, dx, _, rfl, upd_same, T.c_Plain, T.n_Plain_heard, (by show 4 < 1000; decide), ?_⟩
    obtain ⟨dm, om⟩ := hM.om
    obtain ⟨ds, os⟩ := hS.osh
    have hlx : hl ≠ x := ne_of hM.ohl hx1 (fun z => nomatch z)
    have om2 := old2 (Ne.symm xm) om
    have ohl2 := old2 hlx hM.ohl
    have osx : sh ≠ x := (oldN hsh).2
    have olx : ln ≠ x := (oldN hln).2
    have fin : ∀ {b o}, b ≠ x → H2 b = some o → (upd (upd (upd H2 rp (.lst (c.replies.map V.bl))) x (.ins (cPlain K) dx [("memory", .ref m), ("held", .ref sh), ("base", .int 0), ("replies", .ref rp)])) x (.ins (cPlain K) dx (wF m sh rp 0 0))) b = some o := fun {b o} n e => by
      rw [upd_ne n, upd_ne n, upd_ne (ne_of_none e hrp2)]
      exact e
    have H0 : ∀ {b}, H1 b = none → H b = none ∧ b ≠ m ∧ b ≠ hl := fun {b} e => by
      refine ⟨?_, Ne.symm (ne_of_none om e), Ne.symm (ne_of_none hM.ohl e)⟩
      cases q : H b with
      | none => rfl
      | some o =>
        rw [old1 q] at e
        cases e
    have hl0 := (newA hhl).1
    have hrp0 : H rp = none := by
      cases q : H rp with
      | none => rfl
      | some o =>
        by_cases z : rp = x
        · exact absurd z.symm xrp
        · rw [old2 z (old1 q)] at hrp2
          cases hrp2
    have pgx : ∀ (i : Nat) (p : Addr), ps'[i]? = some (some p) → ∃ xs, H1 p = some (.lst xs) := fun i p e => by
      have il : i < pg.length := by
        rw [← hM.pr.len]
        exact (List.getElem?_eq_some_iff.mp e).1
      cases q : pg[i]'il with
      | none =>
        have := hM.pr.no i (by rw [List.getElem?_eq_getElem il, q])
        rw [e] at this
        cases this
      | some l =>
        obtain ⟨p2, f1, f2⟩ := hM.pr.yes i l (by rw [List.getElem?_eq_getElem il, q])
        rw [e] at f1
        cases f1
        exact ⟨_, f2⟩
    refine hQ _ (fun b => b = x ∨ b = m ∨ b = hl ∨ b = sh ∨ b = ln ∨ b = rp ∨ ∃ i : Nat, ps'[i]? = some (some b)) (fun b o n e => fin n (old2 n (old1 e))) (fun b hb => ?_) ⟨m, hl, sh, ln, rp, ps', [], ⟨dx, upd_same⟩, ⟨⟨dm, fin (Ne.symm xm) om2⟩, fin hlx ohl2, ?_⟩, ⟨⟨ds, fin osx os⟩, fin olx hS.oln, ⟨rfl, fun i r e => by simp at e⟩⟩, ?_, ?_, ?_, ?_, xm, Ne.symm osx, ?_, fun i p e => ?_,
      .inl rfl, .inr (.inl rfl), .inr (.inr (.inl rfl)), .inr (.inr (.inr (.inl rfl))), .inr (.inr (.inr (.inr (.inl rfl)))), .inr (.inr (.inr (.inr (.inr (.inl rfl))))), fun i p e => .inr (.inr (.inr (.inr (.inr (.inr ⟨i, e⟩))))), fun b hb => ?_⟩
    · rcases hb with z | z | z | z | z | z | ⟨i, e⟩
      · exact .inl z
      · exact .inr (by rw [z]; exact hm)
      · exact .inr (by rw [z]; exact hl0)
      · exact .inr (by rw [z]; exact (H0 (oldN hsh).1).1)
      · exact .inr (by rw [z]; exact (H0 (oldN hln).1).1)
      · exact .inr (by rw [z]; exact hrp0)
      · exact .inr (newA (hps i b e).1).1
    · refine hM.pr.keep fun i p o e1 e2 => ?_
      have px : p ≠ x := fun z => by
        have := (newA (hps i p e1).1).1
        rw [z, hx] at this
        cases this
      exact fin px (old2 px e2)
    · rw [upd_ne (Ne.symm xrp), upd_ne (Ne.symm xrp)]
      exact upd_same
    · exact Ne.symm ((H0 (oldN hln).1).2.2)
    · exact ne_of_none ohl2 hrp2
    · exact ne_of_none hS.oln hrp2
    · exact Ne.symm ((H0 (oldN hsh).1).2.1)
    · obtain ⟨xs, e2⟩ := pgx i p e
      have px : p ≠ x := fun z => by
        have := (newA (hps i p e).1).1
        rw [z, hx] at this
        cases this
      exact ⟨(hps i p e).2, ne_of_none e2 (oldN hln).1, ne_of_none (old2 px e2) hrp2⟩
    · rcases hb with z | z | z | z | z | z | ⟨i, e⟩
      · rw [z]
        exact ⟨_, upd_same, rfl⟩
      · rw [z]
        exact ⟨_, fin (Ne.symm xm) om2, rfl⟩
      · rw [z]
        exact ⟨_, fin hlx ohl2, rfl⟩
      · rw [z]
        exact ⟨_, fin osx os, rfl⟩
      · rw [z]
        exact ⟨_, fin olx hS.oln, rfl⟩
      · rw [z, upd_ne (Ne.symm xrp), upd_ne (Ne.symm xrp)]
        exact ⟨_, upd_same, rfl⟩
      · obtain ⟨xs, e2⟩ := pgx i b e
        have px : b ≠ x := fun z => by
          have := (newA (hps i b e).1).1
          rw [z, hx] at this
          cases this
        exact ⟨_, fin px (old2 px e2), rfl⟩
end
end M35

/-! ## text A11 -/
set_option maxHeartbeats 4000000
namespace M35
open PySem PySem.Spec PyProof.Rows L2

/-! # the machine on the heap -/
structure EvR (H : Hp) (es : List Addr) (evs : List Ev) : Prop where
  len : es.length = evs.length
  at_ : ∀ (i : Nat) (e : Ev), evs[i]? = some e → ∃ t, es[i]? = some t ∧ H t = some (.tup e.vs)
def flV (f : Int × Int × Int × Bool) : List V := [.int f.1, .int f.2.1, .int f.2.2.1, .bl f.2.2.2]
def mF (w od : Addr) (door : Int) (cl : Addr) (counter : Int) (ruling : Bool) (fa : Addr) (stopped : Bool) (nt : Addr) : List (Str × V) :=
  [("ways", .ref w), ("orders", .ref od), ("door", .int door), ("cells", .ref cl), ("counter", .int counter), ("ruling", .bl ruling), ("fallen", .ref fa), ("stopped", .bl stopped), ("notes", .ref nt)]
structure MacIn (K : PySem.W.Frag) (H : Hp) (x w od cl nt fa : Addr) (ts es : List Addr) (c : Cfg) (M : Mc) (F G : Addr → Prop) : Prop where
  om : ∃ dx, H x = some (.ins (cMach K) dx (mF w od c.door cl M.counter M.ruling fa M.stopped nt))
  ood : H od = some (.lst (ts.map V.ref))
  odr : OdR H ts c.orders
  ocl : H cl = some (.lst (M.cells.map V.int))
  ofa : H fa = some (.tup (flV M.fallen))
  ont : H nt = some (.lst (es.map V.ref))
  evr : EvR H es M.notes
  n1 : od ≠ cl
  n2 : od ≠ nt
  n3 : cl ≠ nt
  fx : ¬ F x
  fo : ¬ F od
  fc : ¬ F cl
  fn : ¬ F nt
  gx : G x
  go : G od
  gc : G cl
  gn : G nt
  gf : ∀ b, F b → G b
  mu : ∀ b, G b → ∃ o, H b = some o ∧ mutO o = true
def MacAt (K : PySem.W.Frag) (H : Hp) (x w : Addr) (c : Cfg) (M : Mc) (W : Wy) (G : Addr → Prop) : Prop := ∃ od cl nt fa ts es F, MacIn K H x w od cl nt fa ts es c M F G ∧ WayAt K H w c W F
section
variable {K : PySem.W.Frag} {H H' : Hp} {x w od cl nt fa fa' z e : Addr} {ts es : List Addr} {c : Cfg} {M M' : Mc} {W W' : Wy} {F F' G : Addr → Prop} {ev : Ev}
theorem EvR.keep {evs : List Ev} (h : EvR H es evs) (k : ∀ b xs, H b = some (.tup xs) → H' b = some (.tup xs)) : EvR H' es evs := ⟨h.len, fun i r e => let ⟨t, a, b⟩ := h.at_ i r e; ⟨t, a, k t _ b⟩⟩
theorem EvR.app {evs : List Ev} (h : EvR H es evs) (he : H e = some (.tup ev.vs)) : EvR H (es ++ [e]) (evs ++ [ev]) := by
  refine ⟨by rw [List.length_append, List.length_append, h.len]; rfl, fun i r q => ?_⟩
  rcases app_some q with y | ⟨y1, y2⟩
  · obtain ⟨t, a, b⟩ := h.at_ i r y
    exact ⟨t, app_old a, b⟩
  · rw [y2]
    exact ⟨e, app_new (by rw [y1, h.len]), he⟩
/-- x, cl or nt alone has changed -/
theorem MacIn.set (h : MacIn K H x w od cl nt fa ts es c M F G) (hz : z = x ∨ z = cl ∨ z = nt) (b : But1 z H H') (om : ∃ dx, H' x = some (.ins (cMach K) dx (mF w od c.door cl M'.counter M'.ruling fa' M'.stopped nt)))
    (ocl : H' cl = some (.lst (M'.cells.map V.int))) (ofa : H' fa' = some (.tup (flV M'.fallen))) {es' : List Addr} (ont : H' nt = some (.lst (es'.map V.ref))) (evr : EvR H' es' M'.notes) : MacIn K H' x w od cl nt fa' ts es' c M' F G := by
  obtain ⟨dx, ox⟩ := h.om
  have zo : od ≠ z := by
    rcases hz with q | q | q
    · rw [q]
      exact ne_of h.ood ox (fun z => nomatch z)
    · rw [q]
      exact h.n1
    · rw [q]
      exact h.n2
  have zm : ∃ o, H z = some o ∧ mutO o = true := by
    rcases hz with q | q | q <;> rw [q]
    · exact ⟨_, ox, rfl⟩
    · exact ⟨_, h.ocl, rfl⟩
    · exact ⟨_, h.ont, rfl⟩
  have kt : ∀ b' xs, H b' = some (.tup xs) → H' b' = some (.tup xs) := fun b' xs e => b _ _ (fun y => by
    obtain ⟨o, e1, e2⟩ := zm
    rw [y] at e
    rw [e] at e1
    cases e1
    cases e2) e
  refine ⟨om, b _ _ zo h.ood, h.odr.keep kt, ocl, ofa, ont, evr, h.n1, h.n2, h.n3, h.fx, h.fo, h.fc, h.fn, h.gx, h.go, h.gc, h.gn, h.gf, fun t gt => ?_⟩
  by_cases tz : t = z
  · obtain ⟨dx', ox'⟩ := om
    rcases hz with q | q | q
    · rw [tz, q]
      exact ⟨_, ox', rfl⟩
    · rw [tz, q]
      exact ⟨_, ocl, rfl⟩
    · rw [tz, q]
      exact ⟨_, ont, rfl⟩
  · obtain ⟨o, e1, e2⟩ := h.mu t gt
    exact ⟨o, b _ _ tz e1, e2⟩
theorem MacIn.zf (h : MacIn K H x w od cl nt fa ts es c M F G) (hz : z = x ∨ z = cl ∨ z = nt) : ¬ F z ∧ G z := by
  rcases hz with q | q | q <;> rw [q]
  · exact ⟨h.fx, h.gx⟩
  · exact ⟨h.fc, h.gc⟩
  · exact ⟨h.fn, h.gn⟩
/-- with its way -/
theorem MacIn.setW (h : MacIn K H x w od cl nt fa ts es c M F G) (hW : WayAt K H w c W F) (hz : z = x ∨ z = cl ∨ z = nt) (b : But1 z H H') : WayAt K H' w c W F := by
  refine hW.keep (fun b' o f e => b _ _ (fun y => (h.zf hz).1 (by rw [← y]; exact f)) e) fun b' xs e => b _ _ (fun y => ?_) e
  obtain ⟨o, e1, e2⟩ := h.mu z (h.zf hz).2
  rw [y] at e
  rw [e] at e1
  cases e1
  cases e2
theorem MacIn.keep (h : MacIn K H x w od cl nt fa ts es c M F G) (k : ∀ b o, G b → H b = some o → H' b = some o) (kt : ∀ b xs, H b = some (.tup xs) → H' b = some (.tup xs)) : MacIn K H' x w od cl nt fa ts es c M F G := by
  obtain ⟨dx, ox⟩ := h.om
  exact ⟨⟨dx, k _ _ h.gx ox⟩, k _ _ h.go h.ood, h.odr.keep kt, k _ _ h.gc h.ocl, kt _ _ h.ofa, k _ _ h.gn h.ont, h.evr.keep kt, h.n1, h.n2, h.n3, h.fx, h.fo, h.fc, h.fn, h.gx, h.go, h.gc, h.gn, h.gf, fun b g => let ⟨o, a, z⟩ := h.mu b g; ⟨o, k b o g a, z⟩⟩
theorem MacAt.keep (h : MacAt K H x w c M W G) (k : ∀ b o, G b → H b = some o → H' b = some o) (kt : ∀ b xs, H b = some (.tup xs) → H' b = some (.tup xs)) : MacAt K H' x w c M W G :=
  let ⟨od, cl, nt, fa, ts, es, F, h1, h2⟩ := h; ⟨od, cl, nt, fa, ts, es, F, h1.keep k kt, h2.keep (fun b o f e => k b o (h1.gf b f) e) kt⟩
theorem MacAt.same (h : MacAt K H x w c M W G) (s : Same H H') : MacAt K H' x w c M W G := h.keep (fun b o _ e => s b o e) fun b xs e => s b _ e
theorem MacAt.ntup (h : MacAt K H x w c M W G) {b : Addr} {xs : List V} (e : H b = some (.tup xs)) : ¬ G b := fun f => by
  obtain ⟨_, _, _, _, _, _, _, h, _⟩ := h
  obtain ⟨o, a, z⟩ := h.mu b f
  rw [e] at a
  cases a
  cases z
/-- the way has changed -/
theorem MacIn.way (h : MacIn K H x w od cl nt fa ts es c M F G) (hW : WayAt K H w c W F) (b : But F H H') (g : Gr F H F') (hW' : WayAt K H' w c W' F') : MacIn K H' x w od cl nt fa ts es c M F' (fun y => (G y ∧ ¬ F y) ∨ F' y) := by
  obtain ⟨dx, ox⟩ := h.om
  have kt : ∀ b' xs, H b' = some (.tup xs) → H' b' = some (.tup xs) := fun b' xs e => b _ _ e (hW.ntup e)
  have nf : ∀ {y o}, ¬ F y → H y = some o → ¬ F' y := fun {y o} n e q => by
    rcases g y q with z | z
    · exact n z
    · rw [e] at z
      cases z
  refine ⟨⟨dx, b _ _ ox h.fx⟩, b _ _ h.ood h.fo, h.odr.keep kt, b _ _ h.ocl h.fc, kt _ _ h.ofa, b _ _ h.ont h.fn, h.evr.keep kt, h.n1, h.n2, h.n3, nf h.fx ox, nf h.fo h.ood, nf h.fc h.ocl, nf h.fn h.ont, .inl ⟨h.gx, h.fx⟩, .inl ⟨h.go, h.fo⟩, .inl ⟨h.gc, h.fc⟩, .inl ⟨h.gn, h.fn⟩, fun y q => .inr q, fun y q => ?_⟩
  rcases q with ⟨q, f0⟩ | q
  · obtain ⟨o, e1, e2⟩ := h.mu y q
    exact ⟨o, b _ _ e1 f0, e2⟩
  · exact hW'.mu q
theorem But.gr (b : But F H H') (k : ∀ y, F y → G y) : But G H H' := b.mono k
theorem MacIn.grW (h : MacIn K H x w od cl nt fa ts es c M F G) (g : Gr F H F') : Gr G H (fun y => (G y ∧ ¬ F y) ∨ F' y) := fun y q => by
  rcases q with ⟨q, _⟩ | q
  · exact .inl q
  · rcases g y q with z | z
    · exact .inl (h.gf y z)
    · exact .inr z
/-- a field of the machine's own -/
theorem MacIn.fld {H1 : Hp} {dx : Addr} (h : MacIn K H x w od cl nt fa ts es c M F G) (hW : WayAt K H w c W F) (M' : Mc) (s : Same H H1) (ec : M'.cells = M.cells) (en : M'.notes = M.notes) (hf : H1 fa' = some (.tup (flV M'.fallen))) :
    MacIn K (upd H1 x (.ins (cMach K) dx (mF w od c.door cl M'.counter M'.ruling fa' M'.stopped nt))) x w od cl nt fa' ts es c M' F G ∧ WayAt K (upd H1 x (.ins (cMach K) dx (mF w od c.door cl M'.counter M'.ruling fa' M'.stopped nt))) w c W F ∧ But G H (upd H1 x (.ins (cMach K) dx (mF w od c.door cl M'.counter M'.ruling fa' M'.stopped nt))) := by
  obtain ⟨d0, ox⟩ := h.om
  have b : But1 x H (upd H1 x (.ins (cMach K) dx (mF w od c.door cl M'.counter M'.ruling fa' M'.stopped nt))) := but1_upd s
  refine ⟨h.set (.inl rfl) b ⟨dx, upd_same⟩ ?_ ?_ (es' := es) ?_ ?_, h.setW hW (.inl rfl) b, b.but h.gx⟩
  · rw [ec]
    exact b _ _ (ne_of h.ocl ox (fun z => nomatch z)) h.ocl
  · rw [upd_ne (ne_of hf (s _ _ ox) (fun z => nomatch z))]
    exact hf
  · exact b _ _ (ne_of h.ont ox (fun z => nomatch z)) h.ont
  · rw [en]
    exact h.evr.keep fun t xs e => b _ _ (ne_of e ox (fun z => nomatch z)) e
/-- a register -/
theorem MacIn.cell (h : MacIn K H x w od cl nt fa ts es c M F G) (hW : WayAt K H w c W F) (a v : Int) :
    MacIn K (upd H cl (.lst ((M.cells.map V.int).set a.toNat (.int v)))) x w od cl nt fa ts es c (M.put a v) F G ∧ WayAt K (upd H cl (.lst ((M.cells.map V.int).set a.toNat (.int v)))) w c W F ∧ But G H (upd H cl (.lst ((M.cells.map V.int).set a.toNat (.int v)))) := by
  obtain ⟨d0, ox⟩ := h.om
  have b : But1 cl H (upd H cl (.lst ((M.cells.map V.int).set a.toNat (.int v)))) := but1_upd (Same.refl _)
  refine ⟨h.set (M' := M.put a v) (.inr (.inl rfl)) b ⟨d0, b _ _ (ne_of ox h.ocl (fun z => nomatch z)) ox⟩ ?_ (b _ _ (ne_of h.ofa h.ocl (fun z => nomatch z)) h.ofa) (es' := es) (b _ _ (Ne.symm h.n3) h.ont) (h.evr.keep fun t xs e => b _ _ (ne_of e h.ocl (fun z => nomatch z)) e), h.setW hW (.inr (.inl rfl)) b, b.but h.gc⟩
  rw [upd_same]
  unfold Mc.put
  rw [List.map_set]
/-- a note -/
theorem MacIn.note {H1 : Hp} (h : MacIn K H x w od cl nt fa ts es c M F G) (hW : WayAt K H w c W F) (s : Same H H1) (he : H1 e = some (.tup ev.vs)) :
    MacIn K (upd H1 nt (.lst (es.map V.ref ++ [.ref e]))) x w od cl nt fa ts (es ++ [e]) c { M with notes := M.notes ++ [ev] } F G ∧ WayAt K (upd H1 nt (.lst (es.map V.ref ++ [.ref e]))) w c W F ∧ But G H (upd H1 nt (.lst (es.map V.ref ++ [.ref e]))) := by
  obtain ⟨d0, ox⟩ := h.om
  have b : But1 nt H (upd H1 nt (.lst (es.map V.ref ++ [.ref e]))) := but1_upd s
  have kt : ∀ t xs, H t = some (.tup xs) → (upd H1 nt (.lst (es.map V.ref ++ [.ref e]))) t = some (.tup xs) := fun t xs z => b _ _ (ne_of z h.ont (fun z => nomatch z)) z
  refine ⟨h.set (M' := { M with notes := M.notes ++ [ev] }) (.inr (.inr rfl)) b ⟨d0, b _ _ (ne_of ox h.ont (fun z => nomatch z)) ox⟩ (b _ _ h.n3 h.ocl) (kt _ _ h.ofa) (es' := es ++ [e]) ?_ ((h.evr.keep kt).app ?_), h.setW hW (.inr (.inr rfl)) b, b.but h.gn⟩
  · rw [upd_same, List.map_append]
    rfl
  · rw [upd_ne (ne_of he (s _ _ h.ont) (fun z => nomatch z))]
    exact he
end
/-- a machine's deed comes to M', W' -/
def MP (K : PySem.W.Frag) (H : Hp) (x w : Addr) (c : Cfg) (G : Addr → Prop) (M' : Mc) (W' : Wy) (k : Hp → (Addr → Prop) → Prop) : Prop := ∀ H' G', But G H H' → Gr G H G' → MacAt K H' x w c M' W' G' → k H' G'
section
variable {K : PySem.W.Frag} {H H1 : Hp} {x w : Addr} {c : Cfg} {M' : Mc} {W' : Wy} {G G1 : Addr → Prop} {k : Hp → (Addr → Prop) → Prop}
theorem MP.seq (h : MP K H x w c G M' W' k) (a : But G H H1) (g : Gr G H G1) : MP K H1 x w c G1 M' W' k := fun H' G' b g' m => h H' G' (a.trans g b) (g.trans (fun y e => a.none y e) g') m
theorem MP.same (h : MP K H x w c G M' W' k) (s : Same H H1) : MP K H1 x w c G M' W' k := h.seq (.of_same s) .refl
end
section
variable {P : Program} {w : World} {K : PySem.W.Frag} {mg : Str → Option Value} {base : Heap}
theorem sc_Machine_go : FnScope ["self", "order", "word"] ["self", "order"] d_Machine_go.scope := ⟨rfl, rfl, rfl, by decide +kernel, rfl, by decide +kernel, by decide +kernel⟩
def sp_Machine_go (K : PySem.W.Frag) : Sp := fun vs H Q E => ∃ x w c M W G t o, vs = [.ref x, .ref t] ∧ MacAt K H x w c M W G ∧ GoodM c M ∧ H t = some (.tup (Ord.vs o)) ∧ o.good ∧ o.isGo = true ∧
  (∀ M', goOrd M o = .ok M' → MP K H x w c G M' W fun H' _ => Q .non H') ∧ (∀ f, goOrd M o = .error f → FE K E H f)
theorem ok_Machine_go (T : Txt K mg) : Ok P w K mg base (L2N.CX P w) 3 d_Machine_go ["self", "order"] (sp_Machine_go K) := by
  refine ok_mk T.f_Machine_go sc_Machine_go rfl (fun _ _ _ _ _ _ us hl => match us, hl with | [_, _], _ => rfl) (fun vs H Q E h => ?_) (fun cdv A outer s H vs Q E hr h => ?_)
  · obtain ⟨x, wa, c, M, W, G, t, o, rfl, _⟩ := h
    rfl
  · obtain ⟨x, wa, c, M, W, G, t, o, rfl, hM, gM, ht, og, oi, hQ, hE⟩ := h
    obtain ⟨od, cl, nt, fa, ts, es, F, hI, hW⟩ := hM
    obtain ⟨dx, om⟩ := id hI.om
    obtain ⟨ox, _, _, _, _, iC, tI⟩ := T.oex
    have O3 : Ok P w K mg base CX0 1 d_Fault_init ["self", "kind", "place", "level"] (sp_Fault_init K) := ok_Fault_init T
    have nd := sc_Machine_go.nd
    refine ⟨_, pss_cons (ps_set (i := 2) nd rfl (.inl rfl) (pe_ix ix_tup (pv 1) pe_int (fun _ _ => rfl)))
      (pss_cons (ps_if (pt_cmpR op_eq (pv 2) pe_str (nomark _)) (pss_one (L2N.ps_raise rfl takesN (pmk_own2 (d := d_Fault_init) ox iC tI O3 hr rfl T.g_Fault (pa_cons pe_str (pa_cons pe_int (pa_cons pe_int pa_nil)))))) pss_nil)
      (pss_one (ps_if (pt_cmpR op_eq (pv 2) pe_str (nomark _)) (pss_one (ps_fld (pv 0) pe_bl rfl))
        (pss_one (ps_if (pt_cmpR op_eq (pv 2) pe_str (nomark _)) (pss_one (ps_fld (pv 0) (pe_ix ix_tup (pv 1) pe_int (fun _ _ => rfl)) rfl))
        (pss_one (ps_if (pt_cmpR op_eq (pv 2) pe_str (nomark _)) (pss_cons (ps_fld (pv 0) pe_bl rfl) (pss_one (ps_fld (pv 0) (pe_ix ix_tup (pv 1) pe_int (fun _ _ => rfl)) rfl)))
        (pss_one (ps_if (pt_cmpR op_eq (pv 2) pe_str (nomark _)) (pss_cons (ps_fld (pv 0) (pe_op op_add (pe_fld (pv 0) rfl) pe_int) rfl) (pss_one (ps_if (pt_cmpR op_eq (pe_ix ix_list (pe_fld (pv 0) rfl) (pe_ix ix_tup (pv 1) pe_int (fun _ _ => rfl)) (fun _ _ => rfl)) pe_int (nomark _)) (pss_one (ps_fld (pv 0) (pe_ix ix_tup (pv 1) pe_int (fun _ _ => rfl)) rfl)) pss_nil)))
          (pss_cons (ps_fld (pv 0) (pe_ix ix_tup (pe_fld (pv 0) rfl) pe_int (fun _ _ => rfl)) rfl) (pss_cons (ps_if (pt_cmpR op_eq (pv 2) pe_str (nomark _)) (pss_one (ps_fld (pv 0) (pe_op op_add (pe_ix ix_tup (pe_fld (pv 0) rfl) pe_int (fun _ _ => rfl)) pe_int) rfl)) pss_nil)
            (pss_one (ps_fld (pv 0) (pe_ix ix_tup (pe_fld (pv 0) rfl) pe_int (fun _ _ => rfl)) rfl))))))))))))), ?_⟩
    have nine : (mF wa od c.door cl M.counter M.ruling fa M.stopped nt).length < 1000 := by show 9 < 1000; decide
    cases o <;> first | (exact absurd oi Bool.false_ne_true) | skip
    case call =>
      refine ⟨_, rfl, t, _, 0, _, rfl, rfl, SqT.of ht, atI_nat (j := 0) rfl, ?_⟩
      refine ⟨_, rfl, rfl, _, rfl, ite_t (by rfl) ?_⟩
      exact mk_fault (f := ⟨"call", 0, 0⟩) (hE _ rfl)
    case halt =>
      refine ⟨_, rfl, t, _, 0, _, rfl, rfl, SqT.of ht, atI_nat (j := 0) rfl, ?_⟩
      refine ⟨_, rfl, rfl, _, rfl, ite_f (by rfl) ?_⟩
      refine ⟨_, rfl, rfl, _, rfl, ite_t (by rfl) ?_⟩
      refine ⟨_, rfl, x, _, dx, _, rfl, om, T.c_Machine, T.n_Machine_stopped, nine, ?_⟩
      obtain ⟨h1, h2, h3⟩ := hI.fld (dx := dx) hW { M with stopped := true } (Same.refl _) rfl rfl hI.ofa
      exact hQ _ rfl _ G h3 Gr.refl ⟨_, _, _, _, _, _, _, h1, h2⟩
    case past =>
      refine ⟨_, rfl, t, _, 0, _, rfl, rfl, SqT.of ht, atI_nat (j := 0) rfl, ?_⟩
      refine ⟨_, rfl, rfl, _, rfl, ite_f (by rfl) ?_⟩
      refine ⟨_, rfl, rfl, _, rfl, ite_f (by rfl) ?_⟩
      refine ⟨_, rfl, rfl, _, rfl, ite_f (by rfl) ?_⟩
      refine ⟨_, rfl, rfl, _, rfl, ite_f (by rfl) ?_⟩
      refine ⟨_, rfl, rfl, _, rfl, ite_f (by rfl) ?_⟩
      refine ⟨_, rfl, _, _, _, _, _, rfl, om, T.c_Machine, T.n_Machine_fallen, rfl, fa, _, _, _, rfl, rfl, SqT.of hI.ofa, atI_nat (j := 2) rfl, _, rfl, x, _, dx, _, rfl, om, T.c_Machine, T.n_Machine_counter, nine, ?_⟩
      obtain ⟨h1, h2, h3⟩ := hI.fld (dx := dx) hW { M with counter := M.fallen.2.2.1 } (Same.refl _) rfl rfl hI.ofa
      refine ⟨_, rfl, rfl, _, rfl, ite_t (by rfl) ?_⟩
      refine ⟨_, rfl, _, _, _, _, _, rfl, upd_same, T.c_Machine, T.n_Machine_fallen, rfl, fa, _, _, _, rfl, rfl, SqT.of h1.ofa, atI_nat (j := 2) rfl, _, _, rfl, rfl, _, rfl, x, _, dx, _, rfl, upd_same, T.c_Machine, T.n_Machine_counter, nine, ?_⟩
      obtain ⟨k1, k2, k3⟩ := h1.fld (dx := dx) h2 { M with counter := M.fallen.2.2.1 + 1 } (Same.refl _) rfl rfl h1.ofa
      refine ⟨_, rfl, _, _, _, _, _, rfl, upd_same, T.c_Machine, T.n_Machine_fallen, rfl, fa, _, _, _, rfl, rfl, SqT.of k1.ofa, atI_nat (j := 3) rfl, _, rfl, x, _, dx, _, rfl, upd_same, T.c_Machine, T.n_Machine_ruling, nine, ?_⟩
      obtain ⟨l1, l2, l3⟩ := k1.fld (dx := dx) k2 { M with counter := M.fallen.2.2.1 + 1, ruling := M.fallen.2.2.2 } (Same.refl _) rfl rfl k1.ofa
      exact hQ _ rfl _ G ((h3.trans Gr.refl k3).trans Gr.refl l3) Gr.refl ⟨_, _, _, _, _, _, _, l1, l2⟩
    case jump tt =>
      refine ⟨_, rfl, t, _, 0, _, rfl, rfl, SqT.of ht, atI_nat (j := 0) rfl, ?_⟩
      refine ⟨_, rfl, rfl, _, rfl, ite_f (by rfl) ?_⟩
      refine ⟨_, rfl, rfl, _, rfl, ite_f (by rfl) ?_⟩
      refine ⟨_, rfl, rfl, _, rfl, ite_t (by rfl) ?_⟩
      refine ⟨_, rfl, t, _, 1, _, rfl, rfl, SqT.of ht, atI_nat (j := 1) rfl, _, rfl, x, _, dx, _, rfl, om, T.c_Machine, T.n_Machine_counter, nine, ?_⟩
      obtain ⟨h1, h2, h3⟩ := hI.fld (dx := dx) hW { M with counter := tt } (Same.refl _) rfl rfl hI.ofa
      exact hQ _ rfl _ G h3 Gr.refl ⟨_, _, _, _, _, _, _, h1, h2⟩
    case user tt =>
      refine ⟨_, rfl, t, _, 0, _, rfl, rfl, SqT.of ht, atI_nat (j := 0) rfl, ?_⟩
      refine ⟨_, rfl, rfl, _, rfl, ite_f (by rfl) ?_⟩
      refine ⟨_, rfl, rfl, _, rfl, ite_f (by rfl) ?_⟩
      refine ⟨_, rfl, rfl, _, rfl, ite_f (by rfl) ?_⟩
      refine ⟨_, rfl, rfl, _, rfl, ite_t (by rfl) ?_⟩
      refine ⟨_, rfl, x, _, dx, _, rfl, om, T.c_Machine, T.n_Machine_ruling, nine, ?_⟩
      obtain ⟨h1, h2, h3⟩ := hI.fld (dx := dx) hW { M with ruling := false } (Same.refl _) rfl rfl hI.ofa
      have ht1 := h3 _ _ ht (MacAt.ntup ⟨_, _, _, _, _, _, _, hI, hW⟩ ht)
      refine ⟨_, rfl, t, _, 1, _, rfl, rfl, SqT.of ht1, atI_nat (j := 1) rfl, _, rfl, x, _, dx, _, rfl, upd_same, T.c_Machine, T.n_Machine_counter, nine, ?_⟩
      obtain ⟨k1, k2, k3⟩ := h1.fld (dx := dx) h2 { M with ruling := false, counter := tt } (Same.refl _) rfl rfl h1.ofa
      exact hQ _ rfl _ G (h3.trans Gr.refl k3) Gr.refl ⟨_, _, _, _, _, _, _, k1, k2⟩
    case nought a tt =>
      refine ⟨_, rfl, t, _, 0, _, rfl, rfl, SqT.of ht, atI_nat (j := 0) rfl, ?_⟩
      refine ⟨_, rfl, rfl, _, rfl, ite_f (by rfl) ?_⟩
      refine ⟨_, rfl, rfl, _, rfl, ite_f (by rfl) ?_⟩
      refine ⟨_, rfl, rfl, _, rfl, ite_f (by rfl) ?_⟩
      refine ⟨_, rfl, rfl, _, rfl, ite_f (by rfl) ?_⟩
      refine ⟨_, rfl, rfl, _, rfl, ite_t (by rfl) ?_⟩
      refine ⟨_, rfl, _, _, _, _, _, rfl, om, T.c_Machine, T.n_Machine_counter, rfl, _, _, rfl, rfl, _, rfl, x, _, dx, _, rfl, om, T.c_Machine, T.n_Machine_counter, nine, ?_⟩
      obtain ⟨h1, h2, h3⟩ := hI.fld (dx := dx) hW { M with counter := M.counter + 1 } (Same.refl _) rfl rfl hI.ofa
      have ht1 := h3 _ _ ht (MacAt.ntup ⟨_, _, _, _, _, _, _, hI, hW⟩ ht)
      have eg : atI (M.cells.map V.int) a = some (.int (M.get a)) := atI_int og.1.1 (by rw [List.getElem?_map, (get_w gM og.1).2]; rfl)
      refine ⟨_, rfl, _, _, _, _, _, rfl, upd_same, T.c_Machine, T.n_Machine_cells, rfl, _, rfl, t, _, 1, _, rfl, rfl, SqT.of ht1, atI_nat (j := 1) rfl, cl, _, _, _, rfl, rfl, SqL.of h1.ocl, eg, rfl, _, rfl, ite_b (fun e => ?_) (fun e => ?_)⟩
      · have e2 := V.int.inj (of_decide_eq_true e)
        refine ⟨_, rfl, t, _, 2, _, rfl, rfl, SqT.of ht1, atI_nat (j := 2) rfl, _, rfl, x, _, dx, _, rfl, upd_same, T.c_Machine, T.n_Machine_counter, nine, ?_⟩
        obtain ⟨k1, k2, k3⟩ := h1.fld (dx := dx) h2 { M with counter := tt } (Same.refl _) rfl rfl h1.ofa
        exact hQ _ (by simp only [goOrd]; rw [if_pos e2]) _ G (h3.trans Gr.refl k3) Gr.refl ⟨_, _, _, _, _, _, _, k1, k2⟩
      · have e2 : ¬ M.get a = 0 := fun z => of_decide_eq_false e (by rw [z])
        exact hQ _ (by simp only [goOrd]; rw [if_neg e2]) _ G h3 Gr.refl ⟨_, _, _, _, _, _, _, h1, h2⟩
end
end M35

/-! ## text A12 -/
set_option maxHeartbeats 4000000
namespace M35
open PySem PySem.Spec PyProof.Rows L2

/-! # the machine's rows -/
section
variable {P : Program} {w : World} {K : PySem.W.Frag} {mg : Str → Option Value} {base : Heap}
theorem sc_Machine_reckon : FnScope ["self", "order", "word", "a"] ["self", "order"] d_Machine_reckon.scope := ⟨rfl, rfl, rfl, by decide +kernel, rfl, by decide +kernel, by decide +kernel⟩
def sp_Machine_reckon (K : PySem.W.Frag) : Sp := fun vs H Q _ => ∃ x wa c M W G t o, vs = [.ref x, .ref t] ∧ MacAt K H x wa c M W G ∧ GoodM c M ∧ M.notes.length ≤ 1000 ∧ H t = some (.tup (Ord.vs o)) ∧ o.good ∧ o.isReck = true ∧
  MP K H x wa c G (reckon M o) W fun H' _ => Q .non H'
theorem ok_Machine_reckon (T : Txt K mg) : Ok P w K mg base CX0 2 d_Machine_reckon ["self", "order"] (sp_Machine_reckon K) := by
  refine ok_no T.f_Machine_reckon sc_Machine_reckon rfl (fun _ _ _ _ _ _ us hl => match us, hl with | [_, _], _ => rfl) (fun vs H Q E h => ?_) (fun cdv A outer s H vs Q E hr h => ?_)
  · obtain ⟨x, wa, c, M, W, G, t, o, rfl, _⟩ := h
    rfl
  · obtain ⟨x, wa, c, M, W, G, t, o, rfl, hM, gM, nl, ht, og, oi, hQ⟩ := h
    have hM0 := hM
    obtain ⟨od, cl, nt, fa, ts, es, F, hI, hW⟩ := hM
    obtain ⟨dx, om⟩ := id hI.om
    have O1 : Ok P w K mg base CX0 1 d_plus ["one", "other"] sp_plus := ok_plus T
    have nd := sc_Machine_reckon.nd
    refine ⟨_, pss_cons (ps_set (i := 2) nd rfl (.inl rfl) (pe_ix ix_tup (pv 1) pe_int (fun _ _ => rfl)))
      (pss_cons (ps_set (i := 3) nd rfl (.inl rfl) (pe_ix ix_tup (pv 1) pe_int (fun _ _ => rfl)))
      (pss_one (ps_if (pt_cmpR op_eq (pv 2) pe_str (nomark _)) (pss_one (ps_asg (pe_ix ix_tup (pv 1) pe_int (fun _ _ => rfl)) (pg_sub (pe_fld (pv 0) rfl) (pv 3) set_list)))
        (pss_one (ps_if (pt_cmpR op_eq (pv 2) pe_str (nomark _)) (pss_one (ps_expr (pe_bm PySem.F.plainAttrs_list PySem.F.slot_list_append PySem.F.type_list_append mt_append (pe_fld (pv 0) rfl) (pa_cons (pe_tup (pa_cons pe_str (pa_cons (pe_ix ix_list (pe_fld (pv 0) rfl) (pv 3) (fun _ _ => rfl)) pa_nil))) pa_nil))))
        (pss_one (ps_if (pt_cmpR op_eq (pv 2) pe_str (nomark _)) (pss_one (ps_asg (pe_c O1 hr rfl T.g_plus pass0 (pa_cons (pe_ix ix_list (pe_fld (pv 0) rfl) (pv 3) (fun _ _ => rfl)) (pa_cons (pe_ix ix_list (pe_fld (pv 0) rfl) (pe_ix ix_tup (pv 1) pe_int (fun _ _ => rfl)) (fun _ _ => rfl)) pa_nil))) (pg_sub (pe_fld (pv 0) rfl) (pv 3) set_list)))
        (pss_one (ps_if (pt_cmpR op_eq (pv 2) pe_str (nomark _)) (pss_one ps_never)
        (pss_one (ps_if (pt_cmpR op_eq (pv 2) pe_str (nomark _)) (pss_one ps_never)
          (pss_cons (ps_asg (pe_ix ix_tup (pe_fld (pv 0) rfl) pe_int (fun _ _ => rfl)) (pg_sub (pe_fld (pv 0) rfl) (pv 3) set_list))
          (pss_one (ps_asg (pe_ix ix_tup (pe_fld (pv 0) rfl) pe_int (fun _ _ => rfl)) (pg_sub (pe_fld (pv 0) rfl) (pe_ix ix_tup (pv 1) pe_int (fun _ _ => rfl)) set_list))))))))))))))), ?_⟩
    have at_ : ∀ a, isR a → atI (M.cells.map V.int) a = some (.int (M.get a)) := fun a ha => atI_int ha.1 (by rw [List.getElem?_map, (get_w gM ha).2]; rfl)
    have ix : ∀ a, isR a → ixN (M.cells.map V.int).length a = some a.toNat := fun a ha => ixN_int ha.1 (by rw [List.length_map, gM.cl]; exact ha.2)
    have e0 : ∀ q : Ord, Ord.vs q = .str q.word :: q.args := Ord.vs_eq
    cases o <;> first | (exact absurd oi Bool.false_ne_true) | skip
    case set a v =>
      refine ⟨_, rfl, t, _, 0, _, rfl, rfl, SqT.of ht, atI_nat (j := 0) rfl, _, rfl, t, _, 1, _, rfl, rfl, SqT.of ht, atI_nat (j := 1) rfl, ?_⟩
      refine ⟨_, rfl, rfl, _, rfl, ite_t (by rfl) ?_⟩
      refine ⟨_, rfl, t, _, 2, _, rfl, rfl, SqT.of ht, atI_nat (j := 2) rfl, _, rfl, _, _, _, _, _, rfl, om, T.c_Machine, T.n_Machine_cells, rfl, _, rfl, cl, _, _, _, rfl, rfl, hI.ocl, ix a og.1, ?_⟩
      obtain ⟨h1, h2, h3⟩ := hI.cell hW a v
      exact hQ _ G h3 Gr.refl ⟨_, _, _, _, _, _, _, h1, h2⟩
    case add a b =>
      refine ⟨_, rfl, t, _, 0, _, rfl, rfl, SqT.of ht, atI_nat (j := 0) rfl, _, rfl, t, _, 1, _, rfl, rfl, SqT.of ht, atI_nat (j := 1) rfl, ?_⟩
      refine ⟨_, rfl, rfl, _, rfl, ite_f (by rfl) ?_⟩
      refine ⟨_, rfl, rfl, _, rfl, ite_f (by rfl) ?_⟩
      refine ⟨_, rfl, rfl, _, rfl, ite_t (by rfl) ?_⟩
      refine ⟨_, rfl, _, _, _, _, _, rfl, om, T.c_Machine, T.n_Machine_cells, rfl, _, rfl, cl, _, _, _, rfl, rfl, SqL.of hI.ocl, at_ a og.1, _, rfl, _, _, _, _, _, rfl, om, T.c_Machine, T.n_Machine_cells, rfl, _, rfl, t, _, 2, _, rfl, rfl, SqT.of ht, atI_nat (j := 2) rfl, cl, _, _, _, rfl, rfl, SqL.of hI.ocl, at_ b og.2, _, _, rfl, _, rfl, _, _, _, _, _, rfl, om, T.c_Machine, T.n_Machine_cells, rfl, _, rfl, cl, _, _, _, rfl, rfl, hI.ocl, ix a og.1, ?_⟩
      obtain ⟨h1, h2, h3⟩ := hI.cell hW a ((M.get a + M.get b) % W48)
      exact hQ _ G h3 Gr.refl ⟨_, _, _, _, _, _, _, h1, h2⟩
    case why a b =>
      refine ⟨_, rfl, t, _, 0, _, rfl, rfl, SqT.of ht, atI_nat (j := 0) rfl, _, rfl, t, _, 1, _, rfl, rfl, SqT.of ht, atI_nat (j := 1) rfl, ?_⟩
      refine ⟨_, rfl, rfl, _, rfl, ite_f (by rfl) ?_⟩
      refine ⟨_, rfl, rfl, _, rfl, ite_f (by rfl) ?_⟩
      refine ⟨_, rfl, rfl, _, rfl, ite_f (by rfl) ?_⟩
      refine ⟨_, rfl, rfl, _, rfl, ite_f (by rfl) ?_⟩
      refine ⟨_, rfl, rfl, _, rfl, ite_f (by rfl) ?_⟩
      refine ⟨_, rfl, _, _, _, _, _, rfl, om, T.c_Machine, T.n_Machine_fallen, rfl, fa, _, _, _, rfl, rfl, SqT.of hI.ofa, atI_nat (j := 0) rfl, _, rfl, _, _, _, _, _, rfl, om, T.c_Machine, T.n_Machine_cells, rfl, _, rfl, cl, _, _, _, rfl, rfl, hI.ocl, ix a og.1, ?_⟩
      obtain ⟨h1, h2, h3⟩ := hI.cell hW a M.fallen.1
      obtain ⟨dx2, om2⟩ := id h1.om
      have ht1 := h3 _ _ ht (hM0.ntup ht)
      refine ⟨_, rfl, _, _, _, _, _, rfl, om2, T.c_Machine, T.n_Machine_fallen, rfl, fa, _, _, _, rfl, rfl, SqT.of h1.ofa, atI_nat (j := 1) rfl, _, rfl, _, _, _, _, _, rfl, om2, T.c_Machine, T.n_Machine_cells, rfl, _, rfl, t, _, 2, _, rfl, rfl, SqT.of ht1, atI_nat (j := 2) rfl, cl, _, _, _, rfl, rfl, h1.ocl, ixN_int og.2.1 ?_, ?_⟩
      · rw [List.length_map]
        show b < ((M.cells.set a.toNat M.fallen.1).length : Int)
        rw [List.length_set, gM.cl]
        exact og.2.2
      obtain ⟨k1, k2, k3⟩ := h1.cell h2 b M.fallen.2.1
      exact hQ _ G (h3.trans Gr.refl k3) Gr.refl ⟨_, _, _, _, _, _, _, k1, k2⟩
    case tell a =>
      refine ⟨_, rfl, t, _, 0, _, rfl, rfl, SqT.of ht, atI_nat (j := 0) rfl, _, rfl, t, _, 1, _, rfl, rfl, SqT.of ht, atI_nat (j := 1) rfl, ?_⟩
      refine ⟨_, rfl, rfl, _, rfl, ite_f (by rfl) ?_⟩
      refine ⟨_, rfl, rfl, _, rfl, ite_t (by rfl) ?_⟩
      refine ⟨_, rfl, _, _, _, _, _, rfl, om, T.c_Machine, T.n_Machine_notes, rfl, .inl ⟨rfl, _, SqL.of hI.ont⟩, _, rfl, _, _, _, _, _, rfl, om, T.c_Machine, T.n_Machine_cells, rfl, _, rfl, cl, _, _, _, rfl, rfl, SqL.of hI.ocl, at_ a og, (by show 2 ≤ sizeLine; decide), fun e he => ?_⟩
      have s1 : Same H (upd H e (.tup [.str "told", .int (M.get a)])) := same_new he
      obtain ⟨h1, h2, h3⟩ := hI.note (ev := .told (M.get a)) hW s1 upd_same
      refine ⟨nt, _, _, rfl, rfl, s1 _ _ hI.ont, ?_, hQ _ G h3 Gr.refl ⟨_, _, _, _, _, _, _, h1, h2⟩⟩
      rw [List.length_map, hI.evr.len]
      exact Nat.lt_of_le_of_lt nl (by decide)
theorem sc_Machine_carry_word : FnScope ["self", "order", "a", "place"] ["self", "order"] d_Machine_carry_word.scope := ⟨rfl, rfl, rfl, by decide +kernel, rfl, by decide +kernel, by decide +kernel⟩
def sp_Machine_carry_word (K : PySem.W.Frag) : Sp := fun vs H Q E => ∃ x wa c M W G t o, vs = [.ref x, .ref t] ∧ MacAt K H x wa c M W G ∧ GoodC c ∧ GoodM c M ∧ GoodW c W ∧ H t = some (.tup (Ord.vs o)) ∧ o.good ∧ o.isCarry = true ∧
  (∀ M' W', carry c M W o = .ok (M', W') → MP K H x wa c G M' W' fun H' _ => Q .non H') ∧ (∀ f, carry c M W o = .error f → FE K E H f)
theorem ok_Machine_carry_word (T : Txt K mg) : Ok P w K mg base (L2N.CX P w) 11 d_Machine_carry_word ["self", "order"] (sp_Machine_carry_word K) := by
  refine ok_mk T.f_Machine_carry_word sc_Machine_carry_word rfl (fun _ _ _ _ _ _ us hl => match us, hl with | [_, _], _ => rfl) (fun vs H Q E h => ?_) (fun cdv A outer s H vs Q E hr h => ?_)
  · obtain ⟨x, wa, c, M, W, G, t, o, rfl, _⟩ := h
    rfl
  · obtain ⟨x, wa, c, M, W, G, t, o, rfl, hM, gC, gM, gW, ht, og, oi, hQ, hE⟩ := h
    obtain ⟨od, cl, nt, fa, ts, es, F, hI, hW⟩ := hM
    obtain ⟨dx, om⟩ := id hI.om
    obtain ⟨dw, mw, shw, rpw, ow⟩ := hW.inst
    have O1 : Ok P w K mg base (L2N.CX P w) 10 d_Plain_load ["self", "place", "kernel"] (sp_Plain_load K) := ok_Plain_load T
    have O2 : Ok P w K mg base (L2N.CX P w) 10 d_Plain_save ["self", "place", "word", "kernel"] (sp_Plain_save K) := ok_Plain_save T
    have O3 : Ok P w K mg base (L2N.CX P w) 7 d_Plain_peek ["self", "spot"] (sp_Plain_peek K) := ok_Plain_peek T
    have O4 : Ok P w K mg base (L2N.CX P w) 7 d_Plain_poke ["self", "spot", "word"] (sp_Plain_poke K) := ok_Plain_poke T
    have h7 := hr.mono (show 7 ≤ 10 by decide)
    have nd := sc_Machine_carry_word.nd
    refine ⟨_, pss_cons (ps_set (i := 2) nd rfl (.inl rfl) (pe_ix ix_tup (pv 1) pe_int (fun _ _ => rfl)))
      (pss_cons (ps_set (i := 3) nd rfl (.inl rfl) (pe_ix ix_list (pe_fld (pv 0) rfl) (pe_ix ix_tup (pv 1) pe_int (fun _ _ => rfl)) (fun _ _ => rfl)))
      (pss_one (ps_if (pt_cmpR op_eq (pe_ix ix_tup (pv 1) pe_int (fun _ _ => rfl)) pe_str (nomark _)) (pss_one (ps_asg (pe_m O1 (pe_fld (pv 0) rfl) T.c_Plain T.m_Plain_load hr passN (pa_cons (pv 3) (pa_cons (pe_fld (pv 0) rfl) pa_nil))) (pg_sub (pe_fld (pv 0) rfl) (pv 2) set_list)))
        (pss_one (ps_if (pt_cmpR op_eq (pe_ix ix_tup (pv 1) pe_int (fun _ _ => rfl)) pe_str (nomark _)) (pss_one (ps_expr (pe_m O2 (pe_fld (pv 0) rfl) T.c_Plain T.m_Plain_save hr passN (pa_cons (pv 3) (pa_cons (pe_ix ix_list (pe_fld (pv 0) rfl) (pv 2) (fun _ _ => rfl)) (pa_cons (pe_fld (pv 0) rfl) pa_nil))))))
        (pss_one (ps_if (pt_cmpR op_eq (pe_ix ix_tup (pv 1) pe_int (fun _ _ => rfl)) pe_str (nomark _)) (pss_one (ps_asg (pe_m O3 (pe_fld (pv 0) rfl) T.c_Plain T.m_Plain_peek h7 passN (pa_cons (pv 3) pa_nil)) (pg_sub (pe_fld (pv 0) rfl) (pv 2) set_list)))
          (pss_one (ps_expr (pe_m O4 (pe_fld (pv 0) rfl) T.c_Plain T.m_Plain_poke h7 passN (pa_cons (pv 3) (pa_cons (pe_ix ix_list (pe_fld (pv 0) rfl) (pv 2) (fun _ _ => rfl)) pa_nil)))))))))))), ?_⟩
    have at_ : ∀ a, isR a → atI (M.cells.map V.int) a = some (.int (M.get a)) := fun a ha => atI_int ha.1 (by rw [List.getElem?_map, (get_w gM ha).2]; rfl)
    have ix : ∀ a, isR a → ixN (M.cells.map V.int).length a = some a.toNat := fun a ha => ixN_int ha.1 (by rw [List.length_map, gM.cl]; exact ha.2)
    cases o <;> first | (exact absurd oi Bool.false_ne_true) | skip
    case load a b =>
      refine ⟨_, rfl, t, _, 1, _, rfl, rfl, SqT.of ht, atI_nat (j := 1) rfl, _, rfl, _, _, _, _, _, rfl, om, T.c_Machine, T.n_Machine_cells, rfl, _, rfl, t, _, 2, _, rfl, rfl, SqT.of ht, atI_nat (j := 2) rfl, cl, _, _, _, rfl, rfl, SqL.of hI.ocl, at_ b og.2, ?_⟩
      refine ⟨_, rfl, t, _, 0, _, rfl, rfl, SqT.of ht, atI_nat (j := 0) rfl, rfl, _, rfl, ite_t (by rfl) ?_⟩
      refine ⟨_, rfl, _, _, _, _, _, rfl, om, T.c_Machine, T.n_Machine_ways, rfl, wa, dw, _, rfl, ow, rfl, _, rfl, _, rfl, _, _, _, _, _, rfl, om, T.c_Machine, T.n_Machine_ruling, rfl, wa, c, W, F, M.get b, M.ruling, rfl, hW, gC, gW, (get_w gM og.2).1, fun v W1 e H1 F1 b1 g1 hW1 => ?_, fun f e => hE f (by simp only [carry, e])⟩
      have h1 := hI.way hW b1 g1 hW1
      obtain ⟨dx1, om1⟩ := id h1.om
      refine ⟨_, rfl, _, _, _, _, _, rfl, om1, T.c_Machine, T.n_Machine_cells, rfl, _, rfl, cl, _, _, _, rfl, rfl, h1.ocl, ix a og.1, ?_⟩
      obtain ⟨k1, k2, k3⟩ := h1.cell hW1 a v
      exact hQ _ _ (by simp only [carry, e]) _ _ ((b1.gr hI.gf).trans (hI.grW g1) k3) (hI.grW g1) ⟨_, _, _, _, _, _, _, k1, k2⟩
    case save a b =>
      refine ⟨_, rfl, t, _, 1, _, rfl, rfl, SqT.of ht, atI_nat (j := 1) rfl, _, rfl, _, _, _, _, _, rfl, om, T.c_Machine, T.n_Machine_cells, rfl, _, rfl, t, _, 2, _, rfl, rfl, SqT.of ht, atI_nat (j := 2) rfl, cl, _, _, _, rfl, rfl, SqL.of hI.ocl, at_ b og.2, ?_⟩
      refine ⟨_, rfl, t, _, 0, _, rfl, rfl, SqT.of ht, atI_nat (j := 0) rfl, rfl, _, rfl, ite_f (by rfl) ?_⟩
      refine ⟨_, rfl, t, _, 0, _, rfl, rfl, SqT.of ht, atI_nat (j := 0) rfl, rfl, _, rfl, ite_t (by rfl) ?_⟩
      refine ⟨_, rfl, _, _, _, _, _, rfl, om, T.c_Machine, T.n_Machine_ways, rfl, wa, dw, _, rfl, ow, rfl, _, rfl, _, rfl, _, _, _, _, _, rfl, om, T.c_Machine, T.n_Machine_cells, rfl, _, rfl, cl, _, _, _, rfl, rfl, SqL.of hI.ocl, at_ a og.1, _, rfl, _, _, _, _, _, rfl, om, T.c_Machine, T.n_Machine_ruling, rfl, wa, c, W, F, M.get b, M.get a, M.ruling, rfl, hW, gC, gW, (get_w gM og.2).1, (get_w gM og.1).1, fun W1 e H1 F1 b1 g1 hW1 => ?_, fun f e => hE f (by simp only [carry, e])⟩
      exact hQ _ _ (by simp only [carry, e]) _ _ (b1.gr hI.gf) (hI.grW g1) ⟨_, _, _, _, _, _, _, hI.way hW b1 g1 hW1, hW1⟩
    case peek a b =>
      refine ⟨_, rfl, t, _, 1, _, rfl, rfl, SqT.of ht, atI_nat (j := 1) rfl, _, rfl, _, _, _, _, _, rfl, om, T.c_Machine, T.n_Machine_cells, rfl, _, rfl, t, _, 2, _, rfl, rfl, SqT.of ht, atI_nat (j := 2) rfl, cl, _, _, _, rfl, rfl, SqL.of hI.ocl, at_ b og.2, ?_⟩
      refine ⟨_, rfl, t, _, 0, _, rfl, rfl, SqT.of ht, atI_nat (j := 0) rfl, rfl, _, rfl, ite_f (by rfl) ?_⟩
      refine ⟨_, rfl, t, _, 0, _, rfl, rfl, SqT.of ht, atI_nat (j := 0) rfl, rfl, _, rfl, ite_f (by rfl) ?_⟩
      refine ⟨_, rfl, t, _, 0, _, rfl, rfl, SqT.of ht, atI_nat (j := 0) rfl, rfl, _, rfl, ite_t (by rfl) ?_⟩
      refine ⟨_, rfl, _, _, _, _, _, rfl, om, T.c_Machine, T.n_Machine_ways, rfl, wa, dw, _, rfl, ow, rfl, _, rfl, wa, c, W, F, M.get b, rfl, hW, gW.g, fun v e => ?_, fun f e => hE f (by simp only [carry, e])⟩
      refine ⟨_, rfl, _, _, _, _, _, rfl, om, T.c_Machine, T.n_Machine_cells, rfl, _, rfl, cl, _, _, _, rfl, rfl, hI.ocl, ix a og.1, ?_⟩
      obtain ⟨k1, k2, k3⟩ := hI.cell hW a v
      exact hQ _ _ (by simp only [carry, e]) _ _ k3 Gr.refl ⟨_, _, _, _, _, _, _, k1, k2⟩
    case poke a b =>
      refine ⟨_, rfl, t, _, 1, _, rfl, rfl, SqT.of ht, atI_nat (j := 1) rfl, _, rfl, _, _, _, _, _, rfl, om, T.c_Machine, T.n_Machine_cells, rfl, _, rfl, t, _, 2, _, rfl, rfl, SqT.of ht, atI_nat (j := 2) rfl, cl, _, _, _, rfl, rfl, SqL.of hI.ocl, at_ b og.2, ?_⟩
      refine ⟨_, rfl, t, _, 0, _, rfl, rfl, SqT.of ht, atI_nat (j := 0) rfl, rfl, _, rfl, ite_f (by rfl) ?_⟩
      refine ⟨_, rfl, t, _, 0, _, rfl, rfl, SqT.of ht, atI_nat (j := 0) rfl, rfl, _, rfl, ite_f (by rfl) ?_⟩
      refine ⟨_, rfl, t, _, 0, _, rfl, rfl, SqT.of ht, atI_nat (j := 0) rfl, rfl, _, rfl, ite_f (by rfl) ?_⟩
      refine ⟨_, rfl, _, _, _, _, _, rfl, om, T.c_Machine, T.n_Machine_ways, rfl, wa, dw, _, rfl, ow, rfl, _, rfl, _, rfl, _, _, _, _, _, rfl, om, T.c_Machine, T.n_Machine_cells, rfl, _, rfl, cl, _, _, _, rfl, rfl, SqL.of hI.ocl, at_ a og.1, wa, c, W, F, M.get b, M.get a, rfl, hW, gW.g, (get_w gM og.1).1, fun W1 e H1 F1 b1 g1 hW1 => ?_, fun f e => hE f (by simp only [carry, e])⟩
      exact hQ _ _ (by simp only [carry, e]) _ _ (b1.gr hI.gf) (hI.grW g1) ⟨_, _, _, _, _, _, _, hI.way hW b1 g1 hW1, hW1⟩
theorem sc_Machine_tell_way : FnScope ["self", "order", "a"] ["self", "order"] d_Machine_tell_way.scope := ⟨rfl, rfl, rfl, by decide +kernel, rfl, by decide +kernel, by decide +kernel⟩
def sp_Machine_tell_way (K : PySem.W.Frag) : Sp := fun vs H Q _ => ∃ x wa c M W G t o, vs = [.ref x, .ref t] ∧ MacAt K H x wa c M W G ∧ GoodC c ∧ GoodM c M ∧ GoodW c W ∧ H t = some (.tup (Ord.vs o)) ∧ o.good ∧ o.isGo = false ∧ o.isReck = false ∧ o.isCarry = false ∧
  MP K H x wa c G (tellWay c M W o).1 (tellWay c M W o).2 fun H' _ => Q .non H'
theorem ok_Machine_tell_way (T : Txt K mg) : Ok P w K mg base CX0 7 d_Machine_tell_way ["self", "order"] (sp_Machine_tell_way K) := by
  refine ok_no T.f_Machine_tell_way sc_Machine_tell_way rfl (fun _ _ _ _ _ _ us hl => match us, hl with | [_, _], _ => rfl) (fun vs H Q E h => ?_) (fun cdv A outer s H vs Q E hr h => ?_)
  · obtain ⟨x, wa, c, M, W, G, t, o, rfl, _⟩ := h
    rfl
  · obtain ⟨x, wa, c, M, W, G, t, o, rfl, hM, gC, gM, gW, ht, og, oi1, oi2, oi3, hQ⟩ := h
    obtain ⟨od, cl, nt, fa, ts, es, F, hI, hW⟩ := hM
    obtain ⟨dx, om⟩ := id hI.om
    obtain ⟨dw, mw, shw, rpw, ow⟩ := hW.inst
    have O1 : Ok P w K mg base CX0 2 d_Plain_turn_root ["self", "root"] (sp_Plain_turn_root K) := ok_Plain_turn_root T
    have O2 : Ok P w K mg base CX0 3 d_Plain_drop ["self", "place"] (sp_Plain_drop K) := ok_Plain_drop T
    have O3 : Ok P w K mg base CX0 6 d_Plain_give ["self", "page"] (sp_Plain_give K) := ok_Plain_give T
    have O4 : Ok P w K mg base CX0 6 d_Plain_want ["self", "page"] (sp_Plain_want K) := ok_Plain_want T
    have h2 := hr.mono (show 2 ≤ 6 by decide)
    have h3 := hr.mono (show 3 ≤ 6 by decide)
    have nd := sc_Machine_tell_way.nd
    refine ⟨_, pss_cons (ps_set (i := 2) nd rfl (.inl rfl) (pe_ix ix_tup (pv 1) pe_int (fun _ _ => rfl)))
      (pss_one (ps_if (pt_cmpR op_eq (pe_ix ix_tup (pv 1) pe_int (fun _ _ => rfl)) pe_str (nomark _)) (pss_one (ps_expr (pe_m O1 (pe_fld (pv 0) rfl) T.c_Plain T.m_Plain_turn_root h2 pass0 (pa_cons (pe_ix ix_list (pe_fld (pv 0) rfl) (pv 2) (fun _ _ => rfl)) pa_nil))))
        (pss_one (ps_if (pt_cmpR op_eq (pe_ix ix_tup (pv 1) pe_int (fun _ _ => rfl)) pe_str (nomark _)) (pss_one (ps_expr (pe_m O2 (pe_fld (pv 0) rfl) T.c_Plain T.m_Plain_drop h3 pass0 (pa_cons (pe_ix ix_list (pe_fld (pv 0) rfl) (pv 2) (fun _ _ => rfl)) pa_nil))))
        (pss_one (ps_if (pt_cmpR op_eq (pe_ix ix_tup (pv 1) pe_int (fun _ _ => rfl)) pe_str (nomark _)) (pss_one (ps_asg (pe_callTy (T := "int") call_int1 (by rfl) T.b_int (by decide +kernel) (pa_cons (pe_m O3 (pe_fld (pv 0) rfl) T.c_Plain T.m_Plain_give hr pass0 (pa_cons (pe_ix ix_list (pe_fld (pv 0) rfl) (pv 2) (fun _ _ => rfl)) pa_nil)) pa_nil)) (pg_sub (pe_fld (pv 0) rfl) (pv 2) set_list)))
          (pss_one (ps_asg (pe_callTy (T := "int") call_int1 (by rfl) T.b_int (by decide +kernel) (pa_cons (pe_m O4 (pe_fld (pv 0) rfl) T.c_Plain T.m_Plain_want hr pass0 (pa_cons (pe_ix ix_list (pe_fld (pv 0) rfl) (pv 2) (fun _ _ => rfl)) pa_nil)) pa_nil)) (pg_sub (pe_fld (pv 0) rfl) (pv 2) set_list))))))))), ?_⟩
    have at_ : ∀ a, isR a → atI (M.cells.map V.int) a = some (.int (M.get a)) := fun a ha => atI_int ha.1 (by rw [List.getElem?_map, (get_w gM ha).2]; rfl)
    have ix : ∀ a, isR a → ixN (M.cells.map V.int).length a = some a.toNat := fun a ha => ixN_int ha.1 (by rw [List.length_map, gM.cl]; exact ha.2)
    cases o <;> first | (exact absurd oi1.symm Bool.false_ne_true) | (exact absurd oi2.symm Bool.false_ne_true) | (exact absurd oi3.symm Bool.false_ne_true) | skip
    case root a =>
      refine ⟨_, rfl, t, _, 1, _, rfl, rfl, SqT.of ht, atI_nat (j := 1) rfl, ?_⟩
      refine ⟨_, rfl, t, _, 0, _, rfl, rfl, SqT.of ht, atI_nat (j := 0) rfl, rfl, _, rfl, ite_t (by rfl) ?_⟩
      refine ⟨_, rfl, _, _, _, _, _, rfl, om, T.c_Machine, T.n_Machine_ways, rfl, wa, dw, _, rfl, ow, rfl, _, rfl, _, _, _, _, _, rfl, om, T.c_Machine, T.n_Machine_cells, rfl, _, rfl, cl, _, _, _, rfl, rfl, SqL.of hI.ocl, at_ a og, wa, c, W, F, M.get a, rfl, hW, fun H1 F1 b1 g1 hW1 => ?_⟩
      exact hQ _ _ (b1.gr hI.gf) (hI.grW g1) ⟨_, _, _, _, _, _, _, hI.way hW b1 g1 hW1, hW1⟩
    case drop a =>
      refine ⟨_, rfl, t, _, 1, _, rfl, rfl, SqT.of ht, atI_nat (j := 1) rfl, ?_⟩
      refine ⟨_, rfl, t, _, 0, _, rfl, rfl, SqT.of ht, atI_nat (j := 0) rfl, rfl, _, rfl, ite_f (by rfl) ?_⟩
      refine ⟨_, rfl, t, _, 0, _, rfl, rfl, SqT.of ht, atI_nat (j := 0) rfl, rfl, _, rfl, ite_t (by rfl) ?_⟩
      refine ⟨_, rfl, _, _, _, _, _, rfl, om, T.c_Machine, T.n_Machine_ways, rfl, wa, dw, _, rfl, ow, rfl, _, rfl, _, _, _, _, _, rfl, om, T.c_Machine, T.n_Machine_cells, rfl, _, rfl, cl, _, _, _, rfl, rfl, SqL.of hI.ocl, at_ a og, wa, c, W, F, M.get a, rfl, hW, (by have := gW.ln; have := gC.m1; omega), fun H1 F1 b1 g1 hW1 => ?_⟩
      exact hQ _ _ (b1.gr hI.gf) (hI.grW g1) ⟨_, _, _, _, _, _, _, hI.way hW b1 g1 hW1, hW1⟩
    case give a =>
      refine ⟨_, rfl, t, _, 1, _, rfl, rfl, SqT.of ht, atI_nat (j := 1) rfl, ?_⟩
      refine ⟨_, rfl, t, _, 0, _, rfl, rfl, SqT.of ht, atI_nat (j := 0) rfl, rfl, _, rfl, ite_f (by rfl) ?_⟩
      refine ⟨_, rfl, t, _, 0, _, rfl, rfl, SqT.of ht, atI_nat (j := 0) rfl, rfl, _, rfl, ite_f (by rfl) ?_⟩
      refine ⟨_, rfl, t, _, 0, _, rfl, rfl, SqT.of ht, atI_nat (j := 0) rfl, rfl, _, rfl, ite_t (by rfl) ?_⟩
      refine ⟨_, rfl, _, _, _, _, _, rfl, om, T.c_Machine, T.n_Machine_ways, rfl, wa, dw, _, rfl, ow, rfl, _, rfl, _, _, _, _, _, rfl, om, T.c_Machine, T.n_Machine_cells, rfl, _, rfl, cl, _, _, _, rfl, rfl, SqL.of hI.ocl, at_ a og, wa, c, W, F, M.get a, rfl, hW, fun H1 F1 b1 g1 hW1 => .inr ⟨_, rfl, ?_⟩⟩
      have h1 := hI.way hW b1 g1 hW1
      obtain ⟨dx1, om1⟩ := id h1.om
      refine ⟨_, rfl, _, _, _, _, _, rfl, om1, T.c_Machine, T.n_Machine_cells, rfl, _, rfl, cl, _, _, _, rfl, rfl, h1.ocl, ix a og, ?_⟩
      obtain ⟨k1, k2, k3⟩ := h1.cell hW1 a (b2n (wgive W (M.get a)).1)
      exact hQ _ _ ((b1.gr hI.gf).trans (hI.grW g1) k3) (hI.grW g1) ⟨_, _, _, _, _, _, _, k1, k2⟩
    case want a =>
      refine ⟨_, rfl, t, _, 1, _, rfl, rfl, SqT.of ht, atI_nat (j := 1) rfl, ?_⟩
      refine ⟨_, rfl, t, _, 0, _, rfl, rfl, SqT.of ht, atI_nat (j := 0) rfl, rfl, _, rfl, ite_f (by rfl) ?_⟩
      refine ⟨_, rfl, t, _, 0, _, rfl, rfl, SqT.of ht, atI_nat (j := 0) rfl, rfl, _, rfl, ite_f (by rfl) ?_⟩
      refine ⟨_, rfl, t, _, 0, _, rfl, rfl, SqT.of ht, atI_nat (j := 0) rfl, rfl, _, rfl, ite_f (by rfl) ?_⟩
      refine ⟨_, rfl, _, _, _, _, _, rfl, om, T.c_Machine, T.n_Machine_ways, rfl, wa, dw, _, rfl, ow, rfl, _, rfl, _, _, _, _, _, rfl, om, T.c_Machine, T.n_Machine_cells, rfl, _, rfl, cl, _, _, _, rfl, rfl, SqL.of hI.ocl, at_ a og, wa, c, W, F, M.get a, rfl, hW, (get_w gM og).1.1, gW.hd, fun H1 F1 b1 g1 hW1 => .inr ⟨_, rfl, ?_⟩⟩
      have h1 := hI.way hW b1 g1 hW1
      obtain ⟨dx1, om1⟩ := id h1.om
      refine ⟨_, rfl, _, _, _, _, _, rfl, om1, T.c_Machine, T.n_Machine_cells, rfl, _, rfl, cl, _, _, _, rfl, rfl, h1.ocl, ix a og, ?_⟩
      obtain ⟨k1, k2, k3⟩ := h1.cell hW1 a (b2n (wwant c.replies W (M.get a)).1)
      exact hQ _ _ ((b1.gr hI.gf).trans (hI.grW g1) k3) (hI.grW g1) ⟨_, _, _, _, _, _, _, k1, k2⟩
end
end M35

/-! ## text A13 -/
set_option maxHeartbeats 4000000
namespace M35
open PySem PySem.Spec PyProof.Rows L2

/-! # a step -/
theorem takes0N {X : Cx} : L2N.Takes X (fun _ _ _ _ => False) := fun _ _ x => by
  obtain ⟨_, _, _, _, _, _, _, _, _, _, _, _, _, _, _, _, z⟩ := x
  exact z.elim
/-- c and not e -/
theorem and_ke {c kn : Bool} {te : TE} {σ : L2.St} {H : Hp} {Q : Bool → Hp → Prop} (he : ∀ Q' : VK, Q' (.bl kn) H → te σ H Q') (h : Q (c && !kn) H) : if c = true then tNot (tB te) σ H Q else Q false H := by
  cases c with
  | false => exact iteF h
  | true => exact iteT (he _ ⟨kn, rfl, h⟩)
theorem MacAt.cnt {K : PySem.W.Frag} {H : Hp} {x wa : Addr} {c : Cfg} {M : Mc} {W : Wy} {G : Addr → Prop} (h : MacAt K H x wa c M W G) : ∃ od cl nt fa dx, H x = some (.ins (cMach K) dx (mF wa od c.door cl M.counter M.ruling fa M.stopped nt)) ∧
    MacAt K (upd H x (.ins (cMach K) dx (mF wa od c.door cl (M.counter + 1) M.ruling fa M.stopped nt))) x wa c M.nxt W G ∧ But G H (upd H x (.ins (cMach K) dx (mF wa od c.door cl (M.counter + 1) M.ruling fa M.stopped nt))) := by
  obtain ⟨od, cl, nt, fa, ts, es, F, hI, hW⟩ := h
  obtain ⟨dx, om⟩ := id hI.om
  obtain ⟨h1, h2, h3⟩ := hI.fld (dx := dx) hW M.nxt (Same.refl _) rfl rfl hI.ofa
  exact ⟨od, cl, nt, fa, dx, om, ⟨_, _, _, _, _, _, _, h1, h2⟩, h3⟩
section
variable {P : Program} {w : World} {K : PySem.W.Frag} {mg : Str → Option Value} {base : Heap}
theorem kinds_in {o : Ord} : inV (.str o.word) [.str "jump", .str "nought", .str "user", .str "back", .str "past", .str "halt", .str "call"] = o.isGo := by cases o <;> rfl
theorem reck_in {o : Ord} : inV (.str o.word) [.str "set", .str "add", .str "both", .str "odd", .str "tell", .str "why"] = o.isReck := by cases o <;> rfl
theorem carry_in {o : Ord} : inV (.str o.word) [.str "load", .str "save", .str "peek", .str "poke"] = o.isCarry := by cases o <;> rfl
theorem sc_Machine_do : FnScope ["self", "order", "word"] ["self", "order"] d_Machine_do.scope := ⟨rfl, rfl, rfl, by decide +kernel, rfl, by decide +kernel, by decide +kernel⟩
def sp_Machine_do (K : PySem.W.Frag) : Sp := fun vs H Q E => ∃ x wa c M W G t o, vs = [.ref x, .ref t] ∧ MacAt K H x wa c M W G ∧ GoodC c ∧ GoodM c M ∧ GoodW c W ∧ M.notes.length ≤ 1000 ∧ H t = some (.tup (Ord.vs o)) ∧ o.good ∧
  (∀ M' W', doOrd c M W o = .ok (M', W') → MP K H x wa c G M' W' fun H' _ => Q .non H') ∧ (∀ f, doOrd c M W o = .error f → FE K E H f)
theorem ok_Machine_do (T : Txt K mg) : Ok P w K mg base (L2N.CX P w) 12 d_Machine_do ["self", "order"] (sp_Machine_do K) := by
  refine ok_mk T.f_Machine_do sc_Machine_do rfl (fun _ _ _ _ _ _ us hl => match us, hl with | [_, _], _ => rfl) (fun vs H Q E h => ?_) (fun cdv A outer s H vs Q E hr h => ?_)
  · obtain ⟨x, wa, c, M, W, G, t, o, rfl, _⟩ := h
    rfl
  · obtain ⟨x, wa, c, M, W, G, t, o, rfl, hM, gC, gM, gW, nl, ht, og, hQ, hE⟩ := h
    have hM0 := hM
    obtain ⟨od, cl, nt, fa, ts, es, F, hI, hW⟩ := hM
    obtain ⟨dx, om⟩ := id hI.om
    obtain ⟨ox, _, _, _, _, iC, tI⟩ := T.oex
    have O1 : Ok P w K mg base CX0 1 d_is_inner ["word"] sp_is_inner := ok_is_inner T
    have O2 : Ok P w K mg base (L2N.CX P w) 3 d_Machine_go ["self", "order"] (sp_Machine_go K) := ok_Machine_go T
    have O3 : Ok P w K mg base CX0 1 d_Fault_init ["self", "kind", "place", "level"] (sp_Fault_init K) := ok_Fault_init T
    have O4 : Ok P w K mg base CX0 2 d_Machine_reckon ["self", "order"] (sp_Machine_reckon K) := ok_Machine_reckon T
    have O5 : Ok P w K mg base (L2N.CX P w) 11 d_Machine_carry_word ["self", "order"] (sp_Machine_carry_word K) := ok_Machine_carry_word T
    have O6 : Ok P w K mg base CX0 7 d_Machine_tell_way ["self", "order"] (sp_Machine_tell_way K) := ok_Machine_tell_way T
    have nd := sc_Machine_do.nd
    have h1 := hr.mono (show 1 ≤ 11 by decide)
    have h2 := hr.mono (show 2 ≤ 11 by decide)
    have h3 := hr.mono (show 3 ≤ 11 by decide)
    have h7 := hr.mono (show 7 ≤ 11 by decide)
    refine ⟨_, pss_cons (ps_set (i := 2) nd rfl (.inl rfl) (pe_ix ix_tup (pv 1) pe_int (fun _ _ => rfl)))
      (pss_cons (ps_if (PW.pt (pw_and (pt_val (pe_c O1 h1 rfl T.g_is_inner pass0 (pa_cons (pv 2) pa_nil))) (pw_and1 (pt_not (pt_val (pe_fld (pv 0) rfl)))))) (pss_one (L2N.ps_raise rfl takesN (pmk_own2 (d := d_Fault_init) ox iC tI O3 h2 rfl T.g_Fault (pa_cons pe_str (pa_cons pe_int (pa_cons pe_int pa_nil)))))) pss_nil)
      (pss_cons (ps_if (pt_cmpR op_in_seq (pv 2) (pe_tup (pa_cons pe_str (pa_cons pe_str (pa_cons pe_str (pa_cons pe_str (pa_cons pe_str (pa_cons pe_str (pa_cons pe_str pa_nil)))))))) (by rfl)) (pss_cons (ps_expr (pe_m O2 (pv 0) T.c_Machine T.m_Machine_go h3 passN (pa_cons (pv 1) pa_nil))) (pss_one ps_retN)) pss_nil)
      (pss_cons (ps_if (pt_cmpR op_in_seq (pv 2) (pe_tup (pa_cons pe_str (pa_cons pe_str (pa_cons pe_str (pa_cons pe_str (pa_cons pe_str (pa_cons pe_str pa_nil))))))) (by rfl)) (pss_one (ps_expr (pe_m O4 (pv 0) T.c_Machine T.m_Machine_reckon h2 pass0 (pa_cons (pv 1) pa_nil))))
        (pss_one (ps_if (pt_cmpR op_in_seq (pv 2) (pe_tup (pa_cons pe_str (pa_cons pe_str (pa_cons pe_str (pa_cons pe_str pa_nil))))) (by rfl)) (pss_one (ps_expr (pe_m O5 (pv 0) T.c_Machine T.m_Machine_carry_word hr passN (pa_cons (pv 1) pa_nil))))
          (pss_one (ps_expr (pe_m O6 (pv 0) T.c_Machine T.m_Machine_tell_way h7 pass0 (pa_cons (pv 1) pa_nil)))))))
      (pss_one (ps_fld (pv 0) (pe_op op_add (pe_fld (pv 0) rfl) pe_int) rfl))))), ?_⟩
    have e0 : atI (Ord.vs o) (0 : Int) = some (.str o.word) := atI_nat (j := 0) (by rw [Ord.vs_eq]; rfl)
    refine ⟨_, rfl, t, _, 0, _, rfl, rfl, SqT.of ht, e0, ?_⟩
    have du : doOrd c M W o = if (o.inner && !M.ruling) = true then .error ⟨"deed", 0, 0⟩
        else if o.isGo = true then (match goOrd M o with
          | .error f => .error f
          | .ok M1 => .ok (M1, W))
        else if o.isReck = true then .ok ((reckon M o).nxt, W)
        else if o.isCarry = true then (match carry c M W o with
          | .error f => .error f
          | .ok (M1, W1) => .ok (M1.nxt, W1))
        else .ok ((tellWay c M W o).1.nxt, (tellWay c M W o).2) := rfl
    rw [du] at hQ hE
    have hE2 := hE
    refine ⟨_, rfl, o, rfl, fun H1 s1 => ?_⟩
    have om1 := s1 _ _ om
    refine ⟨_, rfl, and_ke (fun Q' q => ⟨_, rfl, _, _, _, _, _, rfl, om1, T.c_Machine, T.n_Machine_ruling, rfl, q⟩) (ite_b (fun e1 => ?_) (fun e1 => ?_))⟩
    · exact mk_fault (f := ⟨"deed", 0, 0⟩) ((hE _ (if_pos e1)).mono s1)
    have n1 : ¬ (o.inner && !M.ruling) = true := by rw [e1]; exact Bool.false_ne_true
    rw [if_neg n1] at hQ hE
    refine ⟨_, rfl, (by decide), fun p hp => ⟨p, _, rfl, .inr (SqT.of upd_same), rfl, rfl, _, rfl, ?_⟩⟩
    have s2 := Same.up (o := .tup [.str "jump", .str "nought", .str "user", .str "back", .str "past", .str "halt", .str "call"]) s1 hp
    have om2 := s2 _ _ om
    cases e2 : o.isGo with
    | true =>
      rw [if_pos e2] at hQ hE
      refine ite_t (kinds_in.trans e2) ?_
      refine ⟨_, rfl, x, dx, _, rfl, om2, rfl, _, rfl, x, wa, c, M, W, G, t, o, rfl, hM0.same s2, gM, s2 _ _ ht, og, e2, fun M1 e => ?_, fun f e => ?_⟩
      · exact (hQ M1 W (by rw [e])).same s2
      · exact (hE f (by rw [e])).mono s2
    | false =>
      rw [if_neg (by rw [e2]; exact Bool.false_ne_true)] at hQ hE
      refine ite_f (kinds_in.trans e2) ?_
      refine ⟨_, rfl, (by decide), fun p3 hp3 => ⟨p3, _, rfl, .inr (SqT.of upd_same), rfl, rfl, _, rfl, ?_⟩⟩
      have s3 := Same.up (o := .tup [.str "set", .str "add", .str "both", .str "odd", .str "tell", .str "why"]) s2 hp3
      have om3 := s3 _ _ om
      cases e3 : o.isReck with
      | true =>
        rw [if_pos e3] at hQ hE
        refine ite_t (reck_in.trans e3) ?_
        refine ⟨_, rfl, x, dx, _, rfl, om3, rfl, _, rfl, x, wa, c, M, W, G, t, o, rfl, hM0.same s3, gM, nl, s3 _ _ ht, og, e3, fun H4 G4 b4 g4 hM4 => ?_⟩
        obtain ⟨od4, cl4, nt4, fa4, dx4, om4, k4, bb4⟩ := hM4.cnt
        exact ⟨_, rfl, _, _, _, _, _, rfl, om4, T.c_Machine, T.n_Machine_counter, rfl, _, _, rfl, rfl, _, rfl, x, _, dx4, _, rfl, om4, T.c_Machine, T.n_Machine_counter, (by show 9 < 1000; decide), (((hQ _ _ rfl).same s3).seq b4 g4) _ G4 bb4 Gr.refl k4⟩
      | false =>
        rw [if_neg (by rw [e3]; exact Bool.false_ne_true)] at hQ hE
        refine ite_f (reck_in.trans e3) ?_
        refine ⟨_, rfl, (by decide), fun p4 hp4 => ⟨p4, _, rfl, .inr (SqT.of upd_same), rfl, rfl, _, rfl, ?_⟩⟩
        have s4 := Same.up (o := .tup [.str "load", .str "save", .str "peek", .str "poke"]) s3 hp4
        have om4 := s4 _ _ om
        cases e4 : o.isCarry with
        | true =>
          rw [if_pos e4] at hQ hE
          refine ite_t (carry_in.trans e4) ?_
          refine ⟨_, rfl, x, dx, _, rfl, om4, rfl, _, rfl, x, wa, c, M, W, G, t, o, rfl, hM0.same s4, gC, gM, gW, s4 _ _ ht, og, e4, fun M1 W1 e H5 G5 b5 g5 hM5 => ?_, fun f e => ?_⟩
          · obtain ⟨od5, cl5, nt5, fa5, dx5, om5, k5, bb5⟩ := hM5.cnt
            exact ⟨_, rfl, _, _, _, _, _, rfl, om5, T.c_Machine, T.n_Machine_counter, rfl, _, _, rfl, rfl, _, rfl, x, _, dx5, _, rfl, om5, T.c_Machine, T.n_Machine_counter, (by show 9 < 1000; decide), (((hQ _ _ (by rw [e])).same s4).seq b5 g5) _ G5 bb5 Gr.refl k5⟩
          · exact (hE f (by rw [e])).mono s4
        | false =>
          rw [if_neg (by rw [e4]; exact Bool.false_ne_true)] at hQ hE
          refine ite_f (carry_in.trans e4) ?_
          refine ⟨_, rfl, x, dx, _, rfl, om4, rfl, _, rfl, x, wa, c, M, W, G, t, o, rfl, hM0.same s4, gC, gM, gW, s4 _ _ ht, og, e2, e3, e4, fun H5 G5 b5 g5 hM5 => ?_⟩
          obtain ⟨od5, cl5, nt5, fa5, dx5, om5, k5, bb5⟩ := hM5.cnt
          exact ⟨_, rfl, _, _, _, _, _, rfl, om5, T.c_Machine, T.n_Machine_counter, rfl, _, _, rfl, rfl, _, rfl, x, _, dx5, _, rfl, om5, T.c_Machine, T.n_Machine_counter, (by show 9 < 1000; decide), (((hQ _ _ rfl).same s4).seq b5 g5) _ G5 bb5 Gr.refl k5⟩
theorem sc_Machine_fall : FnScope ["self", "kind", "place", "level"] ["self", "kind", "place", "level"] d_Machine_fall.scope := ⟨rfl, rfl, rfl, by decide +kernel, rfl, by decide +kernel, by decide +kernel⟩
def sp_Machine_fall (K : PySem.W.Frag) : Sp := fun vs H Q _ => ∃ x wa c M W G f, vs = [.ref x, .str (Flt.kind f), .int f.place, .int f.level] ∧ MacAt K H x wa c M W G ∧ M.notes.length ≤ 1000 ∧ f.kind ∈ kindsL ∧ MP K H x wa c G (fall c.door M f) W fun H' _ => Q .non H'
theorem ok_Machine_fall (T : Txt K mg) : OkH P w K mg base 2 d_Machine_fall ["self", "kind", "place", "level"] (sp_Machine_fall K) := by
  refine okH_mk T.f_Machine_fall sc_Machine_fall rfl (fun _ _ _ _ _ _ us hl => match us, hl with | [_, _, _, _], _ => rfl) (fun vs H Q E h => ?_) (fun cdv A outer s H vs Q E p hot hr h => ?_)
  · obtain ⟨x, wa, c, M, W, G, f, rfl, _⟩ := h
    rfl
  · obtain ⟨x, wa, c, M, W, G, f, rfl, hM, nl, hk, hQ⟩ := h
    have hM0 := hM
    obtain ⟨od, cl, nt, fa, ts, es, F, hI, hW⟩ := hM
    obtain ⟨dx, om⟩ := id hI.om
    have O1 : OkH P w K mg base 1 d_kind_number ["kind"] sp_kind_number := ok_kind_number T
    have nd := sc_Machine_fall.nd
    refine ⟨_, pss_cons (ps_expr (pe_bm PySem.F.plainAttrs_list PySem.F.slot_list_append PySem.F.type_list_append mt_append (pe_fld (pv 0) rfl) (pa_cons (pe_tup (pa_cons pe_str (pa_cons (pv 1) (pa_cons (pv 2) (pa_cons (pv 3) (pa_cons (pe_fld (pv 0) rfl) pa_nil)))))) pa_nil)))
      (pss_cons (ps_fld (pv 0) (pe_tup (pa_cons (pe_cH O1 hr ⟨p, hot, List.mem_cons_self⟩ rfl T.g_kind_number (pa_cons (pv 1) pa_nil)) (pa_cons (pv 2) (pa_cons (pe_fld (pv 0) rfl) (pa_cons (pe_fld (pv 0) rfl) pa_nil))))) rfl)
      (pss_cons (ps_fld (pv 0) pe_bl rfl) (pss_one (ps_fld (pv 0) (pe_fld (pv 0) rfl) rfl)))), ?_⟩
    have nine : (mF wa od c.door cl M.counter M.ruling fa M.stopped nt).length < 1000 := by show 9 < 1000; decide
    refine ⟨_, rfl, _, _, _, _, _, rfl, om, T.c_Machine, T.n_Machine_notes, rfl, .inl ⟨rfl, _, SqL.of hI.ont⟩, _, rfl, _, rfl, _, rfl, _, rfl, _, _, _, _, _, rfl, om, T.c_Machine, T.n_Machine_counter, rfl, (by show 5 ≤ sizeLine; decide), fun e he => ?_⟩
    have s1 : Same H (upd H e (.tup (Ev.fault f.kind f.place f.level M.counter).vs)) := same_new he
    obtain ⟨h1, w1, b1⟩ := hI.note (ev := .fault f.kind f.place f.level M.counter) hW s1 upd_same
    obtain ⟨dx1, om1⟩ := id h1.om
    refine ⟨nt, _, _, rfl, rfl, s1 _ _ hI.ont, ?_, ?_⟩
    · rw [List.length_map, hI.evr.len]
      exact Nat.lt_of_le_of_lt nl (by decide)
    refine ⟨_, rfl, _, rfl, hk, _, rfl, _, rfl, _, _, _, _, _, rfl, om1, T.c_Machine, T.n_Machine_counter, rfl, _, rfl, _, _, _, _, _, rfl, om1, T.c_Machine, T.n_Machine_ruling, rfl, (by show 4 ≤ sizeLine; decide), fun q hq => ?_⟩
    have s2 := same_new (o := .tup (flV (kindNum f.kind, f.place, M.counter, M.ruling))) hq
    refine ⟨_, rfl, x, _, dx1, _, rfl, s2 _ _ om1, T.c_Machine, T.n_Machine_fallen, nine, ?_⟩
    obtain ⟨h2, w2, b2⟩ := h1.fld (dx := dx1) w1 { M with notes := M.notes ++ [.fault f.kind f.place f.level M.counter], fallen := (kindNum f.kind, f.place, M.counter, M.ruling) } s2 rfl rfl upd_same
    refine ⟨_, rfl, x, _, dx1, _, rfl, upd_same, T.c_Machine, T.n_Machine_ruling, nine, ?_⟩
    obtain ⟨h3, w3, b3⟩ := h2.fld (dx := dx1) w2 { M with notes := M.notes ++ [.fault f.kind f.place f.level M.counter], fallen := (kindNum f.kind, f.place, M.counter, M.ruling), ruling := true } (Same.refl _) rfl rfl h2.ofa
    refine ⟨_, rfl, _, _, _, _, _, rfl, upd_same, T.c_Machine, T.n_Machine_door, rfl, _, rfl, x, _, dx1, _, rfl, upd_same, T.c_Machine, T.n_Machine_counter, nine, ?_⟩
    obtain ⟨h4, w4, b4⟩ := h3.fld (dx := dx1) w3 (fall c.door M f) (Same.refl _) rfl rfl h3.ofa
    exact hQ _ G (((b1.trans Gr.refl b2).trans Gr.refl b3).trans Gr.refl b4) Gr.refl ⟨_, _, _, _, _, _, _, h4, w4⟩
theorem sc_Machine_step : FnScope ["self", "order", "e"] ["self"] d_Machine_step.scope := ⟨rfl, rfl, rfl, by decide +kernel, rfl, by decide +kernel, by decide +kernel⟩
def sp_Machine_step (K : PySem.W.Frag) : Sp := fun vs H Q _ => ∃ x wa c M W G, vs = [.ref x] ∧ MacAt K H x wa c M W G ∧ GoodC c ∧ GoodM c M ∧ GoodW c W ∧ M.notes.length ≤ 1000 ∧ M.counter < (c.orders.length : Int) ∧ MP K H x wa c G (step c (M, W)).1 (step c (M, W)).2 fun H' _ => Q .non H'
theorem ok_Machine_step (T : Txt K mg) : Ok P w K mg base CX0 13 d_Machine_step ["self"] (sp_Machine_step K) := by
  refine ok_no T.f_Machine_step sc_Machine_step rfl (fun _ _ _ _ _ _ us hl => match us, hl with | [_], _ => rfl) (fun vs H Q E h => ?_) (fun cdv A outer s H vs Q E hr h => ?_)
  · obtain ⟨x, wa, c, M, W, G, rfl, _⟩ := h
    rfl
  · obtain ⟨x, wa, c, M, W, G, rfl, hM, gC, gM, gW, nl, lt, hQ⟩ := h
    have hM0 := hM
    obtain ⟨od, cl, nt, fa, ts, es, F, hI, hW⟩ := hM
    obtain ⟨dx, om⟩ := id hI.om
    obtain ⟨ox, xf, f1, f2, f3, iC, tI⟩ := T.oex
    have O1 : Ok P w K mg base (L2N.CX P w) 12 d_Machine_do ["self", "order"] (sp_Machine_do K) := ok_Machine_do T
    have O2 : OkH P w K mg base 2 d_Machine_fall ["self", "kind", "place", "level"] (sp_Machine_fall K) := ok_Machine_fall T
    have nd := sc_Machine_step.nd
    have hrH : L2H.RoomH 2 (A.deeper (envOfC d_Machine_step.qual d_Machine_step.scope s.heap.objs.size (He.fAd K d_Machine_step.at_) cdv)) := L2H.roomH_of (hr.mono (by decide))
    refine ⟨_, pss_cons (ps_set (i := 1) nd rfl (.inl rfl) (pe_ix ix_list (pe_fld (pv 0) rfl) (pe_fld (pv 0) rfl) (fun _ _ => rfl)))
      (pss_cons (L2N.ps_try_as (i := 2) (Wout := fun _ _ _ _ => False) rfl rfl nd rfl rfl ⟨rfl, by decide, .inl T.g_Fault⟩ takes0N
          (fun Wt pn xe tk _ => pss_one (ps_expr (pe_mE O1 (pv 0) T.c_Machine T.m_Machine_do hr (fun σ => L2N.passAt tk σ) (pa_cons (pv 1) pa_nil))))
          (fun a oe cls d pn hz hf => pss_one (ps_expr (pe_mH O2 (pv 0) T.c_Machine T.m_Machine_fall ⟨hrH.dp, hrH.un⟩ ⟨(a, oe), ⟨rfl, (let ⟨vs, e⟩ := hf; ⟨vs, e, hz.2.2 vs e⟩)⟩, List.mem_cons_self⟩
            (pa_cons (pe_xf xf f1 hz.zc hf (pv 2)) (pa_cons (pe_xf xf f2 hz.zc hf (pv 2)) (pa_cons (pe_xf xf f3 hz.zc hf (pv 2)) pa_nil)))))))
      (pss_one (ps_if (pt_cmpR op_ge (pe_fld (pv 0) rfl) (pe_callB call_len_seq (by rfl) T.b_len (by decide +kernel) (pa_cons (pe_fld (pv 0) rfl) pa_nil)) (nomark _)) (pss_one (ps_fld (pv 0) pe_bl rfl)) pss_nil))), ?_⟩
    have hlt : M.counter.toNat < c.orders.length := by
      have := gM.c0
      omega
    obtain ⟨t, e1, e2⟩ := hI.odr.at_ _ _ (List.getElem?_eq_getElem hlt)
    have e3 : atI (ts.map V.ref) M.counter = some (.ref t) := atI_int gM.c0 (by rw [List.getElem?_map, e1]; rfl)
    have og : (c.orders[M.counter.toNat]).good := gC.og _ (List.getElem_mem hlt)
    -- behind the try
    have tail : ∀ (H1 : Hp) (G1 : Addr → Prop) (M1 : Mc) (W1 : Wy), MacAt K H1 x wa c M1 W1 G1 → MP K H1 x wa c G1 (fin c.orders.length M1) W1 (fun H' _ => Q .non H') → ∃ od cl nt fa dx ts, H1 x = some (.ins (cMach K) dx (mF wa od c.door cl M1.counter M1.ruling fa M1.stopped nt)) ∧ H1 od = some (.lst ((ts : List Addr).map V.ref)) ∧ ts.length = c.orders.length ∧
        (¬ M1.counter ≥ (c.orders.length : Int) → Q .non H1) ∧ (M1.counter ≥ (c.orders.length : Int) → Q .non (upd H1 x (.ins (cMach K) dx (mF wa od c.door cl M1.counter M1.ruling fa true nt)))) := fun H1 G1 M1 W1 hM1 hq => by
      obtain ⟨od1, cl1, nt1, fa1, ts1, es1, F1, hI1, hW1⟩ := id hM1
      obtain ⟨dx1, om1⟩ := id hI1.om
      refine ⟨od1, cl1, nt1, fa1, dx1, ts1, om1, hI1.ood, hI1.odr.len, fun n => ?_, fun y => ?_⟩
      · have e : fin c.orders.length M1 = M1 := if_neg n
        rw [e] at hq
        exact hq H1 G1 (.of_same (Same.refl _)) Gr.refl hM1
      · have e : fin c.orders.length M1 = { M1 with stopped := true } := if_pos y
        rw [e] at hq
        obtain ⟨h1, h2, h3⟩ := hI1.fld (dx := dx1) hW1 { M1 with stopped := true } (Same.refl _) rfl rfl hI1.ofa
        exact hq _ G1 h3 Gr.refl ⟨_, _, _, _, _, _, _, h1, h2⟩
    have est : step c (M, W) = (match doOrd c M W c.orders[M.counter.toNat] with
        | .ok (M1, W1) => (fin c.orders.length M1, W1)
        | .error f => (fin c.orders.length (fall c.door M f), W)) := by
      unfold step
      simp only [List.getElem?_eq_getElem hlt]
      all_goals rfl
    rw [est] at hQ
    refine ⟨_, rfl, _, _, _, _, _, rfl, om, T.c_Machine, T.n_Machine_orders, rfl, _, rfl, _, _, _, _, _, rfl, om, T.c_Machine, T.n_Machine_counter, rfl, od, _, _, _, rfl, rfl, SqL.of hI.ood, e3, ?_⟩
    refine ⟨_, rfl, x, dx, _, rfl, om, rfl, _, rfl, x, wa, c, M, W, G, t, _, rfl, hM0, gC, gM, gW, nl, e2, og, fun M1 W1 e H1 G1 b1 g1 hM1 => ?_, fun f e d H1 s1 dn hd => ?_⟩
    · simp only [e] at hQ
      obtain ⟨od1, cl1, nt1, fa1, dx1, ts1, om1, ood1, tl1, hn, hy⟩ := tail H1 G1 M1 W1 hM1 (hQ.seq b1 g1)
      refine ⟨_, rfl, _, _, _, _, _, rfl, om1, T.c_Machine, T.n_Machine_counter, rfl, _, rfl, _, _, _, _, _, rfl, om1, T.c_Machine, T.n_Machine_orders, rfl, od1, _, rfl, .inl (SqL.of ood1), _, _, rfl, rfl, _, rfl, ite_b (fun q => ?_) (fun q => ?_)⟩
      · have q2 := of_decide_eq_true q
        rw [List.length_map, tl1] at q2
        exact ⟨_, rfl, x, _, dx1, _, rfl, om1, T.c_Machine, T.n_Machine_stopped, (by show 9 < 1000; decide), hy q2⟩
      · have q2 := of_decide_eq_false q
        rw [List.length_map, tl1] at q2
        exact hn q2
    · simp only [e] at hQ
      refine ⟨true, T.x_Fault_Fault, fun _ a ha => ?_, fun z => nomatch z⟩
      have hd2 : H1 d = some (.xd (fltF f)) := hd
      refine ⟨_, rfl, x, dx, _, rfl, s1 _ _ om, rfl, _, rfl, rfl, rfl, d, _, _, rfl, hd2, rfl, _, rfl, rfl, rfl, d, _, _, rfl, hd2, rfl, _, rfl, rfl, rfl, d, _, _, rfl, hd2, rfl, x, wa, c, M, W, G, f, rfl, hM0.same s1, nl, (do_err gM og e).1, fun H2 G2 b2 g2 hM2 => ?_⟩
      obtain ⟨od1, cl1, nt1, fa1, dx1, ts1, om1, ood1, tl1, hn, hy⟩ := tail H2 G2 _ W hM2 ((hQ.same s1).seq b2 g2)
      refine ⟨_, rfl, _, _, _, _, _, rfl, om1, T.c_Machine, T.n_Machine_counter, rfl, _, rfl, _, _, _, _, _, rfl, om1, T.c_Machine, T.n_Machine_orders, rfl, od1, _, rfl, .inl (SqL.of ood1), _, _, rfl, rfl, _, rfl, ite_b (fun q => ?_) (fun q => ?_)⟩
      · have q2 := of_decide_eq_true q
        rw [List.length_map, tl1] at q2
        exact ⟨_, rfl, x, _, dx1, _, rfl, om1, T.c_Machine, T.n_Machine_stopped, (by show 9 < 1000; decide), hy q2⟩
      · have q2 := of_decide_eq_false q
        rw [List.length_map, tl1] at q2
        exact hn q2
end
end M35

/-! ## text A14 -/
set_option maxHeartbeats 4000000
namespace M35
open PySem PySem.Spec PyProof.Rows L2

/-! # turns -/
def CoreV (H : Hp) (a : Addr) (M : Mc) : Prop := ∃ l fa, H a = some (.tup [.ref l, .int M.counter, .bl M.ruling, .ref fa, .bl M.stopped]) ∧ H l = some (.lst (M.cells.map V.int)) ∧ H fa = some (.tup (flV M.fallen))
def ShelfV (H : Hp) (a : Addr) (line : List Row) : Prop := ∃ rows : List Addr, H a = some (.lst (rows.map V.ref)) ∧ RwR H rows line
def PagesV (H : Hp) (a : Addr) (pg : Pg) : Prop := ∃ ps : List (Option Addr), H a = some (.lst (ps.map oV)) ∧ PgV H ps pg
def EvsV (H : Hp) (a : Addr) (evs : List Ev) : Prop := ∃ es : List Addr, H a = some (.lst (es.map V.ref)) ∧ EvR H es evs
def ToldV (H : Hp) (a : Addr) (M : Mc) (W : Wy) : Prop := ∃ a1 a2 a3, H a = some (.tup [.ref a1, .int W.base, .ref a2, .ref a3]) ∧ CoreV H a1 M ∧ ShelfV H a2 W.line ∧ PagesV H a3 W.pages
section
variable {H H' : Hp} {a : Addr}
theorem CoreV.same {M : Mc} (h : CoreV H a M) (s : Same H H') : CoreV H' a M := let ⟨l, fa, e1, e2, e3⟩ := h; ⟨l, fa, s _ _ e1, s _ _ e2, s _ _ e3⟩
theorem ShelfV.same {line : List Row} (h : ShelfV H a line) (s : Same H H') : ShelfV H' a line := let ⟨r, e1, e2⟩ := h; ⟨r, s _ _ e1, e2.keep fun b xs e => s b _ e⟩
theorem PgV.same {ps : List (Option Addr)} {pg : Pg} (h : PgV H ps pg) (s : Same H H') : PgV H' ps pg := ⟨h.len, h.no, fun i l e => let ⟨p, a, b⟩ := h.yes i l e; ⟨p, a, s _ _ b⟩⟩
theorem PagesV.same {pg : Pg} (h : PagesV H a pg) (s : Same H H') : PagesV H' a pg := let ⟨r, e1, e2⟩ := h; ⟨r, s _ _ e1, e2.same s⟩
theorem EvsV.same {evs : List Ev} (h : EvsV H a evs) (s : Same H H') : EvsV H' a evs := let ⟨r, e1, e2⟩ := h; ⟨r, s _ _ e1, e2.keep fun b xs e => s b _ e⟩
theorem ToldV.same {M : Mc} {W : Wy} (h : ToldV H a M W) (s : Same H H') : ToldV H' a M W := let ⟨a1, a2, a3, e, e1, e2, e3⟩ := h; ⟨a1, a2, a3, s _ _ e, e1.same s, e2.same s, e3.same s⟩
end
/-- the counts that are none -/
def badV (v : V) : Prop := wholeV v = false ∨ ∃ i, v = .int i ∧ (i < 0 ∨ 500 < i)
theorem run_one (c : Cfg) (k : Nat) (s : Mc × Wy) (h : (run c k s).1 = k) (hs : (run c k s).2.1.stopped = false) : run c (k + 1) s = (k + 1, step c (run c k s).2) := by
  rw [run_add c k 1 s]
  have e : run c 1 (run c k s).2 = (1, step c (run c k s).2) := by
    simp [run, hs]
  rw [e, h]
theorem run_end (c : Cfg) (k n : Nat) (s : Mc × Wy) (hk : k ≤ n) (h : (run c k s).1 = k) (hs : (run c k s).2.1.stopped = true) : run c n s = (k, (run c k s).2) := by
  have e : n = k + (n - k) := by omega
  rw [e, run_add c k (n - k) s, run_stop c _ hs, h]
  rfl
section
variable {P : Program} {w : World} {K : PySem.W.Frag} {mg : Str → Option Value} {base : Heap}
theorem sc_Machine_turn : FnScope ["self", "steps", "done"] ["self", "steps"] d_Machine_turn.scope := ⟨rfl, rfl, rfl, by decide +kernel, rfl, by decide +kernel, by decide +kernel⟩
def sp_Machine_turn (K : PySem.W.Frag) : Sp := fun vs H Q E => ∃ x wa c M W G v, vs = [.ref x, v] ∧ MacAt K H x wa c M W G ∧ GoodC c ∧ Good c (M, W) ∧
  ((∃ n : Nat, v = .int n ∧ n ≤ 500 ∧ M.notes.length + n ≤ 1000 ∧ MP K H x wa c G (run c n (M, W)).2.1 (run c n (M, W)).2.2 fun H' _ => Q (.int (run c n (M, W)).1) H') ∨ (WhV H v ∧ badV v ∧ E (.ref (He.ga K "NoBound")) none H))
theorem ok_Machine_turn (T : Txt K mg) : Ok P w K mg base (L2N.CX P w) 14 d_Machine_turn ["self", "steps"] (sp_Machine_turn K) := by
  refine ok_mk T.f_Machine_turn sc_Machine_turn rfl (fun _ _ _ _ _ _ us hl => match us, hl with | [_, _], _ => rfl) (fun vs H Q E h => ?_) (fun cdv A outer s H vs Q E hr h => ?_)
  · obtain ⟨x, wa, c, M, W, G, v, rfl, _⟩ := h
    rfl
  · obtain ⟨x, wa, c, M, W, G, v, rfl, hM, gC, gS, hv⟩ := h
    obtain ⟨xN, kN, bN, tN⟩ := T.e_NoBound
    obtain ⟨tm, gm⟩ := T.i_MOST_STEPS
    have O1 : Ok P w K mg base CX0 1 d_is_whole ["thing"] sp_is_whole := ok_is_whole T
    have O2 : Ok P w K mg base CX0 13 d_Machine_step ["self"] (sp_Machine_step K) := ok_Machine_step T
    have nd := sc_Machine_turn.nd
    have h1 := hr.mono (show 1 ≤ 13 by decide)
    refine ⟨_, pss_cons (ps_if (PW.pt (pw_or (pt_not (pt_val (pe_c O1 h1 rfl T.g_is_whole pass0 (pa_cons (pv 1) pa_nil)))) (pw_or1 (pt_not (pt_chain op_le op_le pe_int (pv 1) (pe_glob (v := .int 500) rfl gm ⟨_, rfl⟩))))))
        (pss_one (L2N.ps_raise rfl takesN (L2N.pmk_own PySem.F.excBase_ValueError xN T.g_NoBound kN (raises_own bN tN) rfl))) pss_nil)
      (PSs.nox (pss_cons (ps_set (i := 2) nd rfl (.inl rfl) pe_int)
      (pss_cons (ps_while PassesOwn.never (PW.pt (pw_and (pt_cmpR op_lt (pv 2) (pv 1) (nomark _)) (pw_and1 (pt_not (pt_val (pe_fld (pv 0) rfl)))))) (pss_cons (ps_expr (pe_m0 O2 (pv 0) T.c_Machine T.m_Machine_step hr pass0)) (pss_one (ps_set (i := 2) nd rfl (.inl rfl) (pe_op op_add (pv 2) pe_int)))))
      (pss_one (ps_ret (pv 2)))))), ?_⟩
    rcases hv with ⟨n, rfl, n5, nn, hQ⟩ | ⟨hw, hb, hE⟩
    · refine ⟨_, rfl, _, rfl, .int n, _, rfl, iteF ?_⟩
      refine ⟨_, rfl, _, _, rfl, rfl, _, rfl, ite_t (decide_eq_true (by omega)) ⟨_, _, rfl, rfl, _, rfl, ite_f (by rw [decide_eq_true (show (n : Int) ≤ 500 by omega)]; rfl) ?_⟩⟩
      refine while_by (fun σ H1 => ∃ (k : Nat) (G1 : Addr → Prop), σ = [some (.ref x), some (.int n), some (.int k)] ∧ k ≤ n ∧ (run c k (M, W)).1 = k ∧ But G H H1 ∧ Gr G H G1 ∧ MacAt K H1 x wa c (run c k (M, W)).2.1 (run c k (M, W)).2.2 G1)
        (fun σ _ => match σ with | [_, _, some (.int k)] => n - k.toNat | _ => 0) ⟨0, G, rfl, Nat.zero_le _, rfl, .of_same (Same.refl _), Gr.refl, hM⟩ ?_ ?_
      · rintro σ H1 ⟨k, G1, rfl, kn, rk, b1, g1, hM1⟩
        have gS1 := run_good gC k _ gS
        have nl := run_notes c k (M, W)
        rw [rk] at nl
        obtain ⟨od, cl, nt, fa, ts, es, F, hI, hW⟩ := id hM1
        obtain ⟨dx, om⟩ := id hI.om
        refine ⟨_, rfl, _, rfl, _, _, rfl, rfl, _, rfl, ite_b (fun q => ?_) (fun q => ?_)⟩
        · have q2 : k < n := by
            have := of_decide_eq_true q
            omega
          refine ⟨_, rfl, _, _, _, _, _, rfl, om, T.c_Machine, T.n_Machine_stopped, rfl, _, rfl, ?_⟩
          cases es : (run c k (M, W)).2.1.stopped with
          | true =>
            have e := run_end c k n (M, W) kn rk es
            rw [e] at hQ
            exact iteF ⟨_, rfl, hQ H1 G1 b1 g1 hM1⟩
          | false =>
            have e := run_one c k (M, W) rk es
            refine iteT ⟨_, rfl, x, dx, _, rfl, om, rfl, x, wa, c, _, _, G1, rfl, hM1, gC, gS1.m, gS1.w, (by show _ ≤ _; exact Nat.le_trans nl (Nat.le_trans (Nat.add_le_add_left (Nat.le_of_lt q2) _) nn)), gS1.a es, fun H2 G2 b2 g2 hM2 => ?_⟩
            refine ⟨_, rfl, _, _, rfl, rfl, ⟨k + 1, G2, rfl, q2, by rw [e], b1.trans g1 b2, g1.trans (fun y z => b1.none y z) g2, by rw [e]; exact hM2⟩, ?_⟩
            show n - ((k : Int) + 1).toNat < n - (k : Int).toNat
            omega
        · have q2 : k = n := by
            have := of_decide_eq_false q
            omega
          subst q2
          refine ⟨_, rfl, ?_⟩
          have z := hQ H1 G1 b1 g1 hM1
          rw [rk] at z
          exact z
      · rintro σ H1 Q1 Q2 hm ⟨a, e1, b, e2, i, j, e3, e4, k, e5, h⟩
        refine ⟨a, e1, b, e2, i, j, e3, e4, k, e5, ?_⟩
        cases k with
        | false =>
          rw [if_neg Bool.false_ne_true] at h
          exact iteF (hm _ _ h)
        | true =>
          rw [if_pos rfl] at h
          obtain ⟨v, f1, ad, C, dx, fs, v2, f2, f3, f4, f5, f6, k2, f7, q⟩ := h
          exact iteT ⟨v, f1, ad, C, dx, fs, v2, f2, f3, f4, f5, f6, k2, f7, hm _ _ q⟩
    · refine ⟨_, rfl, v, rfl, hw, _, rfl, ?_⟩
      cases v with
      | int i =>
        refine iteF ⟨_, rfl, _, _, rfl, rfl, _, rfl, ite_b (fun q => ?_) (fun q => ?_)⟩
        · refine ⟨_, _, rfl, rfl, _, rfl, ite_t ?_ hE⟩
          rcases hb with z | ⟨i2, z, z2⟩
          · cases z
          · cases z
            have q2 := of_decide_eq_true q
            rw [decide_eq_false (by omega)]
            rfl
        · exact ⟨_, rfl, iteT hE⟩
      | _ => exact iteT (iteT hE)
theorem sc_Machine_events : FnScope ["self"] ["self"] d_Machine_events.scope := ⟨rfl, rfl, rfl, by decide +kernel, rfl, by decide +kernel, by decide +kernel⟩
def sp_Machine_events (K : PySem.W.Frag) : Sp := fun vs H Q _ => ∃ x wa c M W G, vs = [.ref x] ∧ MacAt K H x wa c M W G ∧ ∀ H' l, Same H H' → H l = none → EvsV H' l M.notes → Q (.ref l) H'
theorem ok_Machine_events (T : Txt K mg) : Ok P w K mg base CX0 1 d_Machine_events ["self"] (sp_Machine_events K) := by
  refine ok_no T.f_Machine_events sc_Machine_events rfl (fun _ _ _ _ _ _ us hl => match us, hl with | [_], _ => rfl) (fun vs H Q E h => ?_) (fun cdv A outer s H vs Q E hr h => ?_)
  · obtain ⟨x, wa, c, M, W, G, rfl, _⟩ := h
    rfl
  · obtain ⟨x, wa, c, M, W, G, rfl, hM, hQ⟩ := h
    obtain ⟨od, cl, nt, fa, ts, es, F, hI, hW⟩ := hM
    obtain ⟨dx, om⟩ := id hI.om
    refine ⟨_, pss_one (ps_ret (pe_callTy (T := "list") (call_listK (K := K) rfl) (by rfl) T.b_list (by decide +kernel) (pa_cons (pe_fld (pv 0) rfl) pa_nil))), ?_⟩
    refine ⟨_, rfl, _, _, _, _, _, rfl, om, T.c_Machine, T.n_Machine_notes, rfl, nt, _, rfl, .inl (SqL.of hI.ont), fun l hl => hQ _ l (same_new hl) hl ⟨es, upd_same, hI.evr.keep fun b xs e => same_new hl b _ e⟩⟩
theorem sc_Machine_core : FnScope ["self"] ["self"] d_Machine_core.scope := ⟨rfl, rfl, rfl, by decide +kernel, rfl, by decide +kernel, by decide +kernel⟩
def sp_Machine_core (K : PySem.W.Frag) : Sp := fun vs H Q _ => ∃ x wa c M W G, vs = [.ref x] ∧ MacAt K H x wa c M W G ∧ ∀ H' a, Same H H' → H a = none → (∃ l fa, H l = none ∧ H' a = some (.tup [.ref l, .int M.counter, .bl M.ruling, .ref fa, .bl M.stopped]) ∧ H' l = some (.lst (M.cells.map V.int)) ∧ H' fa = some (.tup (flV M.fallen))) → Q (.ref a) H'
theorem ok_Machine_core (T : Txt K mg) : Ok P w K mg base CX0 1 d_Machine_core ["self"] (sp_Machine_core K) := by
  refine ok_no T.f_Machine_core sc_Machine_core rfl (fun _ _ _ _ _ _ us hl => match us, hl with | [_], _ => rfl) (fun vs H Q E h => ?_) (fun cdv A outer s H vs Q E hr h => ?_)
  · obtain ⟨x, wa, c, M, W, G, rfl, _⟩ := h
    rfl
  · obtain ⟨x, wa, c, M, W, G, rfl, hM, hQ⟩ := h
    obtain ⟨od, cl, nt, fa, ts, es, F, hI, hW⟩ := hM
    obtain ⟨dx, om⟩ := id hI.om
    refine ⟨_, pss_one (ps_ret (pe_tup (pa_cons (pe_callTy (T := "list") (call_listK (K := K) rfl) (by rfl) T.b_list (by decide +kernel) (pa_cons (pe_fld (pv 0) rfl) pa_nil)) (pa_cons (pe_fld (pv 0) rfl) (pa_cons (pe_fld (pv 0) rfl) (pa_cons (pe_fld (pv 0) rfl) (pa_cons (pe_fld (pv 0) rfl) pa_nil))))))), ?_⟩
    refine ⟨_, rfl, _, _, _, _, _, rfl, om, T.c_Machine, T.n_Machine_cells, rfl, cl, _, rfl, .inl (SqL.of hI.ocl), fun l hl => ?_⟩
    have s1 := same_new (o := .lst (M.cells.map V.int)) hl
    have om1 := s1 _ _ om
    refine ⟨_, rfl, _, _, _, _, _, rfl, om1, T.c_Machine, T.n_Machine_counter, rfl, _, rfl, _, _, _, _, _, rfl, om1, T.c_Machine, T.n_Machine_ruling, rfl, _, rfl, _, _, _, _, _, rfl, om1, T.c_Machine, T.n_Machine_fallen, rfl, _, rfl, _, _, _, _, _, rfl, om1, T.c_Machine, T.n_Machine_stopped, rfl, (by show 5 ≤ sizeLine; decide), fun a ha => ?_⟩
    have s2 := Same.up (o := .tup [.ref l, .int M.counter, .bl M.ruling, .ref fa, .bl M.stopped]) s1 ha
    exact hQ _ a s2 (s1.free ha) ⟨l, fa, hl, upd_same, by rw [upd_ne (ne_of_none upd_same ha)]; exact upd_same, s2 _ _ hI.ofa⟩
theorem sc_Machine_told : FnScope ["self"] ["self"] d_Machine_told.scope := ⟨rfl, rfl, rfl, by decide +kernel, rfl, by decide +kernel, by decide +kernel⟩
def sp_Machine_told (K : PySem.W.Frag) : Sp := fun vs H Q _ => ∃ x wa c M W G, vs = [.ref x] ∧ MacAt K H x wa c M W G ∧ gd W.pages ∧ W.pages.length ≤ 24 ∧ ∀ H' a, Same H H' → ToldV H' a M W → Q (.ref a) H'
theorem ok_Machine_told (T : Txt K mg) : Ok P w K mg base CX0 9 d_Machine_told ["self"] (sp_Machine_told K) := by
  refine ok_no T.f_Machine_told sc_Machine_told rfl (fun _ _ _ _ _ _ us hl => match us, hl with | [_], _ => rfl) (fun vs H Q E h => ?_) (fun cdv A outer s H vs Q E hr h => ?_)
  · obtain ⟨x, wa, c, M, W, G, rfl, _⟩ := h
    rfl
  · obtain ⟨x, wa, c, M, W, G, rfl, hM, g, l24, hQ⟩ := h
    have hM0 := hM
    obtain ⟨od, cl, nt, fa, ts, es, F, hI, hW⟩ := hM
    obtain ⟨dx, om⟩ := id hI.om
    obtain ⟨dw, mw, shw, rpw, ow⟩ := hW.inst
    have O1 : Ok P w K mg base CX0 1 d_Machine_core ["self"] (sp_Machine_core K) := ok_Machine_core T
    have O2 : Ok P w K mg base CX0 1 d_Plain_root ["self"] (sp_Plain_root K) := ok_Plain_root T
    have O3 : Ok P w K mg base CX0 2 d_Plain_shelf ["self"] (sp_Plain_shelf K) := ok_Plain_shelf T
    have O4 : Ok P w K mg base CX0 8 d_Plain_pages ["self"] (sp_Plain_pages K) := ok_Plain_pages T
    have h1 := hr.mono (show 1 ≤ 8 by decide)
    have h2 := hr.mono (show 2 ≤ 8 by decide)
    refine ⟨_, pss_one (ps_ret (pe_tup (pa_cons (pe_m0 O1 (pv 0) T.c_Machine T.m_Machine_core h1 pass0) (pa_cons (pe_m0 O2 (pe_fld (pv 0) rfl) T.c_Plain T.m_Plain_root h1 pass0) (pa_cons (pe_m0 O3 (pe_fld (pv 0) rfl) T.c_Plain T.m_Plain_shelf h2 pass0) (pa_cons (pe_m0 O4 (pe_fld (pv 0) rfl) T.c_Plain T.m_Plain_pages hr pass0) pa_nil)))))), ?_⟩
    refine ⟨_, rfl, x, dx, _, rfl, om, rfl, x, wa, c, M, W, G, rfl, hM0, fun H1 a1 s1 _ ⟨l, f, _, c1, c2, c3⟩ => ?_⟩
    have om1 := s1 _ _ om
    refine ⟨_, rfl, _, _, _, _, _, rfl, om1, T.c_Machine, T.n_Machine_ways, rfl, wa, dw, _, rfl, s1 _ _ ow, rfl, wa, c, W, F, rfl, hW.same s1, ?_⟩
    refine ⟨_, rfl, _, _, _, _, _, rfl, om1, T.c_Machine, T.n_Machine_ways, rfl, wa, dw, _, rfl, s1 _ _ ow, rfl, wa, c, W, F, rfl, hW.same s1, fun H2 a2 rows s2 e2 r2 => ?_⟩
    have s12 := s1.trans s2
    refine ⟨_, rfl, _, _, _, _, _, rfl, s12 _ _ om, T.c_Machine, T.n_Machine_ways, rfl, wa, dw, _, rfl, s12 _ _ ow, rfl, wa, c, W, F, rfl, hW.same s12, g, l24, fun H3 a3 ps s3 e3 r3 => ?_⟩
    refine ⟨(by show 4 ≤ sizeLine; decide), fun a ha => ?_⟩
    have s4 := same_new (o := .tup [.ref a1, .int W.base, .ref a2, .ref a3]) ha
    refine hQ _ a (s12.trans (s3.trans s4)) ⟨a1, a2, a3, upd_same, CoreV.same (M := M) ⟨l, f, c1, c2, c3⟩ (s2.trans (s3.trans s4)), ShelfV.same ⟨rows, e2, r2⟩ (s3.trans s4), PagesV.same ⟨ps, e3, r3⟩ s4⟩
end
end M35

/-! ## text A15 -/
set_option maxHeartbeats 4000000
namespace M35
open PySem PySem.Spec PyProof.Rows L2

/-! # a machine is made -/
/-- x alone has changed; what is new -/
structure Nw (K : PySem.W.Frag) (H Hk : Hp) (x dx : Addr) (fs : List (Str × V)) (L : List (Addr × HO)) : Prop where
  b : But1 x H Hk
  ox : Hk x = some (.ins (cMach K) dx fs)
  l : ∀ p ∈ L, Hk p.1 = some p.2 ∧ p.1 ≠ x ∧ H p.1 = none
  nd : (L.map (·.1)).Nodup
section
variable {K : PySem.W.Frag} {H Hk : Hp} {x dx b : Addr} {fs fs' : List (Str × V)} {L : List (Addr × HO)} {o : HO}
theorem Nw.none (h : Nw K H Hk x dx fs L) (hb : Hk b = none) : H b = none ∧ b ≠ x := by
  have bx : b ≠ x := Ne.symm (ne_of_none h.ox hb)
  refine ⟨?_, bx⟩
  cases q : H b with
  | none => rfl
  | some o =>
    rw [h.b b o bx q] at hb
    cases hb
theorem Nw.alloc (h : Nw K H Hk x dx fs L) (hb : Hk b = Option.none) (o : HO) : Nw K H (upd Hk b o) x dx fs ((b, o) :: L) := by
  obtain ⟨h0, bx⟩ := h.none hb
  have old : ∀ {a y}, Hk a = some y → upd Hk b o a = some y := fun {a y} e => by
    rw [upd_ne (ne_of_none e hb)]
    exact e
  refine ⟨fun a y n e => old (h.b a y n e), old h.ox, fun p hp => ?_, ?_⟩
  · rcases List.mem_cons.mp hp with z | z
    · rw [z]
      exact ⟨upd_same, bx, h0⟩
    · obtain ⟨e1, e2, e3⟩ := h.l p z
      exact ⟨old e1, e2, e3⟩
  · show (b :: L.map (·.1)).Nodup
    refine List.nodup_cons.mpr ⟨fun hm => ?_, h.nd⟩
    obtain ⟨p, hp, e⟩ := List.mem_map.mp hm
    have := (h.l p hp).1
    rw [e, hb] at this
    cases this
theorem Nw.set (h : Nw K H Hk x dx fs L) (fs' : List (Str × V)) : Nw K H (upd Hk x (.ins (cMach K) dx fs')) x dx fs' L :=
  ⟨fun a y n e => by rw [upd_ne n]; exact h.b a y n e, upd_same, fun p hp => let ⟨e1, e2, e3⟩ := h.l p hp; ⟨by rw [upd_ne e2]; exact e1, e2, e3⟩, h.nd⟩
end
def M0 : Mc := ⟨[0, 0, 0, 0], 0, true, (0, 0, 0, true), false, []⟩
def psM : List Str := ["self", "ways", "program", "entry", "core", "events"]
section
variable {P : Program} {w : World} {K : PySem.W.Frag} {mg : Str → Option Value} {base : Heap}
theorem sc_Machine_init : FnScope ["self", "ways", "program", "entry", "core", "events"] ["self", "ways", "program", "entry", "core", "events"] d_Machine_init.scope := ⟨rfl, rfl, rfl, by decide +kernel, rfl, by decide +kernel, by decide +kernel⟩
/-- what the making is given: nothing, or a core and notes -/
inductive From (H : Hp) : V → V → Mc → Prop
  | new : From H .non .non M0
  | of {a1 l : Addr} {M : Mc} (h1 : CoreV H a1 M) (h2 : EvsV H l M.notes) : From H (.ref a1) (.ref l) M
def sp_Machine_init (K : PySem.W.Frag) : Sp := fun vs H Q _ => ∃ x dx wa a v1 v2 M c W F ts, vs = [.ref x, .ref wa, .ref a, .int c.door, v1, v2] ∧ H x = some (.ins (cMach K) dx []) ∧ ¬ F x ∧ WayAt K H wa c W F ∧ H a = some (.lst ((ts : List Addr).map V.ref)) ∧ OdR H ts c.orders ∧ GoodC c ∧ From H v1 v2 M ∧
  ∀ H' G, But1 x H H' → (∀ b, G b → b = x ∨ F b ∨ H b = none) → MacAt K H' x wa c M W G → Q .non H'
theorem fn_Machine_init (T : Txt K mg) : FnOk P w K mg base CX0 6 (He.fAd K d_Machine_init.at_) (fdOf K d_Machine_init.at_) psM (sp_Machine_init K) := by
  refine FunD.ok (T.f_Machine_init) sc_Machine_init (fun vs H Q E h => ?_) (fun cdv A outer s H vs Q E hr h => ?_)
  · obtain ⟨x, dx, wa, a, v1, v2, M, c, W, F, ts, rfl, _⟩ := h
    rfl
  · obtain ⟨x, dx, wa, a, v1, v2, M, c, W, F, ts, rfl, hx, nfx, hW, ha, hts, gC, hfr, hQ⟩ := h
    have O1 : Ok P w K mg base CX0 5 d_checked ["program", "entry"] sp_checked := ok_checked T
    suffices hs : ∃ t, PSs (cxOf CX0 P w K mg base psM d_Machine_init.qual d_Machine_init.scope (He.fAd K d_Machine_init.at_) cdv A outer s H E).nox d_Machine_init.body t ∧ t { nx := fun _ H' => Q .non H', rt := Q } (start psM [.ref x, .ref wa, .ref a, .int c.door, v1, v2]) H from
      let ⟨t, h1, h2⟩ := hs; ⟨t, h1.nox, h2⟩
    refine ⟨_, pss_cons (ps_expr (pe_c O1 hr rfl T.g_checked pass0 (pa_cons (pv 2) (pa_cons (pv 3) pa_nil))))
      (pss_cons (ps_fld (pv 0) (pv 1) rfl) (pss_cons (ps_fld (pv 0) (pe_callTy (T := "list") (call_listK (K := K) rfl) (by rfl) T.b_list (by decide +kernel) (pa_cons (pv 2) pa_nil)) rfl) (pss_cons (ps_fld (pv 0) (pv 3) rfl)
      (pss_cons (ps_fld (pv 0) (pe_lst (pa_cons pe_int (pa_cons pe_int (pa_cons pe_int (pa_cons pe_int pa_nil))))) rfl)
      (pss_cons (ps_fld (pv 0) pe_int rfl) (pss_cons (ps_fld (pv 0) pe_bl rfl)
      (pss_cons (ps_fld (pv 0) (pe_tup (pa_cons pe_int (pa_cons pe_int (pa_cons pe_int (pa_cons pe_bl pa_nil))))) rfl)
      (pss_cons (ps_fld (pv 0) pe_bl rfl) (pss_cons (ps_fld (pv 0) (pe_lst pa_nil) rfl)
      (pss_cons (ps_if (pt_cmpR op_notN (pv 4) pe_non (nomark _))
        (pss_cons (ps_fld (pv 0) (pe_callTy (T := "list") (call_listK (K := K) rfl) (by rfl) T.b_list (by decide +kernel) (pa_cons (pe_ix ix_tup (pv 4) pe_int (fun _ _ => rfl)) pa_nil)) rfl) (pss_cons (ps_fld (pv 0) (pe_ix ix_tup (pv 4) pe_int (fun _ _ => rfl)) rfl) (pss_cons (ps_fld (pv 0) (pe_ix ix_tup (pv 4) pe_int (fun _ _ => rfl)) rfl)
          (pss_cons (ps_fld (pv 0) (pe_ix ix_tup (pv 4) pe_int (fun _ _ => rfl)) rfl) (pss_one (ps_fld (pv 0) (pe_ix ix_tup (pv 4) pe_int (fun _ _ => rfl)) rfl)))))) pss_nil)
      (pss_one (ps_if (pt_cmpR op_notN (pv 5) pe_non (nomark _)) (pss_one (ps_fld (pv 0) (pe_callTy (T := "list") (call_listK (K := K) rfl) (by rfl) T.b_list (by decide +kernel) (pa_cons (pv 5) pa_nil)) rfl)) pss_nil)))))))))))), ?_⟩
    refine ⟨_, rfl, _, rfl, a, c.door, ts, c.orders, rfl, ha, hts, gC.og, gC.o0, gC.o1, ⟨gC.d0, gC.d1⟩, fun H1 s1 => ?_⟩
    have nxt : ∀ b xs, H b = some (.tup xs) → b ≠ x := fun b xs e => ne_of e hx (fun z => nomatch z)
    have nxl : ∀ b xs, H b = some (.lst xs) → b ≠ x := fun b xs e => ne_of e hx (fun z => nomatch z)
    have fin : ∀ (Hk : Hp) (L : List (Addr × HO)) (od cl nt fa : Addr) (es : List Addr), Nw K H Hk x dx (mF wa od c.door cl M.counter M.ruling fa M.stopped nt) L → (od, .lst (ts.map V.ref)) ∈ L → (cl, .lst (M.cells.map V.int)) ∈ L → (nt, .lst (es.map V.ref)) ∈ L →
        od ≠ cl → od ≠ nt → cl ≠ nt → Hk fa = some (.tup (flV M.fallen)) → EvR Hk es M.notes → Q .non Hk := fun Hk L od cl nt fa es N m1 m2 m3 n1 n2 n3 hf he => by
      obtain ⟨o1, o2, o3⟩ := N.l _ m1
      obtain ⟨c1, c2, c3⟩ := N.l _ m2
      obtain ⟨t1, t2, t3⟩ := N.l _ m3
      have kt : ∀ b xs, H b = some (.tup xs) → Hk b = some (.tup xs) := fun b xs e => N.b _ _ (nxt b xs e) e
      have kf : ∀ b o, F b → H b = some o → Hk b = some o := fun b o f e => N.b _ _ (fun z => nfx (by rw [← z]; exact f)) e
      have nf : ∀ {b : Addr}, H b = none → ¬ F b := fun {b} e f => by
        obtain ⟨o, e2, _⟩ := hW.mu f
        rw [e] at e2
        cases e2
      refine hQ Hk (fun b => b = x ∨ b = od ∨ b = cl ∨ b = nt ∨ F b) N.b (fun b hb => ?_) ⟨od, cl, nt, fa, ts, es, F, ⟨⟨dx, N.ox⟩, o1, hts.keep kt, c1, hf, t1, he, n1, n2, n3, nfx, nf o3, nf c3, nf t3, .inl rfl, .inr (.inl rfl), .inr (.inr (.inl rfl)), .inr (.inr (.inr (.inl rfl))), fun b f => .inr (.inr (.inr (.inr f))), fun b hb => ?_⟩, hW.keep kf kt⟩
      · rcases hb with z | z | z | z | z
        · exact .inl z
        · exact .inr (.inr (by rw [z]; exact o3))
        · exact .inr (.inr (by rw [z]; exact c3))
        · exact .inr (.inr (by rw [z]; exact t3))
        · exact .inr (.inl z)
      · rcases hb with z | z | z | z | z
        · rw [z]; exact ⟨_, N.ox, rfl⟩
        · rw [z]; exact ⟨_, o1, rfl⟩
        · rw [z]; exact ⟨_, c1, rfl⟩
        · rw [z]; exact ⟨_, t1, rfl⟩
        · obtain ⟨o, e, mo⟩ := hW.mu z
          exact ⟨o, kf b o z e, mo⟩
    have N0 : Nw K H H1 x dx [] [] := ⟨fun b o _ e => s1 b o e, s1 _ _ hx, (fun p hp => by cases hp), List.nodup_nil⟩
    refine ⟨_, rfl, _, rfl, x, _, dx, _, rfl, N0.ox, T.c_Machine, T.n_Machine_ways, (by show 0 < 1000; decide), ?_⟩
    have N1 := N0.set (putF "ways" (.ref wa) [])
    refine ⟨_, rfl, a, _, rfl, .inl (SqL.of (N1.b _ _ (nxl _ _ ha) ha)), fun od hod => ?_⟩
    have N2 := N1.alloc hod (.lst (ts.map V.ref))
    refine ⟨_, rfl, x, _, dx, _, rfl, N2.ox, T.c_Machine, T.n_Machine_orders, (by show 1 < 1000; decide), ?_⟩
    have N3 := N2.set (putF "orders" (.ref od) (putF "ways" (.ref wa) []))
    refine ⟨_, rfl, _, rfl, x, _, dx, _, rfl, N3.ox, T.c_Machine, T.n_Machine_door, (by show 2 < 1000; decide), ?_⟩
    have N4 := N3.set (putF "door" (.int c.door) (putF "orders" (.ref od) (putF "ways" (.ref wa) [])))
    refine ⟨(by show 4 ≤ sizeLine; decide), fun cl hcl => ?_⟩
    have N5 := N4.alloc hcl (.lst (M0.cells.map V.int))
    refine ⟨_, rfl, x, _, dx, _, rfl, N5.ox, T.c_Machine, T.n_Machine_cells, (by show 3 < 1000; decide), ?_⟩
    have N6 := N5.set [("ways", .ref wa), ("orders", .ref od), ("door", .int c.door), ("cells", .ref cl)]
    refine ⟨_, rfl, x, _, dx, _, rfl, N6.ox, T.c_Machine, T.n_Machine_counter, (by show 4 < 1000; decide), ?_⟩
    have N7 := N6.set [("ways", .ref wa), ("orders", .ref od), ("door", .int c.door), ("cells", .ref cl), ("counter", .int 0)]
    refine ⟨_, rfl, x, _, dx, _, rfl, N7.ox, T.c_Machine, T.n_Machine_ruling, (by show 5 < 1000; decide), ?_⟩
    have N8 := N7.set [("ways", .ref wa), ("orders", .ref od), ("door", .int c.door), ("cells", .ref cl), ("counter", .int 0), ("ruling", .bl true)]
    refine ⟨(by show 4 ≤ sizeLine; decide), fun fa hfa => ?_⟩
    have N9 := N8.alloc hfa (.tup (flV M0.fallen))
    refine ⟨_, rfl, x, _, dx, _, rfl, N9.ox, T.c_Machine, T.n_Machine_fallen, (by show 6 < 1000; decide), ?_⟩
    have N10 := N9.set [("ways", .ref wa), ("orders", .ref od), ("door", .int c.door), ("cells", .ref cl), ("counter", .int 0), ("ruling", .bl true), ("fallen", .ref fa)]
    refine ⟨_, rfl, x, _, dx, _, rfl, N10.ox, T.c_Machine, T.n_Machine_stopped, (by show 7 < 1000; decide), ?_⟩
    have N11 := N10.set [("ways", .ref wa), ("orders", .ref od), ("door", .int c.door), ("cells", .ref cl), ("counter", .int 0), ("ruling", .bl true), ("fallen", .ref fa), ("stopped", .bl false)]
    refine ⟨(by show 0 ≤ sizeLine; decide), fun nt hnt => ?_⟩
    have N12 := N11.alloc hnt (.lst [])
    refine ⟨_, rfl, x, _, dx, _, rfl, N12.ox, T.c_Machine, T.n_Machine_notes, (by show 8 < 1000; decide), ?_⟩
    have N13 := N12.set (mF wa od c.door cl 0 true fa false nt)
    have nd := N13.nd
    cases hfr with
    | new =>
      refine ⟨_, rfl, rfl, _, rfl, ite_f rfl ⟨_, rfl, rfl, _, rfl, ite_f rfl ?_⟩⟩
      exact fin _ _ od cl nt fa [] N13 (by simp) (by simp) (by simp) (fun z => by subst z; simp at nd) (fun z => by subst z; simp at nd) (fun z => by subst z; simp at nd) (N13.l (fa, .tup (flV M0.fallen)) (by simp)).1 ⟨rfl, (fun i r e => by cases e)⟩
    | @of a1 l M h1 h2 =>
      obtain ⟨l0, f0, k1, k2, k3⟩ := h1
      obtain ⟨es, g1, g2⟩ := h2
      refine ⟨_, rfl, rfl, _, rfl, ite_t rfl ?_⟩
      refine ⟨_, rfl, a1, _, 0, _, rfl, rfl, SqT.of (N13.b _ _ (nxt _ _ k1) k1), rfl, l0, _, rfl, .inl (SqL.of (N13.b _ _ (nxl _ _ k2) k2)), fun cl2 hcl2 => ?_⟩
      have N14 := N13.alloc hcl2 (.lst (M.cells.map V.int))
      refine ⟨_, rfl, x, _, dx, _, rfl, N14.ox, T.c_Machine, T.n_Machine_cells, (by show 9 < 1000; decide), ?_⟩
      have N15 := N14.set (mF wa od c.door cl2 0 true fa false nt)
      refine ⟨_, rfl, a1, _, 1, _, rfl, rfl, SqT.of (N15.b _ _ (nxt _ _ k1) k1), rfl, _, rfl, x, _, dx, _, rfl, N15.ox, T.c_Machine, T.n_Machine_counter, (by show 9 < 1000; decide), ?_⟩
      have N16 := N15.set (mF wa od c.door cl2 M.counter true fa false nt)
      refine ⟨_, rfl, a1, _, 2, _, rfl, rfl, SqT.of (N16.b _ _ (nxt _ _ k1) k1), rfl, _, rfl, x, _, dx, _, rfl, N16.ox, T.c_Machine, T.n_Machine_ruling, (by show 9 < 1000; decide), ?_⟩
      have N17 := N16.set (mF wa od c.door cl2 M.counter M.ruling fa false nt)
      refine ⟨_, rfl, a1, _, 3, _, rfl, rfl, SqT.of (N17.b _ _ (nxt _ _ k1) k1), rfl, _, rfl, x, _, dx, _, rfl, N17.ox, T.c_Machine, T.n_Machine_fallen, (by show 9 < 1000; decide), ?_⟩
      have N18 := N17.set (mF wa od c.door cl2 M.counter M.ruling f0 false nt)
      refine ⟨_, rfl, a1, _, 4, _, rfl, rfl, SqT.of (N18.b _ _ (nxt _ _ k1) k1), rfl, _, rfl, x, _, dx, _, rfl, N18.ox, T.c_Machine, T.n_Machine_stopped, (by show 9 < 1000; decide), ?_⟩
      have N19 := N18.set (mF wa od c.door cl2 M.counter M.ruling f0 M.stopped nt)
      refine ⟨_, rfl, rfl, _, rfl, ite_t rfl ?_⟩
      refine ⟨_, rfl, l, _, rfl, .inl (SqL.of (N19.b _ _ (nxl _ _ g1) g1)), fun nt2 hnt2 => ?_⟩
      have N20 := N19.alloc hnt2 (.lst (es.map V.ref))
      refine ⟨_, rfl, x, _, dx, _, rfl, N20.ox, T.c_Machine, T.n_Machine_notes, (by show 9 < 1000; decide), ?_⟩
      have N21 := N20.set (mF wa od c.door cl2 M.counter M.ruling f0 M.stopped nt2)
      have nd2 := N21.nd
      exact fin _ _ od cl2 nt2 f0 es N21 (by simp) (by simp) (by simp) (fun z => by subst z; simp at nd2) (fun z => by subst z; simp at nd2) (fun z => by subst z; simp at nd2) (N21.b _ _ (nxt _ _ k3) k3) (g2.keep fun b xs e => N21.b _ _ (nxt _ _ e) e)
/-- three are given -/
theorem bd3 (T : Txt K mg) : ∃ ds, Vals [.non, .non] ds ∧ Binds K (fdOf K d_Machine_init.at_) psM ds :=
  FunD.binds1 (T.f_Machine_init) 4 0 (by intro z; cases z) rfl fun T kV doc pm an cdv ct us its hu hi => match us, its, hu, hi with | [_, _, _, _], [_, _], _, _ => ⟨_, rfl, rfl⟩
/-- five are given -/
theorem bd5 (T : Txt K mg) : Binds K (fdOf K d_Machine_init.at_) psM [] := by
  obtain ⟨ds, r, b⟩ := FunD.binds1 (ps := psM) (T.f_Machine_init) 6 2 (by intro z; cases z) rfl fun T kV doc pm an cdv ct us its hu hi => match us, its, hu, hi with | [_, _, _, _, _, _], [_, _], _, _ => ⟨_, rfl, rfl⟩
  cases r
  exact b
theorem sc_bare : FnScope ["pages", "most", "program", "entry", "words"] ["pages", "most", "program", "entry", "words"] d_bare.scope := ⟨rfl, rfl, rfl, by decide +kernel, rfl, by decide +kernel, by decide +kernel⟩
def sp_bare (K : PySem.W.Frag) : Sp := fun vs H Q _ => ∃ a a2 r ps pg c ts, vs = [.ref a, .int (Cfg.most c), .ref a2, .int c.door, .ref r] ∧ H a = some (.lst (ps.map oV)) ∧ PgR H ps pg ∧ gd pg ∧ 1 ≤ pg.length ∧ pg.length ≤ 24 ∧ H r = some (.lst (c.replies.map V.bl)) ∧ H a2 = some (.lst ((ts : List Addr).map V.ref)) ∧ OdR H ts c.orders ∧ GoodC c ∧
  ∀ H' x wa G, Same H H' → (∀ b, G b → H b = none) → MacAt K H' x wa c M0 ⟨pg, 0, [], 0⟩ G → Q (.ref x) H'
theorem ok_bare (T : Txt K mg) : Ok P w K mg base CX0 9 d_bare ["pages", "most", "program", "entry", "words"] (sp_bare K) := by
  refine ok_no T.f_bare sc_bare rfl (fun _ _ _ _ _ _ us hl => match us, hl with | [_, _, _, _, _], _ => rfl) (fun vs H Q E h => ?_) (fun cdv A outer s H vs Q E hr h => ?_)
  · obtain ⟨a, a2, r, ps, pg, c, ts, rfl, _⟩ := h
    rfl
  · obtain ⟨a, a2, r, ps, pg, c, ts, rfl, ha, hp, hg, p1, p24, hrp, ha2, hts, gC, hQ⟩ := h
    have O1 : Ok P w K mg base CX0 7 d_Plain_init ["self", "pages", "most", "words"] (sp_Plain_init K) := ok_Plain_init T
    obtain ⟨ds, rds, b3⟩ := bd3 T
    refine ⟨_, pss_one (ps_ret (pe_make T.k_Machine (fn_Machine_init T) (hr.mono (by decide)) rfl T.g_Machine b3 rds pass0 (pa_cons (pe_make T.k_Plain O1.fn hr rfl T.g_Plain O1.bd .nil pass0 (pa_cons (pv 0) (pa_cons (pv 1) (pa_cons (pv 4) pa_nil)))) (pa_cons (pv 2) (pa_cons (pv 3) pa_nil))))), ?_⟩
    refine ⟨_, rfl, _, rfl, _, rfl, fun wa d1 hwa hd1 n1 => ?_⟩
    have s1 : Same H (upd (upd H d1 (.own wa)) wa (.ins (cPlain K) d1 [])) := (same_new hd1).trans (same_new (by rw [upd_ne (Ne.symm n1)]; exact hwa))
    refine ⟨wa, d1, a, r, ps, pg, c, rfl, upd_same, s1 _ _ ha, hp.keep fun i p o _ e => s1 _ _ e, hg, p1, p24, gC.m0, gC.m1, s1 _ _ hrp, fun H1 F b1 hF hW => ⟨rfl, ?_⟩⟩
    have S1 : Same H H1 := fun b o e => b1 _ _ (ne_of_none e hwa) (s1 _ _ e)
    refine ⟨_, rfl, _, rfl, fun x d2 hx hd2 n2 => ?_⟩
    have s2 : Same H1 (upd (upd H1 d2 (.own x)) x (.ins (cMach K) d2 [])) := (same_new hd2).trans (same_new (by rw [upd_ne (Ne.symm n2)]; exact hx))
    have nfx : ¬ F x := fun f => by
      obtain ⟨o, e, _⟩ := hW.mu f
      rw [hx] at e
      cases e
    refine ⟨x, d2, wa, a2, .non, .non, M0, c, _, F, ts, rfl, upd_same, nfx, hW.same s2, s2 _ _ (S1 _ _ ha2), hts.keep fun b xs e => s2 _ _ (S1 _ _ e), gC, .new, fun H2 G b2 hG hM => ⟨rfl, ?_⟩⟩
    refine hQ H2 x wa G (fun b o e => b2 _ _ (ne_of_none (S1 _ _ e) hx) (s2 _ _ (S1 _ _ e))) (fun b g => ?_) hM
    have none2 : ∀ {b}, (upd (upd H1 d2 (.own x)) x (.ins (cMach K) d2 [])) b = none → H b = none := fun {b} e => S1.free (s2.free e)
    rcases hG b g with z | z | z
    · rw [z]
      exact S1.free hx
    · rcases hF b z with y | y
      · rw [y]
        exact hwa
      · exact s1.free y
    · exact none2 z
end
end M35

/-! ## text A16 -/
set_option maxHeartbeats 4000000
namespace M35
open PySem PySem.Spec PyProof.Rows L2

/-! # the law's own helpers -/
def cellAt (ns : List Int) (k : Int) : Int := ns.getD k.toNat 0
def mixN (c b m : Int) : Int := (c % 1000003 * b + b) % 2147483647 / 1024 % m
theorem mix_b (c b : Int) {m : Int} (h : 0 < m) : 0 ≤ mixN c b m ∧ mixN c b m < m := ⟨Int.emod_nonneg _ (by omega), Int.emod_lt_of_pos _ h⟩
def marks : List Int := [3, 3, 11, 27, 7, 1, 2, 3]
theorem marks_at {i : Int} (h0 : 0 ≤ i) (h8 : i < 8) : ∃ v : Int, atI (marks.map V.int) i = some (.int v) ∧ 0 ≤ v ∧ v ≤ 27 := by
  have hj : i.toNat < 8 := by omega
  have all : ∀ j : Nat, j < 8 → ∃ v : Int, marks[j]? = some v ∧ 0 ≤ v ∧ v ≤ 27 := fun j hj => by
    match j, hj with
    | 0, _ => exact ⟨3, rfl, by decide, by decide⟩
    | 1, _ => exact ⟨3, rfl, by decide, by decide⟩
    | 2, _ => exact ⟨11, rfl, by decide, by decide⟩
    | 3, _ => exact ⟨27, rfl, by decide, by decide⟩
    | 4, _ => exact ⟨7, rfl, by decide, by decide⟩
    | 5, _ => exact ⟨1, rfl, by decide, by decide⟩
    | 6, _ => exact ⟨2, rfl, by decide, by decide⟩
    | 7, _ => exact ⟨3, rfl, by decide, by decide⟩
  obtain ⟨v, e, b0, b1⟩ := all _ hj
  exact ⟨v, atI_int h0 (by rw [List.getElem?_map, e]; rfl), b0, b1⟩
section
variable {H H' : Hp} {ts ts2 : List Addr} {os os2 : List Ord}
theorem OdR.app (h : OdR H ts os) (h2 : OdR H ts2 os2) : OdR H (ts ++ ts2) (os ++ os2) := by
  refine ⟨by rw [List.length_append, List.length_append, h.len, h2.len], fun i o e => ?_⟩
  rcases Nat.lt_or_ge i os.length with q | q
  · rw [List.getElem?_append_left q] at e
    obtain ⟨t, a, b⟩ := h.at_ i o e
    exact ⟨t, by rw [List.getElem?_append_left (by rw [h.len]; exact q)]; exact a, b⟩
  · rw [List.getElem?_append_right q] at e
    obtain ⟨t, a, b⟩ := h2.at_ _ o e
    exact ⟨t, by rw [List.getElem?_append_right (by rw [h.len]; exact q), h.len]; exact a, b⟩
theorem OdR.take (h : OdR H ts os) (k : Nat) : OdR H (ts.take k) (os.take k) := by
  refine ⟨by rw [List.length_take, List.length_take, h.len], fun i o e => ?_⟩
  rw [List.getElem?_take] at e
  split at e
  · rename_i q
    obtain ⟨t, a, b⟩ := h.at_ i o e
    exact ⟨t, by rw [List.getElem?_take, if_pos q]; exact a, b⟩
  · cases e
theorem OdR.one {t : Addr} {o : Ord} (h : H t = some (.tup o.vs)) : OdR H [t] [o] := ⟨rfl, fun i p e => by
  match i with
  | 0 => cases e; exact ⟨t, rfl, h⟩⟩
theorem OdR.same (h : OdR H ts os) (s : Same H H') : OdR H' ts os := h.keep fun b xs e => s b _ e
theorem OdR.nil : OdR H [] [] := ⟨rfl, fun i o e => by cases e⟩
/-- three tuples and their list -/
theorem odr3 {H H1 : Hp} {t1 t2 t3 l : Addr} {o1 o2 o3 : Ord} (s : Same H H1) (h1 : H1 t1 = none) (h2 : upd H1 t1 (.tup o1.vs) t2 = none) (h3 : upd (upd H1 t1 (.tup o1.vs)) t2 (.tup o2.vs) t3 = none)
    (hl : upd (upd (upd H1 t1 (.tup o1.vs)) t2 (.tup o2.vs)) t3 (.tup o3.vs) l = none) :
    Same H (upd (upd (upd (upd H1 t1 (.tup o1.vs)) t2 (.tup o2.vs)) t3 (.tup o3.vs)) l (.lst [.ref t1, .ref t2, .ref t3])) ∧ OdR (upd (upd (upd (upd H1 t1 (.tup o1.vs)) t2 (.tup o2.vs)) t3 (.tup o3.vs)) l (.lst [.ref t1, .ref t2, .ref t3])) [t1, t2, t3] [o1, o2, o3] := by
  have s4 := same_new (o := .lst [.ref t1, .ref t2, .ref t3]) hl
  have s3 := (same_new (o := .tup o3.vs) h3).trans s4
  have s2 := (same_new (o := .tup o2.vs) h2).trans s3
  exact ⟨s.trans ((same_new h1).trans s2), ((OdR.one (s2 _ _ upd_same)).app ((OdR.one (s3 _ _ upd_same)).app (OdR.one (s4 _ _ upd_same))))⟩
end
theorem good3 {a b c : Ord} (h1 : a.good) (h2 : b.good) (h3 : c.good) : ∀ o ∈ [a, b, c], Ord.good o := fun o ho => by
  rcases List.mem_cons.mp ho with z | z
  · rw [z]; exact h1
  rcases List.mem_cons.mp z with z | z
  · rw [z]; exact h2
  rcases List.mem_cons.mp z with z | z
  · rw [z]; exact h3
  · cases z
section
variable {P : Program} {w : World} {K : PySem.W.Frag} {mg : Str → Option Value} {base : Heap}
theorem sc_law_cell_at : FnScope ["_law_script", "_law_k"] ["_law_script", "_law_k"] d_law_cell_at.scope := ⟨rfl, rfl, rfl, by decide +kernel, rfl, by decide +kernel, by decide +kernel⟩
def sp_law_cell_at (K : PySem.W.Frag) : Sp := fun vs H Q _ => ∃ a ns k, vs = [.ref a, .int k] ∧ SqL K H a ((ns : List Int).map V.int) ∧ 0 ≤ k ∧ Q (.int (cellAt ns k)) H
theorem ok_law_cell_at (T : Txt K mg) : Ok P w K mg base CX0 1 d_law_cell_at ["_law_script", "_law_k"] (sp_law_cell_at K) := by
  refine ok_no T.f_law_cell_at sc_law_cell_at rfl (fun _ _ _ _ _ _ us hl => match us, hl with | [_, _], _ => rfl) (fun vs H Q E h => ?_) (fun cdv A outer s H vs Q E hr h => ?_)
  · obtain ⟨a, ns, k, rfl, _⟩ := h
    rfl
  · obtain ⟨a, ns, k, rfl, ha, k0, hQ⟩ := h
    refine ⟨_, pss_cons (ps_if (pt_cmpR op_lt (pv 1) (pe_callB call_len_seq (by rfl) T.b_len (by decide +kernel) (pa_cons (pv 0) pa_nil)) (nomark _)) (pss_one (ps_ret (pe_ix ix_list (pv 0) (pv 1) (fun _ _ => rfl)))) pss_nil) (pss_one (ps_ret pe_int)), ?_⟩
    refine ⟨_, rfl, _, rfl, a, _, rfl, .inl ha, _, _, rfl, rfl, _, rfl, ite_b (fun e => ?_) (fun e => ?_)⟩
    · have e2 := of_decide_eq_true e
      rw [List.length_map] at e2
      have hl : k.toNat < ns.length := by omega
      have e3 : atI (ns.map V.int) k = some (.int (cellAt ns k)) := atI_int k0 (by
        unfold cellAt
        rw [List.getElem?_map, List.getD_eq_getElem?_getD, List.getElem?_eq_getElem hl]
        rfl)
      exact ⟨_, rfl, _, rfl, a, _, _, _, rfl, rfl, ha, e3, hQ⟩
    · have e2 := of_decide_eq_false e
      rw [List.length_map] at e2
      have z : cellAt ns k = 0 := by
        unfold cellAt
        rw [List.getD_eq_getElem?_getD, List.getElem?_eq_none (by omega)]
        rfl
      rw [z] at hQ
      exact hQ
theorem sc_law_mix : FnScope ["_law_cell", "_law_by", "_law_many"] ["_law_cell", "_law_by", "_law_many"] d_law_mix.scope := ⟨rfl, rfl, rfl, by decide +kernel, rfl, by decide +kernel, by decide +kernel⟩
def sp_law_mix (K : PySem.W.Frag) : Sp := fun vs H Q _ => ∃ c b m, vs = [.int c, .int b, .int m] ∧ 0 < m ∧ Q (.int (mixN c b m)) H
theorem ok_law_mix (T : Txt K mg) : Ok P w K mg base CX0 1 d_law_mix ["_law_cell", "_law_by", "_law_many"] (sp_law_mix K) := by
  refine ok_no T.f_law_mix sc_law_mix rfl (fun _ _ _ _ _ _ us hl => match us, hl with | [_, _, _], _ => rfl) (fun vs H Q E h => ?_) (fun cdv A outer s H vs Q E hr h => ?_)
  · obtain ⟨c, b, m, rfl, _⟩ := h
    rfl
  · obtain ⟨c, b, m, rfl, m0, hQ⟩ := h
    refine ⟨_, pss_one (ps_ret (pe_op op_mod (pe_op op_fdiv (pe_op op_mod (pe_op op_add (pe_op op_mul (pe_op op_mod (pv 0) pe_int) (pv 1)) (pv 1)) pe_int) pe_int) (pv 2))), ?_⟩
    have b1 : 0 ≤ c % 1000003 := Int.emod_nonneg _ (by decide)
    have b2 : c % 1000003 < 1000003 := Int.emod_lt_of_pos _ (by decide)
    exact ⟨_, rfl, _, _, rfl, rfl, (show (0 : Int) < 1000003 by decide), _, rfl, _, _, rfl, rfl, .inl ⟨by omega, by omega⟩, _, rfl, _, _, rfl, rfl, _, _, rfl, rfl, (show (0 : Int) < 2147483647 by decide), _, _, rfl, rfl, ⟨by decide, by decide⟩, _, rfl, _, _, rfl, rfl, m0, hQ⟩
theorem sc_law_group : FnScope ["_law_cell", "_law_size", "_law_a", "_law_place", "_law_word", "_law_spot", "_law_way"] ["_law_cell", "_law_size"] d_law_group.scope := ⟨rfl, rfl, rfl, by decide +kernel, rfl, by decide +kernel, by decide +kernel⟩
def sp_law_group (K : PySem.W.Frag) : Sp := fun vs H Q _ => ∃ c n, vs = [.int c, .int n] ∧ 1 ≤ n ∧ n ≤ 6 ∧ ∀ H' l ts os, Same H H' → H' l = some (.lst ((ts : List Addr).map V.ref)) → OdR H' ts os → (∀ o ∈ os, Ord.good o) → os.length = 3 → Q (.ref l) H'
theorem ok_law_group (T : Txt K mg) : Ok P w K mg base CX0 2 d_law_group ["_law_cell", "_law_size"] (sp_law_group K) := by
  refine ok_no T.f_law_group sc_law_group rfl (fun _ _ _ _ _ _ us hl => match us, hl with | [_, _], _ => rfl) (fun vs H Q E h => ?_) (fun cdv A outer s H vs Q E hr h => ?_)
  · obtain ⟨c, n, rfl, _⟩ := h
    rfl
  · obtain ⟨c, n, rfl, n1, n6, hQ⟩ := h
    have O1 : Ok P w K mg base CX0 1 d_law_mix ["_law_cell", "_law_by", "_law_many"] (sp_law_mix K) := ok_law_mix T
    have nd := sc_law_group.nd
    refine ⟨_, pss_cons (ps_set (i := 2) nd rfl (.inl rfl) (pe_c O1 hr rfl T.g_law_mix pass0 (pa_cons (pv 0) (pa_cons pe_int (pa_cons (pe_int) pa_nil)))))
      (pss_cons (ps_set (i := 3) nd rfl (.inl rfl) (pe_op op_add (pe_op op_add (pe_op op_mul pe_int (pe_c O1 hr rfl T.g_law_mix pass0 (pa_cons (pv 0) (pa_cons pe_int (pa_cons (pe_int) pa_nil))))) (pe_op op_mul pe_int (pe_c O1 hr rfl T.g_law_mix pass0 (pa_cons (pv 0) (pa_cons pe_int (pa_cons (pe_int) pa_nil)))))) (pe_c O1 hr rfl T.g_law_mix pass0 (pa_cons (pv 0) (pa_cons pe_int (pa_cons (pe_int) pa_nil))))))
      (pss_cons (ps_if (pt_cmpR op_eq (pe_c O1 hr rfl T.g_law_mix pass0 (pa_cons (pv 0) (pa_cons pe_int (pa_cons (pe_int) pa_nil)))) pe_int (nomark _)) (pss_one (ps_set (i := 3) nd rfl (.inl rfl) (pe_c O1 hr rfl T.g_law_mix pass0 (pa_cons (pv 0) (pa_cons pe_int (pa_cons (pe_int) pa_nil)))))) pss_nil)
      (pss_cons (ps_set (i := 4) nd rfl (.inl rfl) (pe_op op_add (pe_op op_mul (pe_c O1 hr rfl T.g_law_mix pass0 (pa_cons (pv 0) (pa_cons pe_int (pa_cons (pe_op op_add (pv 1) pe_int) pa_nil)))) pe_int) (pe_ix ix_list (pe_lst (pa_cons pe_int (pa_cons pe_int (pa_cons pe_int (pa_cons pe_int (pa_cons pe_int (pa_cons pe_int (pa_cons pe_int (pa_cons pe_int pa_nil))))))))) (pe_c O1 hr rfl T.g_law_mix pass0 (pa_cons (pv 0) (pa_cons pe_int (pa_cons (pe_int) pa_nil)))) (fun _ _ => rfl))))
      (pss_cons (ps_set (i := 5) nd rfl (.inl rfl) (pe_c O1 hr rfl T.g_law_mix pass0 (pa_cons (pv 0) (pa_cons pe_int (pa_cons (pe_op op_add (pe_op op_mul pe_int (pv 1)) pe_int) pa_nil)))))
      (pss_cons (ps_set (i := 6) nd rfl (.inl rfl) (pe_c O1 hr rfl T.g_law_mix pass0 (pa_cons (pv 0) (pa_cons pe_int (pa_cons (pe_int) pa_nil)))))
      (pss_cons (ps_if (pt_cmpR op_lt (pv 6) pe_int (nomark _)) (pss_one (ps_ret (pe_lst (pa_cons (pe_tup (pa_cons pe_str (pa_cons pe_int (pa_cons (pv 3) pa_nil)))) (pa_cons (pe_tup (pa_cons pe_str (pa_cons (pv 2) (pa_cons pe_int pa_nil)))) (pa_cons (pe_tup (pa_cons pe_str (pa_cons (pv 2) pa_nil))) pa_nil)))))) pss_nil)
      (pss_cons (ps_if (pt_cmpR op_lt (pv 6) pe_int (nomark _)) (pss_one (ps_ret (pe_lst (pa_cons (pe_tup (pa_cons pe_str (pa_cons pe_int (pa_cons (pv 3) pa_nil)))) (pa_cons (pe_tup (pa_cons pe_str (pa_cons (pv 2) (pa_cons (pv 4) pa_nil)))) (pa_cons (pe_tup (pa_cons pe_str (pa_cons (pv 2) (pa_cons pe_int pa_nil)))) pa_nil)))))) pss_nil)
      (pss_cons (ps_if (pt_cmpR op_eq (pv 6) pe_int (nomark _)) (pss_one (ps_ret (pe_lst (pa_cons (pe_tup (pa_cons pe_str (pa_cons pe_int (pa_cons (pv 5) pa_nil)))) (pa_cons (pe_tup (pa_cons pe_str (pa_cons (pv 2) (pa_cons pe_int pa_nil)))) (pa_cons (pe_tup (pa_cons pe_str (pa_cons (pv 2) pa_nil))) pa_nil)))))) pss_nil)
      (pss_cons (ps_if (pt_cmpR op_eq (pv 6) pe_int (nomark _)) (pss_one (ps_ret (pe_lst (pa_cons (pe_tup (pa_cons pe_str (pa_cons pe_int (pa_cons (pv 5) pa_nil)))) (pa_cons (pe_tup (pa_cons pe_str (pa_cons (pv 2) (pa_cons (pe_op op_mod (pe_op op_mul (pv 0) pe_int) (pe_op op_pow pe_int pe_int)) pa_nil)))) (pa_cons (pe_tup (pa_cons pe_str (pa_cons (pv 2) (pa_cons pe_int pa_nil)))) pa_nil)))))) pss_nil)
      (pss_cons (ps_if (pt_cmpR op_eq (pv 6) pe_int (nomark _)) (pss_one (ps_ret (pe_lst (pa_cons (pe_tup (pa_cons pe_str (pa_cons pe_int (pa_cons (pe_op op_fdiv (pv 5) pe_int) pa_nil)))) (pa_cons (pe_tup (pa_cons pe_str (pa_cons pe_int pa_nil))) (pa_cons (pe_tup (pa_cons pe_str (pa_cons pe_int pa_nil))) pa_nil)))))) pss_nil)
      (pss_cons (ps_if (pt_cmpR op_lt (pv 6) pe_int (nomark _)) (pss_one (ps_ret (pe_lst (pa_cons (pe_tup (pa_cons pe_str (pa_cons pe_int (pa_cons (pe_op op_fdiv (pv 5) pe_int) pa_nil)))) (pa_cons (pe_tup (pa_cons pe_str (pa_cons pe_int pa_nil))) (pa_cons (pe_tup (pa_cons pe_str (pa_cons pe_int pa_nil))) pa_nil)))))) pss_nil)
      (pss_cons (ps_if (pt_cmpR op_eq (pv 6) pe_int (nomark _)) (pss_one (ps_ret (pe_lst (pa_cons (pe_tup (pa_cons pe_str (pa_cons pe_int (pa_cons (pv 3) pa_nil)))) (pa_cons (pe_tup (pa_cons pe_str (pa_cons pe_int pa_nil))) (pa_cons (pe_tup (pa_cons pe_str (pa_cons (pv 2) (pa_cons pe_int pa_nil)))) pa_nil)))))) pss_nil)
      (pss_cons (ps_if (pt_cmpR op_eq (pv 6) pe_int (nomark _)) (pss_one (ps_ret (pe_lst (pa_cons (pe_tup (pa_cons pe_str (pa_cons pe_int (pa_cons (pe_op op_mod (pe_op op_fdiv (pv 5) pe_int) pe_int) pa_nil)))) (pa_cons (pe_tup (pa_cons pe_str (pa_cons pe_int pa_nil))) (pa_cons (pe_tup (pa_cons pe_str (pa_cons (pv 2) (pa_cons pe_int pa_nil)))) pa_nil)))))) pss_nil)
      (pss_one (ps_ret (pe_lst (pa_cons (pe_tup (pa_cons pe_str (pa_cons (pv 2) (pa_cons (pe_op op_mod (pe_op op_mul (pv 0) pe_int) (pe_op op_pow pe_int pe_int)) pa_nil)))) (pa_cons (pe_tup (pa_cons pe_str pa_nil)) (pa_cons (pe_tup (pa_cons pe_str (pa_cons (pv 2) (pa_cons pe_int pa_nil)))) pa_nil))))))))))))))))))), ?_⟩
    have mb : ∀ b m : Int, 0 < m → 0 ≤ mixN c b m ∧ mixN c b m < m := fun b m h => mix_b c b h
    obtain ⟨a0, a1⟩ := mb 48271 3 (by decide)
    obtain ⟨p0, p1⟩ := mb 69623 2 (by decide)
    obtain ⟨q0, q1⟩ := mb 40709 4 (by decide)
    obtain ⟨r0, r1⟩ := mb 27437 8 (by decide)
    obtain ⟨t0, t1⟩ := mb 13499 530 (by decide)
    obtain ⟨u0, u1⟩ := mb 31541 (n + 1) (by omega)
    obtain ⟨x0, x1⟩ := mb 44621 8 (by decide)
    obtain ⟨y0, y1⟩ := mb 52501 (8 * n + 3) (by omega)
    refine ⟨_, rfl, c, 48271, 3, rfl, by decide, ?_⟩
    refine ⟨_, rfl, c, 69623, 2, rfl, by decide, _, _, rfl, rfl, .inl ⟨by decide, by decide⟩, _, rfl, c, 40709, 4, rfl, by decide, _, _, rfl, rfl, .inl ⟨by decide, by decide⟩, _, _, rfl, rfl, _, rfl, c, 27437, 8, rfl, by decide, _, _, rfl, rfl, ?_⟩
    have S0 : 64 * mixN c 69623 2 + 8 * mixN c 40709 4 + mixN c 27437 8 < 530 := by omega
    have S1 : 0 ≤ 64 * mixN c 69623 2 + 8 * mixN c 40709 4 + mixN c 27437 8 := by omega
    refine ⟨_, rfl, c, 18149, 5, rfl, by decide, rfl, _, rfl, ite_b (fun e => ⟨_, rfl, c, 13499, 530, rfl, by decide, ?_⟩) (fun e => ?_)⟩
    · obtain ⟨pl, epl⟩ : ∃ pl, pl = mixN c 13499 530 := ⟨_, rfl⟩
      have pl0 : 0 ≤ pl := by rw [epl]; exact t0
      have pl1 : pl < 530 := by rw [epl]; exact t1
      rw [← epl]
      obtain ⟨v, ev, v0, v1⟩ := marks_at x0 x1
      refine ⟨_, rfl, _, rfl, _, _, rfl, rfl, c, 31541, n + 1, rfl, by omega, _, _, rfl, rfl, .inr ⟨by decide, by decide⟩, (by show 8 ≤ sizeLine; decide), fun p hp => ⟨_, rfl, c, 44621, 8, rfl, by decide, p, _, _, _, rfl, rfl, SqL.of upd_same, ev, _, _, rfl, rfl, ?_⟩⟩
      have s1 : Same H (upd H p (.lst (marks.map V.int))) := same_new hp
      refine ⟨_, rfl, _, rfl, _, _, rfl, rfl, .inl ⟨by decide, by decide⟩, _, _, rfl, rfl, c, 52501, 8 * n + 3, rfl, by omega, ?_⟩
      refine ⟨_, rfl, c, 39119, 17, rfl, by decide, ?_⟩
      refine ⟨_, rfl, _, _, rfl, rfl, _, rfl, ite_b (fun e => ?_) (fun e => ?_)⟩
      · exact ⟨_, rfl, (by show 3 ≤ sizeLine; decide), fun t1 h1 => ⟨_, rfl, (by show 3 ≤ sizeLine; decide), fun t2 h2 => ⟨_, rfl, (by show 2 ≤ sizeLine; decide), fun t3 h3 => ⟨(by show 3 ≤ sizeLine; decide), fun l hl => let z := odr3 (o1 := .set 3 pl) (o2 := .load (mixN c 48271 3) 3) (o3 := .tell (mixN c 48271 3)) s1 h1 h2 h3 hl; hQ _ l [t1, t2, t3] _ z.1 upd_same z.2 (good3 ⟨⟨by decide, by decide⟩, ⟨pl0, by show pl < W48; unfold W48; omega⟩⟩ ⟨⟨a0, by omega⟩, ⟨by decide, by decide⟩⟩ ⟨a0, by omega⟩) rfl⟩⟩⟩⟩
      refine ⟨_, rfl, _, _, rfl, rfl, _, rfl, ite_b (fun e => ?_) (fun e => ?_)⟩
      · exact ⟨_, rfl, (by show 3 ≤ sizeLine; decide), fun t1 h1 => ⟨_, rfl, _, rfl, (by show 3 ≤ sizeLine; decide), fun t2 h2 => ⟨_, rfl, (by show 3 ≤ sizeLine; decide), fun t3 h3 => ⟨(by show 3 ≤ sizeLine; decide), fun l hl => let z := odr3 (o1 := .set 3 pl) (o2 := .set (mixN c 48271 3) (mixN c 31541 (n + 1) * 256 + v)) (o3 := .save (mixN c 48271 3) 3) s1 h1 h2 h3 hl; hQ _ l [t1, t2, t3] _ z.1 upd_same z.2 (good3 ⟨⟨by decide, by decide⟩, ⟨pl0, by show pl < W48; unfold W48; omega⟩⟩ ⟨⟨a0, by omega⟩, ⟨by omega, by show _ < W48; unfold W48; omega⟩⟩ ⟨⟨a0, by omega⟩, ⟨by decide, by decide⟩⟩) rfl⟩⟩⟩⟩
      refine ⟨_, rfl, rfl, _, rfl, ite_b (fun e => ?_) (fun e => ?_)⟩
      · exact ⟨_, rfl, (by show 3 ≤ sizeLine; decide), fun t1 h1 => ⟨_, rfl, (by show 3 ≤ sizeLine; decide), fun t2 h2 => ⟨_, rfl, (by show 2 ≤ sizeLine; decide), fun t3 h3 => ⟨(by show 3 ≤ sizeLine; decide), fun l hl => let z := odr3 (o1 := .set 3 (mixN c 52501 (8 * n + 3))) (o2 := .peek (mixN c 48271 3) 3) (o3 := .tell (mixN c 48271 3)) s1 h1 h2 h3 hl; hQ _ l [t1, t2, t3] _ z.1 upd_same z.2 (good3 ⟨⟨by decide, by decide⟩, ⟨y0, by show _ < W48; unfold W48; omega⟩⟩ ⟨⟨a0, by omega⟩, ⟨by decide, by decide⟩⟩ ⟨a0, by omega⟩) rfl⟩⟩⟩⟩
      refine ⟨_, rfl, rfl, _, rfl, ite_b (fun e => ?_) (fun e => ?_)⟩
      · exact ⟨_, rfl, (by show 3 ≤ sizeLine; decide), fun t1 h1 => ⟨_, rfl, _, rfl, _, _, rfl, rfl, .inr ⟨by decide, by decide⟩, _, _, rfl, rfl, ⟨by decide, by decide, by decide⟩, _, _, rfl, rfl, (show (0 : Int) < 2 ^ 48 by decide), (by show 3 ≤ sizeLine; decide), fun t2 h2 => ⟨_, rfl, (by show 3 ≤ sizeLine; decide), fun t3 h3 => ⟨(by show 3 ≤ sizeLine; decide), fun l hl => let z := odr3 (o1 := .set 3 (mixN c 52501 (8 * n + 3))) (o2 := .set (mixN c 48271 3) (c * 136814513539 % W48)) (o3 := .poke (mixN c 48271 3) 3) s1 h1 h2 h3 hl; hQ _ l [t1, t2, t3] _ z.1 upd_same z.2 (good3 ⟨⟨by decide, by decide⟩, ⟨y0, by show _ < W48; unfold W48; omega⟩⟩ ⟨⟨a0, by omega⟩, ⟨Int.emod_nonneg _ (by decide), Int.emod_lt_of_pos _ (by decide)⟩⟩ ⟨⟨a0, by omega⟩, ⟨by decide, by decide⟩⟩) rfl⟩⟩⟩⟩
      refine ⟨_, rfl, rfl, _, rfl, ite_b (fun e => ?_) (fun e => ?_)⟩
      · exact ⟨_, rfl, _, _, rfl, rfl, ⟨by decide, by decide⟩, (by show 3 ≤ sizeLine; decide), fun t1 h1 => ⟨(by show 2 ≤ sizeLine; decide), fun t2 h2 => ⟨(by show 2 ≤ sizeLine; decide), fun t3 h3 => ⟨(by show 3 ≤ sizeLine; decide), fun l hl => let z := odr3 (o1 := .set 3 ((mixN c 52501 (8 * n + 3)) / 8)) (o2 := .give 3) (o3 := .tell 3) s1 h1 h2 h3 hl; hQ _ l [t1, t2, t3] _ z.1 upd_same z.2 (good3 ⟨⟨by decide, by decide⟩, ⟨by omega, by show _ < W48; unfold W48; omega⟩⟩ ⟨by decide, by decide⟩ ⟨by decide, by decide⟩) rfl⟩⟩⟩⟩
      refine ⟨_, rfl, _, _, rfl, rfl, _, rfl, ite_b (fun e => ?_) (fun e => ?_)⟩
      · exact ⟨_, rfl, _, _, rfl, rfl, ⟨by decide, by decide⟩, (by show 3 ≤ sizeLine; decide), fun t1 h1 => ⟨(by show 2 ≤ sizeLine; decide), fun t2 h2 => ⟨(by show 2 ≤ sizeLine; decide), fun t3 h3 => ⟨(by show 3 ≤ sizeLine; decide), fun l hl => let z := odr3 (o1 := .set 3 ((mixN c 52501 (8 * n + 3)) / 8)) (o2 := .want 3) (o3 := .tell 3) s1 h1 h2 h3 hl; hQ _ l [t1, t2, t3] _ z.1 upd_same z.2 (good3 ⟨⟨by decide, by decide⟩, ⟨by omega, by show _ < W48; unfold W48; omega⟩⟩ ⟨by decide, by decide⟩ ⟨by decide, by decide⟩) rfl⟩⟩⟩⟩
      refine ⟨_, rfl, rfl, _, rfl, ite_b (fun e => ?_) (fun e => ?_)⟩
      · exact ⟨_, rfl, (by show 3 ≤ sizeLine; decide), fun t1 h1 => ⟨(by show 2 ≤ sizeLine; decide), fun t2 h2 => ⟨_, rfl, (by show 3 ≤ sizeLine; decide), fun t3 h3 => ⟨(by show 3 ≤ sizeLine; decide), fun l hl => let z := odr3 (o1 := .set 3 pl) (o2 := .drop 3) (o3 := .add (mixN c 48271 3) 3) s1 h1 h2 h3 hl; hQ _ l [t1, t2, t3] _ z.1 upd_same z.2 (good3 ⟨⟨by decide, by decide⟩, ⟨pl0, by show pl < W48; unfold W48; omega⟩⟩ ⟨by decide, by decide⟩ ⟨⟨a0, by omega⟩, ⟨by decide, by decide⟩⟩) rfl⟩⟩⟩⟩
      refine ⟨_, rfl, rfl, _, rfl, ite_b (fun e => ?_) (fun e => ?_)⟩
      · exact ⟨_, rfl, _, _, rfl, rfl, ⟨by decide, by decide⟩, _, _, rfl, rfl, (show (0 : Int) < 2 by decide), (by show 3 ≤ sizeLine; decide), fun t1 h1 => ⟨(by show 2 ≤ sizeLine; decide), fun t2 h2 => ⟨_, rfl, (by show 3 ≤ sizeLine; decide), fun t3 h3 => ⟨(by show 3 ≤ sizeLine; decide), fun l hl => let z := odr3 (o1 := .set 3 ((mixN c 52501 (8 * n + 3)) / 8 % 2)) (o2 := .root 3) (o3 := .why (mixN c 48271 3) 3) s1 h1 h2 h3 hl; hQ _ l [t1, t2, t3] _ z.1 upd_same z.2 (good3 ⟨⟨by decide, by decide⟩, ⟨by omega, by show _ < W48; unfold W48; omega⟩⟩ ⟨by decide, by decide⟩ ⟨⟨a0, by omega⟩, ⟨by decide, by decide⟩⟩) rfl⟩⟩⟩⟩
      exact ⟨_, rfl, _, rfl, _, _, rfl, rfl, .inr ⟨by decide, by decide⟩, _, _, rfl, rfl, ⟨by decide, by decide, by decide⟩, _, _, rfl, rfl, (show (0 : Int) < 2 ^ 48 by decide), (by show 3 ≤ sizeLine; decide), fun t1 h1 => ⟨(by show 1 ≤ sizeLine; decide), fun t2 h2 => ⟨_, rfl, (by show 3 ≤ sizeLine; decide), fun t3 h3 => ⟨(by show 3 ≤ sizeLine; decide), fun l hl => let z := odr3 (o1 := .set (mixN c 48271 3) (c * 136814513539 % W48)) (o2 := .call) (o3 := .nought (mixN c 48271 3) 0) s1 h1 h2 h3 hl; hQ _ l [t1, t2, t3] _ z.1 upd_same z.2 (good3 ⟨⟨a0, by omega⟩, ⟨Int.emod_nonneg _ (by decide), Int.emod_lt_of_pos _ (by decide)⟩⟩ trivial ⟨⟨a0, by omega⟩, ⟨by decide, by decide⟩⟩) rfl⟩⟩⟩⟩
    · have pl0 := S1
      have pl1 := S0
      obtain ⟨v, ev, v0, v1⟩ := marks_at x0 x1
      refine ⟨_, rfl, _, rfl, _, _, rfl, rfl, c, 31541, n + 1, rfl, by omega, _, _, rfl, rfl, .inr ⟨by decide, by decide⟩, (by show 8 ≤ sizeLine; decide), fun p hp => ⟨_, rfl, c, 44621, 8, rfl, by decide, p, _, _, _, rfl, rfl, SqL.of upd_same, ev, _, _, rfl, rfl, ?_⟩⟩
      have s1 : Same H (upd H p (.lst (marks.map V.int))) := same_new hp
      refine ⟨_, rfl, _, rfl, _, _, rfl, rfl, .inl ⟨by decide, by decide⟩, _, _, rfl, rfl, c, 52501, 8 * n + 3, rfl, by omega, ?_⟩
      refine ⟨_, rfl, c, 39119, 17, rfl, by decide, ?_⟩
      refine ⟨_, rfl, _, _, rfl, rfl, _, rfl, ite_b (fun e => ?_) (fun e => ?_)⟩
      · exact ⟨_, rfl, (by show 3 ≤ sizeLine; decide), fun t1 h1 => ⟨_, rfl, (by show 3 ≤ sizeLine; decide), fun t2 h2 => ⟨_, rfl, (by show 2 ≤ sizeLine; decide), fun t3 h3 => ⟨(by show 3 ≤ sizeLine; decide), fun l hl => let z := odr3 (o1 := .set 3 (64 * mixN c 69623 2 + 8 * mixN c 40709 4 + mixN c 27437 8)) (o2 := .load (mixN c 48271 3) 3) (o3 := .tell (mixN c 48271 3)) s1 h1 h2 h3 hl; hQ _ l [t1, t2, t3] _ z.1 upd_same z.2 (good3 ⟨⟨by decide, by decide⟩, ⟨pl0, by show (64 * mixN c 69623 2 + 8 * mixN c 40709 4 + mixN c 27437 8) < W48; unfold W48; omega⟩⟩ ⟨⟨a0, by omega⟩, ⟨by decide, by decide⟩⟩ ⟨a0, by omega⟩) rfl⟩⟩⟩⟩
      refine ⟨_, rfl, _, _, rfl, rfl, _, rfl, ite_b (fun e => ?_) (fun e => ?_)⟩
      · exact ⟨_, rfl, (by show 3 ≤ sizeLine; decide), fun t1 h1 => ⟨_, rfl, _, rfl, (by show 3 ≤ sizeLine; decide), fun t2 h2 => ⟨_, rfl, (by show 3 ≤ sizeLine; decide), fun t3 h3 => ⟨(by show 3 ≤ sizeLine; decide), fun l hl => let z := odr3 (o1 := .set 3 (64 * mixN c 69623 2 + 8 * mixN c 40709 4 + mixN c 27437 8)) (o2 := .set (mixN c 48271 3) (mixN c 31541 (n + 1) * 256 + v)) (o3 := .save (mixN c 48271 3) 3) s1 h1 h2 h3 hl; hQ _ l [t1, t2, t3] _ z.1 upd_same z.2 (good3 ⟨⟨by decide, by decide⟩, ⟨pl0, by show (64 * mixN c 69623 2 + 8 * mixN c 40709 4 + mixN c 27437 8) < W48; unfold W48; omega⟩⟩ ⟨⟨a0, by omega⟩, ⟨by omega, by show _ < W48; unfold W48; omega⟩⟩ ⟨⟨a0, by omega⟩, ⟨by decide, by decide⟩⟩) rfl⟩⟩⟩⟩
      refine ⟨_, rfl, rfl, _, rfl, ite_b (fun e => ?_) (fun e => ?_)⟩
      · exact ⟨_, rfl, (by show 3 ≤ sizeLine; decide), fun t1 h1 => ⟨_, rfl, (by show 3 ≤ sizeLine; decide), fun t2 h2 => ⟨_, rfl, (by show 2 ≤ sizeLine; decide), fun t3 h3 => ⟨(by show 3 ≤ sizeLine; decide), fun l hl => let z := odr3 (o1 := .set 3 (mixN c 52501 (8 * n + 3))) (o2 := .peek (mixN c 48271 3) 3) (o3 := .tell (mixN c 48271 3)) s1 h1 h2 h3 hl; hQ _ l [t1, t2, t3] _ z.1 upd_same z.2 (good3 ⟨⟨by decide, by decide⟩, ⟨y0, by show _ < W48; unfold W48; omega⟩⟩ ⟨⟨a0, by omega⟩, ⟨by decide, by decide⟩⟩ ⟨a0, by omega⟩) rfl⟩⟩⟩⟩
      refine ⟨_, rfl, rfl, _, rfl, ite_b (fun e => ?_) (fun e => ?_)⟩
      · exact ⟨_, rfl, (by show 3 ≤ sizeLine; decide), fun t1 h1 => ⟨_, rfl, _, rfl, _, _, rfl, rfl, .inr ⟨by decide, by decide⟩, _, _, rfl, rfl, ⟨by decide, by decide, by decide⟩, _, _, rfl, rfl, (show (0 : Int) < 2 ^ 48 by decide), (by show 3 ≤ sizeLine; decide), fun t2 h2 => ⟨_, rfl, (by show 3 ≤ sizeLine; decide), fun t3 h3 => ⟨(by show 3 ≤ sizeLine; decide), fun l hl => let z := odr3 (o1 := .set 3 (mixN c 52501 (8 * n + 3))) (o2 := .set (mixN c 48271 3) (c * 136814513539 % W48)) (o3 := .poke (mixN c 48271 3) 3) s1 h1 h2 h3 hl; hQ _ l [t1, t2, t3] _ z.1 upd_same z.2 (good3 ⟨⟨by decide, by decide⟩, ⟨y0, by show _ < W48; unfold W48; omega⟩⟩ ⟨⟨a0, by omega⟩, ⟨Int.emod_nonneg _ (by decide), Int.emod_lt_of_pos _ (by decide)⟩⟩ ⟨⟨a0, by omega⟩, ⟨by decide, by decide⟩⟩) rfl⟩⟩⟩⟩
      refine ⟨_, rfl, rfl, _, rfl, ite_b (fun e => ?_) (fun e => ?_)⟩
      · exact ⟨_, rfl, _, _, rfl, rfl, ⟨by decide, by decide⟩, (by show 3 ≤ sizeLine; decide), fun t1 h1 => ⟨(by show 2 ≤ sizeLine; decide), fun t2 h2 => ⟨(by show 2 ≤ sizeLine; decide), fun t3 h3 => ⟨(by show 3 ≤ sizeLine; decide), fun l hl => let z := odr3 (o1 := .set 3 ((mixN c 52501 (8 * n + 3)) / 8)) (o2 := .give 3) (o3 := .tell 3) s1 h1 h2 h3 hl; hQ _ l [t1, t2, t3] _ z.1 upd_same z.2 (good3 ⟨⟨by decide, by decide⟩, ⟨by omega, by show _ < W48; unfold W48; omega⟩⟩ ⟨by decide, by decide⟩ ⟨by decide, by decide⟩) rfl⟩⟩⟩⟩
      refine ⟨_, rfl, _, _, rfl, rfl, _, rfl, ite_b (fun e => ?_) (fun e => ?_)⟩
      · exact ⟨_, rfl, _, _, rfl, rfl, ⟨by decide, by decide⟩, (by show 3 ≤ sizeLine; decide), fun t1 h1 => ⟨(by show 2 ≤ sizeLine; decide), fun t2 h2 => ⟨(by show 2 ≤ sizeLine; decide), fun t3 h3 => ⟨(by show 3 ≤ sizeLine; decide), fun l hl => let z := odr3 (o1 := .set 3 ((mixN c 52501 (8 * n + 3)) / 8)) (o2 := .want 3) (o3 := .tell 3) s1 h1 h2 h3 hl; hQ _ l [t1, t2, t3] _ z.1 upd_same z.2 (good3 ⟨⟨by decide, by decide⟩, ⟨by omega, by show _ < W48; unfold W48; omega⟩⟩ ⟨by decide, by decide⟩ ⟨by decide, by decide⟩) rfl⟩⟩⟩⟩
      refine ⟨_, rfl, rfl, _, rfl, ite_b (fun e => ?_) (fun e => ?_)⟩
      · exact ⟨_, rfl, (by show 3 ≤ sizeLine; decide), fun t1 h1 => ⟨(by show 2 ≤ sizeLine; decide), fun t2 h2 => ⟨_, rfl, (by show 3 ≤ sizeLine; decide), fun t3 h3 => ⟨(by show 3 ≤ sizeLine; decide), fun l hl => let z := odr3 (o1 := .set 3 (64 * mixN c 69623 2 + 8 * mixN c 40709 4 + mixN c 27437 8)) (o2 := .drop 3) (o3 := .add (mixN c 48271 3) 3) s1 h1 h2 h3 hl; hQ _ l [t1, t2, t3] _ z.1 upd_same z.2 (good3 ⟨⟨by decide, by decide⟩, ⟨pl0, by show (64 * mixN c 69623 2 + 8 * mixN c 40709 4 + mixN c 27437 8) < W48; unfold W48; omega⟩⟩ ⟨by decide, by decide⟩ ⟨⟨a0, by omega⟩, ⟨by decide, by decide⟩⟩) rfl⟩⟩⟩⟩
      refine ⟨_, rfl, rfl, _, rfl, ite_b (fun e => ?_) (fun e => ?_)⟩
      · exact ⟨_, rfl, _, _, rfl, rfl, ⟨by decide, by decide⟩, _, _, rfl, rfl, (show (0 : Int) < 2 by decide), (by show 3 ≤ sizeLine; decide), fun t1 h1 => ⟨(by show 2 ≤ sizeLine; decide), fun t2 h2 => ⟨_, rfl, (by show 3 ≤ sizeLine; decide), fun t3 h3 => ⟨(by show 3 ≤ sizeLine; decide), fun l hl => let z := odr3 (o1 := .set 3 ((mixN c 52501 (8 * n + 3)) / 8 % 2)) (o2 := .root 3) (o3 := .why (mixN c 48271 3) 3) s1 h1 h2 h3 hl; hQ _ l [t1, t2, t3] _ z.1 upd_same z.2 (good3 ⟨⟨by decide, by decide⟩, ⟨by omega, by show _ < W48; unfold W48; omega⟩⟩ ⟨by decide, by decide⟩ ⟨⟨a0, by omega⟩, ⟨by decide, by decide⟩⟩) rfl⟩⟩⟩⟩
      exact ⟨_, rfl, _, rfl, _, _, rfl, rfl, .inr ⟨by decide, by decide⟩, _, _, rfl, rfl, ⟨by decide, by decide, by decide⟩, _, _, rfl, rfl, (show (0 : Int) < 2 ^ 48 by decide), (by show 3 ≤ sizeLine; decide), fun t1 h1 => ⟨(by show 1 ≤ sizeLine; decide), fun t2 h2 => ⟨_, rfl, (by show 3 ≤ sizeLine; decide), fun t3 h3 => ⟨(by show 3 ≤ sizeLine; decide), fun l hl => let z := odr3 (o1 := .set (mixN c 48271 3) (c * 136814513539 % W48)) (o2 := .call) (o3 := .nought (mixN c 48271 3) 0) s1 h1 h2 h3 hl; hQ _ l [t1, t2, t3] _ z.1 upd_same z.2 (good3 ⟨⟨a0, by omega⟩, ⟨Int.emod_nonneg _ (by decide), Int.emod_lt_of_pos _ (by decide)⟩⟩ trivial ⟨⟨a0, by omega⟩, ⟨by decide, by decide⟩⟩) rfl⟩⟩⟩⟩
end
end M35

/-! ## text A17 -/
set_option maxHeartbeats 4000000
namespace M35
open PySem PySem.Spec PyProof.Rows L2

/-! # pages, programs -/
structure LsR (H : Hp) (ps : List Addr) (ls : List (List Int)) : Prop where
  len : ps.length = ls.length
  at_ : ∀ (i : Nat) (l : List Int), ls[i]? = some l → ∃ p, ps[i]? = some p ∧ H p = some (.lst (l.map V.int))
def gl8 (ls : List (List Int)) : Prop := ∀ l ∈ ls, l.length = 8 ∧ ∀ x ∈ l, isW x
theorem LsR.keep {H H' : Hp} {ps : List Addr} {ls : List (List Int)} (h : LsR H ps ls) (k : ∀ p ∈ ps, ∀ o, H p = some o → H' p = some o) : LsR H' ps ls := ⟨h.len, fun i l e => let ⟨p, a, b⟩ := h.at_ i l e; ⟨p, a, k p (List.mem_of_getElem? a) _ b⟩⟩
structure PgO (H H' : Hp) (D : Addr) (ps : List Addr) (ls : List (List Int)) : Prop where
  s : Same H H'
  d0 : H D = none
  hd : H' D = some (.lst (ps.map V.ref))
  lr : LsR H' ps ls
  np : ∀ p ∈ ps, p ≠ D
  g : gl8 ls
structure PgI (H H' : Hp) (D Wd : Addr) (ps : List Addr) (ls : List (List Int)) (l : List Int) : Prop where
  o : PgO H H' D ps ls
  w0 : H Wd = none
  wd : Wd ≠ D
  hw : H' Wd = some (.lst (l.map V.int))
  np : ∀ p ∈ ps, p ≠ Wd
  gw : ∀ x ∈ l, isW x
section
variable {H H' H2 : Hp} {D Wd : Addr} {ps : List Addr} {ls : List (List Int)} {l : List Int}
theorem PgO.same (h : PgO H H' D ps ls) (s : Same H' H2) : PgO H H2 D ps ls := ⟨h.s.trans s, h.d0, s _ _ h.hd, h.lr.keep fun p _ o e => s _ _ e, h.np, h.g⟩
theorem PgI.same (h : PgI H H' D Wd ps ls l) (s : Same H' H2) : PgI H H2 D Wd ps ls l := ⟨h.o.same s, h.w0, h.wd, s _ _ h.hw, h.np, h.gw⟩
theorem PgO.inn (h : PgO H H' D ps ls) (hw : H' Wd = none) : PgI H (upd H' Wd (.lst [])) D Wd ps ls [] := by
  refine ⟨h.same (same_new hw), h.s.free hw, Ne.symm (ne_of_none h.hd hw), upd_same, fun p hp z => ?_, fun x hx => by cases hx⟩
  obtain ⟨i, e⟩ := List.mem_iff_getElem?.mp hp
  have il : i < ls.length := by
    rw [← h.lr.len]
    exact (List.getElem?_eq_some_iff.mp e).1
  obtain ⟨p2, a, b⟩ := h.lr.at_ i _ (List.getElem?_eq_getElem il)
  rw [e] at a
  cases a
  rw [z, hw] at b
  cases b
theorem PgI.app (h : PgI H H' D Wd ps ls l) {x : Int} (hx : isW x) : PgI H (upd H' Wd (.lst (l.map V.int ++ [.int x]))) D Wd ps ls (l ++ [x]) := by
  refine ⟨⟨fun b o e => ?_, h.o.d0, ?_, h.o.lr.keep fun p hp o e => ?_, h.o.np, h.o.g⟩, h.w0, h.wd, ?_, h.np, fun y hy => ?_⟩
  · rw [upd_ne (ne_of_none e h.w0)]
    exact h.o.s b o e
  · rw [upd_ne (Ne.symm h.wd)]
    exact h.o.hd
  · rw [upd_ne (h.np p hp)]
    exact e
  · rw [upd_same, List.map_append]
    rfl
  · rcases List.mem_append.mp hy with z | z
    · exact h.gw y z
    · rw [List.mem_singleton.mp z]
      exact hx
theorem PgI.out (h : PgI H H' D Wd ps ls l) (l8 : l.length = 8) : PgO H (upd H' D (.lst (ps.map V.ref ++ [.ref Wd]))) D (ps ++ [Wd]) (ls ++ [l]) := by
  refine ⟨fun b o e => ?_, h.o.d0, ?_, ⟨by rw [List.length_append, List.length_append, h.o.lr.len]; rfl, fun i m e => ?_⟩, fun p hp => ?_, fun m hm => ?_⟩
  · rw [upd_ne (ne_of_none e h.o.d0)]
    exact h.o.s b o e
  · rw [upd_same, List.map_append]
    rfl
  · rcases app_some e with z | ⟨z1, z2⟩
    · obtain ⟨p, a, b⟩ := h.o.lr.at_ i m z
      exact ⟨p, app_old a, by rw [upd_ne (h.o.np p (List.mem_of_getElem? a))]; exact b⟩
    · exact ⟨Wd, app_new (by rw [z1, h.o.lr.len]), by rw [upd_ne h.wd, z2]; exact h.hw⟩
  · rcases List.mem_append.mp hp with z | z
    · exact h.o.np p z
    · rw [List.mem_singleton.mp z]
      exact h.wd
  · rcases List.mem_append.mp hm with z | z
    · exact h.o.g m z
    · rw [List.mem_singleton.mp z]
      exact ⟨l8, h.gw⟩
end
theorem cutV_take (xs : List V) (k : Nat) : cutV xs none (some (k : Int)) = xs.take k := by
  unfold cutV
  rw [HT.sIx_none, HT.sIx_nat, List.drop_zero, Nat.sub_zero]
  rcases Nat.le_total k xs.length with z | z
  · rw [Nat.min_eq_left z]
  · rw [Nat.min_eq_right z, List.take_length, List.take_of_length_le z]
theorem cutV_ints (ns : List Int) (lo hi : Option Int) : ∃ ms : List Int, cutV (ns.map V.int) lo hi = ms.map V.int ∧ ms.length ≤ ns.length := by
  refine ⟨(ns.drop (HT.sIx ns.length 0 lo)).take (HT.sIx ns.length ns.length hi - HT.sIx ns.length 0 lo), ?_, ?_⟩
  · unfold cutV
    rw [List.length_map, List.map_take, List.map_drop]
  · rw [List.length_take, List.length_drop]
    omega
section
variable {P : Program} {w : World} {K : PySem.W.Frag} {mg : Str → Option Value} {base : Heap}
theorem sc_law_pages : FnScope ["_law_cell", "_law_many", "_law_pages_here", "_law_number", "_law_page", "_law_words", "_law_k", "_law_word"] ["_law_cell", "_law_many"] d_law_pages.scope := ⟨rfl, rfl, rfl, by decide +kernel, rfl, by decide +kernel, by decide +kernel⟩
def sp_law_pages (K : PySem.W.Frag) : Sp := fun vs H Q _ => ∃ c m, vs = [.int c, .int m] ∧ 1 ≤ m ∧ m ≤ 6 ∧ ∀ H' a ps ls, Same H H' → H' a = some (.lst ((ps : List Addr).map V.ref)) → LsR H' ps ls → gl8 ls → ls.length = m.toNat → Q (.ref a) H'
theorem ok_law_pages (T : Txt K mg) : Ok P w K mg base CX0 1 d_law_pages ["_law_cell", "_law_many"] (sp_law_pages K) := by
  refine ok_no T.f_law_pages sc_law_pages rfl (fun _ _ _ _ _ _ us hl => match us, hl with | [_, _], _ => rfl) (fun vs H Q E h => ?_) (fun cdv A outer s H vs Q E hr h => ?_)
  · obtain ⟨c, m, rfl, _⟩ := h
    rfl
  · obtain ⟨c, m, rfl, m1, m6, hQ⟩ := h
    have nd := sc_law_pages.nd
    refine ⟨_, pss_cons (ps_set (i := 2) nd rfl (.inl rfl) (pe_lst pa_nil))
      (pss_cons (ps_set (i := 3) nd rfl (.inl rfl) (pe_op op_add (pe_op op_mod (pv 0) pe_int) pe_int))
      (pss_cons (ps_for PassesOwn.never rfl (pi_range1 (by rfl) T.b_range (pa_cons (pv 1) pa_nil)) (pg_name (i := 4) nd rfl (Or.inl rfl))
        (pss_cons (ps_set (i := 5) nd rfl (.inl rfl) (pe_lst pa_nil))
        (pss_cons (ps_for PassesOwn.never rfl (pi_range1 (by rfl) T.b_range (pa_cons pe_int pa_nil)) (pg_name (i := 6) nd rfl (Or.inl rfl))
          (pss_cons (ps_set (i := 3) nd rfl (.inl rfl) (pe_op op_mod (pe_op op_add (pe_op op_add (pe_op op_mul (pv 3) pe_int) (pe_op op_mul pe_int (pv 4))) (pv 6)) pe_int))
          (pss_cons (ps_set (i := 7) nd rfl (.inl rfl) (pe_op op_add (pe_op op_mul (pe_op op_mod (pe_op op_fdiv (pv 3) pe_int) (pe_op op_add (pv 1) pe_int)) pe_int) (pe_ix ix_list (pe_lst (pa_cons pe_int (pa_cons pe_int (pa_cons pe_int (pa_cons pe_int (pa_cons pe_int (pa_cons pe_int (pa_cons pe_int (pa_cons pe_int pa_nil))))))))) (pe_op op_mod (pe_op op_fdiv (pv 3) pe_int) pe_int) (fun _ _ => rfl))))
          (pss_cons (ps_if (pt_cmpR op_eq (pe_op op_mod (pe_op op_fdiv (pv 3) pe_int) pe_int) pe_int (nomark _)) (pss_one (ps_set (i := 7) nd rfl (.inl rfl) (pe_op op_mod (pe_op op_mul (pv 3) (pv 3)) (pe_op op_pow pe_int pe_int)))) pss_nil)
          (pss_one (ps_expr (pe_bm PySem.F.plainAttrs_list PySem.F.slot_list_append PySem.F.type_list_append mt_append (pv 5) (pa_cons (pv 7) pa_nil))))))))
        (pss_one (ps_expr (pe_bm PySem.F.plainAttrs_list PySem.F.slot_list_append PySem.F.type_list_append mt_append (pv 2) (pa_cons (pv 5) pa_nil)))))))
      (pss_one (ps_ret (pv 2))))), ?_⟩
    have c0 : 0 ≤ c % 1000003 := Int.emod_nonneg _ (by decide)
    have c1 : c % 1000003 < 1000003 := Int.emod_lt_of_pos _ (by decide)
    refine ⟨(by show 0 ≤ sizeLine; decide), fun D hD => ?_⟩
    refine ⟨_, rfl, _, _, rfl, rfl, (show (0 : Int) < 1000003 by decide), _, _, rfl, rfl, ?_⟩
    refine ⟨_, rfl, m, rfl, by omega, by omega, for_range (n := m.toNat) (fun i σ H' => ∃ (num : Int) (v4 v5 v6 v7 : Option V) (ps : List Addr) (ls : List (List Int)), σ = [some (.int c), some (.int m), some (.ref D), some (.int num), v4, v5, v6, v7] ∧ 0 ≤ num ∧ num < 2147483647 ∧ PgO H H' D ps ls ∧ ls.length = i)
      ⟨_, none, none, none, none, [], [], rfl, by omega, by omega, ⟨same_new hD, hD, upd_same, ⟨rfl, fun i l e => by cases e⟩, (fun p hp => by cases hp), fun l hl => by cases hl⟩, rfl⟩ ?_ ?_⟩
    · rintro i σ H1 hi ⟨num, v4, v5, v6, v7, ps, ls, rfl, n0, n1, hO, hlen⟩
      refine ⟨(by show 0 ≤ sizeLine; decide), fun Wd hWd => ?_⟩
      refine ⟨8, rfl, by decide, by decide, for_range (n := 8) (fun k σ H' => ∃ (num : Int) (v6 v7 : Option V) (l : List Int), σ = [some (.int c), some (.int m), some (.ref D), some (.int num), some (.int (0 + (i : Int))), some (.ref Wd), v6, v7] ∧ 0 ≤ num ∧ num < 2147483647 ∧ PgI H H' D Wd ps ls l ∧ l.length = k)
        ⟨num, v6, v7, [], rfl, n0, n1, hO.inn hWd, rfl⟩ ?_ ?_⟩
      · rintro k σ H2 hk ⟨nu, v6, v7, l, rfl, u0, u1, hI, hl⟩
        refine ⟨_, rfl, _, _, rfl, rfl, .inl ⟨by omega, by omega⟩, _, rfl, _, _, rfl, rfl, .inl ⟨by decide, by decide⟩, _, _, rfl, rfl, _, rfl, _, _, rfl, rfl, _, _, rfl, rfl, (show (0 : Int) < 2147483647 by decide), ?_⟩
        have e0 : 0 ≤ (nu * 48271 + 11 * (0 + (i : Int)) + (0 + (k : Int))) % 2147483647 := Int.emod_nonneg _ (by decide)
        have e1 : (nu * 48271 + 11 * (0 + (i : Int)) + (0 + (k : Int))) % 2147483647 < 2147483647 := Int.emod_lt_of_pos _ (by decide)
        obtain ⟨v, ev, w0, w1⟩ := marks_at (i := ((nu * 48271 + 11 * (0 + (i : Int)) + (0 + (k : Int))) % 2147483647) / 4096 % 8) (by omega) (by omega)
        have f0 : 0 ≤ ((nu * 48271 + 11 * (0 + (i : Int)) + (0 + (k : Int))) % 2147483647) / 64 % (m + 1) := Int.emod_nonneg _ (by omega)
        have f1 : ((nu * 48271 + 11 * (0 + (i : Int)) + (0 + (k : Int))) % 2147483647) / 64 % (m + 1) < m + 1 := Int.emod_lt_of_pos _ (by omega)
        refine ⟨_, rfl, _, _, rfl, rfl, ⟨by decide, by decide⟩, _, rfl, _, _, rfl, rfl, _, _, rfl, rfl, (show (0 : Int) < m + 1 by omega), _, _, rfl, rfl, .inr ⟨by decide, by decide⟩, (by show 8 ≤ sizeLine; decide), fun p hp => ⟨_, rfl, _, _, rfl, rfl, ⟨by decide, by decide⟩, _, _, rfl, rfl, (show (0 : Int) < 8 by decide), p, _, _, _, rfl, rfl, SqL.of upd_same, ev, _, _, rfl, rfl, ?_⟩⟩
        have hI2 := hI.same (same_new (o := .lst (marks.map V.int)) hp)
        have small : (l.map V.int).length < sizeLine := by
          rw [List.length_map, hl]
          exact Nat.lt_trans hk (by decide)
        have nx : ∀ x, isW x → ∃ (num : Int) (v6' v7' : Option V) (l' : List Int), [some (.int c), some (.int m), some (.ref D), some (.int ((nu * 48271 + 11 * (0 + (i : Int)) + (0 + (k : Int))) % 2147483647)), some (.int (0 + (i : Int))), some (.ref Wd), some (.int (0 + (k : Int))), some (.int x)] = [some (.int c), some (.int m), some (.ref D), some (.int num), some (.int (0 + (i : Int))), some (.ref Wd), v6', v7'] ∧ 0 ≤ num ∧ num < 2147483647 ∧
            PgI H (upd (upd H2 p (.lst (marks.map V.int))) Wd (.lst (l.map V.int ++ [.int x]))) D Wd ps ls l' ∧ l'.length = k + 1 := fun x hx => ⟨((nu * 48271 + 11 * (0 + (i : Int)) + (0 + (k : Int))) % 2147483647), _, _, _, rfl, e0, e1, hI2.app hx, by rw [List.length_append, hl]; rfl⟩
        refine ⟨_, rfl, _, _, rfl, rfl, ⟨by decide, by decide⟩, _, _, rfl, rfl, (show (0 : Int) < 9 by decide), rfl, _, rfl, ite_b (fun q => ?_) (fun q => ?_)⟩
        · refine ⟨_, rfl, _, rfl, _, _, rfl, rfl, .inl ⟨by omega, by omega⟩, _, _, rfl, rfl, ⟨by decide, by decide, by decide⟩, _, _, rfl, rfl, (show (0 : Int) < 2 ^ 48 by decide), ?_⟩
          exact ⟨_, rfl, .inl ⟨rfl, _, SqL.of hI2.hw⟩, _, rfl, Wd, _, _, rfl, rfl, hI2.hw, small, nx _ ⟨Int.emod_nonneg _ (by decide), Int.emod_lt_of_pos _ (by decide)⟩⟩
        · exact ⟨_, rfl, .inl ⟨rfl, _, SqL.of hI2.hw⟩, _, rfl, Wd, _, _, rfl, rfl, hI2.hw, small, nx _ ⟨by omega, by show _ < W48; unfold W48; omega⟩⟩
      · rintro σ H2 ⟨nu, v6, v7, l, rfl, u0, u1, hI, hl⟩
        refine ⟨_, rfl, .inl ⟨rfl, _, SqL.of hI.o.hd⟩, _, rfl, D, _, _, rfl, rfl, hI.o.hd, ?_, ⟨nu, _, _, _, _, _, _, rfl, u0, u1, hI.out hl, by rw [List.length_append, hlen]; rfl⟩⟩
        rw [List.length_map, hO.lr.len, hlen]
        exact Nat.lt_of_lt_of_le (Nat.lt_of_lt_of_le hi (by omega)) (show 6 ≤ sizeLine by decide)
    · rintro σ H1 ⟨num, v4, v5, v6, v7, ps, ls, rfl, n0, n1, hO, hlen⟩
      exact ⟨_, rfl, hQ H1 D ps ls hO.s hO.hd hO.lr hO.g hlen⟩
theorem sc_law_program : FnScope ["_law_cells", "_law_size", "_law_seed", "_law_rows", "_law_cell"] ["_law_cells", "_law_size", "_law_seed"] d_law_program.scope := ⟨rfl, rfl, rfl, by decide +kernel, rfl, by decide +kernel, by decide +kernel⟩
def sp_law_program (K : PySem.W.Frag) : Sp := fun vs H Q _ => ∃ a ms n sd, vs = [.ref a, .int n, .int sd] ∧ SqL K H a ((ms : List Int).map V.int) ∧ ms.length ≤ 63 ∧ 1 ≤ n ∧ n ≤ 6 ∧
  ∀ H' l ts os, Same H H' → H' l = some (.lst ((ts : List Addr).map V.ref)) → OdR H' ts os → (∀ o ∈ os, Ord.good o) → 2 ≤ os.length → os.length ≤ 60 → Q (.ref l) H'
theorem ok_law_program (T : Txt K mg) : Ok P w K mg base CX0 3 d_law_program ["_law_cells", "_law_size", "_law_seed"] (sp_law_program K) := by
  refine ok_no T.f_law_program sc_law_program rfl (fun _ _ _ _ _ _ us hl => match us, hl with | [_, _, _], _ => rfl) (fun vs H Q E h => ?_) (fun cdv A outer s H vs Q E hr h => ?_)
  · obtain ⟨a, ms, n, sd, rfl, _⟩ := h
    rfl
  · obtain ⟨a, ms, n, sd, rfl, ha, mlen, n1, n6, hQ⟩ := h
    have O1 : Ok P w K mg base CX0 1 d_law_mix ["_law_cell", "_law_by", "_law_many"] (sp_law_mix K) := ok_law_mix T
    have O2 : Ok P w K mg base CX0 2 d_law_group ["_law_cell", "_law_size"] (sp_law_group K) := ok_law_group T
    have nd := sc_law_program.nd
    have h1 := hr.mono (show 1 ≤ 2 by decide)
    refine ⟨_, pss_cons (ps_set (i := 3) nd rfl (.inl rfl) (pe_lst pa_nil))
      (pss_cons (ps_for PassesOwn.never rfl (pi_list (pv 0)) (pg_name (i := 4) nd rfl (Or.inl rfl))
        (pss_one (ps_set (i := 3) nd rfl (.inl rfl) (pe_op op_cat (pv 3) (pe_c O2 hr rfl T.g_law_group pass0 (pa_cons (pv 4) (pa_cons (pv 1) pa_nil)))))))
      (pss_cons (ps_set (i := 3) nd rfl (.inl rfl) (pe_slice sl_list (pv 3) po_none (po_some pe_int)))
      (pss_cons (ps_if (pt_cmpR op_eq (pe_c O1 h1 rfl T.g_law_mix pass0 (pa_cons (pv 2) (pa_cons pe_int (pa_cons pe_int pa_nil)))) pe_int (nomark _))
        (pss_one (ps_set (i := 3) nd rfl (.inl rfl) (pe_op op_cat (pe_lst (pa_cons (pe_tup (pa_cons pe_str (pa_cons pe_int pa_nil))) pa_nil)) (pv 3)))) pss_nil)
      (pss_cons (ps_if (pt_cmpR op_eq (pe_c O1 h1 rfl T.g_law_mix pass0 (pa_cons (pv 2) (pa_cons pe_int (pa_cons pe_int pa_nil)))) pe_int (nomark _))
        (pss_one (ps_expr (pe_bm PySem.F.plainAttrs_list PySem.F.slot_list_append PySem.F.type_list_append mt_append (pv 3) (pa_cons (pe_tup (pa_cons pe_str pa_nil)) pa_nil)))) pss_nil)
      (pss_one (ps_ret (pe_op op_cat (pv 3) (pe_lst (pa_cons (pe_tup (pa_cons pe_str (pa_cons pe_int pa_nil))) (pa_cons (pe_tup (pa_cons pe_str pa_nil)) pa_nil)))))))))), ?_⟩
    refine ⟨(by show 0 ≤ sizeLine; decide), fun D hD => ?_⟩
    refine ⟨_, rfl, a, rfl, ⟨_, (same_new hD).seq ha⟩, for_list (xs := ms.map V.int) (fun i σ H' => ∃ (r : Addr) (v4 : Option V) (ts : List Addr) (os : List Ord), σ = [some (.ref a), some (.int n), some (.int sd), some (.ref r), v4] ∧ Same H H' ∧ H r = none ∧ H' r = some (.lst (ts.map V.ref)) ∧ OdR H' ts os ∧ (∀ o ∈ os, Ord.good o) ∧ os.length = 3 * i)
      ⟨D, none, [], [], rfl, same_new hD, hD, upd_same, OdR.nil, (fun o ho => by cases ho), rfl⟩ (fun i σ H' _ ⟨_, _, _, _, _, s', _⟩ => s'.seq ha) ?_ ?_⟩
    · rintro i x σ H1 hx ⟨r, v4, ts, os, rfl, s1, r0, hr1, ho, hg, hl⟩
      have il : i < ms.length := by
        have q := (List.getElem?_eq_some_iff.mp hx).1
        rw [List.length_map] at q
        exact q
      rw [List.getElem?_map, List.getElem?_eq_getElem il] at hx
      obtain rfl : V.int ms[i] = x := Option.some.inj hx
      refine ⟨_, rfl, _, rfl, _, rfl, ms[i], n, rfl, n1, n6, fun H2 l ts2 os2 s2 e2 ho2 hg2 hl2 => ?_⟩
      refine ⟨r, l, _, _, rfl, rfl, s2 _ _ hr1, e2, ?_, fun p hp => ?_⟩
      · rw [List.length_map, List.length_map, ho.len, ho2.len, hl, hl2]
        exact Nat.le_trans (show 3 * i + 3 ≤ 200 by omega) (by decide)
      have s3 := Same.up (o := .lst (ts.map V.ref ++ ts2.map V.ref)) (s1.trans s2) hp
      refine ⟨p, _, ts ++ ts2, os ++ os2, rfl, s3, (s1.trans s2).free hp, ?_, ((ho.same s2).app ho2).same (same_new hp), fun o ho => ?_, ?_⟩
      · rw [upd_same, List.map_append]
      · rcases List.mem_append.mp ho with z | z
        · exact hg o z
        · exact hg2 o z
      · rw [List.length_append, hl, hl2]
        omega
    · rintro σ H1 ⟨r, v4, ts, os, rfl, s1, r0, hr1, ho, hg, hl⟩
      rw [List.length_map] at hl
      refine ⟨_, rfl, 56, rfl, r, _, rfl, SqL.of hr1, fun r2 hr2 => ?_⟩
      have ecut : cutV (ts.map V.ref) none (some 56) = (ts.take 56).map V.ref := by
        rw [List.map_take]
        exact cutV_take _ 56
      rw [ecut]
      have s2 : Same H (upd H1 r2 (.lst ((ts.take 56).map V.ref))) := Same.up s1 hr2
      have r20 : H r2 = none := s1.free hr2
      have ho2 : OdR (upd H1 r2 (.lst ((ts.take 56).map V.ref))) (ts.take 56) (os.take 56) := (ho.take 56).same (same_new hr2)
      have hg2 : ∀ o ∈ os.take 56, Ord.good o := fun o z => hg o (List.mem_of_mem_take z)
      have hl2 : (os.take 56).length ≤ 56 := List.length_take_le ..
      generalize ts.take 56 = ts2 at s2 ho2 ⊢
      generalize os.take 56 = os2 at ho2 hg2 hl2
      -- the last two rows
      have last : ∀ (H3 : Hp) (r3 : Addr) (ts3 : List Addr) (os3 : List Ord), Same H H3 → H3 r3 = some (.lst (ts3.map V.ref)) → OdR H3 ts3 os3 → (∀ o ∈ os3, Ord.good o) → os3.length ≤ 58 →
          (2 ≤ sizeLine ∧ ∀ p1, H3 p1 = none → 1 ≤ sizeLine ∧ ∀ p2, upd H3 p1 (.tup (Ord.jump 0).vs) p2 = none → 2 ≤ sizeLine ∧ ∀ p3, upd (upd H3 p1 (.tup (Ord.jump 0).vs)) p2 (.tup Ord.past.vs) p3 = none →
            ∃ l b xs zs, V.ref r3 = .ref l ∧ V.ref p3 = .ref b ∧ (upd (upd (upd H3 p1 (.tup (Ord.jump 0).vs)) p2 (.tup Ord.past.vs)) p3 (.lst [.ref p1, .ref p2])) l = some (.lst xs) ∧ (upd (upd (upd H3 p1 (.tup (Ord.jump 0).vs)) p2 (.tup Ord.past.vs)) p3 (.lst [.ref p1, .ref p2])) b = some (.lst zs) ∧ xs.length + zs.length ≤ sizeLine ∧
              ∀ p, (upd (upd (upd H3 p1 (.tup (Ord.jump 0).vs)) p2 (.tup Ord.past.vs)) p3 (.lst [.ref p1, .ref p2])) p = none → Q (.ref p) (upd (upd (upd (upd H3 p1 (.tup (Ord.jump 0).vs)) p2 (.tup Ord.past.vs)) p3 (.lst [.ref p1, .ref p2])) p (.lst (xs ++ zs)))) := fun H3 r3 ts3 os3 s3 e3 o3 g3 l3 => by
        refine ⟨by decide, fun p1 h1 => ⟨by decide, fun p2 h2 => ⟨by decide, fun p3 h3 => ?_⟩⟩⟩
        have q1 := same_new (o := .tup (Ord.jump 0).vs) h1
        have q2 := same_new (o := .tup Ord.past.vs) h2
        have q3 := same_new (o := .lst [.ref p1, .ref p2]) h3
        have q13 := q1.trans (q2.trans q3)
        refine ⟨r3, p3, _, _, rfl, rfl, q13 _ _ e3, upd_same, ?_, fun p hp => ?_⟩
        · rw [List.length_map, o3.len]
          exact Nat.le_trans (show os3.length + 2 ≤ 60 by omega) (by decide)
        · have q4 := same_new (o := .lst (ts3.map V.ref ++ [.ref p1, .ref p2])) hp
          refine hQ _ p (ts3 ++ ([p1] ++ [p2])) (os3 ++ ([.jump 0] ++ [.past])) (s3.trans (q13.trans q4)) ?_ ((o3.same (q13.trans q4)).app ((OdR.one ((q2.trans (q3.trans q4)) _ _ upd_same)).app (OdR.one ((q3.trans q4) _ _ upd_same)))) (fun o z => ?_) ?_ ?_
          · rw [upd_same, List.map_append]
            rfl
          · rcases List.mem_append.mp z with z | z
            · exact g3 o z
            · rcases List.mem_cons.mp z with z | z
              · rw [z]
                exact ⟨by decide, by decide⟩
              · rw [List.mem_singleton.mp z]
                trivial
          · rw [List.length_append]
            exact Nat.le_add_left 2 _
          · rw [List.length_append]
            show os3.length + 2 ≤ 60
            omega
      -- halt ahead of them
      have halt : ∀ (H3 : Hp) (r3 : Addr) (ts3 : List Addr) (os3 : List Ord), Same H H3 → H r3 = none → H3 r3 = some (.lst (ts3.map V.ref)) → OdR H3 ts3 os3 → (∀ o ∈ os3, Ord.good o) → os3.length ≤ 57 → ∀ p, H3 p = none →
          Same H (upd (upd H3 p (.tup Ord.halt.vs)) r3 (.lst (ts3.map V.ref ++ [.ref p]))) ∧ (upd (upd H3 p (.tup Ord.halt.vs)) r3 (.lst (ts3.map V.ref ++ [.ref p]))) r3 = some (.lst ((ts3 ++ [p]).map V.ref)) ∧ OdR (upd (upd H3 p (.tup Ord.halt.vs)) r3 (.lst (ts3.map V.ref ++ [.ref p]))) (ts3 ++ [p]) (os3 ++ [.halt]) := fun H3 r3 ts3 os3 s3 n3 e3 o3 g3 l3 p hp => by
        have q1 := same_new (o := .tup Ord.halt.vs) hp
        have kt : ∀ b xs, (upd H3 p (.tup Ord.halt.vs)) b = some (.tup xs) → (upd (upd H3 p (.tup Ord.halt.vs)) r3 (.lst (ts3.map V.ref ++ [.ref p]))) b = some (.tup xs) := fun b xs e => by
          rw [upd_ne (ne_of e (q1 _ _ e3) (fun z => nomatch z))]
          exact e
        refine ⟨fun b o e => ?_, ?_, ((o3.same q1).keep kt).app (OdR.one (kt _ _ upd_same))⟩
        · rw [upd_ne (ne_of_none e n3)]
          exact q1 _ _ (s3 _ _ e)
        · rw [upd_same, List.map_append]
          rfl
      have g1 : ∀ os3 : List Ord, (∀ o ∈ os3, Ord.good o) → ∀ o ∈ os3 ++ [Ord.halt], Ord.good o := fun os3 g3 o z => by
        rcases List.mem_append.mp z with z | z
        · exact g3 o z
        · rw [List.mem_singleton.mp z]
          trivial
      refine ⟨_, rfl, sd, 55051, 3, rfl, by decide, rfl, _, rfl, ite_b (fun e => ?_) (fun e => ?_)⟩
      · refine ⟨(by show 2 ≤ sizeLine; decide), fun p1 h1 => ⟨(by show 1 ≤ sizeLine; decide), fun p2 h2 => ?_⟩⟩
        have q1 := same_new (o := .tup (Ord.user 1).vs) h1
        have q2 := same_new (o := .lst [.ref p1]) h2
        have er2 : (upd (upd (upd H1 r2 (.lst (ts2.map V.ref))) p1 (.tup (Ord.user 1).vs)) p2 (.lst [.ref p1])) r2 = some (.lst (ts2.map V.ref)) := (q1.trans q2) _ _ upd_same
        refine ⟨_, rfl, p2, r2, _, _, rfl, rfl, upd_same, er2, ?_, fun r3 h3 => ?_⟩
        · rw [List.length_map, ho2.len]
          exact Nat.le_trans (show 1 + os2.length ≤ 57 by omega) (by decide)
        have q3 := same_new (o := .lst ([.ref p1] ++ ts2.map V.ref)) h3
        have s3 := s2.trans (q1.trans (q2.trans q3))
        have o3 : OdR (upd (upd (upd (upd H1 r2 (.lst (ts2.map V.ref))) p1 (.tup (Ord.user 1).vs)) p2 (.lst [.ref p1])) r3 (.lst ([.ref p1] ++ ts2.map V.ref))) ([p1] ++ ts2) ([.user 1] ++ os2) := (OdR.one ((q2.trans q3) _ _ upd_same)).app (ho2.same (q1.trans (q2.trans q3)))
        have g3 : ∀ o ∈ [Ord.user 1] ++ os2, Ord.good o := fun o z => by
          rcases List.mem_append.mp z with z | z
          · rw [List.mem_singleton.mp z]
            exact ⟨by decide, by decide⟩
          · exact hg2 o z
        have l3 : ([Ord.user 1] ++ os2).length ≤ 57 := by
          rw [List.length_append]
          show 1 + os2.length ≤ 57
          omega
        have n3 : H r3 = none := s2.free ((q1.trans q2).free h3)
        refine ⟨_, rfl, sd, 65003, 3, rfl, by decide, rfl, _, rfl, ite_b (fun e => ?_) (fun e => ?_)⟩
        · refine ⟨_, rfl, .inl ⟨rfl, _, SqL.of upd_same⟩, (by show 1 ≤ sizeLine; decide), fun p hp => ?_⟩
          obtain ⟨k1, k2, k3⟩ := halt _ r3 ([p1] ++ ts2) _ s3 n3 upd_same o3 g3 l3 p hp
          refine ⟨r3, _, _, rfl, rfl, same_new hp _ _ upd_same, ?_, ?_⟩
          · rw [List.length_append, List.length_map, ho2.len]
            exact Nat.lt_of_le_of_lt (show 1 + os2.length ≤ 57 by omega) (by decide)
          · exact ⟨_, rfl, last _ r3 _ _ k1 k2 k3 (g1 _ g3) (by rw [List.length_append]; show _ + 1 ≤ 58; omega)⟩
        · exact ⟨_, rfl, last _ r3 ([p1] ++ ts2) _ s3 upd_same o3 g3 (Nat.le_succ_of_le l3)⟩
      · refine ⟨_, rfl, sd, 65003, 3, rfl, by decide, rfl, _, rfl, ite_b (fun e => ?_) (fun e => ?_)⟩
        · refine ⟨_, rfl, .inl ⟨rfl, _, SqL.of upd_same⟩, (by show 1 ≤ sizeLine; decide), fun p hp => ?_⟩
          obtain ⟨k1, k2, k3⟩ := halt _ r2 ts2 _ s2 r20 upd_same ho2 hg2 (by omega) p hp
          refine ⟨r2, _, _, rfl, rfl, same_new hp _ _ upd_same, ?_, ?_⟩
          · rw [List.length_map, ho2.len]
            exact Nat.lt_of_le_of_lt hl2 (by decide)
          · exact ⟨_, rfl, last _ r2 _ _ k1 k2 k3 (g1 _ hg2) (by rw [List.length_append]; show _ + 1 ≤ 58; omega)⟩
        · exact ⟨_, rfl, last _ r2 ts2 _ s2 upd_same ho2 hg2 (by omega)⟩
theorem sc_law_entry : FnScope ["_law_program_here", "_law_seed"] ["_law_program_here", "_law_seed"] d_law_entry.scope := ⟨rfl, rfl, rfl, by decide +kernel, rfl, by decide +kernel, by decide +kernel⟩
def sp_law_entry (K : PySem.W.Frag) : Sp := fun vs H Q _ => ∃ a xs sd, vs = [.ref a, .int sd] ∧ H a = some (.lst xs) ∧ 2 ≤ xs.length ∧ xs.length ≤ 60 ∧ ∀ e, isT e → Q (.int e) H
theorem ok_law_entry (T : Txt K mg) : Ok P w K mg base CX0 2 d_law_entry ["_law_program_here", "_law_seed"] (sp_law_entry K) := by
  refine ok_no T.f_law_entry sc_law_entry rfl (fun _ _ _ _ _ _ us hl => match us, hl with | [_, _], _ => rfl) (fun vs H Q E h => ?_) (fun cdv A outer s H vs Q E hr h => ?_)
  · obtain ⟨a, xs, sd, rfl, _⟩ := h
    rfl
  · obtain ⟨a, xs, sd, rfl, ha, l2, l60, hQ⟩ := h
    have O1 : Ok P w K mg base CX0 1 d_law_mix ["_law_cell", "_law_by", "_law_many"] (sp_law_mix K) := ok_law_mix T
    refine ⟨_, pss_cons (ps_if (pt_cmpR op_gt (pe_c O1 hr rfl T.g_law_mix pass0 (pa_cons (pv 1) (pa_cons pe_int (pa_cons pe_int pa_nil)))) pe_int (nomark _)) (pss_one (ps_ret (pe_op op_sub (pe_callB call_len_seq (by rfl) T.b_len (by decide +kernel) (pa_cons (pv 0) pa_nil)) pe_int))) pss_nil)
      (pss_one (ps_ret (pe_c O1 hr rfl T.g_law_mix pass0 (pa_cons (pv 1) (pa_cons pe_int (pa_cons (pe_op op_add (pe_callB call_len_seq (by rfl) T.b_len (by decide +kernel) (pa_cons (pv 0) pa_nil)) pe_int) pa_nil)))))), ?_⟩
    obtain ⟨b0, b1⟩ := mix_b sd 60013 (m := (xs.length : Int) + 1) (by omega)
    refine ⟨_, rfl, sd, 57089, 4, rfl, by decide, _, _, rfl, rfl, _, rfl, ite_b (fun e => ?_) (fun e => ?_)⟩
    · exact ⟨_, rfl, a, _, rfl, .inl (SqL.of ha), _, _, rfl, rfl, hQ _ ⟨by omega, by omega⟩⟩
    · exact ⟨_, rfl, _, rfl, a, _, rfl, .inl (SqL.of ha), _, _, rfl, rfl, sd, 60013, _, rfl, by omega, hQ _ ⟨b0, by omega⟩⟩
theorem sc_law_no_bound : FnScope ["_law_machine", "_law_thing", "_law_found", "e"] ["_law_machine", "_law_thing"] d_law_no_bound.scope := ⟨rfl, rfl, rfl, by decide +kernel, rfl, by decide +kernel, by decide +kernel⟩
def sp_law_no_bound (K : PySem.W.Frag) : Sp := fun vs H Q _ => ∃ x wa c M W G v, vs = [.ref x, v] ∧ MacAt K H x wa c M W G ∧ GoodC c ∧ Good c (M, W) ∧ WhV H v ∧ badV v ∧ ∀ H', Same H H' → Q (.bl true) H'
theorem ok_law_no_bound (T : Txt K mg) : Ok P w K mg base CX0 15 d_law_no_bound ["_law_machine", "_law_thing"] (sp_law_no_bound K) := by
  refine ok_no T.f_law_no_bound sc_law_no_bound rfl (fun _ _ _ _ _ _ us hl => match us, hl with | [_, _], _ => rfl) (fun vs H Q E h => ?_) (fun cdv A outer s H vs Q E hr h => ?_)
  · obtain ⟨x, wa, c, M, W, G, v, rfl, _⟩ := h
    rfl
  · obtain ⟨x, wa, c, M, W, G, v, rfl, hM, gC, gS, hw, hb, hQ⟩ := h
    obtain ⟨od, cl, nt, fa, ts, es, F, hI, hW⟩ := id hM
    obtain ⟨dx, om⟩ := id hI.om
    obtain ⟨bC, b1, b2, b3, b4, b5⟩ := T.bound
    have O1 : Ok P w K mg base (L2N.CX P w) 14 d_Machine_turn ["self", "steps"] (sp_Machine_turn K) := ok_Machine_turn T
    have nd := sc_law_no_bound.nd
    refine ⟨_, pss_cons (ps_set (i := 2) nd rfl (.inl rfl) pe_non)
      (pss_cons (ps_try_keep (i := 3) (j := 2) rfl rfl rfl nd rfl rfl rfl rfl ⟨rfl, by decide, .inl T.g_HouseError⟩
        (fun Wt pn xe tk _ => pss_one (ps_expr (pe_mE O1 (pv 0) T.c_Machine T.m_Machine_turn hr (fun σ => L2N.passAt tk σ) (pa_cons (pv 1) pa_nil)))))
      (pss_cons (ps_if (PW.pt (pw_or (pt_val (pe_callB call_isK (by rfl) T.b_isinstance (by decide +kernel) (pa_cons (pv 2) (pa_cons (pe_glob (v := .ref (He.ga K "NoProgram")) rfl T.g_NoProgram rfl) pa_nil)))) (pw_or (pt_val (pe_callB call_isK (by rfl) T.b_isinstance (by decide +kernel) (pa_cons (pv 2) (pa_cons (pe_glob (v := .ref (He.ga K "Fault")) rfl T.g_Fault rfl) pa_nil)))) (pw_or1 (pt_val (pe_callB call_isK (by rfl) T.b_isinstance (by decide +kernel) (pa_cons (pv 2) (pa_cons (pe_glob (v := .ref (He.ga K "NoShelf")) rfl T.g_NoShelf rfl) pa_nil)))))))) (pss_one (ps_ret pe_bl)) pss_nil)
      (pss_one (ps_ret (pe_and (pe_callB call_isK (by rfl) T.b_isinstance (by decide +kernel) (pa_cons (pv 2) (pa_cons (pe_glob (v := .ref (He.ga K "NoBound")) rfl T.g_NoBound rfl) pa_nil)))
        (pe_one (pe_callB call_isK (by rfl) T.b_isinstance (by decide +kernel) (pa_cons (pv 2) (pa_cons (pe_bltn (v := .ty "ValueError") (by rfl) T.b_ValueError (by decide +kernel) rfl) pa_nil))))))))), ?_⟩
    refine ⟨_, rfl, x, dx, _, rfl, om, rfl, _, rfl, x, wa, c, M, W, G, v, rfl, hM, gC, gS, .inr ⟨hw, hb, T.x_NoBound_HouseError, fun a ha => ?_⟩⟩
    refine ⟨_, rfl, a, _, _, _, false, rfl, upd_same, bC, .own _, b1, _, rfl, iteF ?_⟩
    refine ⟨_, rfl, a, _, _, _, false, rfl, upd_same, bC, .own _, b2, _, rfl, iteF ?_⟩
    refine ⟨_, rfl, a, _, _, _, false, rfl, upd_same, bC, .own _, b3, _, rfl, iteF ?_⟩
    refine ⟨_, rfl, a, _, _, _, true, rfl, upd_same, bC, .own _, b4, _, rfl, iteT ?_⟩
    exact ⟨_, rfl, a, _, _, _, true, rfl, upd_same, bC, .ty _, b5, hQ _ (same_new ha)⟩
end
end M35

/-! ## text A18 -/
set_option maxHeartbeats 4000000
namespace M35
open PySem PySem.Spec PyProof.Rows L2

/-! # what is told, compared -/
def evOk : Ev → Prop
  | .told _ => True
  | .fault k _ _ _ => k ∈ kindsL
theorem reckon_evs {M : Mc} (o : Ord) : (reckon M o).notes = M.notes ∨ ∃ w, (reckon M o).notes = M.notes ++ [.told w] := by
  cases o <;> first | exact .inl rfl | exact .inr ⟨_, rfl⟩
theorem do_evs {c : Cfg} {M : Mc} {W : Wy} {o : Ord} {M1 : Mc} {W1 : Wy} (e : doOrd c M W o = .ok (M1, W1)) : M1.notes = M.notes ∨ ∃ w, M1.notes = M.notes ++ [.told w] := by
  unfold doOrd at e
  split at e
  · cases e
  · split at e
    · split at e
      · cases e
      · rename_i M2 hg
        cases e
        exact .inl (go_notes hg)
    · split at e
      · cases e
        exact reckon_evs o
      · split at e
        · split at e
          · cases e
          · rename_i M2 W2 hg
            cases e
            have q := carry_notes hg
            exact .inl q
        · cases e
          have q := tell_notes (c := c) (M := M) (W := W) o
          exact .inl q
theorem step_evs {c : Cfg} (hc : GoodC c) {s : Mc × Wy} (h : Good c s) (hs : s.1.stopped = false) (he : ∀ e ∈ s.1.notes, evOk e) : ∀ e ∈ (step c s).1.notes, evOk e := by
  have hn := h.a hs
  have h0 := h.m.c0
  have hi : s.1.counter.toNat < c.orders.length := by omega
  have ho : (c.orders[s.1.counter.toNat]).good := hc.og _ (List.getElem_mem hi)
  unfold step
  rw [List.getElem?_eq_getElem hi]
  dsimp only
  split
  · rename_i M1 W1 e
    show ∀ e ∈ (fin _ M1).notes, evOk e
    rw [fin_notes]
    rcases do_evs e with q | ⟨w, q⟩
    · rw [q]
      exact he
    · rw [q]
      intro x hx
      rcases List.mem_append.mp hx with z | z
      · exact he x z
      · rw [List.mem_singleton.mp z]
        trivial
  · rename_i f e
    show ∀ e ∈ (fin _ _).notes, evOk e
    rw [fin_notes]
    intro x hx
    rcases List.mem_append.mp hx with z | z
    · exact he x z
    · rw [List.mem_singleton.mp z]
      exact (do_err h.m ho e).1
theorem run_evs {c : Cfg} (hc : GoodC c) : ∀ (n : Nat) (s : Mc × Wy), Good c s → (∀ e ∈ s.1.notes, evOk e) → ∀ e ∈ (run c n s).2.1.notes, evOk e
  | 0, s, _, he => he
  | n + 1, s, h, he => by
    by_cases hs : s.1.stopped = true
    · rw [run_stop c _ hs]
      exact he
    · simp only [run, hs, if_false, Bool.false_eq_true]
      have hs2 : s.1.stopped = false := by simpa using hs
      obtain ⟨h1, h2, h3⟩ := step_good hc h.m h.w h.a hs2
      exact run_evs hc n _ ⟨h1, h2, h3⟩ (step_evs hc h hs2 he)
theorem run_exact (c : Cfg) : ∀ (n : Nat) (s : Mc × Wy), run c (run c n s).1 s = run c n s
  | 0, s => rfl
  | n + 1, s => by
    by_cases hs : s.1.stopped = true
    · rw [run_stop c (n + 1) hs]
      rfl
    · have ih := run_exact c n (step c s)
      have e : run c (n + 1) s = ((run c n (step c s)).1 + 1, (run c n (step c s)).2) := by
        simp only [run, hs, if_false, Bool.false_eq_true]
      rw [e]
      simp only [run, hs, if_false, Bool.false_eq_true]
      rw [ih]
/-- turn behind turn -/
theorem run_then {c : Cfg} {d n : Nat} {s s1 : Mc × Wy} (h : run c d s = (d, s1)) : run c (d + (run c n s1).1) s = (d + (run c n s1).1, (run c n s1).2) := by
  rw [run_add c d _ s, h]
  show (d + (run c (run c n s1).1 s1).1, (run c (run c n s1).1 s1).2) = _
  rw [run_exact]
/-! ## the data -/
def flD (f : Int × Int × Int × Bool) : PyData := .tuple [.int f.1, .int f.2.1, .int f.2.2.1, .bool f.2.2.2]
def coreD (M : Mc) : PyData := .tuple [.list (M.cells.map PyData.int), .int M.counter, .bool M.ruling, flD M.fallen, .bool M.stopped]
def rowD (r : Row) : PyData := .tuple [.int r.1, .int r.2.1, .int r.2.2]
def pageD : Option (List Int) → PyData
  | none => .none
  | some l => .list (l.map PyData.int)
def toldD (M : Mc) (W : Wy) : PyData := .tuple [coreD M, .int W.base, .list (W.line.map rowD), .list (W.pages.map pageD)]
def evD : Ev → PyData
  | .told w => .tuple [.str "told", .int w]
  | .fault k p l c => .tuple [.str "fault", .str k, .int p, .int l, .int c]
def evsD (evs : List Ev) : PyData := .list (evs.map evD)
theorem dpAll_of {K : PySem.W.Frag} {H : Hp} {α : Type} {f : α → PyData} : ∀ {xs : List V} {as : List α}, xs.length = as.length → (∀ (i : Nat) (a : α), as[i]? = some a → ∃ v, xs[i]? = some v ∧ Dp K H v (f a)) → DpAll K H xs (as.map f)
  | [], [], _, _ => .nil
  | x :: xs, a :: as, hl, h => by
    obtain ⟨v, e, d⟩ := h 0 a rfl
    cases e
    exact .cons d (dpAll_of (Nat.succ.inj hl) fun i b q => h (i + 1) b q)
theorem dp_ints {K : PySem.W.Frag} {H : Hp} (l : List Int) : DpAll K H (l.map V.int) (l.map PyData.int) := dpAll_of (by rw [List.length_map]) fun i a e => ⟨.int a, by rw [List.getElem?_map, e]; rfl, .int a⟩
section
variable {K : PySem.W.Frag} {H : Hp} {a : Addr} {M : Mc} {W : Wy}
theorem fl_dp {f : Int × Int × Int × Bool} (h : H a = some (.tup (flV f))) : Dp K H (.ref a) (flD f) := .tup (SqT.of h) (.cons (.int _) (.cons (.int _) (.cons (.int _) (.cons (.bl _) .nil))))
theorem core_dp (h : CoreV H a M) : Dp K H (.ref a) (coreD M) := by
  obtain ⟨l, fa, e1, e2, e3⟩ := h
  exact .tup (SqT.of e1) (.cons (.lst (SqL.of e2) (dp_ints _)) (.cons (.int _) (.cons (.bl _) (.cons (fl_dp e3) (.cons (.bl _) .nil)))))
theorem shelf_dp {line : List Row} (h : ShelfV H a line) : Dp K H (.ref a) (.list (line.map rowD)) := by
  obtain ⟨rows, e1, e2⟩ := h
  refine .lst (SqL.of e1) (dpAll_of (by rw [List.length_map, e2.len]) fun i r e => ?_)
  obtain ⟨t, z1, z2⟩ := e2.at_ i r e
  exact ⟨.ref t, by rw [List.getElem?_map, z1]; rfl, .tup (SqT.of z2) (.cons (.int _) (.cons (.int _) (.cons (.int _) .nil)))⟩
theorem pages_dp {pg : Pg} (h : PagesV H a pg) : Dp K H (.ref a) (.list (pg.map pageD)) := by
  obtain ⟨ps, e1, e2⟩ := h
  refine .lst (SqL.of e1) (dpAll_of (by rw [List.length_map, e2.len]) fun i o e => ?_)
  cases o with
  | none => exact ⟨.non, by rw [List.getElem?_map, e2.no i e]; rfl, .non⟩
  | some l =>
    obtain ⟨p, z1, z2⟩ := e2.yes i l e
    exact ⟨.ref p, by rw [List.getElem?_map, z1]; rfl, .lst (SqL.of z2) (dp_ints _)⟩
theorem told_dp (h : ToldV H a M W) : Dp K H (.ref a) (toldD M W) := by
  obtain ⟨a1, a2, a3, e, e1, e2, e3⟩ := h
  exact .tup (SqT.of e) (.cons (core_dp e1) (.cons (.int _) (.cons (shelf_dp e2) (.cons (pages_dp e3) .nil))))
theorem ev_dp {ev : Ev} (h : H a = some (.tup ev.vs)) : Dp K H (.ref a) (evD ev) := by
  cases ev with
  | told w => exact .tup (SqT.of h) (.cons (.str _) (.cons (.int _) .nil))
  | fault k p l c => exact .tup (SqT.of h) (.cons (.str _) (.cons (.str _) (.cons (.int _) (.cons (.int _) (.cons (.int _) .nil)))))
theorem evs_dp {evs : List Ev} (h : EvsV H a evs) : Dp K H (.ref a) (evsD evs) := by
  obtain ⟨es, e1, e2⟩ := h
  refine .lst (SqL.of e1) (dpAll_of (by rw [List.length_map, e2.len]) fun i r e => ?_)
  obtain ⟨t, z1, z2⟩ := e2.at_ i r e
  exact ⟨.ref t, by rw [List.getElem?_map, z1]; rfl, ev_dp z2⟩
end
/-- shape and depth of many -/
theorem lays_map {α : Type} {f : α → PyData} (n : Nat) : ∀ {as : List α}, (∀ a ∈ as, (f a).canLay0 = true ∧ (f a).depth ≤ n) → PyData.canLayAll0 (as.map f) = true ∧ PyData.depthAll (as.map f) ≤ n
  | [], _ => by simp [PyData.canLayAll0, PyData.depthAll]
  | a :: as, h => by
    obtain ⟨h1, h2⟩ := h a List.mem_cons_self
    obtain ⟨i1, i2⟩ := lays_map n fun b hb => h b (List.mem_cons_of_mem _ hb)
    refine ⟨by simp [PyData.canLayAll0, h1, i1], ?_⟩
    simp only [List.map_cons, PyData.depthAll]
    omega
theorem lays_ints (l : List Int) : PyData.canLayAll0 (l.map PyData.int) = true ∧ PyData.depthAll (l.map PyData.int) ≤ 0 := lays_map 0 fun a _ => ⟨by simp [PyData.canLay0], by simp [PyData.depth]⟩
theorem told_lay (M : Mc) (W : Wy) : (toldD M W).canLay0 = true ∧ (toldD M W).depth ≤ 6 := by
  obtain ⟨c1, c2⟩ := lays_ints M.cells
  obtain ⟨r1, r2⟩ := lays_map (f := rowD) 1 (as := W.line) fun r _ => ⟨by simp [rowD, PyData.canLay0, PyData.canLayAll0], by simp [rowD, PyData.depth, PyData.depthAll]⟩
  obtain ⟨p1, p2⟩ := lays_map (f := pageD) 1 (as := W.pages) fun o _ => by
    cases o with
    | none => exact ⟨by simp [pageD, PyData.canLay0], by simp [pageD, PyData.depth]⟩
    | some l =>
      obtain ⟨l1, l2⟩ := lays_ints l
      refine ⟨by simpa [pageD, PyData.canLay0] using l1, ?_⟩
      simp only [pageD, PyData.depth]
      omega
  refine ⟨by simp [toldD, coreD, flD, PyData.canLay0, PyData.canLayAll0, c1, r1, p1], ?_⟩
  simp only [toldD, coreD, flD, PyData.depth, PyData.depthAll]
  omega
theorem ev_lay {ev : Ev} (h : evOk ev) : (evD ev).canLay0 = true ∧ (evD ev).depth ≤ 1 := by
  cases ev with
  | told w =>
    refine ⟨?_, by simp [evD, PyData.depth, PyData.depthAll]⟩
    simp only [evD, PyData.canLay0, PyData.canLayAll0, Bool.and_true, Bool.and_self]
    decide +kernel
  | fault k p l c =>
    have hk : ∀ k ∈ kindsL, PyData.canLay0 (.str k) = true := by
      intro k hk
      simp only [kindsL, List.mem_cons, List.not_mem_nil, or_false] at hk
      rcases hk with rfl | rfl | rfl | rfl | rfl | rfl | rfl <;> (simp only [PyData.canLay0]; decide +kernel)
    have f0 : PyData.canLay0 (.str "fault") = true := by
      simp only [PyData.canLay0]
      decide +kernel
    refine ⟨?_, by simp [evD, PyData.depth, PyData.depthAll]⟩
    simp [evD, PyData.canLay0, PyData.canLayAll0] at f0 hk ⊢
    exact ⟨f0, hk k h⟩
theorem evs_lay {evs : List Ev} (h : ∀ e ∈ evs, evOk e) : (evsD evs).canLay0 = true ∧ (evsD evs).depth ≤ 2 := by
  obtain ⟨p1, p2⟩ := lays_map (f := evD) 1 (as := evs) fun e he => ev_lay (h e he)
  refine ⟨by simpa [evsD, PyData.canLay0] using p1, ?_⟩
  simp only [evsD, PyData.depth]
  omega
theorem sh_of {d : PyData} {n : Nat} (h : d.canLay0 = true ∧ d.depth ≤ n) (hn : n ≤ 64) : SeqAt.shaped d = true ∧ PyData.eqv d d = true := by
  refine ⟨?_, SeqAt.eqv_refl d h.1⟩
  show (d.canLay0 && decide (d.depth ≤ 64)) = true
  rw [Bool.and_eq_true]
  exact ⟨h.1, decide_eq_true (Nat.le_trans h.2 hn)⟩
end M35

/-! ## text A18b -/
set_option maxHeartbeats 4000000
namespace M35
open PySem PySem.Spec PyProof.Rows L2

/-! # what holds through the law -/
structure LI (K : PySem.W.Frag) (Hc H : Hp) (x wa : Addr) (c : Cfg) (M : Mc) (W : Wy) (G : Addr → Prop) (v : V) : Prop where
  s : Same Hc H
  g : ∀ b, G b → Hc b = none
  m : MacAt K H x wa c M W G
  wv : WhV H v
  nv : ∀ a, v = .ref a → ¬ G a
theorem WhV.at_ {H : Hp} {v : V} (h : WhV H v) {a : Addr} (e : v = .ref a) : ∃ xs, H a = some (.lst xs) := by
  cases h with
  | lst ha => cases e; exact ⟨_, ha⟩
  | _ => cases e
theorem WhV.keep {H H' : Hp} {v : V} (h : WhV H v) (k : ∀ a o, v = .ref a → H a = some o → H' a = some o) : WhV H' v := by
  cases h with
  | int i => exact .int i
  | bl b => exact .bl b
  | non => exact .non
  | str x => exact .str x
  | lst ha => exact .lst (k _ _ rfl ha)
section
variable {K : PySem.W.Frag} {Hc H H2 H4 : Hp} {x x2 d2 wa l0 ev : Addr} {c : Cfg} {M M2 : Mc} {W W2 : Wy} {G G2 F : Addr → Prop} {v : V} {xs ys zs : List V}
theorem LI.but (L : LI K Hc H x wa c M W G v) (b : But G H H2) (g : Gr G H G2) (m : MacAt K H2 x wa c M2 W2 G2) : LI K Hc H2 x wa c M2 W2 G2 v := by
  have hc : ∀ {a o}, Hc a = some o → ¬ G a := fun {a o} e z => by
    have := L.g a z
    rw [e] at this
    cases this
  refine ⟨fun a o e => b a o (L.s a o e) (hc e), fun a z => ?_, m, L.wv.keep fun a o e h => b a o h (L.nv a e), fun a e z => ?_⟩
  · rcases g a z with q | q
    · exact L.g a q
    · exact L.s.free q
  · rcases g a z with q | q
    · exact L.nv a e q
    · obtain ⟨xs, h⟩ := L.wv.at_ e
      rw [h] at q
      cases q
theorem LI.same (L : LI K Hc H x wa c M W G v) (s : Same H H2) : LI K Hc H2 x wa c M W G v := L.but (.of_same s) Gr.refl (L.m.same s)
theorem MacAt.mu (h : MacAt K H x wa c M W G) {b : Addr} (g : G b) : ∃ o, H b = some o ∧ mutO o = true := by
  obtain ⟨_, _, _, _, _, _, _, hI, _⟩ := h
  exact hI.mu b g
theorem LI.remake (L : LI K Hc H x wa c M W G v) (fg : ∀ b, F b → G b) (s2 : Same H H2) (hl0 : H l0 = none) (hev : H ev = none) (e1 : H2 l0 = some (.lst xs)) (e2 : H2 ev = some (.lst ys)) (hx2 : H2 x2 = none) (hd2 : H2 d2 = none) (n : d2 ≠ x2)
    (b4 : But1 x2 (upd (upd H2 d2 (.own x2)) x2 (.ins (cMach K) d2 [])) H4) (hG2 : ∀ b, G2 b → b = x2 ∨ F b ∨ (upd (upd H2 d2 (.own x2)) x2 (.ins (cMach K) d2 [])) b = none) (hM2 : MacAt K H4 x2 wa c M2 W2 G2) :
    H4 l0 = some (.lst xs) ∧ (upd H4 l0 (.lst [])) ev = (if ev = l0 then some (.lst []) else some (.lst ys)) ∧ LI K Hc (upd (upd H4 l0 (.lst [])) ev (.lst zs)) x2 wa c M2 W2 G2 v := by
  have sA : Same H2 (upd (upd H2 d2 (.own x2)) x2 (.ins (cMach K) d2 [])) := (same_new hd2).trans (same_new (by rw [upd_ne (Ne.symm n)]; exact hx2))
  have old : ∀ {a o}, H2 a = some o → H4 a = some o := fun {a o} e => b4 a o (ne_of_none e hx2) (sA a o e)
  have nG : ∀ {a o}, H2 a = some o → H a = none → ¬ G2 a := fun {a o} e h z => by
    rcases hG2 a z with q | q | q
    · rw [q, hx2] at e
      cases e
    · obtain ⟨o2, e3, _⟩ := L.m.mu (fg a q)
      rw [h] at e3
      cases e3
    · rw [sA a o e] at q
      cases q
  have k1 := old e1
  have k2 := old e2
  refine ⟨k1, ?_, fun a o e => ?_, fun a z => ?_, hM2.keep (fun a o z e => ?_) (fun a ts e => ?_), L.wv.keep fun a o e h => ?_, fun a e z => ?_⟩
  · by_cases q : ev = l0
    · rw [if_pos q, q]
      exact upd_same
    · rw [if_neg q, upd_ne q]
      exact k2
  · have e0 := L.s a o e
    rw [upd_ne (ne_of_none e0 hev), upd_ne (ne_of_none e0 hl0)]
    exact old (s2 a o e0)
  · rcases hG2 a z with q | q | q
    · rw [q]
      exact L.s.free (s2.free hx2)
    · exact L.g a (fg a q)
    · exact L.s.free (s2.free (sA.free q))
  · rw [upd_ne (fun q => nG e2 hev (by rw [← q]; exact z)), upd_ne (fun q => nG e1 hl0 (by rw [← q]; exact z))]
    exact e
  · rw [upd_ne (ne_of e k2 (fun z => nomatch z)), upd_ne (ne_of e k1 (fun z => nomatch z))]
    exact e
  · rw [upd_ne (ne_of_none h hev), upd_ne (ne_of_none h hl0)]
    exact old (s2 a o h)
  · obtain ⟨ws, h⟩ := L.wv.at_ e
    rcases hG2 a z with q | q | q
    · rw [q] at h
      rw [s2 _ _ h] at hx2
      cases hx2
    · exact L.nv a e (fg a q)
    · rw [sA _ _ (s2 _ _ h)] at q
      cases q
end
/-- pages copied, so far -/
def CpI (H : Hp) (D : Addr) (ls : List (List Int)) (i : Nat) (H' : Hp) : Prop := ∃ ps1 : List (Option Addr), H' D = some (.lst (ps1.map oV)) ∧ PgR H' ps1 ((ls.take i).map some) ∧ (∀ (i : Nat) (p : Addr), ps1[i]? = some (some p) → H p = none ∧ p ≠ D) ∧ Same H H'
section
variable {H H' : Hp} {D : Addr} {ls : List (List Int)}
theorem cp0 (hD : H D = none) : CpI H D ls 0 (upd H D (.lst [])) := ⟨[], upd_same, ⟨rfl, fun i e => by simp at e, fun i l e => by simp at e, fun i j p e => by simp at e⟩, fun i p e => by simp at e, same_new hD⟩
theorem CpI.s {i : Nat} (h : CpI H D ls i H') : Same H H' := let ⟨_, _, _, _, q⟩ := h; q
theorem CpI.step {i : Nat} (h : CpI H D ls i H') (hD : H D = none) (l6 : ls.length ≤ 6) (il : i < ls.length) {q : Addr} (hq : H' q = none) : ∃ acc, (upd H' q (.lst (ls[i].map V.int))) D = some (.lst acc) ∧ acc.length < sizeLine ∧ CpI H D ls (i + 1) (upd (upd H' q (.lst (ls[i].map V.int))) D (.lst (acc ++ [V.ref q]))) := by
  obtain ⟨ps1, hD', pr, hn, s'⟩ := h
  have tk : (ls.take (i + 1)).map some = (ls.take i).map some ++ [some ls[i]] := by
    rw [List.take_succ_eq_append_getElem il, List.map_append]
    rfl
  have l1 : ps1.length = i := by
    rw [pr.len, List.length_map, List.length_take]
    omega
  have qD : q ≠ D := Ne.symm (ne_of_none hD' hq)
  have hq0 : H q = none := s'.free hq
  have fr : ∀ (j : Nat) (p : Addr), ps1[j]? = some (some p) → p ≠ q := fun j p e z => by
    subst z
    have jl : j < ((ls.take i).map some).length := by
      rw [← pr.len]
      exact (List.getElem?_eq_some_iff.mp e).1
    cases ej : ((ls.take i).map some)[j]'jl with
    | none =>
      have := pr.no j (by rw [List.getElem?_eq_getElem jl, ej])
      rw [e] at this
      cases this
    | some l3 =>
      obtain ⟨p2, f1, f2⟩ := pr.yes j l3 (by rw [List.getElem?_eq_getElem jl, ej])
      rw [e] at f1
      cases f1
      rw [hq] at f2
      cases f2
  refine ⟨_, (by rw [upd_ne (Ne.symm qD)]; exact hD'), ?_, ps1 ++ [some q], ?_, ⟨?_, fun j e => ?_, fun j l e => ?_, fun j1 j2 p e1 e2 => ?_⟩, fun j p e => ?_, fun b o e => ?_⟩
  · rw [List.length_map, l1]
    exact Nat.lt_of_lt_of_le (Nat.lt_of_lt_of_le il l6) (by decide)
  · rw [upd_same, List.map_append]
    rfl
  · rw [tk, List.length_append, List.length_append, pr.len]
    rfl
  · rw [tk] at e
    rcases app_some e with z | ⟨_, z⟩
    · exact app_old (pr.no j z)
    · cases z
  · rw [tk] at e
    rcases app_some e with z | ⟨z1, z2⟩
    · obtain ⟨p, f1, f2⟩ := pr.yes j l z
      exact ⟨p, app_old f1, by rw [upd_ne (hn _ _ f1).2, upd_ne (fr _ _ f1)]; exact f2⟩
    · cases z2
      refine ⟨q, app_new (by rw [z1, pr.len]), ?_⟩
      rw [upd_ne qD]
      exact upd_same
  · rcases app_some e1 with q1 | ⟨a1, z1⟩
    · rcases app_some e2 with q2 | ⟨a2, z2⟩
      · exact pr.inj _ _ _ q1 q2
      · cases z2
        exact absurd rfl (fr _ _ q1)
    · rcases app_some e2 with q2 | ⟨a2, z2⟩
      · cases z1
        exact absurd rfl (fr _ _ q2)
      · rw [a1, a2]
  · rcases app_some e with q1 | ⟨_, z⟩
    · exact hn _ _ q1
    · cases z
      exact ⟨hq0, qD⟩
  · rw [upd_ne (ne_of_none e hD), upd_ne (ne_of_none (s' b o e) hq)]
    exact s' b o e
end
theorem bad_at (p1 : Addr) (st : Int) (h : 0 ≤ st) {j : Nat} (hj : j < 7) : ∃ v, ([.int (-1), .int 501, .bl true, .non, .str "1", .ref p1, .int (501 + st * 10 ^ 40)] : List V)[j]? = some v ∧ badV v ∧ (∀ H : Hp, H p1 = some (.lst [.int 1]) → WhV H v) ∧ ∀ a, v = .ref a → a = p1 := by
  match j, hj with
  | 0, _ => exact ⟨_, rfl, .inr ⟨_, rfl, .inl (by decide)⟩, fun _ _ => .int _, fun a e => by cases e⟩
  | 1, _ => exact ⟨_, rfl, .inr ⟨_, rfl, .inr (by decide)⟩, fun _ _ => .int _, fun a e => by cases e⟩
  | 2, _ => exact ⟨_, rfl, .inl rfl, fun _ _ => .bl _, fun a e => by cases e⟩
  | 3, _ => exact ⟨_, rfl, .inl rfl, fun _ _ => .non, fun a e => by cases e⟩
  | 4, _ => exact ⟨_, rfl, .inl rfl, fun _ _ => .str _, fun a e => by cases e⟩
  | 5, _ => exact ⟨_, rfl, .inl rfl, fun H h => .lst h, fun a e => by cases e; rfl⟩
  | 6, _ => exact ⟨_, rfl, .inr ⟨_, rfl, .inr (by omega)⟩, fun _ _ => .int _, fun a e => by cases e⟩
/-- a machine begins well -/
theorem good0 {c : Cfg} (hc : GoodC c) {pg : Pg} (g : gd pg) (h1 : 1 ≤ pg.length) (h2 : pg.length ≤ 24) : Good c (M0, ⟨pg, 0, [], 0⟩) := by
  have m0 := hc.m0
  have o0 := hc.o0
  refine ⟨⟨rfl, fun x hx => ?_, zero_w, zero_w, (show (0 : Int) ≤ 0 by decide), ?_, (show (0 : Int) ≤ 0 by decide)⟩, ⟨g, h1, h2, by show (0 : Int) ≤ _; omega, Nat.zero_le _⟩, fun _ => ?_⟩
  · have : x ∈ List.replicate 4 (0 : Int) := hx
    rw [List.eq_of_mem_replicate this]
    exact zero_w
  · show (0 : Int) < _
    omega
  · show (0 : Int) < _
    omega
end M35

/-! ## text A19 -/
set_option maxHeartbeats 4000000
namespace M35
open PySem PySem.Spec PyProof.Rows L2

/-! # the law -/
theorem passF {X : Cx} : Passes (L2N.CX X.prog X.w) X E0 := L2N.passes_call takes0N fun _ _ _ _ h => h
def NL : List Str := ["_law_script", "_law_many", "_law_pages_here", "_law_most", "_law_program_here", "_law_entry_here", "_law_words", "_law_steps", "_law_whole", "_law_due", "_law_handed", "_law_way", "_law_parts", "_law_part", "_law_bad", "_law_done", "_law_k", "_law_core", "_law_events", "_law_told", "_law_page"]
theorem MacAt.inst {K : PySem.W.Frag} {H : Hp} {x wa : Addr} {c : Cfg} {M : Mc} {W : Wy} {G : Addr → Prop} (h : MacAt K H x wa c M W G) : ∃ dx fs, H x = some (.ins (cMach K) dx fs) ∧ fs.lookup ("turn" : Str) = none ∧ fs.lookup ("core" : Str) = none ∧ fs.lookup ("events" : Str) = none := by
  obtain ⟨od, cl, nt, fa, ts', es, F, hI, _⟩ := h
  obtain ⟨dx, om⟩ := hI.om
  exact ⟨dx, _, om, rfl, rfl, rfl⟩
theorem MacAt.instT {K : PySem.W.Frag} {H : Hp} {x wa : Addr} {c : Cfg} {M : Mc} {W : Wy} {G : Addr → Prop} (h : MacAt K H x wa c M W G) {dx : Addr} {fs : List (Str × V)} (e : H x = some (.ins (cMach K) dx fs)) : fs.lookup ("told" : Str) = none := by
  obtain ⟨od, cl, nt, fa, ts', es, F, hI, _⟩ := h
  obtain ⟨dx2, om⟩ := hI.om
  rw [e] at om
  obtain ⟨_, _, rfl⟩ := HO.ins.inj (Option.some.inj om)
  rfl
/-- the law's names as they stand in its second half -/
def sg (a : Addr) (ns : List Int) (v1 : V) (pl pgl : Addr) (e : Int) (wdl xw : Addr) (due : Nat) (hd wa xp : Addr) (v13 v14 v15 v16 v17 v18 v19 : Option V) : L2.St :=
  [some (.ref a), some v1, some (.ref pl), some (.int (1 + cellAt ns 0 / 6 % 4)), some (.ref pgl), some (.int e), some (.ref wdl), some (.int (20 + cellAt ns 3 % 141)), some (.ref xw), some (.int due), some (.ref hd), some (.ref wa), some (.ref xp), v13, v14, v15, v16, v17, v18, v19, none]
section
variable {P : Program} {w : World} {K : PySem.W.Frag} {mg : Str → Option Value} {base : Heap}
theorem sc_law : FnScope NL ["_law_script"] d_law.scope := ⟨rfl, rfl, rfl, by decide +kernel, rfl, by decide +kernel, by decide +kernel⟩
def sp_law (K : PySem.W.Frag) : Sp := fun vs H Q _ => ∃ a ns, vs = [.ref a] ∧ SqL K H a ((ns : List Int).map V.int) ∧ ns.length ≤ 63 ∧ ∀ H', Q (.bl true) H'
theorem ok_law (T : Txt K mg) : Ok P w K mg base CX0 17 d_law ["_law_script"] (sp_law K) := by
  refine ok_no T.f_law sc_law rfl (fun _ _ _ _ _ _ us hl => match us, hl with | [_], _ => rfl) (fun vs H Q E h => ?_) (fun cdv A outer s H vs Q E hr h => ?_)
  · obtain ⟨a, ns, rfl, _⟩ := h
    rfl
  · obtain ⟨a, ns, rfl, ha, nlen, hQ⟩ := h
    have O1 : Ok P w K mg base CX0 1 d_law_cell_at ["_law_script", "_law_k"] (sp_law_cell_at K) := ok_law_cell_at T
    have O2 : Ok P w K mg base CX0 1 d_law_pages ["_law_cell", "_law_many"] (sp_law_pages K) := ok_law_pages T
    have O3 : Ok P w K mg base CX0 3 d_law_program ["_law_cells", "_law_size", "_law_seed"] (sp_law_program K) := ok_law_program T
    have O4 : Ok P w K mg base CX0 2 d_law_entry ["_law_program_here", "_law_seed"] (sp_law_entry K) := ok_law_entry T
    have O5 : Ok P w K mg base CX0 9 d_bare ["pages", "most", "program", "entry", "words"] (sp_bare K) := ok_bare T
    have O6 : Ok P w K mg base (L2N.CX P w) 14 d_Machine_turn ["self", "steps"] (sp_Machine_turn K) := ok_Machine_turn T
    have O7 : Ok P w K mg base CX0 7 d_Plain_init ["self", "pages", "most", "words"] (sp_Plain_init K) := ok_Plain_init T
    have O8 : Ok P w K mg base CX0 1 d_law_mix ["_law_cell", "_law_by", "_law_many"] (sp_law_mix K) := ok_law_mix T
    have O9 : Ok P w K mg base CX0 1 d_Machine_core ["self"] (sp_Machine_core K) := ok_Machine_core T
    have O10 : Ok P w K mg base CX0 1 d_Machine_events ["self"] (sp_Machine_events K) := ok_Machine_events T
    have O11 : Ok P w K mg base CX0 15 d_law_no_bound ["_law_machine", "_law_thing"] (sp_law_no_bound K) := ok_law_no_bound T
    have O12 : Ok P w K mg base CX0 9 d_Machine_told ["self"] (sp_Machine_told K) := ok_Machine_told T
    have O13 : Ok P w K mg base CX0 1 d_Plain_root ["self"] (sp_Plain_root K) := ok_Plain_root T
    have O14 : Ok P w K mg base CX0 2 d_Plain_shelf ["self"] (sp_Plain_shelf K) := ok_Plain_shelf T
    have O15 : Ok P w K mg base CX0 8 d_Plain_pages ["self"] (sp_Plain_pages K) := ok_Plain_pages T
    obtain ⟨ds, rds, b3⟩ := bd3 T
    have b5 := bd5 T
    have nd := sc_law.nd
    have h1 := hr.mono (show 1 ≤ 16 by decide)
    have h2 := hr.mono (show 2 ≤ 16 by decide)
    have h3 := hr.mono (show 3 ≤ 16 by decide)
    have h7 := hr.mono (show 7 ≤ 16 by decide)
    have h8 := hr.mono (show 8 ≤ 16 by decide)
    have h9 := hr.mono (show 9 ≤ 16 by decide)
    have h14 := hr.mono (show 14 ≤ 16 by decide)
    have h15 := hr.mono (show 15 ≤ 16 by decide)
    refine ⟨_, pss_cons (ps_set (i := 1) nd rfl (.inl rfl) (pe_op op_add pe_int (pe_op op_mod (pe_c O1 h1 rfl T.g_law_cell_at pass0 (pa_cons (pv 0) (pa_cons (pe_int) pa_nil))) pe_int)))
      (pss_cons (ps_set (i := 2) nd rfl (.inl rfl) (pe_c O2 h1 rfl T.g_law_pages pass0 (pa_cons (pe_c O1 h1 rfl T.g_law_cell_at pass0 (pa_cons (pv 0) (pa_cons (pe_int) pa_nil))) (pa_cons (pv 1) pa_nil))))
      (pss_cons (ps_set (i := 3) nd rfl (.inl rfl) (pe_op op_add pe_int (pe_op op_mod (pe_op op_fdiv (pe_c O1 h1 rfl T.g_law_cell_at pass0 (pa_cons (pv 0) (pa_cons (pe_int) pa_nil))) pe_int) pe_int)))
      (pss_cons (ps_set (i := 4) nd rfl (.inl rfl) (pe_c O3 h3 rfl T.g_law_program pass0 (pa_cons (pe_slice sl_list (pv 0) (po_some pe_int) (po_some pe_int)) (pa_cons (pv 1) (pa_cons (pe_c O1 h1 rfl T.g_law_cell_at pass0 (pa_cons (pv 0) (pa_cons (pe_int) pa_nil))) pa_nil)))))
      (pss_cons (ps_set (i := 5) nd rfl (.inl rfl) (pe_c O4 h2 rfl T.g_law_entry pass0 (pa_cons (pv 4) (pa_cons (pe_c O1 h1 rfl T.g_law_cell_at pass0 (pa_cons (pv 0) (pa_cons (pe_int) pa_nil))) pa_nil))))
      (pss_cons (ps_setLc (i := 6) (own := [("_law_k", 16)]) (g := gName 16) (tt := tYes) rfl nd rfl rfl (sw_true rfl rfl rfl (by decide +kernel)) (pi_range1 (by rfl) T.b_range (pa_cons pe_int pa_nil)) (blkOk_by (own := [("_law_k", 16)]) (N := NL) (sc := d_law.scope) (by decide +kernel))
          (fun _ _ _ _ _ => pg_name (i := 16) nd rfl (Or.inl rfl)) (fun _ _ _ _ _ => pts_nil) (fun _ _ _ _ _ => pe_cmpR op_eq (pe_op op_mod (pe_op op_fdiv (pe_c O1 h1 rfl T.g_law_cell_at pass0 (pa_cons (pv 0) (pa_cons (pe_int) pa_nil))) (pe_op op_add (pv 16) pe_int)) pe_int) pe_int (nomark _)))
      (pss_cons (ps_set (i := 7) nd rfl (.inl rfl) (pe_op op_add pe_int (pe_op op_mod (pe_c O1 h1 rfl T.g_law_cell_at pass0 (pa_cons (pv 0) (pa_cons (pe_int) pa_nil))) pe_int)))
      (pss_cons (ps_set (i := 8) nd rfl (.inl rfl) (pe_c O5 h9 rfl T.g_bare pass0 (pa_cons (pe_lc (own := [("_law_page", 20)]) (g := gName 20) (tt := tYes) rfl nd (pi_list (pv 2)) (blkOk_by (own := [("_law_page", 20)]) (N := NL) (sc := d_law.scope) (by decide +kernel)) (fun _ _ _ _ _ => pg_name (i := 20) nd rfl (Or.inl rfl)) (fun _ _ _ _ _ => pts_nil) (fun _ _ _ _ _ => (pe_callTy (T := "list") (call_listK (K := K) rfl) (by rfl) T.b_list (by decide +kernel) (pa_cons (pv 20) pa_nil)))) (pa_cons (pv 3) (pa_cons (pe_callTy (T := "list") (call_listK (K := K) rfl) (by rfl) T.b_list (by decide +kernel) (pa_cons (pv 4) pa_nil)) (pa_cons (pv 5) (pa_cons (pe_callTy (T := "list") (call_listK (K := K) rfl) (by rfl) T.b_list (by decide +kernel) (pa_cons (pv 6) pa_nil)) pa_nil)))))))
      (pss_cons (ps_set (i := 9) nd rfl (.inl rfl) (pe_m O6 (pv 8) T.c_Machine T.m_Machine_turn h14 passF (pa_cons (pv 7) pa_nil)))
      (pss_cons (ps_set (i := 10) nd rfl (.inl rfl) (pe_lst (pa_cons (pe_lc (own := [("_law_page", 20)]) (g := gName 20) (tt := tYes) rfl nd (pi_list (pv 2)) (blkOk_by (own := [("_law_page", 20)]) (N := NL) (sc := d_law.scope) (by decide +kernel)) (fun _ _ _ _ _ => pg_name (i := 20) nd rfl (Or.inl rfl)) (fun _ _ _ _ _ => pts_nil) (fun _ _ _ _ _ => (pe_callTy (T := "list") (call_listK (K := K) rfl) (by rfl) T.b_list (by decide +kernel) (pa_cons (pv 20) pa_nil)))) (pa_cons (pe_callTy (T := "list") (call_listK (K := K) rfl) (by rfl) T.b_list (by decide +kernel) (pa_cons (pv 4) pa_nil)) (pa_cons (pe_callTy (T := "list") (call_listK (K := K) rfl) (by rfl) T.b_list (by decide +kernel) (pa_cons (pv 6) pa_nil)) pa_nil)))))
      (pss_cons (ps_set (i := 11) nd rfl (.inl rfl) (pe_make T.k_Plain O7.fn h8 rfl T.g_Plain O7.bd .nil pass0 (pa_cons (pe_ix ix_list (pv 10) pe_int (fun _ _ => rfl)) (pa_cons (pv 3) (pa_cons (pe_ix ix_list (pv 10) pe_int (fun _ _ => rfl)) pa_nil)))))
      (pss_cons (ps_set (i := 12) nd rfl (.inl rfl) (pe_make T.k_Machine (fn_Machine_init T) h7 rfl T.g_Machine b3 rds pass0 (pa_cons (pv 11) (pa_cons (pe_ix ix_list (pv 10) pe_int (fun _ _ => rfl)) (pa_cons (pv 5) pa_nil)))))
      (pss_cons (ps_asg pe_int (pg_sub (pe_ix ix_list (pe_ix ix_list (pv 10) pe_int (fun _ _ => rfl)) pe_int (fun _ _ => rfl)) pe_int set_list))
      (pss_cons (ps_for PassesOwn.never rfl (pi_list (pv 10)) (pg_name (i := 13) nd rfl (Or.inl rfl)) (pss_one (ps_expr (pe_bm0 PySem.F.plainAttrs_list PySem.F.slot_list_clear PySem.F.type_list_clear mt_clear (pv 13)))))
      (pss_cons (ps_set (i := 14) nd rfl (.inl rfl) (pe_ix ix_list (pe_lst (pa_cons (pe_un un_neg pe_int) (pa_cons pe_int (pa_cons pe_bl (pa_cons pe_non (pa_cons pe_str (pa_cons (pe_lst (pa_cons pe_int pa_nil)) (pa_cons (pe_op op_add pe_int (pe_op op_mul (pv 7) (pe_op op_pow pe_int pe_int))) pa_nil)))))))) (pe_op op_mod (pe_op op_fdiv (pe_c O1 h1 rfl T.g_law_cell_at pass0 (pa_cons (pv 0) (pa_cons (pe_int) pa_nil))) pe_int) pe_int) (fun _ _ => rfl)))
      (pss_cons (ps_set (i := 15) nd rfl (.inl rfl) pe_int)
      (pss_cons (ps_for PassesOwn.never rfl (pi_range1 (by rfl) T.b_range (pa_cons pe_int pa_nil)) (pg_name (i := 16) nd rfl (Or.inl rfl))
        (pss_cons (ps_set (i := 1) nd rfl (.inl rfl) (pe_callB (call_min2 rfl) (by rfl) T.b_min (by decide +kernel) (pa_cons (pe_op op_sub (pv 7) (pv 15)) (pa_cons (pe_op op_add pe_int (pe_c O8 h1 rfl T.g_law_mix pass0 (pa_cons (pe_c O1 h1 rfl T.g_law_cell_at pass0 (pa_cons (pv 0) (pa_cons (pv 16) pa_nil))) (pa_cons pe_int (pa_cons pe_int pa_nil))))) pa_nil))))
        (pss_cons (ps_if (pt_cmpR op_eq (pe_op op_mod (pv 16) pe_int) pe_int (nomark _))
          (pss_cons (ps_set (i := 17) nd rfl (.inl rfl) (pe_m0 O9 (pv 12) T.c_Machine T.m_Machine_core h1 pass0))
          (pss_cons (ps_set (i := 18) nd rfl (.inl rfl) (pe_m0 O10 (pv 12) T.c_Machine T.m_Machine_events h1 pass0))
          (pss_cons (ps_set (i := 12) nd rfl (.inl rfl) (pe_make T.k_Machine (fn_Machine_init T) h7 rfl T.g_Machine b5 .nil pass0 (pa_cons (pv 11) (pa_cons (pe_callTy (T := "list") (call_listK (K := K) rfl) (by rfl) T.b_list (by decide +kernel) (pa_cons (pv 4) pa_nil)) (pa_cons (pv 5) (pa_cons (pv 17) (pa_cons (pv 18) pa_nil)))))))
          (pss_cons (ps_expr (pe_bm0 PySem.F.plainAttrs_list PySem.F.slot_list_clear PySem.F.type_list_clear mt_clear (pe_ix ix_tup (pv 17) pe_int (fun _ _ => rfl))))
          (pss_one (ps_expr (pe_bm PySem.F.plainAttrs_list PySem.F.slot_list_append PySem.F.type_list_append mt_append (pv 18) (pa_cons pe_int pa_nil)))))))) pss_nil)
        (pss_cons (ps_set (i := 19) nd rfl (.inl rfl) (pe_m O6 (pv 12) T.c_Machine T.m_Machine_turn h14 passF (pa_cons (pv 1) pa_nil)))
        (pss_cons (ps_if (PW.pt (pw_or (pt_not (pt_val (pe_callB call_isi (by rfl) T.b_isinstance (by decide +kernel) (pa_cons (pv 19) (pa_cons (pe_bltn (v := .ty "int") (by rfl) T.b_int (by decide +kernel) rfl) pa_nil)))))
            (pw_or (pt_val (pe_callB call_isi (by rfl) T.b_isinstance (by decide +kernel) (pa_cons (pv 19) (pa_cons (pe_bltn (v := .ty "bool") (by rfl) T.b_bool (by decide +kernel) rfl) pa_nil))))
            (pw_or (pt_cmpR op_lt (pv 19) pe_int (nomark _)) (pw_or1 (pt_cmpR op_gt (pv 19) (pv 1) (nomark _))))))) (pss_one (ps_ret pe_bl)) pss_nil)
        (pss_cons (ps_if (PW.pt (pw_or (PW.pt (pw_and (pt_cmpR op_lt (pv 19) (pv 1) (nomark _)) (pw_and1 (pt_not (pt_val (pe_ix ix_tup (pe_m0 O9 (pv 12) T.c_Machine T.m_Machine_core h1 pass0) pe_int (fun _ _ => rfl)))))))
            (pw_or1 (PW.pt (pw_and (pt_val (pe_ix ix_tup (pe_m0 O9 (pv 12) T.c_Machine T.m_Machine_core h1 pass0) pe_int (fun _ _ => rfl))) (pw_and1 (pt_cmpR op_ne (pe_m O6 (pv 12) T.c_Machine T.m_Machine_turn h14 passF (pa_cons pe_int pa_nil)) pe_int (nomark _)))))))) (pss_one (ps_ret pe_bl)) pss_nil)
        (pss_cons (ps_set (i := 15) nd rfl (.inl rfl) (pe_op op_add (pv 15) (pv 19)))
        (pss_one (ps_if (PW.pt (pw_and (pt_cmpR op_eq (pe_op op_mod (pv 16) pe_int) pe_int (nomark _)) (pw_and1 (pt_not (pt_val (pe_c O11 h15 rfl T.g_law_no_bound pass0 (pa_cons (pv 12) (pa_cons (pv 14) pa_nil)))))))) (pss_one (ps_ret pe_bl)) pss_nil)))))))))
      (pss_cons (ps_set (i := 15) nd rfl (.inl rfl) (pe_op op_add (pv 15) (pe_m O6 (pv 12) T.c_Machine T.m_Machine_turn h14 passF (pa_cons (pe_op op_sub (pv 7) (pv 15)) pa_nil))))
      (pss_cons (ps_if (PW.pt (pw_or (pt_cmpR op_ne (pv 15) (pv 9) (nomark _)) (pw_or (pt_cmpR (op_neD h1.units) (pe_m0 O12 (pv 12) T.c_Machine T.m_Machine_told h9 pass0) (pe_m0 O12 (pv 8) T.c_Machine T.m_Machine_told h9 pass0) (nomark _))
          (pw_or1 (pt_cmpR (op_neD h1.units) (pe_m0 O10 (pv 12) T.c_Machine T.m_Machine_events h1 pass0) (pe_m0 O10 (pv 8) T.c_Machine T.m_Machine_events h1 pass0) (nomark _)))))) (pss_one (ps_ret pe_bl)) pss_nil)
      (pss_one (ps_ret (pe_cmpR (op_eqD h1.units) (pe_m0 O12 (pv 12) T.c_Machine T.m_Machine_told h9 pass0) (pe_tup (pa_cons (pe_m0 O9 (pv 12) T.c_Machine T.m_Machine_core h1 pass0) (pa_cons (pe_m0 O13 (pv 11) T.c_Plain T.m_Plain_root h1 pass0) (pa_cons (pe_m0 O14 (pv 11) T.c_Plain T.m_Plain_shelf h2 pass0) (pa_cons (pe_m0 O15 (pv 11) T.c_Plain T.m_Plain_pages h8 pass0) pa_nil))))) (nomark _)))))))))))))))))))))), ?_⟩
    -- the numbers
    have SS : ∀ {H' : Hp}, Same H H' → SqL K H' a (ns.map V.int) := fun s' => s'.seq ha
    have mn0 : 0 ≤ cellAt ns 0 % 6 := Int.emod_nonneg _ (by decide)
    have mn1 : cellAt ns 0 % 6 < 6 := Int.emod_lt_of_pos _ (by decide)
    have ms0 : 0 ≤ cellAt ns 0 / 6 % 4 := Int.emod_nonneg _ (by decide)
    have ms1 : cellAt ns 0 / 6 % 4 < 4 := Int.emod_lt_of_pos _ (by decide)
    have st0 : 0 ≤ cellAt ns 3 % 141 := Int.emod_nonneg _ (by decide)
    have st1 : cellAt ns 3 % 141 < 141 := Int.emod_lt_of_pos _ (by decide)
    refine ⟨_, rfl, a, ns, 0, rfl, ha, by decide, _, _, rfl, rfl, (show (0 : Int) < 6 by decide), _, _, rfl, rfl, ?_⟩
    refine ⟨_, rfl, a, ns, 1, rfl, ha, by decide, _, rfl, cellAt ns 1, 1 + cellAt ns 0 % 6, rfl, by omega, by omega, fun H1 pl pps ls s1 epl lr gls lls => ?_⟩
    refine ⟨_, rfl, a, ns, 0, rfl, SS s1, by decide, _, _, rfl, rfl, ⟨by decide, by decide⟩, _, _, rfl, rfl, (show (0 : Int) < 4 by decide), _, _, rfl, rfl, ?_⟩
    obtain ⟨mms, emms, lmms⟩ := cutV_ints ns (some 4) (some 62)
    refine ⟨_, rfl, 4, rfl, 62, rfl, a, _, rfl, SS s1, fun pc hpc => ?_⟩
    have s1b := Same.up (o := .lst (cutV (ns.map V.int) (some 4) (some 62))) s1 hpc
    refine ⟨_, rfl, _, rfl, a, ns, 2, rfl, SS s1b, by decide, pc, mms, 1 + cellAt ns 0 % 6, cellAt ns 2, rfl, SqL.of (by rw [upd_same, emms]), Nat.le_trans lmms nlen, by omega, by omega, fun H2 pgl ts os s2b epg odr gos l2 l60 => ?_⟩
    have s2 : Same H H2 := s1b.trans s2b
    have s12 : Same H1 H2 := (same_new hpc).trans s2b
    refine ⟨_, rfl, _, rfl, a, ns, 2, rfl, SS s2, by decide, pgl, ts.map V.ref, cellAt ns 2, rfl, epg, by rw [List.length_map, odr.len]; exact l2, by rw [List.length_map, odr.len]; exact l60, fun e he => ?_⟩
    refine ⟨6, rfl, by decide, by decide, fun wdl hwdl => lc_range (lo := 0) (n := 6) (fun i H' => ∃ bs : List Bool, H' wdl = some (.lst (bs.map V.bl)) ∧ bs.length = i ∧ Same H2 H') ⟨[], upd_same, rfl, same_new hwdl⟩ ?_ ?_⟩
    · rintro i H' hi ⟨bs, hD', hbl, s'⟩
      refine ⟨rfl, _, rfl, a, ns, 3, rfl, SS (s2.trans s'), by decide, _, rfl, _, _, rfl, rfl, _, _, rfl, rfl, ⟨by omega, by omega⟩, _, _, rfl, rfl, (show (0 : Int) < 2 by decide), rfl, _, hD', ?_, bs ++ [decide (V.int (cellAt ns 3 / (0 + (i : Int) + 1) % 2) = V.int 0)], ?_, ?_, fun b o eb => ?_⟩
      · rw [List.length_map, hbl]
        exact Nat.lt_trans hi (by decide)
      · rw [upd_same, List.map_append]
        rfl
      · rw [List.length_append, hbl]
        rfl
      · rw [upd_ne (ne_of_none eb hwdl)]
        exact s' b o eb
    rintro H3 ⟨bs, ewdl, lbs, s23⟩
    have s3 : Same H H3 := s2.trans s23
    have epg3 := s23 _ _ epg
    have odr3 : OdR H3 ts os := odr.same s23
    have epl3 := s23 _ _ (s12 _ _ epl)
    have lr3 : LsR H3 pps ls := lr.keep fun p _ o z => s23 _ _ (s12 _ _ z)
    have ls6 : ls.length ≤ 6 := by rw [lls]; omega
    have ls1 : 1 ≤ ls.length := by rw [lls]; omega
    have lpg : (ls.map some).length = ls.length := List.length_map ..
    have gpg : gd (ls.map some) := fun l hl => by
      obtain ⟨l', h1, h2⟩ := List.mem_map.mp hl
      cases h2
      exact gls _ h1
    obtain ⟨c, ec⟩ : ∃ c : Cfg, c = ⟨1 + cellAt ns 0 / 6 % 4, bs, os, e⟩ := ⟨_, rfl⟩
    have cm : c.most = 1 + cellAt ns 0 / 6 % 4 := by rw [ec]
    have cr : c.replies = bs := by rw [ec]
    have co : c.orders = os := by rw [ec]
    have cd : c.door = e := by rw [ec]
    have gC : GoodC c := by
      rw [ec]
      exact ⟨by show (1 : Int) ≤ 1 + _; omega, by show 1 + cellAt ns 0 / 6 % 4 ≤ 12; omega, by show bs.length ≤ 1000; omega, by show 1 ≤ os.length; omega, l60, gos, he.1, he.2⟩
    obtain ⟨N, hN⟩ : ∃ N : Nat, 20 + cellAt ns 3 % 141 = (N : Int) := ⟨(20 + cellAt ns 3 % 141).toNat, by omega⟩
    have N160 : N ≤ 160 := by omega
    have gS0 : Good c (M0, ⟨ls.map some, 0, [], 0⟩) := good0 gC gpg (by rw [lpg]; exact ls1) (by rw [lpg]; omega)
    refine ⟨_, rfl, a, ns, 3, rfl, SS s3, by decide, _, _, rfl, rfl, (show (0 : Int) < 141 by decide), _, _, rfl, rfl, ?_⟩
    -- the whole
    have turn_cp : ∀ {Hx H' : Hp} {D : Addr} {i : Nat} {x : V}, Same H3 Hx → (pps.map V.ref)[i]? = some x → CpI Hx D ls i H' → ∃ p, x = .ref p ∧ ∃ il : i < ls.length, H' p = some (.lst (ls[i].map V.int)) := fun {Hx H' D i x} sx hx hI => by
      have il : i < ls.length := by
        have q := (List.getElem?_eq_some_iff.mp hx).1
        rw [List.length_map, lr3.len] at q
        exact q
      obtain ⟨p, e1, e2⟩ := lr3.at_ i _ (List.getElem?_eq_getElem il)
      rw [List.getElem?_map, e1] at hx
      exact ⟨p, (Option.some.inj hx).symm, il, hI.s _ _ (sx _ _ e2)⟩
    have all_cp : ∀ {Hx H' : Hp} {D : Addr}, CpI Hx D ls (pps.map V.ref).length H' → ∃ ps2 : List (Option Addr), H' D = some (.lst (ps2.map oV)) ∧ PgR H' ps2 (ls.map some) ∧ (∀ (i : Nat) (p : Addr), ps2[i]? = some (some p) → Hx p = none ∧ p ≠ D) ∧ Same Hx H' := fun {Hx H' D} h => by
      unfold CpI at h
      have e : ls.take (pps.map V.ref).length = ls := by
        rw [List.length_map, lr3.len]
        exact List.take_length
      rw [e] at h
      exact h
    refine ⟨_, rfl, pl, rfl, ⟨_, SqL.of epl3⟩, fun D2 hD2 => lc_list (K := K) (a := pl) (xs := pps.map V.ref) (CpI H3 D2 ls) (cp0 hD2) (fun i H' _ q => q.s.seq (SqL.of epl3)) (fun i x H' hx hI => ?_) (fun H4 hI => ?_)⟩
    · obtain ⟨p, rfl, il, ep⟩ := turn_cp (Same.refl _) hx hI
      exact ⟨rfl, _, rfl, p, _, rfl, .inl (SqL.of ep), fun q hq => hI.step hD2 ls6 il hq⟩
    obtain ⟨ps2, eD2, pr2, fr2, s34⟩ := all_cp hI
    have epg4 := s34 _ _ epg3
    have ewd4 := s34 _ _ ewdl
    refine ⟨_, rfl, _, rfl, pgl, _, rfl, .inl (SqL.of epg4), fun p4 hp4 => ⟨_, rfl, _, rfl, wdl, _, rfl, .inl (SqL.of (same_new hp4 _ _ ewd4)), fun p6 hp6 => ?_⟩⟩
    have s46 : Same H4 (upd (upd H4 p4 (.lst (ts.map V.ref))) p6 (.lst (bs.map V.bl))) := (same_new hp4).trans (same_new hp6)
    refine ⟨D2, p4, p6, ps2, ls.map some, c, ts, by rw [cm, cd]; rfl, s46 _ _ eD2, pr2.keep fun i p o _ z => s46 _ _ z, gpg, by rw [lpg]; exact ls1, by rw [lpg]; omega, by rw [cr]; exact upd_same, same_new hp6 _ _ upd_same, by rw [co]; exact odr3.same (s34.trans s46), gC, fun H5 xw ww Gw s5 g5 m5 => ?_⟩
    obtain ⟨dxw, omw⟩ : ∃ dx fs, H5 xw = some (.ins (cMach K) dx fs) ∧ fs.lookup ("turn" : Str) = none := by
      obtain ⟨od, cl, nt, fa, ts', es, F, hI, _⟩ := id m5
      obtain ⟨dx, om⟩ := hI.om
      exact ⟨dx, _, om, rfl⟩
    obtain ⟨fsw, omw, lkw⟩ := omw
    refine ⟨_, rfl, xw, dxw, _, rfl, omw, lkw, _, rfl, xw, ww, c, M0, _, Gw, _, rfl, m5, gC, gS0, .inl ⟨N, congrArg V.int hN, by omega, (by show 0 + N ≤ 1000; omega), fun H6 Gw6 b6 g6 m6 => ?_⟩⟩
    have sB : Same (upd (upd H4 p4 (.lst (ts.map V.ref))) p6 (.lst (bs.map V.bl))) H6 := fun b o z => b6 b o (s5 b o z) fun g => by
      have := g5 b g
      rw [z] at this
      cases this
    have s36 : Same H3 H6 := s34.trans (s46.trans sB)
    have epl6 := s36 _ _ epl3
    have epg6 := s36 _ _ epg3
    have ewd6 := s36 _ _ ewdl
    -- what is handed in
    refine ⟨_, rfl, pl, rfl, ⟨_, SqL.of epl6⟩, fun D3 hD3 => lc_list (K := K) (a := pl) (xs := pps.map V.ref) (CpI H6 D3 ls) (cp0 hD3) (fun i H' _ q => q.s.seq (SqL.of epl6)) (fun i x H' hx hI => ?_) (fun H7 hI => ?_)⟩
    · obtain ⟨p, rfl, il, ep⟩ := turn_cp s36 hx hI
      exact ⟨rfl, _, rfl, p, _, rfl, .inl (SqL.of ep), fun q hq => hI.step hD3 ls6 il hq⟩
    obtain ⟨ps3, eD3, pr3, fr3, s67⟩ := all_cp hI
    refine ⟨_, rfl, pgl, _, rfl, .inl (SqL.of (s67 _ _ epg6)), fun q1 hq1 => ?_⟩
    have t1 := same_new (o := .lst (ts.map V.ref)) hq1
    refine ⟨_, rfl, wdl, _, rfl, .inl (SqL.of (t1 _ _ (s67 _ _ ewd6))), fun q2 hq2 => ?_⟩
    have t2 := same_new (o := .lst (bs.map V.bl)) hq2
    refine ⟨(by show 3 ≤ sizeLine; decide), fun hd hhd => ?_⟩
    have t3 := same_new (o := .lst [.ref D3, .ref q1, .ref q2]) hhd
    have ehd : (upd (upd (upd H7 q1 (.lst (ts.map V.ref))) q2 (.lst (bs.map V.bl))) hd (.lst [.ref D3, .ref q1, .ref q2])) hd = some (.lst [.ref D3, .ref q1, .ref q2]) := upd_same
    have eD := (t1.trans (t2.trans t3)) _ _ eD3
    have eq1 := (t2.trans t3) _ _ (upd_same (H := H7) (a := q1) (o := .lst (ts.map V.ref)))
    have eq2 := t3 _ _ (upd_same (H := upd H7 q1 (.lst (ts.map V.ref))) (a := q2) (o := .lst (bs.map V.bl)))
    have prH := pr3.keep fun i p o _ z => (t1.trans (t2.trans t3)) p o z
    have s6h : Same H6 (upd (upd (upd H7 q1 (.lst (ts.map V.ref))) q2 (.lst (bs.map V.bl))) hd (.lst [.ref D3, .ref q1, .ref q2])) := s67.trans (t1.trans (t2.trans t3))
    have hq10 : H6 q1 = none := s67.free hq1
    have hq20 : H6 q2 = none := s67.free (t1.free hq2)
    have hhd0 : H6 hd = none := s67.free (t1.free (t2.free hhd))
    have nD : hd ≠ D3 := Ne.symm (ne_of_none ((t1.trans t2) _ _ eD3) hhd)
    have nq1 : hd ≠ q1 := Ne.symm (ne_of_none (t2 _ _ upd_same) hhd)
    have nq2 : hd ≠ q2 := Ne.symm (ne_of_none upd_same hhd)
    obtain ⟨Hh, eHh⟩ : ∃ Hh, Hh = upd (upd (upd H7 q1 (.lst (ts.map V.ref))) q2 (.lst (bs.map V.bl))) hd (.lst [.ref D3, .ref q1, .ref q2]) := ⟨_, rfl⟩
    rw [← eHh] at ehd eD eq1 eq2 prH s6h ⊢
    clear t3 t2 t1
    -- the way and the machine in parts
    refine ⟨_, rfl, hd, _, 0, _, rfl, rfl, SqL.of ehd, atI_nat (j := 0) rfl, _, rfl, _, rfl, hd, _, 2, _, rfl, rfl, SqL.of ehd, atI_nat (j := 2) rfl, fun wa d1 hwa hd1 n1 => ?_⟩
    have sA : Same Hh (upd (upd Hh d1 (.own wa)) wa (.ins (cPlain K) d1 [])) := (same_new hd1).trans (same_new (by rw [upd_ne (Ne.symm n1)]; exact hwa))
    refine ⟨wa, d1, D3, q2, ps3, ls.map some, c, by rw [cm]; rfl, upd_same, sA _ _ eD, prH.keep fun i p o _ z => sA _ _ z, gpg, by rw [lpg]; exact ls1, by rw [lpg]; omega, gC.m0, gC.m1, by rw [cr]; exact sA _ _ eq2, fun H11 F b11 hF hW => ⟨rfl, ?_⟩⟩
    have sP : Same Hh H11 := fun b o z => b11 _ _ (ne_of_none z hwa) (sA _ _ z)
    refine ⟨_, rfl, _, rfl, hd, _, 1, _, rfl, rfl, SqL.of (sP _ _ ehd), atI_nat (j := 1) rfl, _, rfl, fun xp d2 hxp hd2 n2 => ?_⟩
    have sM : Same H11 (upd (upd H11 d2 (.own xp)) xp (.ins (cMach K) d2 [])) := (same_new hd2).trans (same_new (by rw [upd_ne (Ne.symm n2)]; exact hxp))
    have nfx : ¬ F xp := fun f => by
      obtain ⟨o, z, _⟩ := hW.mu f
      rw [hxp] at z
      cases z
    have odrh : OdR Hh ts os := odr3.same (s36.trans s6h)
    refine ⟨xp, d2, wa, q1, .non, .non, M0, c, _, F, ts, by rw [cd]; rfl, upd_same, nfx, hW.same sM, sM _ _ (sP _ _ eq1), by rw [co]; exact odrh.same (sP.trans sM), gC, .new, fun H12 Gp b12 hG hM => ⟨rfl, ?_⟩⟩
    have sQ : Same H11 H12 := fun b o z => b12 _ _ (ne_of_none z hxp) (sM _ _ z)
    have sh12 : Same Hh H12 := sP.trans sQ
    have gh : ∀ b, Gp b → Hh b = none := fun b g => by
      rcases hG b g with z | z | z
      · rw [z]
        exact sP.free hxp
      · rcases hF b z with y | y
        · rw [y]
          exact hwa
        · exact sA.free y
      · exact sP.free (sM.free z)
    have ng : ∀ {b o}, Hh b = some o → ¬ Gp b := fun {b o} z g => by
      rw [gh b g] at z
      cases z
    -- what was handed in is changed
    have l0lt : 0 < ls.length := ls1
    obtain ⟨p0, ep0, ep0l⟩ := prH.yes 0 ls[0] (by rw [List.getElem?_map, List.getElem?_eq_getElem l0lt]; rfl)
    have l08 : (ls[0]).length = 8 := (gls _ (List.getElem_mem l0lt)).1
    have p06 : H6 p0 = none := (fr3 0 p0 ep0).1
    have p0D : p0 ≠ D3 := (fr3 0 p0 ep0).2
    refine ⟨_, rfl, hd, _, 0, _, rfl, rfl, SqL.of (sh12 _ _ ehd), atI_nat (j := 0) rfl, D3, _, 0, _, rfl, rfl, SqL.of (sh12 _ _ eD), atI_nat (j := 0) (by rw [List.getElem?_map, ep0]; rfl), p0, _, 0, 0, rfl, rfl, sh12 _ _ ep0l, ixN_int (by decide) (by rw [List.length_map, l08]; decide), ?_⟩
    have eh13 : (upd H12 p0 (.lst (((ls[0]).map V.int).set 0 (.int 5)))) hd = some (.lst [.ref D3, .ref q1, .ref q2]) := by
      by_cases z : hd = p0
      · exfalso
        have q := (fr3 0 p0 ep0).1
        rw [← z] at ep0l
        rw [ehd] at ep0l
        have q2 := HO.lst.inj (Option.some.inj ep0l)
        have q3 := congrArg (fun l => l[0]?) q2
        simp only [List.getElem?_map] at q3
        cases y : (ls[0])[0]? with
        | none =>
          have := congrArg List.length q2
          rw [List.length_map, l08] at this
          cases this
        | some w0 =>
          rw [y] at q3
          cases q3
      · rw [upd_ne z]
        exact sh12 _ _ ehd
    have lists : ∀ q, (q = D3 ∨ q = q1 ∨ q = q2) → (∃ xs, Hh q = some (.lst xs)) ∧ H6 q = none ∧ hd ≠ q := fun q hq => by
      rcases hq with z | z | z <;> rw [z]
      · exact ⟨⟨_, eD⟩, hD3, nD⟩
      · exact ⟨⟨_, eq1⟩, hq10, nq1⟩
      · exact ⟨⟨_, eq2⟩, hq20, nq2⟩
    refine ⟨_, rfl, hd, rfl, ⟨_, SqL.of eh13⟩, for_list (K := K) (a := hd) (xs := [.ref D3, .ref q1, .ref q2]) (fun i σ H' => ∃ v13, σ = sg a ns (.int (1 + cellAt ns 0 % 6)) pl pgl e wdl xw (run c N (M0, ⟨ls.map some, 0, [], 0⟩)).1 hd wa xp v13 none none none none none none ∧
        Same H6 H' ∧ H' hd = some (.lst [.ref D3, .ref q1, .ref q2]) ∧ (∀ q, (q = D3 ∨ q = q1 ∨ q = q2) → ∃ xs, H' q = some (.lst xs)) ∧ MacAt K H' xp wa c M0 ⟨ls.map some, 0, [], 0⟩ Gp)
      ⟨none, rfl, fun b o z => ?_, eh13, fun q hq => ?_, hM.keep (fun b o g z => ?_) (fun b xs z => ?_)⟩ (fun i σ H' _ ⟨_, _, _, q, _⟩ => SqL.of q) ?_ ?_⟩
    · rw [upd_ne (ne_of_none z p06)]
      exact sh12 _ _ (s6h _ _ z)
    · obtain ⟨⟨xs, z⟩, _⟩ := lists q hq
      by_cases y : q = p0
      · rw [y]
        exact ⟨_, upd_same⟩
      · rw [upd_ne y]
        exact ⟨_, sh12 _ _ z⟩
    · rw [upd_ne (fun y => ng ep0l (by rw [← y]; exact g))]
      exact z
    · rw [upd_ne (ne_of z (sh12 _ _ ep0l) (fun z => nomatch z))]
      exact z
    · rintro i x σ H' hx ⟨v13, rfl, s', eh', li, hM'⟩
      obtain ⟨q, rfl, hq⟩ : ∃ q, x = .ref q ∧ (q = D3 ∨ q = q1 ∨ q = q2) := by
        match i, hx with
        | 0, hx => exact ⟨D3, (Option.some.inj hx).symm, .inl rfl⟩
        | 1, hx => exact ⟨q1, (Option.some.inj hx).symm, .inr (.inl rfl)⟩
        | 2, hx => exact ⟨q2, (Option.some.inj hx).symm, .inr (.inr rfl)⟩
      obtain ⟨⟨ys, yq⟩, q6, nq⟩ := lists q hq
      obtain ⟨xs, eq⟩ := li q hq
      refine ⟨_, rfl, .inl ⟨rfl, _, SqL.of eq⟩, q, _, rfl, rfl, eq, some (.ref q), rfl, fun b o z => ?_, ?_, fun r hr2 => ?_, hM'.keep (fun b o g z => ?_) (fun b xs z => ?_)⟩
      · rw [upd_ne (ne_of_none z q6)]
        exact s' b o z
      · rw [upd_ne nq]
        exact eh'
      · by_cases y : r = q
        · rw [y]
          exact ⟨_, upd_same⟩
        · rw [upd_ne y]
          exact li r hr2
      · rw [upd_ne (fun y => ng yq (by rw [← y]; exact g))]
        exact z
      · rw [upd_ne (ne_of z eq (fun z => nomatch z))]
        exact z
    rintro σ H14 ⟨v13, rfl, s614, _, _, hM14⟩
    -- a count that is none
    have bj0 : 0 ≤ cellAt ns 2 / 61 % 7 := Int.emod_nonneg _ (by decide)
    have bj1 : cellAt ns 2 / 61 % 7 < 7 := Int.emod_lt_of_pos _ (by decide)
    refine ⟨1, rfl, (by show 1 ≤ sizeLine; decide), fun p1 hp1 => ⟨_, rfl, _, _, rfl, rfl, ⟨by decide, by decide, by decide⟩, _, _, rfl, rfl, .inl ⟨by omega, by omega⟩, _, _, rfl, rfl, (by show 7 ≤ sizeLine; decide), fun p2 hp2 => ?_⟩⟩
    obtain ⟨v, ev, bv, wv, nv⟩ := bad_at p1 (20 + cellAt ns 3 % 141) (by omega) (j := (cellAt ns 2 / 61 % 7).toNat) (by omega)
    have u1 := same_new (o := .lst [.int 1]) hp1
    have u2 := same_new (o := .lst [.int (-1), .int 501, .bl true, .non, .str "1", .ref p1, .int (501 + (20 + cellAt ns 3 % 141) * 10 ^ 40)]) hp2
    have s6z := s614.trans (u1.trans u2)
    have s06 : Same H H6 := s3.trans s36
    refine ⟨_, rfl, a, ns, 2, rfl, SS (s06.trans s6z), by decide, _, _, rfl, rfl, ⟨by decide, by decide⟩, _, _, rfl, rfl, (show (0 : Int) < 7 by decide), p2, _, _, v, rfl, rfl, SqL.of upd_same, atI_int bj0 ev, ?_⟩
    have L0 : LI K H6 (upd (upd H14 p1 (.lst [.int 1])) p2 (.lst [.int (-1), .int 501, .bl true, .non, .str "1", .ref p1, .int (501 + (20 + cellAt ns 3 % 141) * 10 ^ 40)])) xp wa c M0 ⟨ls.map some, 0, [], 0⟩ Gp v := by
      refine ⟨s6z, fun b g => s6h.free (gh b g), hM14.same (u1.trans u2), wv _ (u2 _ _ upd_same), fun b z g => ?_⟩
      rw [nv b z] at g
      obtain ⟨o, y, _⟩ := hM14.mu g
      rw [hp1] at y
      cases y
    -- the turns, one behind another
    refine ⟨60, rfl, by decide, by decide, for_range (n := 60) (fun i σ H' => ∃ (v1 : V) (v16 v17 v18 v19 : Option V) (x : Addr) (d : Nat) (M : Mc) (W : Wy) (G : Addr → Prop), σ = sg a ns v1 pl pgl e wdl xw (run c N (M0, ⟨ls.map some, 0, [], 0⟩)).1 hd wa x v13 (some v) (some (.int (d : Int))) v16 v17 v18 v19 ∧
        d ≤ N ∧ run c d (M0, ⟨ls.map some, 0, [], 0⟩) = (d, (M, W)) ∧ LI K H6 H' x wa c M W G v) ⟨_, none, none, none, none, xp, 0, M0, _, Gp, rfl, Nat.zero_le _, rfl, L0⟩ ?_ ?_⟩
    · rintro i σ H' hi ⟨v1, v16, v17, v18, v19, x, d, M, W, G, rfl, dN, rd, L⟩
      have gSd : Good c (M, W) := by
        have z := run_good gC d _ gS0
        rw [rd] at z
        exact z
      have nd1 : M.notes.length ≤ d := by
        have z := run_notes c d (M0, ⟨ls.map some, 0, [], 0⟩)
        rw [rd] at z
        exact Nat.le_trans z (by show 0 + d ≤ d; omega)
      obtain ⟨mx0, mx1⟩ := mix_b (cellAt ns (0 + (i : Int))) 13499 (m := 9) (by decide)
      obtain ⟨n, hn, nN, n9⟩ : ∃ n : Nat, (if 1 + mixN (cellAt ns (0 + (i : Int))) 13499 9 < (20 + cellAt ns 3 % 141) - (d : Int) then 1 + mixN (cellAt ns (0 + (i : Int))) 13499 9 else (20 + cellAt ns 3 % 141) - (d : Int)) = (n : Int) ∧ n + d ≤ N ∧ n ≤ 9 := by
        by_cases z : 1 + mixN (cellAt ns (0 + (i : Int))) 13499 9 < (20 + cellAt ns 3 % 141) - (d : Int)
        · rw [if_pos z]
          exact ⟨(1 + mixN (cellAt ns (0 + (i : Int))) 13499 9).toNat, by omega, by omega, by omega⟩
        · rw [if_neg z]
          exact ⟨N - d, by omega, by omega, by omega⟩
      have tle := run_le c n (M, W)
      have gS7 : Good c ((run c n (M, W)).2.1, (run c n (M, W)).2.2) := run_good gC n _ gSd
      have nd7 : (run c n (M, W)).2.1.notes.length ≤ 200 := Nat.le_trans (run_notes c n (M, W)) (by show M.notes.length + _ ≤ 200; omega)
      obtain ⟨dx, fs0, om, lk1, lk2, lk3⟩ := L.m.inst
      refine ⟨_, rfl, _, rfl, _, _, rfl, rfl, _, rfl, _, rfl, a, ns, 0 + (i : Int), rfl, SS (s06.trans L.s), by omega, cellAt ns (0 + (i : Int)), 13499, 9, rfl, by decide, _, _, rfl, rfl, _, _, rfl, ?_⟩
      refine ⟨_, rfl, _, _, rfl, rfl, (show (0 : Int) < 5 by decide), rfl, _, rfl, ite_b (fun q => ?_) (fun q => ?_)⟩
      · refine ⟨_, rfl, x, dx, _, rfl, om, lk2, x, wa, c, M, W, G, rfl, L.m, fun H1' ca z1 hca ⟨l0, f0, hl0, c1, c2, c3⟩ => ?_⟩
        refine ⟨_, rfl, x, dx, _, rfl, z1 _ _ om, lk3, x, wa, c, M, W, G, rfl, L.m.same z1, fun H2' ev z2 hev eV => ?_⟩
        have z12 := z1.trans z2
        refine ⟨_, rfl, _, rfl, pgl, _, rfl, .inl (SqL.of (z12 _ _ (L.s _ _ epg6))), fun p5 hp5 => ⟨_, rfl, _, rfl, _, rfl, fun x2 d2' hx2 hd2' n2' => ?_⟩⟩
        have z3 := same_new (o := .lst (ts.map V.ref)) hp5
        have zA : Same (upd H2' p5 (.lst (ts.map V.ref))) (upd (upd (upd H2' p5 (.lst (ts.map V.ref))) d2' (.own x2)) x2 (.ins (cMach K) d2' [])) := (same_new hd2').trans (same_new (by rw [upd_ne (Ne.symm n2')]; exact hx2))
        have z13 := z12.trans z3
        have z1A := z13.trans zA
        obtain ⟨od0, cl0, nt0, fa0, ts0, es0, F0, hI0, hW0⟩ := id L.m
        have nf2 : ¬ F0 x2 := fun f => by
          obtain ⟨o, y, _⟩ := hW0.mu f
          rw [z13.free hx2] at y
          cases y
        obtain ⟨es1, ee1, ee2⟩ := id eV
        have len1 : (es1.map V.ref).length < sizeLine := by
          rw [List.length_map, ee2.len]
          exact Nat.lt_of_le_of_lt (Nat.le_trans nd1 (Nat.le_trans dN N160)) (by decide)
        have hevl : ev ≠ l0 := Ne.symm (ne_of_none c2 hev)
        refine ⟨x2, d2', wa, p5, .ref ca, .ref ev, M, c, W, F0, ts, by rw [cd]; rfl, upd_same, nf2, hW0.same z1A, zA _ _ upd_same, by rw [co]; exact odr3.same ((s36.trans L.s).trans z1A), gC, .of (CoreV.same (M := M) ⟨l0, f0, c1, c2, c3⟩ (z2.trans (z3.trans zA))) (eV.same (z3.trans zA)), fun H4' G2 y4 hG2 hM2 => ⟨rfl, ?_⟩⟩
        obtain ⟨k1, k2, L2⟩ := L.remake (zs := es1.map V.ref ++ [.int 0]) hI0.gf z13 hl0 (z1.free hev) (z3 _ _ (z2 _ _ c2)) (z3 _ _ ee1) hx2 hd2' n2' y4 hG2 hM2
        rw [if_neg hevl] at k2
        have kca : H4' ca = some (.tup [.ref l0, .int M.counter, .bl M.ruling, .ref f0, .bl M.stopped]) := y4 _ _ (ne_of_none (z3 _ _ (z2 _ _ c1)) hx2) (zA _ _ (z3 _ _ (z2 _ _ c1)))
        refine ⟨_, rfl, ca, _, 0, _, rfl, rfl, SqT.of kca, atI_nat (j := 0) rfl, .inl ⟨rfl, _, SqL.of k1⟩, l0, _, rfl, rfl, k1, ?_⟩
        refine ⟨_, rfl, .inl ⟨rfl, _, SqL.of k2⟩, ev, _, _, rfl, rfl, k2, len1, ?_⟩
        obtain ⟨dx3, fs3, om3, lk31, lk32, lk33⟩ := L2.m.inst
        refine ⟨_, rfl, x2, dx3, _, rfl, om3, lk31, _, rfl, x2, wa, c, M, W, _, _, rfl, L2.m, gC, gSd, .inl ⟨n, congrArg V.int hn, by omega, by omega, fun H7 G7 b7 g7 m7 => ?_⟩⟩
        have L7 := L2.but b7 g7 m7
        refine ⟨_, rfl, _, _, _, _, true, rfl, .ty _, .base (.int _), kit_ty (by decide +kernel), _, rfl, iteF ?_⟩
        refine ⟨_, rfl, _, _, _, _, false, rfl, .ty _, .base (.int _), kit_ty (by decide +kernel), _, rfl, iteF ?_⟩
        refine ⟨_, rfl, _, _, rfl, rfl, _, rfl, ite_f (decide_eq_false (by omega)) ?_⟩
        refine ⟨_, rfl, _, rfl, _, _, rfl, rfl, _, rfl, ite_f (decide_eq_false (fun z => by rw [hn] at z; omega)) ?_⟩
        refine ⟨_, rfl, _, rfl, _, _, rfl, rfl, _, rfl, ite_b (fun q => ?_) (fun q => iteF ?_)⟩
        · have q2 : (run c n (M, W)).1 < n := by
            have z := of_decide_eq_true q
            rw [hn] at z
            omega
          have st := run_lt c n (M, W) q2
          obtain ⟨dx4, fs4, om4, lk41, lk42, lk43⟩ := L7.m.inst
          refine ⟨_, rfl, x2, dx4, _, rfl, om4, lk42, x2, wa, c, _, _, _, rfl, L7.m, fun H8 a8 s8 _ ⟨l8, f8, _, j1, j2, j3⟩ => ⟨a8, _, 4, _, rfl, rfl, SqT.of j1, atI_nat (j := 4) rfl, _, rfl, ite_f (by rw [st]; rfl) ?_⟩⟩
          have L8 := L7.same s8
          obtain ⟨dxk, fsk, omk, lkk1, lkk2, lkk3⟩ := L8.m.inst
          refine ⟨_, rfl, x2, dxk, _, rfl, omk, lkk2, x2, wa, c, _, _, _, rfl, L8.m, fun H9 a9 s9 _ ⟨l9, f9, _, k1, k2, k3⟩ => ⟨a9, _, 4, _, rfl, rfl, SqT.of k1, atI_nat (j := 4) rfl, _, rfl, ite_b (fun es => ?_) (fun es => iteF ?_)⟩⟩
          · have L9 := L8.same s9
            refine ⟨_, rfl, x2, dxk, _, rfl, s9 _ _ omk, lkk1, x2, wa, c, _, _, _, .int 9, rfl, L9.m, gC, gS7, .inl ⟨9, rfl, by decide, (by show (run c n (M, W)).2.1.notes.length + 9 ≤ 1000; omega), fun H10 G10 b10 g10 m10 => ⟨rfl, _, rfl, ite_f (by rw [run_stop c 9 es]; rfl) ?_⟩⟩⟩
            rw [run_stop c 9 es] at m10
            have L10 := L9.but b10 g10 m10
            refine ⟨_, rfl, _, rfl, _, _, rfl, rfl, ?_⟩
            refine ⟨_, rfl, _, _, rfl, rfl, (show (0 : Int) < 20 by decide), rfl, _, rfl, ite_b (fun q => ⟨_, rfl, _, rfl, x2, wa, c, _, _, _, v, rfl, L10.m, gC, gS7, L10.wv, bv, fun H11 s11 => ⟨_, rfl, iteF ⟨_, _, _, _, _, x2, d + (run c n (M, W)).1, _, _, _, rfl, by omega, run_then rd, L10.same s11⟩⟩⟩) (fun q => iteF ⟨_, _, _, _, _, x2, d + (run c n (M, W)).1, _, _, _, rfl, by omega, run_then rd, L10⟩)⟩
          · have L9 := L8.same s9
            refine ⟨_, rfl, _, rfl, _, _, rfl, rfl, ?_⟩
            refine ⟨_, rfl, _, _, rfl, rfl, (show (0 : Int) < 20 by decide), rfl, _, rfl, ite_b (fun q => ⟨_, rfl, _, rfl, x2, wa, c, _, _, _, v, rfl, L9.m, gC, gS7, L9.wv, bv, fun H11 s11 => ⟨_, rfl, iteF ⟨_, _, _, _, _, x2, d + (run c n (M, W)).1, _, _, _, rfl, by omega, run_then rd, L9.same s11⟩⟩⟩) (fun q => iteF ⟨_, _, _, _, _, x2, d + (run c n (M, W)).1, _, _, _, rfl, by omega, run_then rd, L9⟩)⟩
        · skip
          obtain ⟨dxk, fsk, omk, lkk1, lkk2, lkk3⟩ := L7.m.inst
          refine ⟨_, rfl, x2, dxk, _, rfl, omk, lkk2, x2, wa, c, _, _, _, rfl, L7.m, fun H9 a9 s9 _ ⟨l9, f9, _, k1, k2, k3⟩ => ⟨a9, _, 4, _, rfl, rfl, SqT.of k1, atI_nat (j := 4) rfl, _, rfl, ite_b (fun es => ?_) (fun es => iteF ?_)⟩⟩
          · have L9 := L7.same s9
            refine ⟨_, rfl, x2, dxk, _, rfl, s9 _ _ omk, lkk1, x2, wa, c, _, _, _, .int 9, rfl, L9.m, gC, gS7, .inl ⟨9, rfl, by decide, (by show (run c n (M, W)).2.1.notes.length + 9 ≤ 1000; omega), fun H10 G10 b10 g10 m10 => ⟨rfl, _, rfl, ite_f (by rw [run_stop c 9 es]; rfl) ?_⟩⟩⟩
            rw [run_stop c 9 es] at m10
            have L10 := L9.but b10 g10 m10
            refine ⟨_, rfl, _, rfl, _, _, rfl, rfl, ?_⟩
            refine ⟨_, rfl, _, _, rfl, rfl, (show (0 : Int) < 20 by decide), rfl, _, rfl, ite_b (fun q => ⟨_, rfl, _, rfl, x2, wa, c, _, _, _, v, rfl, L10.m, gC, gS7, L10.wv, bv, fun H11 s11 => ⟨_, rfl, iteF ⟨_, _, _, _, _, x2, d + (run c n (M, W)).1, _, _, _, rfl, by omega, run_then rd, L10.same s11⟩⟩⟩) (fun q => iteF ⟨_, _, _, _, _, x2, d + (run c n (M, W)).1, _, _, _, rfl, by omega, run_then rd, L10⟩)⟩
          · have L9 := L7.same s9
            refine ⟨_, rfl, _, rfl, _, _, rfl, rfl, ?_⟩
            refine ⟨_, rfl, _, _, rfl, rfl, (show (0 : Int) < 20 by decide), rfl, _, rfl, ite_b (fun q => ⟨_, rfl, _, rfl, x2, wa, c, _, _, _, v, rfl, L9.m, gC, gS7, L9.wv, bv, fun H11 s11 => ⟨_, rfl, iteF ⟨_, _, _, _, _, x2, d + (run c n (M, W)).1, _, _, _, rfl, by omega, run_then rd, L9.same s11⟩⟩⟩) (fun q => iteF ⟨_, _, _, _, _, x2, d + (run c n (M, W)).1, _, _, _, rfl, by omega, run_then rd, L9⟩)⟩
      · skip
        obtain ⟨dx3, fs3, om3, lk31, lk32, lk33⟩ := L.m.inst
        refine ⟨_, rfl, x, dx3, _, rfl, om3, lk31, _, rfl, x, wa, c, M, W, _, _, rfl, L.m, gC, gSd, .inl ⟨n, congrArg V.int hn, by omega, by omega, fun H7 G7 b7 g7 m7 => ?_⟩⟩
        have L7 := L.but b7 g7 m7
        refine ⟨_, rfl, _, _, _, _, true, rfl, .ty _, .base (.int _), kit_ty (by decide +kernel), _, rfl, iteF ?_⟩
        refine ⟨_, rfl, _, _, _, _, false, rfl, .ty _, .base (.int _), kit_ty (by decide +kernel), _, rfl, iteF ?_⟩
        refine ⟨_, rfl, _, _, rfl, rfl, _, rfl, ite_f (decide_eq_false (by omega)) ?_⟩
        refine ⟨_, rfl, _, rfl, _, _, rfl, rfl, _, rfl, ite_f (decide_eq_false (fun z => by rw [hn] at z; omega)) ?_⟩
        refine ⟨_, rfl, _, rfl, _, _, rfl, rfl, _, rfl, ite_b (fun q => ?_) (fun q => iteF ?_)⟩
        · have q2 : (run c n (M, W)).1 < n := by
            have z := of_decide_eq_true q
            rw [hn] at z
            omega
          have st := run_lt c n (M, W) q2
          obtain ⟨dx4, fs4, om4, lk41, lk42, lk43⟩ := L7.m.inst
          refine ⟨_, rfl, x, dx4, _, rfl, om4, lk42, x, wa, c, _, _, _, rfl, L7.m, fun H8 a8 s8 _ ⟨l8, f8, _, j1, j2, j3⟩ => ⟨a8, _, 4, _, rfl, rfl, SqT.of j1, atI_nat (j := 4) rfl, _, rfl, ite_f (by rw [st]; rfl) ?_⟩⟩
          have L8 := L7.same s8
          obtain ⟨dxk, fsk, omk, lkk1, lkk2, lkk3⟩ := L8.m.inst
          refine ⟨_, rfl, x, dxk, _, rfl, omk, lkk2, x, wa, c, _, _, _, rfl, L8.m, fun H9 a9 s9 _ ⟨l9, f9, _, k1, k2, k3⟩ => ⟨a9, _, 4, _, rfl, rfl, SqT.of k1, atI_nat (j := 4) rfl, _, rfl, ite_b (fun es => ?_) (fun es => iteF ?_)⟩⟩
          · have L9 := L8.same s9
            refine ⟨_, rfl, x, dxk, _, rfl, s9 _ _ omk, lkk1, x, wa, c, _, _, _, .int 9, rfl, L9.m, gC, gS7, .inl ⟨9, rfl, by decide, (by show (run c n (M, W)).2.1.notes.length + 9 ≤ 1000; omega), fun H10 G10 b10 g10 m10 => ⟨rfl, _, rfl, ite_f (by rw [run_stop c 9 es]; rfl) ?_⟩⟩⟩
            rw [run_stop c 9 es] at m10
            have L10 := L9.but b10 g10 m10
            refine ⟨_, rfl, _, rfl, _, _, rfl, rfl, ?_⟩
            refine ⟨_, rfl, _, _, rfl, rfl, (show (0 : Int) < 20 by decide), rfl, _, rfl, ite_b (fun q => ⟨_, rfl, _, rfl, x, wa, c, _, _, _, v, rfl, L10.m, gC, gS7, L10.wv, bv, fun H11 s11 => ⟨_, rfl, iteF ⟨_, _, _, _, _, x, d + (run c n (M, W)).1, _, _, _, rfl, by omega, run_then rd, L10.same s11⟩⟩⟩) (fun q => iteF ⟨_, _, _, _, _, x, d + (run c n (M, W)).1, _, _, _, rfl, by omega, run_then rd, L10⟩)⟩
          · have L9 := L8.same s9
            refine ⟨_, rfl, _, rfl, _, _, rfl, rfl, ?_⟩
            refine ⟨_, rfl, _, _, rfl, rfl, (show (0 : Int) < 20 by decide), rfl, _, rfl, ite_b (fun q => ⟨_, rfl, _, rfl, x, wa, c, _, _, _, v, rfl, L9.m, gC, gS7, L9.wv, bv, fun H11 s11 => ⟨_, rfl, iteF ⟨_, _, _, _, _, x, d + (run c n (M, W)).1, _, _, _, rfl, by omega, run_then rd, L9.same s11⟩⟩⟩) (fun q => iteF ⟨_, _, _, _, _, x, d + (run c n (M, W)).1, _, _, _, rfl, by omega, run_then rd, L9⟩)⟩
        · skip
          obtain ⟨dxk, fsk, omk, lkk1, lkk2, lkk3⟩ := L7.m.inst
          refine ⟨_, rfl, x, dxk, _, rfl, omk, lkk2, x, wa, c, _, _, _, rfl, L7.m, fun H9 a9 s9 _ ⟨l9, f9, _, k1, k2, k3⟩ => ⟨a9, _, 4, _, rfl, rfl, SqT.of k1, atI_nat (j := 4) rfl, _, rfl, ite_b (fun es => ?_) (fun es => iteF ?_)⟩⟩
          · have L9 := L7.same s9
            refine ⟨_, rfl, x, dxk, _, rfl, s9 _ _ omk, lkk1, x, wa, c, _, _, _, .int 9, rfl, L9.m, gC, gS7, .inl ⟨9, rfl, by decide, (by show (run c n (M, W)).2.1.notes.length + 9 ≤ 1000; omega), fun H10 G10 b10 g10 m10 => ⟨rfl, _, rfl, ite_f (by rw [run_stop c 9 es]; rfl) ?_⟩⟩⟩
            rw [run_stop c 9 es] at m10
            have L10 := L9.but b10 g10 m10
            refine ⟨_, rfl, _, rfl, _, _, rfl, rfl, ?_⟩
            refine ⟨_, rfl, _, _, rfl, rfl, (show (0 : Int) < 20 by decide), rfl, _, rfl, ite_b (fun q => ⟨_, rfl, _, rfl, x, wa, c, _, _, _, v, rfl, L10.m, gC, gS7, L10.wv, bv, fun H11 s11 => ⟨_, rfl, iteF ⟨_, _, _, _, _, x, d + (run c n (M, W)).1, _, _, _, rfl, by omega, run_then rd, L10.same s11⟩⟩⟩) (fun q => iteF ⟨_, _, _, _, _, x, d + (run c n (M, W)).1, _, _, _, rfl, by omega, run_then rd, L10⟩)⟩
          · have L9 := L7.same s9
            refine ⟨_, rfl, _, rfl, _, _, rfl, rfl, ?_⟩
            refine ⟨_, rfl, _, _, rfl, rfl, (show (0 : Int) < 20 by decide), rfl, _, rfl, ite_b (fun q => ⟨_, rfl, _, rfl, x, wa, c, _, _, _, v, rfl, L9.m, gC, gS7, L9.wv, bv, fun H11 s11 => ⟨_, rfl, iteF ⟨_, _, _, _, _, x, d + (run c n (M, W)).1, _, _, _, rfl, by omega, run_then rd, L9.same s11⟩⟩⟩) (fun q => iteF ⟨_, _, _, _, _, x, d + (run c n (M, W)).1, _, _, _, rfl, by omega, run_then rd, L9⟩)⟩
    rintro σ H' ⟨v1, v16, v17, v18, v19, x, d, M, W, G, rfl, dN, rd, L⟩
    have gSd : Good c (M, W) := by
      have z := run_good gC d _ gS0
      rw [rd] at z
      exact z
    have nd1 : M.notes.length ≤ d := by
      have z := run_notes c d (M0, ⟨ls.map some, 0, [], 0⟩)
      rw [rd] at z
      exact Nat.le_trans z (by show 0 + d ≤ d; omega)
    have evs0 : ∀ x ∈ M.notes, evOk x := by
      have z := run_evs gC d (M0, ⟨ls.map some, 0, [], 0⟩) gS0 (fun x hx => by cases hx)
      rw [rd] at z
      exact z
    have eN : run c N (M0, ⟨ls.map some, 0, [], 0⟩) = (d + (run c (N - d) (M, W)).1, (run c (N - d) (M, W)).2) := by
      have z := run_add c d (N - d) (M0, ⟨ls.map some, 0, [], 0⟩)
      rw [rd, show d + (N - d) = N by omega] at z
      exact z
    have est : (run c N (M0, ⟨ls.map some, 0, [], 0⟩)).2 = (run c (N - d) (M, W)).2 := by rw [eN]
    rw [est] at m6
    have gS7 : Good c ((run c (N - d) (M, W)).2.1, (run c (N - d) (M, W)).2.2) := run_good gC _ _ gSd
    have ev7 := run_evs gC (N - d) (M, W) gSd evs0
    obtain ⟨dx, fs0, om, lk1, lk2, lk3⟩ := L.m.inst
    refine ⟨_, rfl, _, rfl, x, dx, _, rfl, om, lk1, _, rfl, _, rfl, _, _, rfl, rfl, x, wa, c, M, W, G, _, rfl, L.m, gC, gSd, .inl ⟨N - d, congrArg V.int (show (20 + cellAt ns 3 % 141) - (d : Int) = ((N - d : Nat) : Int) by omega), by omega, by omega, fun H7 G7 b7 g7 m7 => ⟨_, _, rfl, rfl, ?_⟩⟩⟩
    have L7 := L.but b7 g7 m7
    have due : V.int ((d : Int) + ((run c (N - d) (M, W)).1 : Int)) = V.int (((run c N (M0, ⟨ls.map some, 0, [], 0⟩)).1 : Nat) : Int) := by
      rw [eN]
      rfl
    refine ⟨_, rfl, _, rfl, rfl, _, rfl, ite_f (congrArg not (decide_eq_true due)) ?_⟩
    obtain ⟨sh1, sh2⟩ := sh_of (told_lay (run c (N - d) (M, W)).2.1 (run c (N - d) (M, W)).2.2) (by decide)
    obtain ⟨se1, se2⟩ := sh_of (evs_lay ev7) (by decide)
    have g24 := gS7.w.n1
    have gg := gS7.w.g
    obtain ⟨dxp, fsp, omp, lp1, lp2, lp3⟩ := L7.m.inst
    have lp4 := L7.m.instT omp
    obtain ⟨dxq, fsq, omq, lq1, lq2, lq3⟩ := m6.inst
    have lq4 := m6.instT omq
    refine ⟨_, rfl, x, dxp, _, rfl, omp, lp4, x, wa, c, _, _, G7, rfl, L7.m, gg, g24, fun H8 a8 s8 t8 => ?_⟩
    have y8 := L7.s.trans s8
    refine ⟨_, rfl, xw, dxq, _, rfl, y8 _ _ omq, lq4, xw, ww, c, _, _, Gw6, rfl, m6.same y8, gg, g24, fun H9 a9 s9 t9 => ⟨_, _, told_dp (t8.same s9), told_dp t9, sh1, sh1, _, rfl, ite_f (congrArg not sh2) ?_⟩⟩
    have r9 := s8.trans s9
    refine ⟨_, rfl, x, dxp, _, rfl, r9 _ _ omp, lp3, x, wa, c, _, _, G7, rfl, L7.m.same r9, fun H10 l10 s10 _ e10 => ?_⟩
    have y10 := L7.s.trans (r9.trans s10)
    refine ⟨_, rfl, xw, dxq, _, rfl, y10 _ _ omq, lq3, xw, ww, c, _, _, Gw6, rfl, m6.same y10, fun H11 l11 s11 _ e11 => ⟨_, _, evs_dp (e10.same s11), evs_dp e11, se1, se1, _, rfl, ite_f (congrArg not se2) ?_⟩⟩
    have r11 := r9.trans (s10.trans s11)
    refine ⟨_, rfl, x, dxp, _, rfl, r11 _ _ omp, lp4, x, wa, c, _, _, G7, rfl, L7.m.same r11, gg, g24, fun H12 a12 s12 t12 => ?_⟩
    have r12 := r11.trans s12
    refine ⟨_, rfl, x, dxp, _, rfl, r12 _ _ omp, lp2, x, wa, c, _, _, G7, rfl, L7.m.same r12, fun H13 a13 s13 _ ⟨l13, f13, _, c1, c2, c3⟩ => ?_⟩
    have r13 := r12.trans s13
    obtain ⟨od7, cl7, nt7, fa7, ts7, es7, F7, hI7, hW7⟩ := id L7.m
    obtain ⟨dw, mw, shw, rpw, ow⟩ := hW7.inst
    refine ⟨_, rfl, wa, dw, _, rfl, r13 _ _ ow, rfl, wa, c, _, F7, rfl, hW7.same r13, ?_⟩
    refine ⟨_, rfl, wa, dw, _, rfl, r13 _ _ ow, rfl, wa, c, _, F7, rfl, hW7.same r13, fun H14 a14 rows s14 e14 r14 => ?_⟩
    have r14' := r13.trans s14
    refine ⟨_, rfl, wa, dw, _, rfl, r14' _ _ ow, rfl, wa, c, _, F7, rfl, hW7.same r14', gg, g24, fun H15 a15 ps15 s15 e15 r15 => ?_⟩
    refine ⟨(by show 4 ≤ sizeLine; decide), fun a16 h16 => ?_⟩
    have s16 := same_new (o := .tup [.ref a13, .int (run c (N - d) (M, W)).2.2.base, .ref a14, .ref a15]) h16
    refine ⟨_, _, told_dp (t12.same (s13.trans (s14.trans (s15.trans s16)))), told_dp (M := (run c (N - d) (M, W)).2.1) (W := (run c (N - d) (M, W)).2.2) ⟨a13, a14, a15, upd_same, CoreV.same (M := (run c (N - d) (M, W)).2.1) ⟨l13, f13, c1, c2, c3⟩ (s14.trans (s15.trans s16)), ShelfV.same ⟨rows, e14, r14⟩ (s15.trans s16), PagesV.same ⟨ps15, e15, r15⟩ s16⟩, sh1, sh1, ?_⟩
    rw [sh2]
    exact hQ _
end
end M35

/-! ## text HeadRun -/
set_option maxHeartbeats 0
namespace M35H
open PySem PySem.W PySem.Calls PyProof.Rows M35
abbrev R : OpenRow := OpenLaw.row PySem.Challenge.rw_shadowpages_k35_turns_split
def n1 : List PySem.Str := ["HouseError", "NoWord", "NoPlace", "NoPage", "NoImage", "NoShelf", "NoBound", "NoProgram", "Fault", "is_whole", "is_word", "plus", "both", "odd", "CELLS", "MOST_PAGES"]
def n2 : List PySem.Str := ["MOST_ROWS", "is_below", "are_words", "is_image", "KINDS", "is_register", "is_at", "form_of", "is_part", "is_order", "is_inner", "kind_number", "checked", "MOST", "Shelf", "Store"]
def n3 : List PySem.Str := ["Memory", "look_at", "parts_of", "PRESENT", "WRITABLE", "KERNEL", "TOUCHED", "SOILED", "page_of", "has", "put", "LAST", "look_by", "rights_of", "look", "stamp"]
def n4 : List PySem.Str := ["mark", "lets", "PLACES", "Ways", "Plain", "MOST_STEPS", "Machine", "bare", "_law_cell_at", "_law_mix", "_law_pages", "_law_group", "_law_program", "_law_entry", "_law_no_bound"]
def names : List PySem.Str := n1 ++ (n2 ++ (n3 ++ n4))
def ob (s : PySem.W.SharedT) : AlK := obsK (HandSHeadRun.getT s)
theorem ob_eq (s : PySem.W.SharedT) : ob s = hk.obs s.abs := by
  have e : HandSHeadRun.getT s = s.abs.heap.get? := funext (HandSHeadRun.getT_eq s)
  show obsK (HandSHeadRun.getT s) = obsK s.abs.heap.get?
  rw [e]
theorem run (w : World) : HandSHeadRun.RunEq R (PySem.W.view R.prog [75]) hk ob 20000 names w := by
  intro os
  kernel_rfl
end M35H

/-! ## text End -/
set_option maxHeartbeats 0
namespace M35
open PySem PySem.Spec PyProof.Rows L2
theorem facts {P : Program} {w : World} {K : PySem.W.Frag} {h : Heap} {mg : Str → Option Value} {f : Addr} (X : K.In h) (G : h.Ns mainGlobals mg) (hfa : mg ("law" : Str) = some (.ref f)) (c : SaysK K) :
    ∃ fd : FuncData, (∀ (s : Shared) (v : Value), BindsTo s fd ⟨[v], []⟩ [("_law_script", v)]) ∧ ∀ base : Heap, K.In base → base.Ns mainGlobals mg → FnOk P w K mg base CX0 17 f fd ["_law_script"] (sp_law K) := by
  have T : Txt K mg := ⟨c.1, c.2, h, X, G⟩
  have e := hfa.symm.trans T.g_law
  cases e
  have b := FunD.bindsA (ps := ["_law_script"]) T.f_law fun _ _ _ _ _ _ us hl => match us, hl with | [_], _ => rfl
  exact ⟨fdOf K d_law.at_, fun s v => b s [v] rfl, fun base _ _ => (ok_law T).fn⟩
end M35
open PySem PySem.W PySem.Calls PyProof.Rows
theorem PySem.Challenge.cw_shadowpages_k35_turns_split_holds : PySem.Challenge.rw_shadowpages_k35_turns_split.Holds := by
  w_on; o_law
  refine HandSHeadRun.head_any (r := M35H.R) (q := view M35H.R.prog [75]) (H := M35.hk) (ob := M35H.ob) (M := 20000) (loose := M35H.names) (d := HandSHeadRun.topDef M35H.R.prog 75) (kwd := []) M35H.ob_eq
    (by kernel_rfl) (fun s => by kernel_rfl) M35H.run (by kernel_rfl) (by kernel_rfl) (by kernel_rfl) (by rfl) (by first | assumption | decide +kernel) (by decide +kernel) ⟨rfl, rfl, rfl, rfl, rfl, by decide +kernel⟩ ?hw ?hc
  case hw => w_witness2
  case hc =>
    refine L2.walk_ofE (l := PySem.Challenge.rw_shadowpages_k35_turns_split) (n := 63) (k := 17) (x := "_law_script") (CX := L2.CX0) rfl (by decide) (by kernel_rfl) ⟨rfl, by decide, by decide⟩ ?F (fun _ _ _ _ z => z)
    intro w mg fa h Y G hmg0
    obtain ⟨K, KX, c⟩ := Y
    have hmg : mg ("law" : PySem.Str) = some (.ref fa) := by
      have e : (HandSHeadRun.topDef M35H.R.prog 75).name = ("law" : PySem.Str) := by kernel_rfl
      rw [← e]
      exact hmg0
    obtain ⟨fd, hb, hF⟩ := M35.facts (P := PySem.Challenge.rw_shadowpages_k35_turns_split.prog) (w := w) KX G hmg c
    exact ⟨K, fd, M35.sp_law K, KX, hb, fun H a ns hl _ hS => ⟨a, ns, rfl, hS, hl, fun _ => rfl⟩, hF⟩
