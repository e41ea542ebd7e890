import PyProof.Rows.All
import Wide.All
import OpenK.AllK
import Wide.FinOn
import KE.KStateDown
import KE.KExcInit
import HandS.ForMost
import HandS.ForExc
import HandS.Defaults
import HandS.IsInst
import HandS.TryElse
import HandS.ExcInit
import HandS.ExcField
import HandS.WideBits
import HandS.EndBits
import HandS.Flow
import HandS.CallSlots
import HandS.Deep
import HandS.Evl
import HandS.ClsMeth
import HandS.Head0
import HandS.Head1
import HandS.Head2
import HandS.HeadEnd
import HandS.HeadHook1
import HandS.HeadHook2
import PySem.Challenge.RW_shadowpages_k56_whole_resumed
set_option Elab.async false
set_option linter.all false
set_option maxRecDepth 100000
set_option maxHeartbeats 4000000
namespace Sp
open PySem PySem.Spec PyProof.Rows L2
def top (i : Nat) : Stmt := PySem.Challenge.pw_shadowpages_k56_whole_resumed.main.body.getD i (.Pass ⟨0, 0, 0, 0⟩)

abbrev s_is_whole : Stmt := (top 14)
abbrev s_is_word : Stmt := (top 15)
abbrev s_is_below : Stmt := (top 19)
abbrev s_are_words : Stmt := (top 20)
abbrev s_is_image : Stmt := (top 21)
abbrev s_laid_out : Stmt := (top 24)
abbrev s_parts_of : Stmt := (top 34)
abbrev s_row_of : Stmt := (top 41)
abbrev s_page_of : Stmt := (top 42)
abbrev s_has : Stmt := (top 44)
abbrev s_put : Stmt := (top 45)
abbrev s_look_by : Stmt := (top 48)
abbrev s_rights_of : Stmt := (top 49)
abbrev s_look : Stmt := (top 50)
abbrev s_stamp : Stmt := (top 51)
abbrev s_mark : Stmt := (top 52)
abbrev s_lets : Stmt := (top 53)
abbrev s_law_cell_at : Stmt := (top 67)
abbrev s_law_whole : Stmt := (top 68)
abbrev s_law_by : Stmt := (top 69)
abbrev s_law_row_by : Stmt := (top 70)
abbrev s_law_pages : Stmt := (top 71)
abbrev s_law_there : Stmt := (top 72)
abbrev s_law_place : Stmt := (top 73)
abbrev s_law_deed : Stmt := (top 74)
abbrev s_law_call : Stmt := (top 75)
abbrev s_law_do : Stmt := (top 76)
abbrev s_law_alike : Stmt := (top 77)
abbrev s_law_written : Stmt := (top 78)
abbrev s_law_other : Stmt := (top 79)
abbrev s_law_like : Stmt := (top 80)
abbrev s_law : Stmt := (top 81)
abbrev s_look_at_places : Stmt := (top 32)
abbrev s_look_at_shadows : Stmt := (top 60)
abbrev s_Shelf_init : Stmt := (inClass (top 28) 0)
abbrev s_Shelf_seat : Stmt := (inClass (top 28) 1)
abbrev s_Shelf_seek : Stmt := (inClass (top 28) 2)
abbrev s_Shelf_keep : Stmt := (inClass (top 28) 3)
abbrev s_Shelf_drop : Stmt := (inClass (top 28) 4)
abbrev s_Shelf_empty : Stmt := (inClass (top 28) 5)
abbrev s_Shelf_told : Stmt := (inClass (top 28) 6)
abbrev s_Frames_init : Stmt := (inClass (top 65) 0)
abbrev s_Frames_size : Stmt := (inClass (top 65) 1)
abbrev s_Frames_has : Stmt := (inClass (top 65) 2)
abbrev s_Frames_look_at : Stmt := (inClass (top 65) 3)
abbrev s_Frames_read : Stmt := (inClass (top 65) 4)
abbrev s_Frames_write : Stmt := (inClass (top 65) 5)
abbrev s_Frames_take : Stmt := (inClass (top 65) 6)
abbrev s_Frames_look_up : Stmt := (inClass (top 65) 7)
abbrev s_Frames_drop : Stmt := (inClass (top 65) 9)
abbrev s_Frames_owners : Stmt := (inClass (top 65) 10)
abbrev s_Frames_ask : Stmt := (inClass (top 65) 12)
abbrev s_Frames_back : Stmt := (inClass (top 65) 13)
abbrev s_Frames_promised : Stmt := (inClass (top 65) 14)
abbrev s_Parts_init : Stmt := (inClass (top 25) 0)
abbrev s_Parts_size : Stmt := (inClass (top 25) 1)
abbrev s_Parts_frame : Stmt := (inClass (top 25) 2)
abbrev s_Parts_need : Stmt := (inClass (top 25) 3)
abbrev s_Parts_alone : Stmt := (inClass (top 25) 4)
abbrev s_Parts_give : Stmt := (inClass (top 25) 6)
abbrev s_Parts_fresh : Stmt := (inClass (top 25) 7)
abbrev s_Shadows_init : Stmt := (inClass (top 62) 0)
abbrev s_Shadows_low_table : Stmt := (inClass (top 62) 1)
abbrev s_Shadows_lay_shadow : Stmt := (inClass (top 62) 3)
abbrev s_Shadows_throw_away : Stmt := (inClass (top 62) 4)
abbrev s_Shadows_need_table : Stmt := (inClass (top 62) 5)
abbrev s_Shadows_make_shadow : Stmt := (inClass (top 62) 6)
abbrev s_Shadows_numbers_of : Stmt := (inClass (top 62) 7)
abbrev s_Shadows_left : Stmt := (inClass (top 62) 8)
abbrev s_Shadows_left_all : Stmt := (inClass (top 62) 9)
abbrev s_Shadows_moved : Stmt := (inClass (top 62) 10)
abbrev s_Shadows_deposit : Stmt := (inClass (top 62) 14)
abbrev s_Shadows_by_machine : Stmt := (inClass (top 62) 15)
abbrev s_Shadows_load : Stmt := (inClass (top 62) 16)
abbrev s_Shadows_save : Stmt := (inClass (top 62) 17)
abbrev s_Shadows_size : Stmt := (inClass (top 58) 5)
abbrev s_Shadows_has : Stmt := (inClass (top 58) 6)
abbrev s_Shadows_look_for : Stmt := (inClass (top 58) 7)
abbrev s_Shadows_read : Stmt := (inClass (top 58) 8)
abbrev s_Shadows_write : Stmt := (inClass (top 58) 9)
abbrev s_Shadows_fetch : Stmt := (inClass (top 58) 10)
abbrev s_Shadows_put_alone : Stmt := (inClass (top 58) 12)
abbrev s_Shadows_granted : Stmt := (inClass (top 58) 13)
abbrev s_Shadows_bring : Stmt := (inClass (top 58) 14)
abbrev s_Shadows_yield_up : Stmt := (inClass (top 58) 15)
abbrev s_Shadows_said : Stmt := (inClass (top 58) 22)
abbrev s_Shadows_resume : Stmt := (inClass (top 58) 23)
abbrev s_Shadows_on_shelf : Stmt := (inClass (top 56) 6)
abbrev s_Shadows_reach : Stmt := (inClass (top 56) 7)
abbrev s_Shadows_page_at : Stmt := (inClass (top 56) 10)
abbrev s_Shadows_peek : Stmt := (inClass (top 56) 11)
abbrev s_Shadows_poke : Stmt := (inClass (top 56) 12)
abbrev s_Shadows_root : Stmt := (inClass (top 56) 13)
abbrev s_Shadows_turn_root : Stmt := (inClass (top 56) 14)
abbrev s_Shadows_drop : Stmt := (inClass (top 56) 15)
abbrev s_Shadows_give : Stmt := (inClass (top 56) 16)
abbrev s_Shadows_want : Stmt := (inClass (top 56) 17)
abbrev s_Shadows_shelf : Stmt := (inClass (top 56) 18)
abbrev s_Shadows_words_of : Stmt := (inClass (top 56) 19)
abbrev s_Shadows_pages : Stmt := (inClass (top 56) 20)
abbrev s_Kept_init : Stmt := (inClass (top 58) 0)
abbrev s_Ways_init : Stmt := (inClass (top 56) 0)
abbrev s_Kept_deposit : Stmt := (inClass (top 58) 11)
abbrev s_Kept_load : Stmt := (inClass (top 56) 8)
abbrev s_Kept_save : Stmt := (inClass (top 56) 9)
abbrev s_Fault_init : Stmt := (inClass (top 12) 0)
def d_is_whole : He.DefD := ⟨("is_whole", none), "is_whole", "is_whole", defArgs s_is_whole, defBody s_is_whole, defScope s_is_whole, [], []⟩
def d_is_word : He.DefD := ⟨("is_word", none), "is_word", "is_word", defArgs s_is_word, defBody s_is_word, defScope s_is_word, [], []⟩
def d_is_below : He.DefD := ⟨("is_below", none), "is_below", "is_below", defArgs s_is_below, defBody s_is_below, defScope s_is_below, [], []⟩
def d_are_words : He.DefD := ⟨("are_words", none), "are_words", "are_words", defArgs s_are_words, defBody s_are_words, defScope s_are_words, [], []⟩
def d_is_image : He.DefD := ⟨("is_image", none), "is_image", "is_image", defArgs s_is_image, defBody s_is_image, defScope s_is_image, [], []⟩
def d_laid_out : He.DefD := ⟨("laid_out", none), "laid_out", "laid_out", defArgs s_laid_out, defBody s_laid_out, defScope s_laid_out, [], []⟩
def d_parts_of : He.DefD := ⟨("parts_of", none), "parts_of", "parts_of", defArgs s_parts_of, defBody s_parts_of, defScope s_parts_of, [], []⟩
def d_row_of : He.DefD := ⟨("row_of", none), "row_of", "row_of", defArgs s_row_of, defBody s_row_of, defScope s_row_of, [], []⟩
def d_page_of : He.DefD := ⟨("page_of", none), "page_of", "page_of", defArgs s_page_of, defBody s_page_of, defScope s_page_of, [], []⟩
def d_has : He.DefD := ⟨("has", none), "has", "has", defArgs s_has, defBody s_has, defScope s_has, [], []⟩
def d_put : He.DefD := ⟨("put", none), "put", "put", defArgs s_put, defBody s_put, defScope s_put, [], []⟩
def d_look_by : He.DefD := ⟨("look_by", none), "look_by", "look_by", defArgs s_look_by, defBody s_look_by, defScope s_look_by, [], []⟩
def d_rights_of : He.DefD := ⟨("rights_of", none), "rights_of", "rights_of", defArgs s_rights_of, defBody s_rights_of, defScope s_rights_of, [], []⟩
def d_look : He.DefD := ⟨("look", none), "look", "look", defArgs s_look, defBody s_look, defScope s_look, [], []⟩
def d_stamp : He.DefD := ⟨("stamp", none), "stamp", "stamp", defArgs s_stamp, defBody s_stamp, defScope s_stamp, [], []⟩
def d_mark : He.DefD := ⟨("mark", none), "mark", "mark", defArgs s_mark, defBody s_mark, defScope s_mark, [], []⟩
def d_lets : He.DefD := ⟨("lets", none), "lets", "lets", defArgs s_lets, defBody s_lets, defScope s_lets, [], []⟩
def d_law_cell_at : He.DefD := ⟨("_law_cell_at", none), "_law_cell_at", "_law_cell_at", defArgs s_law_cell_at, defBody s_law_cell_at, defScope s_law_cell_at, [], []⟩
def d_law_whole : He.DefD := ⟨("_law_whole", none), "_law_whole", "_law_whole", defArgs s_law_whole, defBody s_law_whole, defScope s_law_whole, [], []⟩
def d_law_by : He.DefD := ⟨("_law_by", none), "_law_by", "_law_by", defArgs s_law_by, defBody s_law_by, defScope s_law_by, [], []⟩
def d_law_row_by : He.DefD := ⟨("_law_row_by", none), "_law_row_by", "_law_row_by", defArgs s_law_row_by, defBody s_law_row_by, defScope s_law_row_by, [], []⟩
def d_law_pages : He.DefD := ⟨("_law_pages", none), "_law_pages", "_law_pages", defArgs s_law_pages, defBody s_law_pages, defScope s_law_pages, [], []⟩
def d_law_there : He.DefD := ⟨("_law_there", none), "_law_there", "_law_there", defArgs s_law_there, defBody s_law_there, defScope s_law_there, [], []⟩
def d_law_place : He.DefD := ⟨("_law_place", none), "_law_place", "_law_place", defArgs s_law_place, defBody s_law_place, defScope s_law_place, [], []⟩
def d_law_deed : He.DefD := ⟨("_law_deed", none), "_law_deed", "_law_deed", defArgs s_law_deed, defBody s_law_deed, defScope s_law_deed, [], []⟩
def d_law_call : He.DefD := ⟨("_law_call", none), "_law_call", "_law_call", defArgs s_law_call, defBody s_law_call, defScope s_law_call, [], []⟩
def d_law_do : He.DefD := ⟨("_law_do", none), "_law_do", "_law_do", defArgs s_law_do, defBody s_law_do, defScope s_law_do, [], []⟩
def d_law_alike : He.DefD := ⟨("_law_alike", none), "_law_alike", "_law_alike", defArgs s_law_alike, defBody s_law_alike, defScope s_law_alike, [], []⟩
def d_law_written : He.DefD := ⟨("_law_written", none), "_law_written", "_law_written", defArgs s_law_written, defBody s_law_written, defScope s_law_written, [], []⟩
def d_law_other : He.DefD := ⟨("_law_other", none), "_law_other", "_law_other", defArgs s_law_other, defBody s_law_other, defScope s_law_other, [], []⟩
def d_law_like : He.DefD := ⟨("_law_like", none), "_law_like", "_law_like", defArgs s_law_like, defBody s_law_like, defScope s_law_like, [], []⟩
def d_law : He.DefD := ⟨("law", none), "law", "law", defArgs s_law, defBody s_law, defScope s_law, [], []⟩
def d_look_at_places : He.DefD := ⟨("look_at_places", none), "look_at", "look_at", defArgs s_look_at_places, defBody s_look_at_places, defScope s_look_at_places, [], []⟩
def d_look_at_shadows : He.DefD := ⟨("look_at_shadows", none), "look_at", "look_at", defArgs s_look_at_shadows, defBody s_look_at_shadows, defScope s_look_at_shadows, [], []⟩
def d_Shelf_init : He.DefD := ⟨("Shelf", some "__init__"), "__init__", "Shelf.__init__", defArgs s_Shelf_init, defBody s_Shelf_init, defScope s_Shelf_init, [], []⟩
def d_Shelf_seat : He.DefD := ⟨("Shelf", some "seat"), "seat", "Shelf.seat", defArgs s_Shelf_seat, defBody s_Shelf_seat, defScope s_Shelf_seat, [], []⟩
def d_Shelf_seek : He.DefD := ⟨("Shelf", some "seek"), "seek", "Shelf.seek", defArgs s_Shelf_seek, defBody s_Shelf_seek, defScope s_Shelf_seek, [], []⟩
def d_Shelf_keep : He.DefD := ⟨("Shelf", some "keep"), "keep", "Shelf.keep", defArgs s_Shelf_keep, defBody s_Shelf_keep, defScope s_Shelf_keep, [], []⟩
def d_Shelf_drop : He.DefD := ⟨("Shelf", some "drop"), "drop", "Shelf.drop", defArgs s_Shelf_drop, defBody s_Shelf_drop, defScope s_Shelf_drop, [], []⟩
def d_Shelf_empty : He.DefD := ⟨("Shelf", some "empty"), "empty", "Shelf.empty", defArgs s_Shelf_empty, defBody s_Shelf_empty, defScope s_Shelf_empty, [], []⟩
def d_Shelf_told : He.DefD := ⟨("Shelf", some "told"), "told", "Shelf.told", defArgs s_Shelf_told, defBody s_Shelf_told, defScope s_Shelf_told, [], []⟩
def d_Frames_init : He.DefD := ⟨("Frames", some "__init__"), "__init__", "Frames.__init__", defArgs s_Frames_init, defBody s_Frames_init, defScope s_Frames_init, [], []⟩
def d_Frames_size : He.DefD := ⟨("Frames", some "size"), "size", "Frames.size", defArgs s_Frames_size, defBody s_Frames_size, defScope s_Frames_size, [], []⟩
def d_Frames_has : He.DefD := ⟨("Frames", some "has"), "has", "Frames.has", defArgs s_Frames_has, defBody s_Frames_has, defScope s_Frames_has, [], []⟩
def d_Frames_look_at : He.DefD := ⟨("Frames", some "look_at"), "look_at", "Frames.look_at", defArgs s_Frames_look_at, defBody s_Frames_look_at, defScope s_Frames_look_at, [], []⟩
def d_Frames_read : He.DefD := ⟨("Frames", some "read"), "read", "Frames.read", defArgs s_Frames_read, defBody s_Frames_read, defScope s_Frames_read, [], []⟩
def d_Frames_write : He.DefD := ⟨("Frames", some "write"), "write", "Frames.write", defArgs s_Frames_write, defBody s_Frames_write, defScope s_Frames_write, [], []⟩
def d_Frames_take : He.DefD := ⟨("Frames", some "take"), "take", "Frames.take", defArgs s_Frames_take, defBody s_Frames_take, defScope s_Frames_take, [], []⟩
def d_Frames_look_up : He.DefD := ⟨("Frames", some "look_up"), "look_up", "Frames.look_up", defArgs s_Frames_look_up, defBody s_Frames_look_up, defScope s_Frames_look_up, [], []⟩
def d_Frames_drop : He.DefD := ⟨("Frames", some "drop"), "drop", "Frames.drop", defArgs s_Frames_drop, defBody s_Frames_drop, defScope s_Frames_drop, [], []⟩
def d_Frames_owners : He.DefD := ⟨("Frames", some "owners"), "owners", "Frames.owners", defArgs s_Frames_owners, defBody s_Frames_owners, defScope s_Frames_owners, [], []⟩
def d_Frames_ask : He.DefD := ⟨("Frames", some "ask"), "ask", "Frames.ask", defArgs s_Frames_ask, defBody s_Frames_ask, defScope s_Frames_ask, [], []⟩
def d_Frames_back : He.DefD := ⟨("Frames", some "back"), "back", "Frames.back", defArgs s_Frames_back, defBody s_Frames_back, defScope s_Frames_back, [], []⟩
def d_Frames_promised : He.DefD := ⟨("Frames", some "promised"), "promised", "Frames.promised", defArgs s_Frames_promised, defBody s_Frames_promised, defScope s_Frames_promised, [], []⟩
def d_Parts_init : He.DefD := ⟨("Parts", some "__init__"), "__init__", "Parts.__init__", defArgs s_Parts_init, defBody s_Parts_init, defScope s_Parts_init, [], []⟩
def d_Parts_size : He.DefD := ⟨("Parts", some "size"), "size", "Parts.size", defArgs s_Parts_size, defBody s_Parts_size, defScope s_Parts_size, [], []⟩
def d_Parts_frame : He.DefD := ⟨("Parts", some "frame"), "frame", "Parts.frame", defArgs s_Parts_frame, defBody s_Parts_frame, defScope s_Parts_frame, [], []⟩
def d_Parts_need : He.DefD := ⟨("Parts", some "need"), "need", "Parts.need", defArgs s_Parts_need, defBody s_Parts_need, defScope s_Parts_need, [], []⟩
def d_Parts_alone : He.DefD := ⟨("Parts", some "alone"), "alone", "Parts.alone", defArgs s_Parts_alone, defBody s_Parts_alone, defScope s_Parts_alone, [], []⟩
def d_Parts_give : He.DefD := ⟨("Parts", some "give"), "give", "Parts.give", defArgs s_Parts_give, defBody s_Parts_give, defScope s_Parts_give, [], []⟩
def d_Parts_fresh : He.DefD := ⟨("Parts", some "fresh"), "fresh", "Parts.fresh", defArgs s_Parts_fresh, defBody s_Parts_fresh, defScope s_Parts_fresh, [], []⟩
def d_Shadows_init : He.DefD := ⟨("Shadows", some "__init__"), "__init__", "Shadows.__init__", defArgs s_Shadows_init, defBody s_Shadows_init, defScope s_Shadows_init, [], []⟩
def d_Shadows_low_table : He.DefD := ⟨("Shadows", some "low_table"), "low_table", "Shadows.low_table", defArgs s_Shadows_low_table, defBody s_Shadows_low_table, defScope s_Shadows_low_table, [], []⟩
def d_Shadows_lay_shadow : He.DefD := ⟨("Shadows", some "lay_shadow"), "lay_shadow", "Shadows.lay_shadow", defArgs s_Shadows_lay_shadow, defBody s_Shadows_lay_shadow, defScope s_Shadows_lay_shadow, [], []⟩
def d_Shadows_throw_away : He.DefD := ⟨("Shadows", some "throw_away"), "throw_away", "Shadows.throw_away", defArgs s_Shadows_throw_away, defBody s_Shadows_throw_away, defScope s_Shadows_throw_away, [], []⟩
def d_Shadows_need_table : He.DefD := ⟨("Shadows", some "need_table"), "need_table", "Shadows.need_table", defArgs s_Shadows_need_table, defBody s_Shadows_need_table, defScope s_Shadows_need_table, [], []⟩
def d_Shadows_make_shadow : He.DefD := ⟨("Shadows", some "make_shadow"), "make_shadow", "Shadows.make_shadow", defArgs s_Shadows_make_shadow, defBody s_Shadows_make_shadow, defScope s_Shadows_make_shadow, [], []⟩
def d_Shadows_numbers_of : He.DefD := ⟨("Shadows", some "numbers_of"), "numbers_of", "Shadows.numbers_of", defArgs s_Shadows_numbers_of, defBody s_Shadows_numbers_of, defScope s_Shadows_numbers_of, [], []⟩
def d_Shadows_left : He.DefD := ⟨("Shadows", some "left"), "left", "Shadows.left", defArgs s_Shadows_left, defBody s_Shadows_left, defScope s_Shadows_left, [], []⟩
def d_Shadows_left_all : He.DefD := ⟨("Shadows", some "left_all"), "left_all", "Shadows.left_all", defArgs s_Shadows_left_all, defBody s_Shadows_left_all, defScope s_Shadows_left_all, [], []⟩
def d_Shadows_moved : He.DefD := ⟨("Shadows", some "moved"), "moved", "Shadows.moved", defArgs s_Shadows_moved, defBody s_Shadows_moved, defScope s_Shadows_moved, [], []⟩
def d_Shadows_deposit : He.DefD := ⟨("Shadows", some "deposit"), "deposit", "Shadows.deposit", defArgs s_Shadows_deposit, defBody s_Shadows_deposit, defScope s_Shadows_deposit, [], []⟩
def d_Shadows_by_machine : He.DefD := ⟨("Shadows", some "by_machine"), "by_machine", "Shadows.by_machine", defArgs s_Shadows_by_machine, defBody s_Shadows_by_machine, defScope s_Shadows_by_machine, [], []⟩
def d_Shadows_load : He.DefD := ⟨("Shadows", some "load"), "load", "Shadows.load", defArgs s_Shadows_load, defBody s_Shadows_load, defScope s_Shadows_load, [], []⟩
def d_Shadows_save : He.DefD := ⟨("Shadows", some "save"), "save", "Shadows.save", defArgs s_Shadows_save, defBody s_Shadows_save, defScope s_Shadows_save, [], []⟩
def d_Shadows_size : He.DefD := ⟨("Shadows", some "size"), "size", "Kept.size", defArgs s_Shadows_size, defBody s_Shadows_size, defScope s_Shadows_size, [], []⟩
def d_Shadows_has : He.DefD := ⟨("Shadows", some "has"), "has", "Kept.has", defArgs s_Shadows_has, defBody s_Shadows_has, defScope s_Shadows_has, [], []⟩
def d_Shadows_look_for : He.DefD := ⟨("Shadows", some "look_for"), "look_for", "Kept.look_for", defArgs s_Shadows_look_for, defBody s_Shadows_look_for, defScope s_Shadows_look_for, [], []⟩
def d_Shadows_read : He.DefD := ⟨("Shadows", some "read"), "read", "Kept.read", defArgs s_Shadows_read, defBody s_Shadows_read, defScope s_Shadows_read, [], []⟩
def d_Shadows_write : He.DefD := ⟨("Shadows", some "write"), "write", "Kept.write", defArgs s_Shadows_write, defBody s_Shadows_write, defScope s_Shadows_write, [], []⟩
def d_Shadows_fetch : He.DefD := ⟨("Shadows", some "fetch"), "fetch", "Kept.fetch", defArgs s_Shadows_fetch, defBody s_Shadows_fetch, defScope s_Shadows_fetch, [], []⟩
def d_Shadows_put_alone : He.DefD := ⟨("Shadows", some "put_alone"), "put_alone", "Kept.put_alone", defArgs s_Shadows_put_alone, defBody s_Shadows_put_alone, defScope s_Shadows_put_alone, [], []⟩
def d_Shadows_granted : He.DefD := ⟨("Shadows", some "granted"), "granted", "Kept.granted", defArgs s_Shadows_granted, defBody s_Shadows_granted, defScope s_Shadows_granted, [], []⟩
def d_Shadows_bring : He.DefD := ⟨("Shadows", some "bring"), "bring", "Kept.bring", defArgs s_Shadows_bring, defBody s_Shadows_bring, defScope s_Shadows_bring, [], []⟩
def d_Shadows_yield_up : He.DefD := ⟨("Shadows", some "yield_up"), "yield_up", "Kept.yield_up", defArgs s_Shadows_yield_up, defBody s_Shadows_yield_up, defScope s_Shadows_yield_up, [], []⟩
def d_Shadows_said : He.DefD := ⟨("Shadows", some "said"), "said", "Kept.said", defArgs s_Shadows_said, defBody s_Shadows_said, defScope s_Shadows_said, [], []⟩
def d_Shadows_resume : He.DefD := ⟨("Shadows", some "resume"), "resume", "Kept.resume", defArgs s_Shadows_resume, defBody s_Shadows_resume, defScope s_Shadows_resume, [], []⟩
def d_Shadows_on_shelf : He.DefD := ⟨("Shadows", some "on_shelf"), "on_shelf", "Ways.on_shelf", defArgs s_Shadows_on_shelf, defBody s_Shadows_on_shelf, defScope s_Shadows_on_shelf, [], []⟩
def d_Shadows_reach : He.DefD := ⟨("Shadows", some "reach"), "reach", "Ways.reach", defArgs s_Shadows_reach, defBody s_Shadows_reach, defScope s_Shadows_reach, [], []⟩
def d_Shadows_page_at : He.DefD := ⟨("Shadows", some "page_at"), "page_at", "Ways.page_at", defArgs s_Shadows_page_at, defBody s_Shadows_page_at, defScope s_Shadows_page_at, [], []⟩
def d_Shadows_peek : He.DefD := ⟨("Shadows", some "peek"), "peek", "Ways.peek", defArgs s_Shadows_peek, defBody s_Shadows_peek, defScope s_Shadows_peek, [], []⟩
def d_Shadows_poke : He.DefD := ⟨("Shadows", some "poke"), "poke", "Ways.poke", defArgs s_Shadows_poke, defBody s_Shadows_poke, defScope s_Shadows_poke, [], []⟩
def d_Shadows_root : He.DefD := ⟨("Shadows", some "root"), "root", "Ways.root", defArgs s_Shadows_root, defBody s_Shadows_root, defScope s_Shadows_root, [], []⟩
def d_Shadows_turn_root : He.DefD := ⟨("Shadows", some "turn_root"), "turn_root", "Ways.turn_root", defArgs s_Shadows_turn_root, defBody s_Shadows_turn_root, defScope s_Shadows_turn_root, [], []⟩
def d_Shadows_drop : He.DefD := ⟨("Shadows", some "drop"), "drop", "Ways.drop", defArgs s_Shadows_drop, defBody s_Shadows_drop, defScope s_Shadows_drop, [], []⟩
def d_Shadows_give : He.DefD := ⟨("Shadows", some "give"), "give", "Ways.give", defArgs s_Shadows_give, defBody s_Shadows_give, defScope s_Shadows_give, [], []⟩
def d_Shadows_want : He.DefD := ⟨("Shadows", some "want"), "want", "Ways.want", defArgs s_Shadows_want, defBody s_Shadows_want, defScope s_Shadows_want, [], []⟩
def d_Shadows_shelf : He.DefD := ⟨("Shadows", some "shelf"), "shelf", "Ways.shelf", defArgs s_Shadows_shelf, defBody s_Shadows_shelf, defScope s_Shadows_shelf, [], []⟩
def d_Shadows_words_of : He.DefD := ⟨("Shadows", some "words_of"), "words_of", "Ways.words_of", defArgs s_Shadows_words_of, defBody s_Shadows_words_of, defScope s_Shadows_words_of, [], []⟩
def d_Shadows_pages : He.DefD := ⟨("Shadows", some "pages"), "pages", "Ways.pages", defArgs s_Shadows_pages, defBody s_Shadows_pages, defScope s_Shadows_pages, [], []⟩
def d_Kept_init : He.DefD := ⟨("Kept", some "__init__"), "__init__", "Kept.__init__", defArgs s_Kept_init, defBody s_Kept_init, defScope s_Kept_init, [], []⟩
def d_Ways_init : He.DefD := ⟨("Ways", some "__init__"), "__init__", "Ways.__init__", defArgs s_Ways_init, defBody s_Ways_init, defScope s_Ways_init, [], []⟩
def d_Kept_deposit : He.DefD := ⟨("Kept", some "deposit"), "deposit", "Kept.deposit", defArgs s_Kept_deposit, defBody s_Kept_deposit, defScope s_Kept_deposit, [], []⟩
def d_Kept_load : He.DefD := ⟨("Kept", some "load"), "load", "Ways.load", defArgs s_Kept_load, defBody s_Kept_load, defScope s_Kept_load, [], []⟩
def d_Kept_save : He.DefD := ⟨("Kept", some "save"), "save", "Ways.save", defArgs s_Kept_save, defBody s_Kept_save, defScope s_Kept_save, [], []⟩
def d_Fault_init : He.DefD := ⟨("Fault", some "__init__"), "__init__", "Fault.__init__", defArgs s_Fault_init, defBody s_Fault_init, defScope s_Fault_init, [], []⟩
def fn : List He.DefD := [d_is_whole, d_is_word, d_is_below, d_are_words, d_is_image, d_laid_out, d_parts_of, d_row_of, d_page_of, d_has, d_put, d_look_by, d_rights_of, d_look, d_stamp, d_mark, d_lets, d_law_cell_at, d_law_whole, d_law_by, d_law_row_by, d_law_pages, d_law_there, d_law_place, d_law_deed, d_law_call, d_law_do, d_law_alike, d_law_written, d_law_other, d_law_like, d_law, d_look_at_places, d_look_at_shadows, d_Shelf_init, d_Shelf_seat, d_Shelf_seek, d_Shelf_keep, d_Shelf_drop, d_Shelf_empty, d_Shelf_told, d_Frames_init, d_Frames_size, d_Frames_has, d_Frames_look_at, d_Frames_read, d_Frames_write, d_Frames_take, d_Frames_look_up, d_Frames_drop, d_Frames_owners, d_Frames_ask, d_Frames_back, d_Frames_promised, d_Parts_init, d_Parts_size, d_Parts_frame, d_Parts_need, d_Parts_alone, d_Parts_give, d_Parts_fresh, d_Shadows_init, d_Shadows_low_table, d_Shadows_lay_shadow, d_Shadows_throw_away, d_Shadows_need_table, d_Shadows_make_shadow, d_Shadows_numbers_of, d_Shadows_left, d_Shadows_left_all, d_Shadows_moved, d_Shadows_deposit, d_Shadows_by_machine, d_Shadows_load, d_Shadows_save, d_Shadows_size, d_Shadows_has, d_Shadows_look_for, d_Shadows_read, d_Shadows_write, d_Shadows_fetch, d_Shadows_put_alone, d_Shadows_granted, d_Shadows_bring, d_Shadows_yield_up, d_Shadows_said, d_Shadows_resume, d_Shadows_on_shelf, d_Shadows_reach, d_Shadows_page_at, d_Shadows_peek, d_Shadows_poke, d_Shadows_root, d_Shadows_turn_root, d_Shadows_drop, d_Shadows_give, d_Shadows_want, d_Shadows_shelf, d_Shadows_words_of, d_Shadows_pages, d_Kept_init, d_Ways_init, d_Kept_deposit, d_Kept_load, d_Kept_save, d_Fault_init]
def fa : List He.Fa := [.glo "is_whole", .glo "is_word", .glo "is_below", .glo "are_words", .glo "is_image", .glo "laid_out", .glo "parts_of", .glo "row_of", .glo "page_of", .glo "has", .glo "put", .glo "look_by", .glo "rights_of", .glo "look", .glo "stamp", .glo "mark", .glo "lets", .glo "_law_cell_at", .glo "_law_whole", .glo "_law_by", .glo "_law_row_by", .glo "_law_pages", .glo "_law_there", .glo "_law_place", .glo "_law_deed", .glo "_law_call", .glo "_law_do", .glo "_law_alike", .glo "_law_written", .glo "_law_other", .glo "_law_like", .glo "law", .glo "look_at_places", .glo "look_at_shadows", .glo "Shelf", .glo "Frames", .glo "Parts", .glo "Shadows", .glo "Kept", .glo "Ways", .glo "Fault", .glo "HouseError", .free "len", .free "isinstance", .free "int", .free "bool", .free "list", .free "tuple", .free "all", .free "enumerate", .free "range", .free "divmod", .int "CELLS" 8, .int "MOST_PAGES" 24, .int "MOST" 12, .int "PRESENT" 1, .int "WRITABLE" 2, .int "KERNEL" 4, .int "TOUCHED" 8, .int "SOILED" 16, .int "LAST" 511, .int "PLACES" 512, .int "MOST_FRAMES" 200, .cls "Shelf", .mkr "Shelf", .noat "Shelf" "most", .noat "Shelf" "line", .meth "Shelf" "__init__", .meth "Shelf" "seat", .meth "Shelf" "seek", .meth "Shelf" "keep", .meth "Shelf" "drop", .meth "Shelf" "empty", .meth "Shelf" "told", .cls "Frames", .mkr "Frames", .noat "Frames" "held", .noat "Frames" "owned", .noat "Frames" "pledged", .meth "Frames" "__init__", .meth "Frames" "size", .meth "Frames" "has", .meth "Frames" "look_at", .meth "Frames" "read", .meth "Frames" "write", .meth "Frames" "take", .meth "Frames" "look_up", .meth "Frames" "drop", .meth "Frames" "owners", .meth "Frames" "ask", .meth "Frames" "back", .meth "Frames" "promised", .cls "Parts", .mkr "Parts", .noat "Parts" "ground", .noat "Parts" "leads", .meth "Parts" "__init__", .meth "Parts" "size", .meth "Parts" "frame", .meth "Parts" "need", .meth "Parts" "alone", .meth "Parts" "give", .meth "Parts" "fresh", .cls "Shadows", .mkr "Shadows", .noat "Shadows" "held", .noat "Shadows" "base", .noat "Shadows" "ground", .noat "Shadows" "mine", .noat "Shadows" "part", .noat "Shadows" "changed", .noat "Shadows" "answers", .noat "Shadows" "opened", .noat "Shadows" "spare", .meth "Shadows" "__init__", .meth "Shadows" "low_table", .meth "Shadows" "lay_shadow", .meth "Shadows" "throw_away", .meth "Shadows" "need_table", .meth "Shadows" "make_shadow", .meth "Shadows" "numbers_of", .meth "Shadows" "left", .meth "Shadows" "left_all", .meth "Shadows" "moved", .meth "Shadows" "deposit", .meth "Shadows" "by_machine", .meth "Shadows" "load", .meth "Shadows" "save", .meth "Shadows" "size", .meth "Shadows" "has", .meth "Shadows" "look_for", .meth "Shadows" "read", .meth "Shadows" "write", .meth "Shadows" "fetch", .meth "Shadows" "put_alone", .meth "Shadows" "granted", .meth "Shadows" "bring", .meth "Shadows" "yield_up", .meth "Shadows" "said", .meth "Shadows" "resume", .meth "Shadows" "on_shelf", .meth "Shadows" "reach", .meth "Shadows" "page_at", .meth "Shadows" "peek", .meth "Shadows" "poke", .meth "Shadows" "root", .meth "Shadows" "turn_root", .meth "Shadows" "drop", .meth "Shadows" "give", .meth "Shadows" "want", .meth "Shadows" "shelf", .meth "Shadows" "words_of", .meth "Shadows" "pages", .noat "Fault" "kind", .noat "Fault" "place", .noat "Fault" "level", .exm "Fault" "Fault" true, .keep "Fault"]
/-- C.m read off the class gives the def itself -/
def clsB (K : PySem.W.Frag) (c m : Str) : Bool := PySem.W.readsIn K (He.ga K c) (.type "type") && (decide (PySem.W.specialIn K (.ref (He.ga K c)) "__getattribute__" = some (some (.builtin "type.__getattribute__"))) &&
  (match PySem.W.findCls K (.ref (He.ga K c)) (.type "type") m with
  | some (.val v) => decide (v = .ref (He.ma K (He.ga K c) m))
  | _ => false))
/-- HouseError.__init__ is ValueError's -/
def heB (K : PySem.W.Frag) : Bool := PySem.W.readsIn K (He.ga K "HouseError") (.type "type") && (decide (PySem.W.specialIn K (.ref (He.ga K "HouseError")) "__getattribute__" = some (some (.builtin "type.__getattribute__"))) &&
  (match PySem.W.findCls K (.ref (He.ga K "HouseError")) (.type "type") "__init__" with
  | some (.val v) => decide (v = .builtin "ValueError.__init__")
  | _ => false))
/-- Fault's class object -/
def oexB (K : PySem.W.Frag) (C : Addr) : Bool := (match K.lookup C with
  | some ⟨.type "type", _, .cls cd, sl⟩ => (match cd.mro, sl.toList with
    | .ref C' :: bm, [_, _, _, _, some (.builtin n), _] => C' == C && (n == "ValueError.__new__" && (!cd.hasDel && (cd.hasDict && PySem.HandSPX.refsVE bm)))
    | _, _ => false)
  | _ => false) && (decide (PySem.W.findIn K (.ref C) "__setattr__" = some (some (.builtin "object.__setattr__"))) && (decide (PySem.W.subIn K (.ref C) (.type "BaseException") = some true) && (decide (PySem.W.typeIn K (.ref C) = some (.type "type")) &&
  (PySem.W.keepIn K (.ref C) && (decide (PySem.W.findIn K (.ref C) "__init__" = some (some (.ref (He.ma K C "__init__")))) && decide (PySem.W.typeIn K (.ref (He.ma K C "__init__")) = some (.type "function")))))))
def exB (K : PySem.W.Frag) : Bool := clsB K "Kept" "__init__" && (clsB K "Ways" "__init__" && (clsB K "Kept" "deposit" && (clsB K "Kept" "load" && (clsB K "Kept" "save" && (heB K && (oexB K (He.ga K "Fault") && (xfB K (He.ga K "Fault"))))))))
/-! ### a part of the heap that holds what is asked -/
def clsNs (o : Option Obj) : List Addr := match o with
  | some ⟨_, _, .cls cd, _⟩ => [cd.ns]
  | _ => []
def dctRefs (o : Option Obj) : List Addr := match o with
  | some ⟨_, _, .dict es _, _⟩ => es.toList.flatMap fun e => He.refV e.val
  | _ => []
def fnCode (o : Option Obj) : List Addr := match o with
  | some ⟨_, _, .func fd, _⟩ => He.refV fd.code
  | _ => []
def asM (g : Addr → Option Obj) : List Addr :=
  match dctRefs (g mainGlobals) with
  | a1 => match a1.flatMap fun a => clsNs (g a) with
    | a2 => match a2.flatMap fun a => dctRefs (g a) with
      | a3 => mainGlobals :: cStatics :: (a1 ++ (a2 ++ (a3 ++ ((a1 ++ a3).flatMap fun a => fnCode (g a)))))
/-! ### the Hook -/
abbrev AlM : Type := He.AlD × Bool
def obsM (fa : List He.Fa) (fn : List He.DefD) (ex : PySem.W.Frag → Bool) (K : PySem.W.Frag) : AlM := (He.obsD fa fn K, ex K)
def valM (fn : List He.DefD) : AlM := (He.valD fn, true)
def obsMG (fa : List He.Fa) (fn : List He.DefD) (ex : PySem.W.Frag → Bool) (g : Addr → Option Obj) : AlM := obsM fa fn ex (He.frG g (asM g))
def hookM (fa : List He.Fa) (fn : List He.DefD) (ex : PySem.W.Frag → Bool) : PySem.W.Hook where
  α := AlM
  obs := fun s => obsMG fa fn ex s.heap.get?
  val := fun _ => valM fn
  says := fun _ h => ∃ K : PySem.W.Frag, K.In h ∧ obsM fa fn ex K = valM fn
  of := fun _ _ e => ⟨_, He.frG_in, e⟩
  keeps := fun _ _ _ ⟨K, hK, c⟩ k => ⟨K, PySem.W.Frag.In.keeps hK k, c⟩
theorem obsMG_eq {fa : List He.Fa} {fn : List He.DefD} {ex : PySem.W.Frag → Bool} {g : Addr → Option Obj} {s : Shared} (h : ∀ a, g a = s.heap.get? a) : obsMG fa fn ex g = (hookM fa fn ex).obs s := by
  have e : g = s.heap.get? := funext h
  rw [e] <;> rfl
end Sp

set_option Elab.async false
set_option linter.all false
set_option maxRecDepth 100000
set_option maxHeartbeats 0
namespace Sp
open PySem PySem.Spec PyProof.Rows L2
abbrev R : PySem.W.OpenRow := PySem.W.OpenLaw.row PySem.Challenge.rw_shadowpages_k56_whole_resumed
abbrev hk : PySem.W.Hook := hookM fa fn exB
def ob (s : PySem.W.SharedT) : AlM := obsMG fa fn exB (HandSHeadRun.getT s)
theorem ob_eq (s : PySem.W.SharedT) : ob s = hk.obs s.abs := obsMG_eq (HandSHeadRun.getT_eq s)
def names0 : List PySem.Str := ["_wall", "HouseError", "NoWord", "NoRow", "NoPlace", "NoPage", "NoImage", "NoShelf", "NoFrame", "NoRoom", "NoBound", "Fault", "is_whole", "is_word", "CELLS"]
def names1 : List PySem.Str := ["MOST_PAGES", "is_below", "are_words", "is_image", "words_at", "laid_out", "Parts", "MOST", "Shelf", "Store", "look_at", "look_at_places", "parts_of", "PRESENT", "WRITABLE"]
def names2 : List PySem.Str := ["KERNEL", "TOUCHED", "SOILED", "row_of", "page_of", "marks_of", "has", "put", "LAST", "look_by", "rights_of", "look", "stamp", "mark", "lets"]
def names3 : List PySem.Str := ["PLACES", "Ways", "Kept", "look_at_shadows", "Shadows", "MOST_FRAMES", "Frames", "_law_cell_at", "_law_whole", "_law_by", "_law_row_by", "_law_pages", "_law_there", "_law_place", "_law_deed"]
def names4 : List PySem.Str := ["_law_call", "_law_do", "_law_alike", "_law_written", "_law_other", "_law_like"]
abbrev names : List PySem.Str := names0 ++ names1 ++ names2 ++ names3 ++ names4
theorem run (w : World) : HandSHeadRun.RunEq R (PySem.W.view R.prog [81]) hk ob 15000 names w := by
  intro os
  kernel_rfl
end Sp

set_option Elab.async false
set_option linter.all false
set_option maxRecDepth 100000
set_option maxHeartbeats 4000000
namespace Sp
open PySem PySem.Spec PyProof.Rows L2
theorem oex_ok {K : PySem.W.Frag} {C : Addr} (h : oexB K C = true) : OexC K C ∧ PySem.W.findIn K (.ref C) "__init__" = some (some (.ref (He.ma K C "__init__"))) ∧ PySem.W.typeIn K (.ref (He.ma K C "__init__")) = some (.type "function") := by
  unfold oexB at h
  obtain ⟨h0, h⟩ := He.ba h
  obtain ⟨h1, h⟩ := He.ba h
  obtain ⟨h2, h⟩ := He.ba h
  obtain ⟨h3, h⟩ := He.ba h
  obtain ⟨h4, h⟩ := He.ba h
  obtain ⟨h5, h6⟩ := He.ba h
  refine ⟨⟨?_, of_decide_eq_true h1, of_decide_eq_true h2, of_decide_eq_true h3, h4⟩, of_decide_eq_true h5, of_decide_eq_true h6⟩
  split at h0
  · rename_i dd cd sl ho
    split at h0
    · rename_i C' bm k0 k1 k2 k3 n k5 hm hs
      simp only [Bool.and_eq_true, beq_iff_eq, Bool.not_eq_true'] at h0
      obtain ⟨rfl, rfl, hdel, hdct, hv⟩ := h0
      obtain ⟨nm, bs, mro, ns, qn, hd, sn, sub, ab, col, del⟩ := cd
      dsimp only at hm hdel hdct
      subst hm hdel hdct
      obtain ⟨l⟩ := sl
      have hl : l = [k0, k1, k2, k3, some (Value.builtin "ValueError.__new__"), k5] := hs
      subst hl
      exact ⟨nm, qn, ns, bs, bm, sn, sub, ab, col, dd, k0, k1, k2, k3, k5, ho, hv⟩
    · cases h0
  · cases h0
structure ClsF (K : PySem.W.Frag) (C : Addr) (m : Str) (v : Value) : Prop where
  rd : PySem.W.readsIn K C (.type "type") = true
  ga : PySem.W.specialIn K (.ref C) "__getattribute__" = some (some (.builtin "type.__getattribute__"))
  at_ : PySem.W.findCls K (.ref C) (.type "type") m = some (.val v)
theorem clsB_ok {K : PySem.W.Frag} {c m : Str} (h : clsB K c m = true) : ClsF K (He.ga K c) m (.ref (He.ma K (He.ga K c) m)) := by
  unfold clsB at h
  obtain ⟨h1, h⟩ := He.ba h
  obtain ⟨h2, h3⟩ := He.ba h
  refine ⟨h1, of_decide_eq_true h2, ?_⟩
  split at h3
  · rename_i v e
    rw [e, of_decide_eq_true h3]
  · cases h3
theorem heB_ok {K : PySem.W.Frag} (h : heB K = true) : ClsF K (He.ga K "HouseError") "__init__" (.builtin "ValueError.__init__") := by
  unfold heB at h
  obtain ⟨h1, h⟩ := He.ba h
  obtain ⟨h2, h3⟩ := He.ba h
  refine ⟨h1, of_decide_eq_true h2, ?_⟩
  split at h3
  · rename_i v e
    rw [e, of_decide_eq_true h3]
  · cases h3
structure Txt (K : PySem.W.Frag) (mg : Str → Option Value) : Prop where
  d_is_whole : ∃ fd, FunD K "is_whole" "is_whole" (defArgs s_is_whole) (defBody s_is_whole) (defScope s_is_whole) [] [] (He.fAd K ("is_whole", none)) fd
  d_is_word : ∃ fd, FunD K "is_word" "is_word" (defArgs s_is_word) (defBody s_is_word) (defScope s_is_word) [] [] (He.fAd K ("is_word", none)) fd
  d_is_below : ∃ fd, FunD K "is_below" "is_below" (defArgs s_is_below) (defBody s_is_below) (defScope s_is_below) [] [] (He.fAd K ("is_below", none)) fd
  d_are_words : ∃ fd, FunD K "are_words" "are_words" (defArgs s_are_words) (defBody s_are_words) (defScope s_are_words) [] [] (He.fAd K ("are_words", none)) fd
  d_is_image : ∃ fd, FunD K "is_image" "is_image" (defArgs s_is_image) (defBody s_is_image) (defScope s_is_image) [] [] (He.fAd K ("is_image", none)) fd
  d_laid_out : ∃ fd, FunD K "laid_out" "laid_out" (defArgs s_laid_out) (defBody s_laid_out) (defScope s_laid_out) [] [] (He.fAd K ("laid_out", none)) fd
  d_parts_of : ∃ fd, FunD K "parts_of" "parts_of" (defArgs s_parts_of) (defBody s_parts_of) (defScope s_parts_of) [] [] (He.fAd K ("parts_of", none)) fd
  d_row_of : ∃ fd, FunD K "row_of" "row_of" (defArgs s_row_of) (defBody s_row_of) (defScope s_row_of) [] [] (He.fAd K ("row_of", none)) fd
  d_page_of : ∃ fd, FunD K "page_of" "page_of" (defArgs s_page_of) (defBody s_page_of) (defScope s_page_of) [] [] (He.fAd K ("page_of", none)) fd
  d_has : ∃ fd, FunD K "has" "has" (defArgs s_has) (defBody s_has) (defScope s_has) [] [] (He.fAd K ("has", none)) fd
  d_put : ∃ fd, FunD K "put" "put" (defArgs s_put) (defBody s_put) (defScope s_put) [] [] (He.fAd K ("put", none)) fd
  d_look_by : ∃ fd, FunD K "look_by" "look_by" (defArgs s_look_by) (defBody s_look_by) (defScope s_look_by) [] [] (He.fAd K ("look_by", none)) fd
  d_rights_of : ∃ fd, FunD K "rights_of" "rights_of" (defArgs s_rights_of) (defBody s_rights_of) (defScope s_rights_of) [] [] (He.fAd K ("rights_of", none)) fd
  d_look : ∃ fd, FunD K "look" "look" (defArgs s_look) (defBody s_look) (defScope s_look) [] [] (He.fAd K ("look", none)) fd
  d_stamp : ∃ fd, FunD K "stamp" "stamp" (defArgs s_stamp) (defBody s_stamp) (defScope s_stamp) [] [] (He.fAd K ("stamp", none)) fd
  d_mark : ∃ fd, FunD K "mark" "mark" (defArgs s_mark) (defBody s_mark) (defScope s_mark) [] [] (He.fAd K ("mark", none)) fd
  d_lets : ∃ fd, FunD K "lets" "lets" (defArgs s_lets) (defBody s_lets) (defScope s_lets) [] [] (He.fAd K ("lets", none)) fd
  d_law_cell_at : ∃ fd, FunD K "_law_cell_at" "_law_cell_at" (defArgs s_law_cell_at) (defBody s_law_cell_at) (defScope s_law_cell_at) [] [] (He.fAd K ("_law_cell_at", none)) fd
  d_law_whole : ∃ fd, FunD K "_law_whole" "_law_whole" (defArgs s_law_whole) (defBody s_law_whole) (defScope s_law_whole) [] [] (He.fAd K ("_law_whole", none)) fd
  d_law_by : ∃ fd, FunD K "_law_by" "_law_by" (defArgs s_law_by) (defBody s_law_by) (defScope s_law_by) [] [] (He.fAd K ("_law_by", none)) fd
  d_law_row_by : ∃ fd, FunD K "_law_row_by" "_law_row_by" (defArgs s_law_row_by) (defBody s_law_row_by) (defScope s_law_row_by) [] [] (He.fAd K ("_law_row_by", none)) fd
  d_law_pages : ∃ fd, FunD K "_law_pages" "_law_pages" (defArgs s_law_pages) (defBody s_law_pages) (defScope s_law_pages) [] [] (He.fAd K ("_law_pages", none)) fd
  d_law_there : ∃ fd, FunD K "_law_there" "_law_there" (defArgs s_law_there) (defBody s_law_there) (defScope s_law_there) [] [] (He.fAd K ("_law_there", none)) fd
  d_law_place : ∃ fd, FunD K "_law_place" "_law_place" (defArgs s_law_place) (defBody s_law_place) (defScope s_law_place) [] [] (He.fAd K ("_law_place", none)) fd
  d_law_deed : ∃ fd, FunD K "_law_deed" "_law_deed" (defArgs s_law_deed) (defBody s_law_deed) (defScope s_law_deed) [] [] (He.fAd K ("_law_deed", none)) fd
  d_law_call : ∃ fd, FunD K "_law_call" "_law_call" (defArgs s_law_call) (defBody s_law_call) (defScope s_law_call) [] [] (He.fAd K ("_law_call", none)) fd
  d_law_do : ∃ fd, FunD K "_law_do" "_law_do" (defArgs s_law_do) (defBody s_law_do) (defScope s_law_do) [] [] (He.fAd K ("_law_do", none)) fd
  d_law_alike : ∃ fd, FunD K "_law_alike" "_law_alike" (defArgs s_law_alike) (defBody s_law_alike) (defScope s_law_alike) [] [] (He.fAd K ("_law_alike", none)) fd
  d_law_written : ∃ fd, FunD K "_law_written" "_law_written" (defArgs s_law_written) (defBody s_law_written) (defScope s_law_written) [] [] (He.fAd K ("_law_written", none)) fd
  d_law_other : ∃ fd, FunD K "_law_other" "_law_other" (defArgs s_law_other) (defBody s_law_other) (defScope s_law_other) [] [] (He.fAd K ("_law_other", none)) fd
  d_law_like : ∃ fd, FunD K "_law_like" "_law_like" (defArgs s_law_like) (defBody s_law_like) (defScope s_law_like) [] [] (He.fAd K ("_law_like", none)) fd
  d_law : ∃ fd, FunD K "law" "law" (defArgs s_law) (defBody s_law) (defScope s_law) [] [] (He.fAd K ("law", none)) fd
  d_look_at_places : ∃ fd, FunD K "look_at" "look_at" (defArgs s_look_at_places) (defBody s_look_at_places) (defScope s_look_at_places) [] [] (He.fAd K ("look_at_places", none)) fd
  d_look_at_shadows : ∃ fd, FunD K "look_at" "look_at" (defArgs s_look_at_shadows) (defBody s_look_at_shadows) (defScope s_look_at_shadows) [] [] (He.fAd K ("look_at_shadows", none)) fd
  d_Shelf_init : ∃ fd, FunD K "__init__" "Shelf.__init__" (defArgs s_Shelf_init) (defBody s_Shelf_init) (defScope s_Shelf_init) [] [] (He.fAd K ("Shelf", some "__init__")) fd
  d_Shelf_seat : ∃ fd, FunD K "seat" "Shelf.seat" (defArgs s_Shelf_seat) (defBody s_Shelf_seat) (defScope s_Shelf_seat) [] [] (He.fAd K ("Shelf", some "seat")) fd
  d_Shelf_seek : ∃ fd, FunD K "seek" "Shelf.seek" (defArgs s_Shelf_seek) (defBody s_Shelf_seek) (defScope s_Shelf_seek) [] [] (He.fAd K ("Shelf", some "seek")) fd
  d_Shelf_keep : ∃ fd, FunD K "keep" "Shelf.keep" (defArgs s_Shelf_keep) (defBody s_Shelf_keep) (defScope s_Shelf_keep) [] [] (He.fAd K ("Shelf", some "keep")) fd
  d_Shelf_drop : ∃ fd, FunD K "drop" "Shelf.drop" (defArgs s_Shelf_drop) (defBody s_Shelf_drop) (defScope s_Shelf_drop) [] [] (He.fAd K ("Shelf", some "drop")) fd
  d_Shelf_empty : ∃ fd, FunD K "empty" "Shelf.empty" (defArgs s_Shelf_empty) (defBody s_Shelf_empty) (defScope s_Shelf_empty) [] [] (He.fAd K ("Shelf", some "empty")) fd
  d_Shelf_told : ∃ fd, FunD K "told" "Shelf.told" (defArgs s_Shelf_told) (defBody s_Shelf_told) (defScope s_Shelf_told) [] [] (He.fAd K ("Shelf", some "told")) fd
  d_Frames_init : ∃ fd, FunD K "__init__" "Frames.__init__" (defArgs s_Frames_init) (defBody s_Frames_init) (defScope s_Frames_init) [] [] (He.fAd K ("Frames", some "__init__")) fd
  d_Frames_size : ∃ fd, FunD K "size" "Frames.size" (defArgs s_Frames_size) (defBody s_Frames_size) (defScope s_Frames_size) [] [] (He.fAd K ("Frames", some "size")) fd
  d_Frames_has : ∃ fd, FunD K "has" "Frames.has" (defArgs s_Frames_has) (defBody s_Frames_has) (defScope s_Frames_has) [] [] (He.fAd K ("Frames", some "has")) fd
  d_Frames_look_at : ∃ fd, FunD K "look_at" "Frames.look_at" (defArgs s_Frames_look_at) (defBody s_Frames_look_at) (defScope s_Frames_look_at) [] [] (He.fAd K ("Frames", some "look_at")) fd
  d_Frames_read : ∃ fd, FunD K "read" "Frames.read" (defArgs s_Frames_read) (defBody s_Frames_read) (defScope s_Frames_read) [] [] (He.fAd K ("Frames", some "read")) fd
  d_Frames_write : ∃ fd, FunD K "write" "Frames.write" (defArgs s_Frames_write) (defBody s_Frames_write) (defScope s_Frames_write) [] [] (He.fAd K ("Frames", some "write")) fd
  d_Frames_take : ∃ fd, FunD K "take" "Frames.take" (defArgs s_Frames_take) (defBody s_Frames_take) (defScope s_Frames_take) [] [] (He.fAd K ("Frames", some "take")) fd
  d_Frames_look_up : ∃ fd, FunD K "look_up" "Frames.look_up" (defArgs s_Frames_look_up) (defBody s_Frames_look_up) (defScope s_Frames_look_up) [] [] (He.fAd K ("Frames", some "look_up")) fd
  d_Frames_drop : ∃ fd, FunD K "drop" "Frames.drop" (defArgs s_Frames_drop) (defBody s_Frames_drop) (defScope s_Frames_drop) [] [] (He.fAd K ("Frames", some "drop")) fd
  d_Frames_owners : ∃ fd, FunD K "owners" "Frames.owners" (defArgs s_Frames_owners) (defBody s_Frames_owners) (defScope s_Frames_owners) [] [] (He.fAd K ("Frames", some "owners")) fd
  d_Frames_ask : ∃ fd, FunD K "ask" "Frames.ask" (defArgs s_Frames_ask) (defBody s_Frames_ask) (defScope s_Frames_ask) [] [] (He.fAd K ("Frames", some "ask")) fd
  d_Frames_back : ∃ fd, FunD K "back" "Frames.back" (defArgs s_Frames_back) (defBody s_Frames_back) (defScope s_Frames_back) [] [] (He.fAd K ("Frames", some "back")) fd
  d_Frames_promised : ∃ fd, FunD K "promised" "Frames.promised" (defArgs s_Frames_promised) (defBody s_Frames_promised) (defScope s_Frames_promised) [] [] (He.fAd K ("Frames", some "promised")) fd
  d_Parts_init : ∃ fd, FunD K "__init__" "Parts.__init__" (defArgs s_Parts_init) (defBody s_Parts_init) (defScope s_Parts_init) [] [] (He.fAd K ("Parts", some "__init__")) fd
  d_Parts_size : ∃ fd, FunD K "size" "Parts.size" (defArgs s_Parts_size) (defBody s_Parts_size) (defScope s_Parts_size) [] [] (He.fAd K ("Parts", some "size")) fd
  d_Parts_frame : ∃ fd, FunD K "frame" "Parts.frame" (defArgs s_Parts_frame) (defBody s_Parts_frame) (defScope s_Parts_frame) [] [] (He.fAd K ("Parts", some "frame")) fd
  d_Parts_need : ∃ fd, FunD K "need" "Parts.need" (defArgs s_Parts_need) (defBody s_Parts_need) (defScope s_Parts_need) [] [] (He.fAd K ("Parts", some "need")) fd
  d_Parts_alone : ∃ fd, FunD K "alone" "Parts.alone" (defArgs s_Parts_alone) (defBody s_Parts_alone) (defScope s_Parts_alone) [] [] (He.fAd K ("Parts", some "alone")) fd
  d_Parts_give : ∃ fd, FunD K "give" "Parts.give" (defArgs s_Parts_give) (defBody s_Parts_give) (defScope s_Parts_give) [] [] (He.fAd K ("Parts", some "give")) fd
  d_Parts_fresh : ∃ fd, FunD K "fresh" "Parts.fresh" (defArgs s_Parts_fresh) (defBody s_Parts_fresh) (defScope s_Parts_fresh) [] [] (He.fAd K ("Parts", some "fresh")) fd
  d_Shadows_init : ∃ fd, FunD K "__init__" "Shadows.__init__" (defArgs s_Shadows_init) (defBody s_Shadows_init) (defScope s_Shadows_init) [] [] (He.fAd K ("Shadows", some "__init__")) fd
  d_Shadows_low_table : ∃ fd, FunD K "low_table" "Shadows.low_table" (defArgs s_Shadows_low_table) (defBody s_Shadows_low_table) (defScope s_Shadows_low_table) [] [] (He.fAd K ("Shadows", some "low_table")) fd
  d_Shadows_lay_shadow : ∃ fd, FunD K "lay_shadow" "Shadows.lay_shadow" (defArgs s_Shadows_lay_shadow) (defBody s_Shadows_lay_shadow) (defScope s_Shadows_lay_shadow) [] [] (He.fAd K ("Shadows", some "lay_shadow")) fd
  d_Shadows_throw_away : ∃ fd, FunD K "throw_away" "Shadows.throw_away" (defArgs s_Shadows_throw_away) (defBody s_Shadows_throw_away) (defScope s_Shadows_throw_away) [] [] (He.fAd K ("Shadows", some "throw_away")) fd
  d_Shadows_need_table : ∃ fd, FunD K "need_table" "Shadows.need_table" (defArgs s_Shadows_need_table) (defBody s_Shadows_need_table) (defScope s_Shadows_need_table) [] [] (He.fAd K ("Shadows", some "need_table")) fd
  d_Shadows_make_shadow : ∃ fd, FunD K "make_shadow" "Shadows.make_shadow" (defArgs s_Shadows_make_shadow) (defBody s_Shadows_make_shadow) (defScope s_Shadows_make_shadow) [] [] (He.fAd K ("Shadows", some "make_shadow")) fd
  d_Shadows_numbers_of : ∃ fd, FunD K "numbers_of" "Shadows.numbers_of" (defArgs s_Shadows_numbers_of) (defBody s_Shadows_numbers_of) (defScope s_Shadows_numbers_of) [] [] (He.fAd K ("Shadows", some "numbers_of")) fd
  d_Shadows_left : ∃ fd, FunD K "left" "Shadows.left" (defArgs s_Shadows_left) (defBody s_Shadows_left) (defScope s_Shadows_left) [] [] (He.fAd K ("Shadows", some "left")) fd
  d_Shadows_left_all : ∃ fd, FunD K "left_all" "Shadows.left_all" (defArgs s_Shadows_left_all) (defBody s_Shadows_left_all) (defScope s_Shadows_left_all) [] [] (He.fAd K ("Shadows", some "left_all")) fd
  d_Shadows_moved : ∃ fd, FunD K "moved" "Shadows.moved" (defArgs s_Shadows_moved) (defBody s_Shadows_moved) (defScope s_Shadows_moved) [] [] (He.fAd K ("Shadows", some "moved")) fd
  d_Shadows_deposit : ∃ fd, FunD K "deposit" "Shadows.deposit" (defArgs s_Shadows_deposit) (defBody s_Shadows_deposit) (defScope s_Shadows_deposit) [] [] (He.fAd K ("Shadows", some "deposit")) fd
  d_Shadows_by_machine : ∃ fd, FunD K "by_machine" "Shadows.by_machine" (defArgs s_Shadows_by_machine) (defBody s_Shadows_by_machine) (defScope s_Shadows_by_machine) [] [] (He.fAd K ("Shadows", some "by_machine")) fd
  d_Shadows_load : ∃ fd, FunD K "load" "Shadows.load" (defArgs s_Shadows_load) (defBody s_Shadows_load) (defScope s_Shadows_load) [] [] (He.fAd K ("Shadows", some "load")) fd
  d_Shadows_save : ∃ fd, FunD K "save" "Shadows.save" (defArgs s_Shadows_save) (defBody s_Shadows_save) (defScope s_Shadows_save) [] [] (He.fAd K ("Shadows", some "save")) fd
  d_Shadows_size : ∃ fd, FunD K "size" "Kept.size" (defArgs s_Shadows_size) (defBody s_Shadows_size) (defScope s_Shadows_size) [] [] (He.fAd K ("Shadows", some "size")) fd
  d_Shadows_has : ∃ fd, FunD K "has" "Kept.has" (defArgs s_Shadows_has) (defBody s_Shadows_has) (defScope s_Shadows_has) [] [] (He.fAd K ("Shadows", some "has")) fd
  d_Shadows_look_for : ∃ fd, FunD K "look_for" "Kept.look_for" (defArgs s_Shadows_look_for) (defBody s_Shadows_look_for) (defScope s_Shadows_look_for) [] [] (He.fAd K ("Shadows", some "look_for")) fd
  d_Shadows_read : ∃ fd, FunD K "read" "Kept.read" (defArgs s_Shadows_read) (defBody s_Shadows_read) (defScope s_Shadows_read) [] [] (He.fAd K ("Shadows", some "read")) fd
  d_Shadows_write : ∃ fd, FunD K "write" "Kept.write" (defArgs s_Shadows_write) (defBody s_Shadows_write) (defScope s_Shadows_write) [] [] (He.fAd K ("Shadows", some "write")) fd
  d_Shadows_fetch : ∃ fd, FunD K "fetch" "Kept.fetch" (defArgs s_Shadows_fetch) (defBody s_Shadows_fetch) (defScope s_Shadows_fetch) [] [] (He.fAd K ("Shadows", some "fetch")) fd
  d_Shadows_put_alone : ∃ fd, FunD K "put_alone" "Kept.put_alone" (defArgs s_Shadows_put_alone) (defBody s_Shadows_put_alone) (defScope s_Shadows_put_alone) [] [] (He.fAd K ("Shadows", some "put_alone")) fd
  d_Shadows_granted : ∃ fd, FunD K "granted" "Kept.granted" (defArgs s_Shadows_granted) (defBody s_Shadows_granted) (defScope s_Shadows_granted) [] [] (He.fAd K ("Shadows", some "granted")) fd
  d_Shadows_bring : ∃ fd, FunD K "bring" "Kept.bring" (defArgs s_Shadows_bring) (defBody s_Shadows_bring) (defScope s_Shadows_bring) [] [] (He.fAd K ("Shadows", some "bring")) fd
  d_Shadows_yield_up : ∃ fd, FunD K "yield_up" "Kept.yield_up" (defArgs s_Shadows_yield_up) (defBody s_Shadows_yield_up) (defScope s_Shadows_yield_up) [] [] (He.fAd K ("Shadows", some "yield_up")) fd
  d_Shadows_said : ∃ fd, FunD K "said" "Kept.said" (defArgs s_Shadows_said) (defBody s_Shadows_said) (defScope s_Shadows_said) [] [] (He.fAd K ("Shadows", some "said")) fd
  d_Shadows_resume : ∃ fd, FunD K "resume" "Kept.resume" (defArgs s_Shadows_resume) (defBody s_Shadows_resume) (defScope s_Shadows_resume) [] [] (He.fAd K ("Shadows", some "resume")) fd
  d_Shadows_on_shelf : ∃ fd, FunD K "on_shelf" "Ways.on_shelf" (defArgs s_Shadows_on_shelf) (defBody s_Shadows_on_shelf) (defScope s_Shadows_on_shelf) [] [] (He.fAd K ("Shadows", some "on_shelf")) fd
  d_Shadows_reach : ∃ fd, FunD K "reach" "Ways.reach" (defArgs s_Shadows_reach) (defBody s_Shadows_reach) (defScope s_Shadows_reach) [] [] (He.fAd K ("Shadows", some "reach")) fd
  d_Shadows_page_at : ∃ fd, FunD K "page_at" "Ways.page_at" (defArgs s_Shadows_page_at) (defBody s_Shadows_page_at) (defScope s_Shadows_page_at) [] [] (He.fAd K ("Shadows", some "page_at")) fd
  d_Shadows_peek : ∃ fd, FunD K "peek" "Ways.peek" (defArgs s_Shadows_peek) (defBody s_Shadows_peek) (defScope s_Shadows_peek) [] [] (He.fAd K ("Shadows", some "peek")) fd
  d_Shadows_poke : ∃ fd, FunD K "poke" "Ways.poke" (defArgs s_Shadows_poke) (defBody s_Shadows_poke) (defScope s_Shadows_poke) [] [] (He.fAd K ("Shadows", some "poke")) fd
  d_Shadows_root : ∃ fd, FunD K "root" "Ways.root" (defArgs s_Shadows_root) (defBody s_Shadows_root) (defScope s_Shadows_root) [] [] (He.fAd K ("Shadows", some "root")) fd
  d_Shadows_turn_root : ∃ fd, FunD K "turn_root" "Ways.turn_root" (defArgs s_Shadows_turn_root) (defBody s_Shadows_turn_root) (defScope s_Shadows_turn_root) [] [] (He.fAd K ("Shadows", some "turn_root")) fd
  d_Shadows_drop : ∃ fd, FunD K "drop" "Ways.drop" (defArgs s_Shadows_drop) (defBody s_Shadows_drop) (defScope s_Shadows_drop) [] [] (He.fAd K ("Shadows", some "drop")) fd
  d_Shadows_give : ∃ fd, FunD K "give" "Ways.give" (defArgs s_Shadows_give) (defBody s_Shadows_give) (defScope s_Shadows_give) [] [] (He.fAd K ("Shadows", some "give")) fd
  d_Shadows_want : ∃ fd, FunD K "want" "Ways.want" (defArgs s_Shadows_want) (defBody s_Shadows_want) (defScope s_Shadows_want) [] [] (He.fAd K ("Shadows", some "want")) fd
  d_Shadows_shelf : ∃ fd, FunD K "shelf" "Ways.shelf" (defArgs s_Shadows_shelf) (defBody s_Shadows_shelf) (defScope s_Shadows_shelf) [] [] (He.fAd K ("Shadows", some "shelf")) fd
  d_Shadows_words_of : ∃ fd, FunD K "words_of" "Ways.words_of" (defArgs s_Shadows_words_of) (defBody s_Shadows_words_of) (defScope s_Shadows_words_of) [] [] (He.fAd K ("Shadows", some "words_of")) fd
  d_Shadows_pages : ∃ fd, FunD K "pages" "Ways.pages" (defArgs s_Shadows_pages) (defBody s_Shadows_pages) (defScope s_Shadows_pages) [] [] (He.fAd K ("Shadows", some "pages")) fd
  d_Kept_init : ∃ fd, FunD K "__init__" "Kept.__init__" (defArgs s_Kept_init) (defBody s_Kept_init) (defScope s_Kept_init) [] [] (He.fAd K ("Kept", some "__init__")) fd
  d_Ways_init : ∃ fd, FunD K "__init__" "Ways.__init__" (defArgs s_Ways_init) (defBody s_Ways_init) (defScope s_Ways_init) [] [] (He.fAd K ("Ways", some "__init__")) fd
  d_Kept_deposit : ∃ fd, FunD K "deposit" "Kept.deposit" (defArgs s_Kept_deposit) (defBody s_Kept_deposit) (defScope s_Kept_deposit) [] [] (He.fAd K ("Kept", some "deposit")) fd
  d_Kept_load : ∃ fd, FunD K "load" "Ways.load" (defArgs s_Kept_load) (defBody s_Kept_load) (defScope s_Kept_load) [] [] (He.fAd K ("Kept", some "load")) fd
  d_Kept_save : ∃ fd, FunD K "save" "Ways.save" (defArgs s_Kept_save) (defBody s_Kept_save) (defScope s_Kept_save) [] [] (He.fAd K ("Kept", some "save")) fd
  d_Fault_init : ∃ fd, FunD K "__init__" "Fault.__init__" (defArgs s_Fault_init) (defBody s_Fault_init) (defScope s_Fault_init) [] [] (He.fAd K ("Fault", some "__init__")) fd
  g_is_whole : mg "is_whole" = some (.ref (He.ga K "is_whole"))
  g_is_word : mg "is_word" = some (.ref (He.ga K "is_word"))
  g_is_below : mg "is_below" = some (.ref (He.ga K "is_below"))
  g_are_words : mg "are_words" = some (.ref (He.ga K "are_words"))
  g_is_image : mg "is_image" = some (.ref (He.ga K "is_image"))
  g_laid_out : mg "laid_out" = some (.ref (He.ga K "laid_out"))
  g_parts_of : mg "parts_of" = some (.ref (He.ga K "parts_of"))
  g_row_of : mg "row_of" = some (.ref (He.ga K "row_of"))
  g_page_of : mg "page_of" = some (.ref (He.ga K "page_of"))
  g_has : mg "has" = some (.ref (He.ga K "has"))
  g_put : mg "put" = some (.ref (He.ga K "put"))
  g_look_by : mg "look_by" = some (.ref (He.ga K "look_by"))
  g_rights_of : mg "rights_of" = some (.ref (He.ga K "rights_of"))
  g_look : mg "look" = some (.ref (He.ga K "look"))
  g_stamp : mg "stamp" = some (.ref (He.ga K "stamp"))
  g_mark : mg "mark" = some (.ref (He.ga K "mark"))
  g_lets : mg "lets" = some (.ref (He.ga K "lets"))
  g_law_cell_at : mg "_law_cell_at" = some (.ref (He.ga K "_law_cell_at"))
  g_law_whole : mg "_law_whole" = some (.ref (He.ga K "_law_whole"))
  g_law_by : mg "_law_by" = some (.ref (He.ga K "_law_by"))
  g_law_row_by : mg "_law_row_by" = some (.ref (He.ga K "_law_row_by"))
  g_law_pages : mg "_law_pages" = some (.ref (He.ga K "_law_pages"))
  g_law_there : mg "_law_there" = some (.ref (He.ga K "_law_there"))
  g_law_place : mg "_law_place" = some (.ref (He.ga K "_law_place"))
  g_law_deed : mg "_law_deed" = some (.ref (He.ga K "_law_deed"))
  g_law_call : mg "_law_call" = some (.ref (He.ga K "_law_call"))
  g_law_do : mg "_law_do" = some (.ref (He.ga K "_law_do"))
  g_law_alike : mg "_law_alike" = some (.ref (He.ga K "_law_alike"))
  g_law_written : mg "_law_written" = some (.ref (He.ga K "_law_written"))
  g_law_other : mg "_law_other" = some (.ref (He.ga K "_law_other"))
  g_law_like : mg "_law_like" = some (.ref (He.ga K "_law_like"))
  g_law : mg "law" = some (.ref (He.ga K "law"))
  g_look_at_places : mg "look_at_places" = some (.ref (He.ga K "look_at_places"))
  g_look_at_shadows : mg "look_at_shadows" = some (.ref (He.ga K "look_at_shadows"))
  g_Shelf : mg "Shelf" = some (.ref (He.ga K "Shelf"))
  g_Frames : mg "Frames" = some (.ref (He.ga K "Frames"))
  g_Parts : mg "Parts" = some (.ref (He.ga K "Parts"))
  g_Shadows : mg "Shadows" = some (.ref (He.ga K "Shadows"))
  g_Kept : mg "Kept" = some (.ref (He.ga K "Kept"))
  g_Ways : mg "Ways" = some (.ref (He.ga K "Ways"))
  g_Fault : mg "Fault" = some (.ref (He.ga K "Fault"))
  g_HouseError : mg "HouseError" = some (.ref (He.ga K "HouseError"))
  b_len : mg "len" = none
  b_isinstance : mg "isinstance" = none
  b_int : mg "int" = none
  b_bool : mg "bool" = none
  b_list : mg "list" = none
  b_tuple : mg "tuple" = none
  b_all : mg "all" = none
  b_enumerate : mg "enumerate" = none
  b_range : mg "range" = none
  b_divmod : mg "divmod" = none
  i_CELLS : ∃ t, mg "CELLS" = some (.int 8 t)
  i_MOST_PAGES : ∃ t, mg "MOST_PAGES" = some (.int 24 t)
  i_MOST : ∃ t, mg "MOST" = some (.int 12 t)
  i_PRESENT : ∃ t, mg "PRESENT" = some (.int 1 t)
  i_WRITABLE : ∃ t, mg "WRITABLE" = some (.int 2 t)
  i_KERNEL : ∃ t, mg "KERNEL" = some (.int 4 t)
  i_TOUCHED : ∃ t, mg "TOUCHED" = some (.int 8 t)
  i_SOILED : ∃ t, mg "SOILED" = some (.int 16 t)
  i_LAST : ∃ t, mg "LAST" = some (.int 511 t)
  i_PLACES : ∃ t, mg "PLACES" = some (.int 512 t)
  i_MOST_FRAMES : ∃ t, mg "MOST_FRAMES" = some (.int 200 t)
  c_Shelf : Cls K (He.ga K "Shelf")
  mk_Shelf : Mk K (He.ga K "Shelf") (He.ma K (He.ga K "Shelf") "__init__")
  n_Shelf_most : NoAttr K (He.ga K "Shelf") "most"
  n_Shelf_line : NoAttr K (He.ga K "Shelf") "line"
  m_Shelf_init : Meth K (He.ga K "Shelf") "__init__" (He.ma K (He.ga K "Shelf") "__init__")
  m_Shelf_seat : Meth K (He.ga K "Shelf") "seat" (He.ma K (He.ga K "Shelf") "seat")
  m_Shelf_seek : Meth K (He.ga K "Shelf") "seek" (He.ma K (He.ga K "Shelf") "seek")
  m_Shelf_keep : Meth K (He.ga K "Shelf") "keep" (He.ma K (He.ga K "Shelf") "keep")
  m_Shelf_drop : Meth K (He.ga K "Shelf") "drop" (He.ma K (He.ga K "Shelf") "drop")
  m_Shelf_empty : Meth K (He.ga K "Shelf") "empty" (He.ma K (He.ga K "Shelf") "empty")
  m_Shelf_told : Meth K (He.ga K "Shelf") "told" (He.ma K (He.ga K "Shelf") "told")
  c_Frames : Cls K (He.ga K "Frames")
  mk_Frames : Mk K (He.ga K "Frames") (He.ma K (He.ga K "Frames") "__init__")
  n_Frames_held : NoAttr K (He.ga K "Frames") "held"
  n_Frames_owned : NoAttr K (He.ga K "Frames") "owned"
  n_Frames_pledged : NoAttr K (He.ga K "Frames") "pledged"
  m_Frames_init : Meth K (He.ga K "Frames") "__init__" (He.ma K (He.ga K "Frames") "__init__")
  m_Frames_size : Meth K (He.ga K "Frames") "size" (He.ma K (He.ga K "Frames") "size")
  m_Frames_has : Meth K (He.ga K "Frames") "has" (He.ma K (He.ga K "Frames") "has")
  m_Frames_look_at : Meth K (He.ga K "Frames") "look_at" (He.ma K (He.ga K "Frames") "look_at")
  m_Frames_read : Meth K (He.ga K "Frames") "read" (He.ma K (He.ga K "Frames") "read")
  m_Frames_write : Meth K (He.ga K "Frames") "write" (He.ma K (He.ga K "Frames") "write")
  m_Frames_take : Meth K (He.ga K "Frames") "take" (He.ma K (He.ga K "Frames") "take")
  m_Frames_look_up : Meth K (He.ga K "Frames") "look_up" (He.ma K (He.ga K "Frames") "look_up")
  m_Frames_drop : Meth K (He.ga K "Frames") "drop" (He.ma K (He.ga K "Frames") "drop")
  m_Frames_owners : Meth K (He.ga K "Frames") "owners" (He.ma K (He.ga K "Frames") "owners")
  m_Frames_ask : Meth K (He.ga K "Frames") "ask" (He.ma K (He.ga K "Frames") "ask")
  m_Frames_back : Meth K (He.ga K "Frames") "back" (He.ma K (He.ga K "Frames") "back")
  m_Frames_promised : Meth K (He.ga K "Frames") "promised" (He.ma K (He.ga K "Frames") "promised")
  c_Parts : Cls K (He.ga K "Parts")
  mk_Parts : Mk K (He.ga K "Parts") (He.ma K (He.ga K "Parts") "__init__")
  n_Parts_ground : NoAttr K (He.ga K "Parts") "ground"
  n_Parts_leads : NoAttr K (He.ga K "Parts") "leads"
  m_Parts_init : Meth K (He.ga K "Parts") "__init__" (He.ma K (He.ga K "Parts") "__init__")
  m_Parts_size : Meth K (He.ga K "Parts") "size" (He.ma K (He.ga K "Parts") "size")
  m_Parts_frame : Meth K (He.ga K "Parts") "frame" (He.ma K (He.ga K "Parts") "frame")
  m_Parts_need : Meth K (He.ga K "Parts") "need" (He.ma K (He.ga K "Parts") "need")
  m_Parts_alone : Meth K (He.ga K "Parts") "alone" (He.ma K (He.ga K "Parts") "alone")
  m_Parts_give : Meth K (He.ga K "Parts") "give" (He.ma K (He.ga K "Parts") "give")
  m_Parts_fresh : Meth K (He.ga K "Parts") "fresh" (He.ma K (He.ga K "Parts") "fresh")
  c_Shadows : Cls K (He.ga K "Shadows")
  mk_Shadows : Mk K (He.ga K "Shadows") (He.ma K (He.ga K "Shadows") "__init__")
  n_Shadows_held : NoAttr K (He.ga K "Shadows") "held"
  n_Shadows_base : NoAttr K (He.ga K "Shadows") "base"
  n_Shadows_ground : NoAttr K (He.ga K "Shadows") "ground"
  n_Shadows_mine : NoAttr K (He.ga K "Shadows") "mine"
  n_Shadows_part : NoAttr K (He.ga K "Shadows") "part"
  n_Shadows_changed : NoAttr K (He.ga K "Shadows") "changed"
  n_Shadows_answers : NoAttr K (He.ga K "Shadows") "answers"
  n_Shadows_opened : NoAttr K (He.ga K "Shadows") "opened"
  n_Shadows_spare : NoAttr K (He.ga K "Shadows") "spare"
  m_Shadows_init : Meth K (He.ga K "Shadows") "__init__" (He.ma K (He.ga K "Shadows") "__init__")
  m_Shadows_low_table : Meth K (He.ga K "Shadows") "low_table" (He.ma K (He.ga K "Shadows") "low_table")
  m_Shadows_lay_shadow : Meth K (He.ga K "Shadows") "lay_shadow" (He.ma K (He.ga K "Shadows") "lay_shadow")
  m_Shadows_throw_away : Meth K (He.ga K "Shadows") "throw_away" (He.ma K (He.ga K "Shadows") "throw_away")
  m_Shadows_need_table : Meth K (He.ga K "Shadows") "need_table" (He.ma K (He.ga K "Shadows") "need_table")
  m_Shadows_make_shadow : Meth K (He.ga K "Shadows") "make_shadow" (He.ma K (He.ga K "Shadows") "make_shadow")
  m_Shadows_numbers_of : Meth K (He.ga K "Shadows") "numbers_of" (He.ma K (He.ga K "Shadows") "numbers_of")
  m_Shadows_left : Meth K (He.ga K "Shadows") "left" (He.ma K (He.ga K "Shadows") "left")
  m_Shadows_left_all : Meth K (He.ga K "Shadows") "left_all" (He.ma K (He.ga K "Shadows") "left_all")
  m_Shadows_moved : Meth K (He.ga K "Shadows") "moved" (He.ma K (He.ga K "Shadows") "moved")
  m_Shadows_deposit : Meth K (He.ga K "Shadows") "deposit" (He.ma K (He.ga K "Shadows") "deposit")
  m_Shadows_by_machine : Meth K (He.ga K "Shadows") "by_machine" (He.ma K (He.ga K "Shadows") "by_machine")
  m_Shadows_load : Meth K (He.ga K "Shadows") "load" (He.ma K (He.ga K "Shadows") "load")
  m_Shadows_save : Meth K (He.ga K "Shadows") "save" (He.ma K (He.ga K "Shadows") "save")
  m_Shadows_size : Meth K (He.ga K "Shadows") "size" (He.ma K (He.ga K "Shadows") "size")
  m_Shadows_has : Meth K (He.ga K "Shadows") "has" (He.ma K (He.ga K "Shadows") "has")
  m_Shadows_look_for : Meth K (He.ga K "Shadows") "look_for" (He.ma K (He.ga K "Shadows") "look_for")
  m_Shadows_read : Meth K (He.ga K "Shadows") "read" (He.ma K (He.ga K "Shadows") "read")
  m_Shadows_write : Meth K (He.ga K "Shadows") "write" (He.ma K (He.ga K "Shadows") "write")
  m_Shadows_fetch : Meth K (He.ga K "Shadows") "fetch" (He.ma K (He.ga K "Shadows") "fetch")
  m_Shadows_put_alone : Meth K (He.ga K "Shadows") "put_alone" (He.ma K (He.ga K "Shadows") "put_alone")
  m_Shadows_granted : Meth K (He.ga K "Shadows") "granted" (He.ma K (He.ga K "Shadows") "granted")
  m_Shadows_bring : Meth K (He.ga K "Shadows") "bring" (He.ma K (He.ga K "Shadows") "bring")
  m_Shadows_yield_up : Meth K (He.ga K "Shadows") "yield_up" (He.ma K (He.ga K "Shadows") "yield_up")
  m_Shadows_said : Meth K (He.ga K "Shadows") "said" (He.ma K (He.ga K "Shadows") "said")
  m_Shadows_resume : Meth K (He.ga K "Shadows") "resume" (He.ma K (He.ga K "Shadows") "resume")
  m_Shadows_on_shelf : Meth K (He.ga K "Shadows") "on_shelf" (He.ma K (He.ga K "Shadows") "on_shelf")
  m_Shadows_reach : Meth K (He.ga K "Shadows") "reach" (He.ma K (He.ga K "Shadows") "reach")
  m_Shadows_page_at : Meth K (He.ga K "Shadows") "page_at" (He.ma K (He.ga K "Shadows") "page_at")
  m_Shadows_peek : Meth K (He.ga K "Shadows") "peek" (He.ma K (He.ga K "Shadows") "peek")
  m_Shadows_poke : Meth K (He.ga K "Shadows") "poke" (He.ma K (He.ga K "Shadows") "poke")
  m_Shadows_root : Meth K (He.ga K "Shadows") "root" (He.ma K (He.ga K "Shadows") "root")
  m_Shadows_turn_root : Meth K (He.ga K "Shadows") "turn_root" (He.ma K (He.ga K "Shadows") "turn_root")
  m_Shadows_drop : Meth K (He.ga K "Shadows") "drop" (He.ma K (He.ga K "Shadows") "drop")
  m_Shadows_give : Meth K (He.ga K "Shadows") "give" (He.ma K (He.ga K "Shadows") "give")
  m_Shadows_want : Meth K (He.ga K "Shadows") "want" (He.ma K (He.ga K "Shadows") "want")
  m_Shadows_shelf : Meth K (He.ga K "Shadows") "shelf" (He.ma K (He.ga K "Shadows") "shelf")
  m_Shadows_words_of : Meth K (He.ga K "Shadows") "words_of" (He.ma K (He.ga K "Shadows") "words_of")
  m_Shadows_pages : Meth K (He.ga K "Shadows") "pages" (He.ma K (He.ga K "Shadows") "pages")
  n_Fault_kind : NoAttr K (He.ga K "Fault") "kind"
  n_Fault_place : NoAttr K (He.ga K "Fault") "place"
  n_Fault_level : NoAttr K (He.ga K "Fault") "level"
  x_Fault : PySem.W.exmOne K (.ref (He.ga K "Fault")) (.ref (He.ga K "Fault")) = some true
  k_Fault : PySem.W.keepIn K (.ref (He.ga K "Fault")) = true
  y_Kept_init : ClsF K (He.ga K "Kept") "__init__" (.ref (He.ma K (He.ga K "Kept") "__init__"))
  y_Ways_init : ClsF K (He.ga K "Ways") "__init__" (.ref (He.ma K (He.ga K "Ways") "__init__"))
  y_Kept_deposit : ClsF K (He.ga K "Kept") "deposit" (.ref (He.ma K (He.ga K "Kept") "deposit"))
  y_Kept_load : ClsF K (He.ga K "Kept") "load" (.ref (He.ma K (He.ga K "Kept") "load"))
  y_Kept_save : ClsF K (He.ga K "Kept") "save" (.ref (He.ma K (He.ga K "Kept") "save"))
  y_HouseError : ClsF K (He.ga K "HouseError") "__init__" (.builtin "ValueError.__init__")
  oex : OexC K (He.ga K "Fault")
  oexI : PySem.W.findIn K (.ref (He.ga K "Fault")) "__init__" = some (some (.ref (He.ma K (He.ga K "Fault") "__init__")))
  oexT : PySem.W.typeIn K (.ref (He.ma K (He.ga K "Fault") "__init__")) = some (.type "function")
  xf : XfC K (He.ga K "Fault")
theorem txt_of {K : PySem.W.Frag} {h : Heap} {mg : Str → Option Value} (X : K.In h) (G : h.Ns mainGlobals mg) (c0 : obsM fa fn exB K = valM fn) : Txt K mg := by
  have c : He.SaysD fa fn K := congrArg (fun z : AlM => z.1) c0
  have e : exB K = true := congrArg (fun z : AlM => z.2) c0
  unfold exB at e
  obtain ⟨e0, e⟩ := He.ba e
  obtain ⟨e1, e⟩ := He.ba e
  obtain ⟨e2, e⟩ := He.ba e
  obtain ⟨e3, e⟩ := He.ba e
  obtain ⟨e4, e⟩ := He.ba e
  obtain ⟨e5, e⟩ := He.ba e
  obtain ⟨e6, e⟩ := He.ba e
  obtain ⟨ox, oi, ot⟩ := oex_ok e6
  exact ⟨c.def_ 0 (d := d_is_whole) rfl,
    c.def_ 1 (d := d_is_word) rfl,
    c.def_ 2 (d := d_is_below) rfl,
    c.def_ 3 (d := d_are_words) rfl,
    c.def_ 4 (d := d_is_image) rfl,
    c.def_ 5 (d := d_laid_out) rfl,
    c.def_ 6 (d := d_parts_of) rfl,
    c.def_ 7 (d := d_row_of) rfl,
    c.def_ 8 (d := d_page_of) rfl,
    c.def_ 9 (d := d_has) rfl,
    c.def_ 10 (d := d_put) rfl,
    c.def_ 11 (d := d_look_by) rfl,
    c.def_ 12 (d := d_rights_of) rfl,
    c.def_ 13 (d := d_look) rfl,
    c.def_ 14 (d := d_stamp) rfl,
    c.def_ 15 (d := d_mark) rfl,
    c.def_ 16 (d := d_lets) rfl,
    c.def_ 17 (d := d_law_cell_at) rfl,
    c.def_ 18 (d := d_law_whole) rfl,
    c.def_ 19 (d := d_law_by) rfl,
    c.def_ 20 (d := d_law_row_by) rfl,
    c.def_ 21 (d := d_law_pages) rfl,
    c.def_ 22 (d := d_law_there) rfl,
    c.def_ 23 (d := d_law_place) rfl,
    c.def_ 24 (d := d_law_deed) rfl,
    c.def_ 25 (d := d_law_call) rfl,
    c.def_ 26 (d := d_law_do) rfl,
    c.def_ 27 (d := d_law_alike) rfl,
    c.def_ 28 (d := d_law_written) rfl,
    c.def_ 29 (d := d_law_other) rfl,
    c.def_ 30 (d := d_law_like) rfl,
    c.def_ 31 (d := d_law) rfl,
    c.def_ 32 (d := d_look_at_places) rfl,
    c.def_ 33 (d := d_look_at_shadows) rfl,
    c.def_ 34 (d := d_Shelf_init) rfl,
    c.def_ 35 (d := d_Shelf_seat) rfl,
    c.def_ 36 (d := d_Shelf_seek) rfl,
    c.def_ 37 (d := d_Shelf_keep) rfl,
    c.def_ 38 (d := d_Shelf_drop) rfl,
    c.def_ 39 (d := d_Shelf_empty) rfl,
    c.def_ 40 (d := d_Shelf_told) rfl,
    c.def_ 41 (d := d_Frames_init) rfl,
    c.def_ 42 (d := d_Frames_size) rfl,
    c.def_ 43 (d := d_Frames_has) rfl,
    c.def_ 44 (d := d_Frames_look_at) rfl,
    c.def_ 45 (d := d_Frames_read) rfl,
    c.def_ 46 (d := d_Frames_write) rfl,
    c.def_ 47 (d := d_Frames_take) rfl,
    c.def_ 48 (d := d_Frames_look_up) rfl,
    c.def_ 49 (d := d_Frames_drop) rfl,
    c.def_ 50 (d := d_Frames_owners) rfl,
    c.def_ 51 (d := d_Frames_ask) rfl,
    c.def_ 52 (d := d_Frames_back) rfl,
    c.def_ 53 (d := d_Frames_promised) rfl,
    c.def_ 54 (d := d_Parts_init) rfl,
    c.def_ 55 (d := d_Parts_size) rfl,
    c.def_ 56 (d := d_Parts_frame) rfl,
    c.def_ 57 (d := d_Parts_need) rfl,
    c.def_ 58 (d := d_Parts_alone) rfl,
    c.def_ 59 (d := d_Parts_give) rfl,
    c.def_ 60 (d := d_Parts_fresh) rfl,
    c.def_ 61 (d := d_Shadows_init) rfl,
    c.def_ 62 (d := d_Shadows_low_table) rfl,
    c.def_ 63 (d := d_Shadows_lay_shadow) rfl,
    c.def_ 64 (d := d_Shadows_throw_away) rfl,
    c.def_ 65 (d := d_Shadows_need_table) rfl,
    c.def_ 66 (d := d_Shadows_make_shadow) rfl,
    c.def_ 67 (d := d_Shadows_numbers_of) rfl,
    c.def_ 68 (d := d_Shadows_left) rfl,
    c.def_ 69 (d := d_Shadows_left_all) rfl,
    c.def_ 70 (d := d_Shadows_moved) rfl,
    c.def_ 71 (d := d_Shadows_deposit) rfl,
    c.def_ 72 (d := d_Shadows_by_machine) rfl,
    c.def_ 73 (d := d_Shadows_load) rfl,
    c.def_ 74 (d := d_Shadows_save) rfl,
    c.def_ 75 (d := d_Shadows_size) rfl,
    c.def_ 76 (d := d_Shadows_has) rfl,
    c.def_ 77 (d := d_Shadows_look_for) rfl,
    c.def_ 78 (d := d_Shadows_read) rfl,
    c.def_ 79 (d := d_Shadows_write) rfl,
    c.def_ 80 (d := d_Shadows_fetch) rfl,
    c.def_ 81 (d := d_Shadows_put_alone) rfl,
    c.def_ 82 (d := d_Shadows_granted) rfl,
    c.def_ 83 (d := d_Shadows_bring) rfl,
    c.def_ 84 (d := d_Shadows_yield_up) rfl,
    c.def_ 85 (d := d_Shadows_said) rfl,
    c.def_ 86 (d := d_Shadows_resume) rfl,
    c.def_ 87 (d := d_Shadows_on_shelf) rfl,
    c.def_ 88 (d := d_Shadows_reach) rfl,
    c.def_ 89 (d := d_Shadows_page_at) rfl,
    c.def_ 90 (d := d_Shadows_peek) rfl,
    c.def_ 91 (d := d_Shadows_poke) rfl,
    c.def_ 92 (d := d_Shadows_root) rfl,
    c.def_ 93 (d := d_Shadows_turn_root) rfl,
    c.def_ 94 (d := d_Shadows_drop) rfl,
    c.def_ 95 (d := d_Shadows_give) rfl,
    c.def_ 96 (d := d_Shadows_want) rfl,
    c.def_ 97 (d := d_Shadows_shelf) rfl,
    c.def_ 98 (d := d_Shadows_words_of) rfl,
    c.def_ 99 (d := d_Shadows_pages) rfl,
    c.def_ 100 (d := d_Kept_init) rfl,
    c.def_ 101 (d := d_Ways_init) rfl,
    c.def_ 102 (d := d_Kept_deposit) rfl,
    c.def_ 103 (d := d_Kept_load) rfl,
    c.def_ 104 (d := d_Kept_save) rfl,
    c.def_ 105 (d := d_Fault_init) rfl,
    He.glo_ok X G (c.fact 0 (f := .glo "is_whole") rfl),
    He.glo_ok X G (c.fact 1 (f := .glo "is_word") rfl),
    He.glo_ok X G (c.fact 2 (f := .glo "is_below") rfl),
    He.glo_ok X G (c.fact 3 (f := .glo "are_words") rfl),
    He.glo_ok X G (c.fact 4 (f := .glo "is_image") rfl),
    He.glo_ok X G (c.fact 5 (f := .glo "laid_out") rfl),
    He.glo_ok X G (c.fact 6 (f := .glo "parts_of") rfl),
    He.glo_ok X G (c.fact 7 (f := .glo "row_of") rfl),
    He.glo_ok X G (c.fact 8 (f := .glo "page_of") rfl),
    He.glo_ok X G (c.fact 9 (f := .glo "has") rfl),
    He.glo_ok X G (c.fact 10 (f := .glo "put") rfl),
    He.glo_ok X G (c.fact 11 (f := .glo "look_by") rfl),
    He.glo_ok X G (c.fact 12 (f := .glo "rights_of") rfl),
    He.glo_ok X G (c.fact 13 (f := .glo "look") rfl),
    He.glo_ok X G (c.fact 14 (f := .glo "stamp") rfl),
    He.glo_ok X G (c.fact 15 (f := .glo "mark") rfl),
    He.glo_ok X G (c.fact 16 (f := .glo "lets") rfl),
    He.glo_ok X G (c.fact 17 (f := .glo "_law_cell_at") rfl),
    He.glo_ok X G (c.fact 18 (f := .glo "_law_whole") rfl),
    He.glo_ok X G (c.fact 19 (f := .glo "_law_by") rfl),
    He.glo_ok X G (c.fact 20 (f := .glo "_law_row_by") rfl),
    He.glo_ok X G (c.fact 21 (f := .glo "_law_pages") rfl),
    He.glo_ok X G (c.fact 22 (f := .glo "_law_there") rfl),
    He.glo_ok X G (c.fact 23 (f := .glo "_law_place") rfl),
    He.glo_ok X G (c.fact 24 (f := .glo "_law_deed") rfl),
    He.glo_ok X G (c.fact 25 (f := .glo "_law_call") rfl),
    He.glo_ok X G (c.fact 26 (f := .glo "_law_do") rfl),
    He.glo_ok X G (c.fact 27 (f := .glo "_law_alike") rfl),
    He.glo_ok X G (c.fact 28 (f := .glo "_law_written") rfl),
    He.glo_ok X G (c.fact 29 (f := .glo "_law_other") rfl),
    He.glo_ok X G (c.fact 30 (f := .glo "_law_like") rfl),
    He.glo_ok X G (c.fact 31 (f := .glo "law") rfl),
    He.glo_ok X G (c.fact 32 (f := .glo "look_at_places") rfl),
    He.glo_ok X G (c.fact 33 (f := .glo "look_at_shadows") rfl),
    He.glo_ok X G (c.fact 34 (f := .glo "Shelf") rfl),
    He.glo_ok X G (c.fact 35 (f := .glo "Frames") rfl),
    He.glo_ok X G (c.fact 36 (f := .glo "Parts") rfl),
    He.glo_ok X G (c.fact 37 (f := .glo "Shadows") rfl),
    He.glo_ok X G (c.fact 38 (f := .glo "Kept") rfl),
    He.glo_ok X G (c.fact 39 (f := .glo "Ways") rfl),
    He.glo_ok X G (c.fact 40 (f := .glo "Fault") rfl),
    He.glo_ok X G (c.fact 41 (f := .glo "HouseError") rfl),
    He.free_ok X G (c.fact 42 (f := .free "len") rfl),
    He.free_ok X G (c.fact 43 (f := .free "isinstance") rfl),
    He.free_ok X G (c.fact 44 (f := .free "int") rfl),
    He.free_ok X G (c.fact 45 (f := .free "bool") rfl),
    He.free_ok X G (c.fact 46 (f := .free "list") rfl),
    He.free_ok X G (c.fact 47 (f := .free "tuple") rfl),
    He.free_ok X G (c.fact 48 (f := .free "all") rfl),
    He.free_ok X G (c.fact 49 (f := .free "enumerate") rfl),
    He.free_ok X G (c.fact 50 (f := .free "range") rfl),
    He.free_ok X G (c.fact 51 (f := .free "divmod") rfl),
    He.int_ok X G (c.fact 52 (f := .int "CELLS" 8) rfl),
    He.int_ok X G (c.fact 53 (f := .int "MOST_PAGES" 24) rfl),
    He.int_ok X G (c.fact 54 (f := .int "MOST" 12) rfl),
    He.int_ok X G (c.fact 55 (f := .int "PRESENT" 1) rfl),
    He.int_ok X G (c.fact 56 (f := .int "WRITABLE" 2) rfl),
    He.int_ok X G (c.fact 57 (f := .int "KERNEL" 4) rfl),
    He.int_ok X G (c.fact 58 (f := .int "TOUCHED" 8) rfl),
    He.int_ok X G (c.fact 59 (f := .int "SOILED" 16) rfl),
    He.int_ok X G (c.fact 60 (f := .int "LAST" 511) rfl),
    He.int_ok X G (c.fact 61 (f := .int "PLACES" 512) rfl),
    He.int_ok X G (c.fact 62 (f := .int "MOST_FRAMES" 200) rfl),
    He.cls_ok (c.fact 63 (f := .cls "Shelf") rfl),
    He.mkr_ok (c.fact 64 (f := .mkr "Shelf") rfl),
    He.noat_ok (c.fact 65 (f := .noat "Shelf" "most") rfl),
    He.noat_ok (c.fact 66 (f := .noat "Shelf" "line") rfl),
    He.meth_ok (c.fact 67 (f := .meth "Shelf" "__init__") rfl),
    He.meth_ok (c.fact 68 (f := .meth "Shelf" "seat") rfl),
    He.meth_ok (c.fact 69 (f := .meth "Shelf" "seek") rfl),
    He.meth_ok (c.fact 70 (f := .meth "Shelf" "keep") rfl),
    He.meth_ok (c.fact 71 (f := .meth "Shelf" "drop") rfl),
    He.meth_ok (c.fact 72 (f := .meth "Shelf" "empty") rfl),
    He.meth_ok (c.fact 73 (f := .meth "Shelf" "told") rfl),
    He.cls_ok (c.fact 74 (f := .cls "Frames") rfl),
    He.mkr_ok (c.fact 75 (f := .mkr "Frames") rfl),
    He.noat_ok (c.fact 76 (f := .noat "Frames" "held") rfl),
    He.noat_ok (c.fact 77 (f := .noat "Frames" "owned") rfl),
    He.noat_ok (c.fact 78 (f := .noat "Frames" "pledged") rfl),
    He.meth_ok (c.fact 79 (f := .meth "Frames" "__init__") rfl),
    He.meth_ok (c.fact 80 (f := .meth "Frames" "size") rfl),
    He.meth_ok (c.fact 81 (f := .meth "Frames" "has") rfl),
    He.meth_ok (c.fact 82 (f := .meth "Frames" "look_at") rfl),
    He.meth_ok (c.fact 83 (f := .meth "Frames" "read") rfl),
    He.meth_ok (c.fact 84 (f := .meth "Frames" "write") rfl),
    He.meth_ok (c.fact 85 (f := .meth "Frames" "take") rfl),
    He.meth_ok (c.fact 86 (f := .meth "Frames" "look_up") rfl),
    He.meth_ok (c.fact 87 (f := .meth "Frames" "drop") rfl),
    He.meth_ok (c.fact 88 (f := .meth "Frames" "owners") rfl),
    He.meth_ok (c.fact 89 (f := .meth "Frames" "ask") rfl),
    He.meth_ok (c.fact 90 (f := .meth "Frames" "back") rfl),
    He.meth_ok (c.fact 91 (f := .meth "Frames" "promised") rfl),
    He.cls_ok (c.fact 92 (f := .cls "Parts") rfl),
    He.mkr_ok (c.fact 93 (f := .mkr "Parts") rfl),
    He.noat_ok (c.fact 94 (f := .noat "Parts" "ground") rfl),
    He.noat_ok (c.fact 95 (f := .noat "Parts" "leads") rfl),
    He.meth_ok (c.fact 96 (f := .meth "Parts" "__init__") rfl),
    He.meth_ok (c.fact 97 (f := .meth "Parts" "size") rfl),
    He.meth_ok (c.fact 98 (f := .meth "Parts" "frame") rfl),
    He.meth_ok (c.fact 99 (f := .meth "Parts" "need") rfl),
    He.meth_ok (c.fact 100 (f := .meth "Parts" "alone") rfl),
    He.meth_ok (c.fact 101 (f := .meth "Parts" "give") rfl),
    He.meth_ok (c.fact 102 (f := .meth "Parts" "fresh") rfl),
    He.cls_ok (c.fact 103 (f := .cls "Shadows") rfl),
    He.mkr_ok (c.fact 104 (f := .mkr "Shadows") rfl),
    He.noat_ok (c.fact 105 (f := .noat "Shadows" "held") rfl),
    He.noat_ok (c.fact 106 (f := .noat "Shadows" "base") rfl),
    He.noat_ok (c.fact 107 (f := .noat "Shadows" "ground") rfl),
    He.noat_ok (c.fact 108 (f := .noat "Shadows" "mine") rfl),
    He.noat_ok (c.fact 109 (f := .noat "Shadows" "part") rfl),
    He.noat_ok (c.fact 110 (f := .noat "Shadows" "changed") rfl),
    He.noat_ok (c.fact 111 (f := .noat "Shadows" "answers") rfl),
    He.noat_ok (c.fact 112 (f := .noat "Shadows" "opened") rfl),
    He.noat_ok (c.fact 113 (f := .noat "Shadows" "spare") rfl),
    He.meth_ok (c.fact 114 (f := .meth "Shadows" "__init__") rfl),
    He.meth_ok (c.fact 115 (f := .meth "Shadows" "low_table") rfl),
    He.meth_ok (c.fact 116 (f := .meth "Shadows" "lay_shadow") rfl),
    He.meth_ok (c.fact 117 (f := .meth "Shadows" "throw_away") rfl),
    He.meth_ok (c.fact 118 (f := .meth "Shadows" "need_table") rfl),
    He.meth_ok (c.fact 119 (f := .meth "Shadows" "make_shadow") rfl),
    He.meth_ok (c.fact 120 (f := .meth "Shadows" "numbers_of") rfl),
    He.meth_ok (c.fact 121 (f := .meth "Shadows" "left") rfl),
    He.meth_ok (c.fact 122 (f := .meth "Shadows" "left_all") rfl),
    He.meth_ok (c.fact 123 (f := .meth "Shadows" "moved") rfl),
    He.meth_ok (c.fact 124 (f := .meth "Shadows" "deposit") rfl),
    He.meth_ok (c.fact 125 (f := .meth "Shadows" "by_machine") rfl),
    He.meth_ok (c.fact 126 (f := .meth "Shadows" "load") rfl),
    He.meth_ok (c.fact 127 (f := .meth "Shadows" "save") rfl),
    He.meth_ok (c.fact 128 (f := .meth "Shadows" "size") rfl),
    He.meth_ok (c.fact 129 (f := .meth "Shadows" "has") rfl),
    He.meth_ok (c.fact 130 (f := .meth "Shadows" "look_for") rfl),
    He.meth_ok (c.fact 131 (f := .meth "Shadows" "read") rfl),
    He.meth_ok (c.fact 132 (f := .meth "Shadows" "write") rfl),
    He.meth_ok (c.fact 133 (f := .meth "Shadows" "fetch") rfl),
    He.meth_ok (c.fact 134 (f := .meth "Shadows" "put_alone") rfl),
    He.meth_ok (c.fact 135 (f := .meth "Shadows" "granted") rfl),
    He.meth_ok (c.fact 136 (f := .meth "Shadows" "bring") rfl),
    He.meth_ok (c.fact 137 (f := .meth "Shadows" "yield_up") rfl),
    He.meth_ok (c.fact 138 (f := .meth "Shadows" "said") rfl),
    He.meth_ok (c.fact 139 (f := .meth "Shadows" "resume") rfl),
    He.meth_ok (c.fact 140 (f := .meth "Shadows" "on_shelf") rfl),
    He.meth_ok (c.fact 141 (f := .meth "Shadows" "reach") rfl),
    He.meth_ok (c.fact 142 (f := .meth "Shadows" "page_at") rfl),
    He.meth_ok (c.fact 143 (f := .meth "Shadows" "peek") rfl),
    He.meth_ok (c.fact 144 (f := .meth "Shadows" "poke") rfl),
    He.meth_ok (c.fact 145 (f := .meth "Shadows" "root") rfl),
    He.meth_ok (c.fact 146 (f := .meth "Shadows" "turn_root") rfl),
    He.meth_ok (c.fact 147 (f := .meth "Shadows" "drop") rfl),
    He.meth_ok (c.fact 148 (f := .meth "Shadows" "give") rfl),
    He.meth_ok (c.fact 149 (f := .meth "Shadows" "want") rfl),
    He.meth_ok (c.fact 150 (f := .meth "Shadows" "shelf") rfl),
    He.meth_ok (c.fact 151 (f := .meth "Shadows" "words_of") rfl),
    He.meth_ok (c.fact 152 (f := .meth "Shadows" "pages") rfl),
    He.noat_ok (c.fact 153 (f := .noat "Fault" "kind") rfl),
    He.noat_ok (c.fact 154 (f := .noat "Fault" "place") rfl),
    He.noat_ok (c.fact 155 (f := .noat "Fault" "level") rfl),
    He.exm_ok (c.fact 156 (f := .exm "Fault" "Fault" true) rfl),
    He.keep_ok (c.fact 157 (f := .keep "Fault") rfl),
    clsB_ok e0,
    clsB_ok e1,
    clsB_ok e2,
    clsB_ok e3,
    clsB_ok e4,
    heB_ok e5,
    ox,
    oi,
    ot,
    xfB_ok e⟩
end Sp
set_option Elab.async false
set_option linter.all false
set_option maxRecDepth 100000
set_option maxHeartbeats 4000000
namespace Sp
open PySem PySem.Spec PyProof.Rows L2

/-! ### a def's promise, the def told by name -/
structure DOk (P : Program) (w : World) (K : PySem.W.Frag) (mg : Str → Option Value) (base : Heap) (CX : CXT) (k : Nat) (p : Str × Option Str) (ps : List Str) (sp : Sp) : Prop where
  ex : ∃ fd, FnOk P w K mg base CX k (He.fAd K p) fd ps sp ∧ Binds K fd ps []
  kp : PySem.W.keepIn K (.ref (He.fAd K p)) = true
section
variable {P : Program} {w : World} {K : PySem.W.Frag} {mg : Str → Option Value} {base : Heap} {CX : CXT} {k : Nat} {p : Str × Option Str} {ps N : List Str} {sp : Sp} {n ql : Str} {pa : Arguments} {bd : List Stmt} {sc : Scope}
theorem DOk.mono {j : Nat} (G : DOk P w K mg base CX j p ps sp) (h : j ≤ k) : DOk P w K mg base CX k p ps sp := by
  obtain ⟨⟨fd, F, b⟩, kp⟩ := G
  exact ⟨⟨fd, F.mono h, b⟩, kp⟩
theorem DOk.imp {sp' : Sp} (G : DOk P w K mg base CX k p ps sp) (h : ∀ vs H Q E, sp' vs H Q E → sp vs H Q E) : DOk P w K mg base CX k p ps sp' := by
  obtain ⟨⟨fd, F, b⟩, kp⟩ := G
  exact ⟨⟨fd, F.imp h, b⟩, kp⟩
/-- THE RULE for a def of the text -/
theorem dok (F : ∃ fd, FunD K n ql pa bd sc [] [] (He.fAd K p) fd) (S : FnScope N ps sc)
    (hbi : ∀ (kV doc pm : Value) (an : Option Addr) (cdv ct : Value) (us : List Value), us.length = ps.length → bindArgs (PySem.W.fnOf n ql pa bd sc .none kV doc pm an cdv ct) ⟨us, []⟩ = pure (ps.zip us))
    (len : ∀ vs H Q E, sp vs H Q E → vs.length = ps.length)
    (hbody : ∀ (cdv : Value) (A : Around) (outer : List Env) (s : Shared) (H : Hp) (vs : List V) (Q : VK) (E : XK), Room k (A.deeper (envOfC ql sc s.heap.objs.size (He.fAd K p) cdv)) → sp vs H Q E →
      ∃ t, PSs (cxOf CX P w K mg base N ql sc (He.fAd K p) cdv A outer s H E) bd t ∧ t { nx := fun _ H' => Q .non H', rt := Q } (start N vs) H) : DOk P w K mg base CX (k + 1) p ps sp := by
  obtain ⟨fd, F⟩ := F
  exact ⟨⟨fd, FunD.ok F S len hbody, FunD.bindsN F hbi⟩, F.kp⟩
end

/-! ### rules -/
def tG (sp : Sp) (E : XK) (t : TA) : TE := fun σ H Q => t σ H fun vs H1 => sp vs H1 Q E
def tGS (sp : Sp) (E : L2.St → XK) (t : TA) : TE := fun σ H Q => t σ H fun vs H1 => sp vs H1 Q (E σ)
/-- x is an instance of the class c; its attributes don't hide m -/
def IsO (K : PySem.W.Frag) (c m : Str) (H : Hp) (x : V) : Prop := ∃ a dx fs, x = .ref a ∧ H a = some (.ins (He.ga K c) dx fs) ∧ fs.lookup m = none
def Fld (K : PySem.W.Frag) (c f : Str) (H : Hp) (x v : V) : Prop := ∃ a dx fs, x = .ref a ∧ H a = some (.ins (He.ga K c) dx fs) ∧ fs.lookup f = some v
def tM (K : PySem.W.Frag) (c m : Str) (sp : Sp) (E : XK) (ta : TE) (t : TA) : TE := fun σ H Q => ta σ H fun x H1 => IsO K c m H1 x ∧ t σ H1 fun vs H2 => sp (x :: vs) H2 Q E
def tF (K : PySem.W.Frag) (c f : Str) (ta : TE) : TE := fun σ H Q => ta σ H fun x H1 => ∃ v, Fld K c f H1 x v ∧ Q v H1
/-- x.f = y leads from H to H' -/
def Stf (K : PySem.W.Frag) (c f : Str) (H : Hp) (x y : V) (H' : Hp) : Prop := ∃ a dx fs, x = .ref a ∧ H a = some (.ins (He.ga K c) dx fs) ∧ fs.length < 1000 ∧ H' = upd H a (.ins (He.ga K c) dx (putF f y fs))
def tS (K : PySem.W.Frag) (c f : Str) (ta tv : TE) : TS := fun D σ H => tv σ H fun y H1 => ta σ H1 fun x H2 => ∃ H3, Stf K c f H2 x y H3 ∧ D.nx σ H3
def tSA (K : PySem.W.Frag) (c f : Str) (ta tv : TE) (rd : V → V → Hp → VK → Prop) : TS := fun D σ H => ta σ H fun x H1 => ∃ v, Fld K c f H1 x v ∧ tv σ H1 fun y H2 => rd v y H2 fun z H3 => ∃ H4, Stf K c f H3 x z H4 ∧ D.nx σ H4
def tMk (K : PySem.W.Frag) (c : Str) (sp : Sp) (E : XK) (t : TA) : TE := fun σ H Q => t σ H fun vs H1 => ∀ x dx, H1 x = none → H1 dx = none → dx ≠ x →
  sp (.ref x :: vs) (upd (upd H1 dx (.own x)) x (.ins (He.ga K c) dx [])) (fun v H2 => v = .non ∧ Q (.ref x) H2) E
abbrev tIsi (K : PySem.W.Frag) (ty : String) (te : TE) : TE := tCB (rIsi K) (tCons te (tCons (tC (.ty ty)) tNil))
section
variable {X : Cx} {CX : CXT} {k : Nat} {ps : List Str} {sp : Sp} {E : XK} {x c m f : Str} {p p2 pos pos' apos tpos : Pos} {e o value : Expr} {es : List Expr} {ta te tv : TE} {t : TA}
/-- the callee runs -/
theorem run_d {q : Str × Option Str} {pins : List (Addr × Obj)} {σ : L2.St} {H : Hp} {s : Shared} {Q : VK} {us : List Value} {vs : List V} (G : DOk X.prog X.w X.K X.mg X.base CX k q ps sp) (hr : Room k X.A) (hx : PassesAt CX X σ E)
    (I : Inv X pins σ H s) (r : Vals vs us) (h : sp vs H Q E) : wpAny (model X.prog X.w) X.A (call (.ref (He.fAd X.K q)) us) (EP X pins σ Q) X.xe s := by
  obtain ⟨⟨fd, F, b⟩, kp⟩ := G
  exact run_fnS (E := fun _ => E) F hr b hx I r h
theorem pat (hx : Passes CX X E) (σ : L2.St) : PassesAt CX X σ E := fun pins H s e s' => hx pins σ H s e s'
theorem pe_gS {E : L2.St → XK} (G : DOk X.prog X.w X.K X.mg X.base CX k (x, none) ps sp) (hr : Room k X.A) (hm : X.mg x = some (.ref (He.ga X.K x))) (hx : ∀ σ, PassesAt CX X σ (E σ)) (ha : PA X (e :: es) t) (hg : Gl X x := by rfl)
    (hdb : (x == ("__debug__" : Str)) = false := by decide +kernel) (he : starEach (e :: es) X.env = (false, eval e X.env) :: starEach es X.env := by rfl) (hpl : (backTo pos (starEach es X.env)).any (·.1) = false := by rfl) :
    PE X (.Call (.Name x p) (e :: es) [] pos) (tGS sp E t) := by
  refine ⟨fun pins s σ H Q I h => ?_⟩
  refine wpAny_Call_Name_kw (ld_glob I hg hm ?_ hdb)
  refine PySem.W.callWith_K (h₀ := X.base) I.ok.mod.kin G.kp (thn (ha.run pos pins s σ H _ I h) fun us s1 ⟨vs, H1, I1, r, q⟩ => ⟨I1.kIn, ?_⟩) he hpl
  exact run_d G hr (hx σ) I1 r q
theorem pe_g (G : DOk X.prog X.w X.K X.mg X.base CX k (x, none) ps sp) (hr : Room k X.A) (hm : X.mg x = some (.ref (He.ga X.K x))) (hx : Passes CX X E) (ha : PA X (e :: es) t) (hg : Gl X x := by rfl)
    (hdb : (x == ("__debug__" : Str)) = false := by decide +kernel) (he : starEach (e :: es) X.env = (false, eval e X.env) :: starEach es X.env := by rfl) (hpl : (backTo pos (starEach es X.env)).any (·.1) = false := by rfl) :
    PE X (.Call (.Name x p) (e :: es) [] pos) (tG sp E t) := pe_gS (E := fun _ => E) G hr hm (fun σ => pat hx σ) ha hg hdb he hpl
theorem pe_m {pl : Sem Bool} (he : PE X o ta) (hc : Cls X.K (He.ga X.K c)) (hm : Meth X.K (He.ga X.K c) m (He.ma X.K (He.ga X.K c) m)) (G : DOk X.prog X.w X.K X.mg X.base CX k (c, some m) ps sp) (hr : Room k X.A) (hx : Passes CX X E) (ha : PA X (e :: es) t)
    (hst : starEach (e :: es) X.env = (false, eval e X.env) :: starEach es X.env := by rfl) (hpl : (backTo pos (starEach es X.env)).any (·.1) = false := by rfl)
    (ht : eval (.Call (.Attribute o m apos) (e :: es) [] pos) X.env = (do
      let ov ← eval o X.env
      standAt apos.atName
      let (f, first) ← holding [ov] (getMethod ov m pl)
      callWith pos f first (backTo pos (starEach (e :: es) X.env)) (backToKw pos (keywordEach [] X.env))) := by rfl) :
    PE X (.Call (.Attribute o m apos) (e :: es) [] pos) (tM X.K c m sp E ta t) := by
  refine ⟨fun pins s σ H Q I h => ?_⟩
  refine PySem.W.methodCall_KW (pl := pl) (thn (he.run pins s σ H _ I h) fun u s1 ⟨x, H1, I1, rx, ⟨a, dx, fs, ex, ea, l⟩, q⟩ => ?_) ht
  subst ex
  obtain rfl : u = Value.ref a := rx
  refine getmeth_ok I1 ea hc hm l ?_
  refine PySem.W.callWith_K (first := [.ref a]) (h₀ := X.base) I.ok.mod.kin hm.kp (thn (ha.run pos pins s1 σ H1 _ I1 q) fun us s2 ⟨vs, H2, I2, r, q2⟩ => ⟨I2.kIn, ?_⟩) hst hpl
  exact run_d (q := (c, some m)) (us := .ref a :: us) (vs := .ref a :: vs) G hr (pat hx σ) I2 (.cons rfl r) q2
theorem pe_m0 {pl : Sem Bool} (he : PE X o ta) (hc : Cls X.K (He.ga X.K c)) (hm : Meth X.K (He.ga X.K c) m (He.ma X.K (He.ga X.K c) m)) (G : DOk X.prog X.w X.K X.mg X.base CX k (c, some m) ps sp) (hr : Room k X.A) (hx : Passes CX X E)
    (ht : eval (.Call (.Attribute o m apos) [] [] pos) X.env = (do
      let ov ← eval o X.env
      standAt apos.atName
      let (f, first) ← holding [ov] (getMethod ov m pl)
      callWith pos f first (backTo pos (starEach [] X.env)) (backToKw pos (keywordEach [] X.env))) := by rfl) :
    PE X (.Call (.Attribute o m apos) [] [] pos) (tM X.K c m sp E ta tNil) := by
  refine ⟨fun pins s σ H Q I h => ?_⟩
  refine PySem.W.methodCall_KW (pl := pl) (thn (he.run pins s σ H _ I h) fun u s1 ⟨x, H1, I1, rx, ⟨a, dx, fs, ex, ea, l⟩, q⟩ => ?_) ht
  subst ex
  obtain rfl : u = Value.ref a := rx
  refine getmeth_ok I1 ea hc hm l ?_
  exact PySem.W.callWith_K0 (first := [.ref a]) I1.kIn hm.kp (run_d (q := (c, some m)) (us := [.ref a]) (vs := [.ref a]) G hr (pat hx σ) I1 (.cons rfl .nil) q)
/-- C.m(e, ..): the def that the class holds -/
theorem pe_k {pl : Sem Bool} (y : ClsF X.K (He.ga X.K c) m (.ref (He.ma X.K (He.ga X.K c) m))) (hmc : X.mg c = some (.ref (He.ga X.K c))) (G : DOk X.prog X.w X.K X.mg X.base CX k (c, some m) ps sp) (hr : Room k X.A) (hx : Passes CX X E) (ha : PA X (e :: es) t)
    (hg : Gl X c := by rfl) (hdb : (c == ("__debug__" : Str)) = false := by decide +kernel)
    (hst : starEach (e :: es) X.env = (false, eval e X.env) :: starEach es X.env := by rfl) (hpl : (backTo pos (starEach es X.env)).any (·.1) = false := by rfl)
    (ht : eval (.Call (.Attribute (.Name c p) m apos) (e :: es) [] pos) X.env = (do
      let ov ← eval (.Name c p) X.env
      standAt apos.atName
      let (f, first) ← holding [ov] (getMethod ov m pl)
      callWith pos f first (backTo pos (starEach (e :: es) X.env)) (backToKw pos (keywordEach [] X.env))) := by rfl) :
    PE X (.Call (.Attribute (.Name c p) m apos) (e :: es) [] pos) (tG sp E t) := by
  refine ⟨fun pins s σ H Q I h => ?_⟩
  refine PySem.W.methodCall_KW (pl := pl) (ld_glob I hg hmc ?_ hdb) ht
  refine PySem.W.method_cls I.kIn y.ga (PySem.W.cls_value I.kIn y.rd y.at_ rfl ?_)
  refine PySem.W.callWith_K (first := []) (h₀ := X.base) I.ok.mod.kin G.kp (thn (ha.run pos pins _ σ H _ (I.tok _) h) fun us s2 ⟨vs, H2, I2, r, q2⟩ => ⟨I2.kIn, ?_⟩) hst hpl
  exact run_d (q := (c, some m)) (us := us) (vs := vs) G hr (pat hx σ) I2 r q2
theorem pe_f (he : PE X o ta) (hc : Cls X.K (He.ga X.K c)) (hn : NoAttr X.K (He.ga X.K c) f) (hb : attributeBase o f X.env (eval o X.env) = eval o X.env := by rfl) : PE X (.Attribute o f pos) (tF X.K c f ta) := by
  refine ⟨fun pins s σ H Q I h => ?_⟩
  refine attr_of hb (thn (he.run pins s σ H _ I h) fun u s1 ⟨x, H1, I1, rx, v, ⟨a, dx, fs, ex, ea, l⟩, q⟩ => ?_)
  subst ex
  obtain rfl : u = Value.ref a := rx
  exact getattr_ok I1 ea hc hn l fun u' s2 I2 ru => ⟨v, H1, I2, ru, q⟩
theorem ps_f (ha : PE X o ta) (hv : PE X value tv) (hc : Cls X.K (He.ga X.K c)) (hn : NoAttr X.K (He.ga X.K c) f) (hs : swapsWith value (some (.Attribute o f pos')) pos.line X.env = pure false := by rfl) :
    PS X (.Assign [.Attribute o f pos'] value pos) (tS X.K c f ta tv) := by
  refine ⟨fun pins s σ H D I h => ?_⟩
  refine plainObj_wpAny_Assign_Attribute (thn (hv.run pins s σ H _ I h) fun u s1 ⟨y, H1, I1, ry, q⟩ => thn (ha.run pins s1 σ H1 _ I1 q) fun ov s2 ⟨x, H2, I2, rx, H3, ⟨a, dx, fs, ex, ea, l, e3⟩, q2⟩ => ?_) hs
  subst ex e3
  obtain rfl : ov = Value.ref a := rx
  exact setattr_ok I2 ea hc hn l ry fun s3 I3 => ⟨σ, _, I3, q2⟩
theorem ps_fa {op : Operator} {rd : V → V → Hp → VK → Prop} (ha : PE X o ta) (hv : PE X value tv) (hop : InOp X op rd) (hc : Cls X.K (He.ga X.K c)) (hn : NoAttr X.K (He.ga X.K c) f) :
    PS X (.AugAssign (.Attribute o f tpos) op value pos) (tSA X.K c f ta tv rd) := by
  refine ⟨fun pins s σ H D I h => ?_⟩
  refine wpAny_AugAssign_AttributeAny (thn (ha.run pins s σ H _ I h) fun ov s1 ⟨x, H1, I1, rx, v, ⟨a, dx, fs, ex, ea, l⟩, q⟩ => ?_)
  subst ex
  obtain rfl : ov = Value.ref a := rx
  refine getattr_ok I1 ea hc hn l fun u s2 I2 ru => thn (hv.run pins s2 σ H1 _ I2 q) fun w3 s3 ⟨y, H2, I3, ry, q3⟩ => thn (hop pins s3 σ H2 v y u w3 _ I3 ru ry q3) fun w4 s4 ⟨z, H3, I4, rz, H4, ⟨a', dx', fs', ea0, ea', l', e4⟩, q4⟩ => ?_
  subst e4
  obtain rfl : a = a' := by injection ea0
  exact setattr_ok I4 ea' hc hn l' rz fun s5 I5 => ⟨σ, _, I5, q4⟩
theorem pe_mk (M : Mk X.K (He.ga X.K c) (He.ma X.K (He.ga X.K c) "__init__")) (G : DOk X.prog X.w X.K X.mg X.base CX k (c, some "__init__") ps sp) (hr : Room (k + 1) X.A) (hm : X.mg c = some (.ref (He.ga X.K c))) (hx : Passes CX X E) (ha : PA X (e :: es) t)
    (hg : Gl X c := by rfl) (hdb : (c == ("__debug__" : Str)) = false := by decide +kernel) (he : starEach (e :: es) X.env = (false, eval e X.env) :: starEach es X.env := by rfl) (hpl : (backTo pos (starEach es X.env)).any (·.1) = false := by rfl) :
    PE X (.Call (.Name c p) (e :: es) [] pos) (tMk X.K c sp E t) := by
  obtain ⟨⟨fd, F, b⟩, kp⟩ := G
  refine ⟨fun pins s σ H Q I h => ?_⟩
  refine wpAny_Call_Name_kw (ld_glob I hg hm ?_ hdb)
  refine PySem.W.callWith_K (h₀ := X.base) I.ok.mod.kin M.kp (thn (ha.run pos pins s σ H _ I h) fun us s1 ⟨vs, H1, I1, r, q⟩ => ⟨I1.kIn, ?_⟩) he hpl
  refine run_make (dvs := []) M F hr b .nil hx I1 r ?_
  simp only [List.append_nil]
  exact q
theorem pe_ic {i : Int} (h : ∃ t, X.mg x = some (.int i t)) (hg : Gl X x := by rfl) (hdb : (x == ("__debug__" : Str)) = false := by decide +kernel) : PE X (.Name x pos) (tC (.int i)) := by
  obtain ⟨t, h⟩ := h
  exact pe_glob hg h ⟨t, rfl⟩ hdb
/-- isinstance(e, T), T a built-in class -/
theorem pe_isi {ty : String} (m1 : X.mg "isinstance" = none) {y : Str} (m2 : X.mg y = none) (he : PE X e te) (hv : bootBuiltins y = some (.type ty) := by decide +kernel) (hg : Gl X "isinstance" := by rfl) (hg2 : Gl X y := by rfl) (hn : y ≠ "__name__" := by decide +kernel) (hd2 : (y == ("__debug__" : Str)) = false := by decide +kernel)
    (hst : starEach (e :: [.Name y p2]) X.env = (false, eval e X.env) :: starEach [.Name y p2] X.env := by rfl) (hst2 : starEach [.Name y p2] X.env = (false, eval (.Name y p2) X.env) :: starEach [] X.env := by rfl) (hpl : (backTo pos (starEach [.Name y p2] X.env)).any (·.1) = false := by rfl) :
    PE X (.Call (.Name "isinstance" p) [e, .Name y p2] [] pos) (tIsi X.K ty te) := by
  have hb : PE X (.Name y p2) (tC (.ty ty)) := pe_bltn hg2 m2 hv rfl hn hd2
  have hc : PA X [.Name y p2] (tCons (tC (.ty ty)) tNil) := pa_cons hb pa_nil hst2
  have hd : PA X (e :: [.Name y p2]) (tCons te (tCons (tC (.ty ty)) tNil)) := pa_cons he hc hst
  exact pe_callB call_isi hg m1 (by decide +kernel) hd (by decide +kernel) (by decide +kernel) hst hpl
end
theorem isi_mk {K : PySem.W.Frag} {H : Hp} {Q : VK} {x : V} {a ty : String} {b : Bool} (h : TyX K H x (.type a)) (hk : kitB a ty = some b) (q : Q (.bl b) H) : rIsi K [x, .ty ty] H Q :=
  ⟨x, .ty ty, .type a, .type ty, b, rfl, .ty ty, h, kit_ty hk, q⟩
/-! ### xs[i] op= e -/
section
variable {X : Cx}
/-- the item at a place from 0 on -/
def rGetN (K : PySem.W.Frag) : V → V → Hp → VK → Prop := fun x y H Q => ∃ (p : Addr) (xs : List V) (j : Nat) (v : V), x = .ref p ∧ y = .int (j : Int) ∧ SqL K H p xs ∧ xs[j]? = some v ∧ Q v H
theorem get_listP : PGet X (rGetN X.K) := by
  intro pins s σ H o i ov iv Q I ro ri h
  obtain ⟨p, xs, j, z, rfl, rfl, hq, he, q⟩ := h
  cases ro
  obtain ⟨t, rfl⟩ := ri
  obtain ⟨its, r, pl, hz⟩ := I.list hq
  obtain ⟨w, ew, rw'⟩ := r.get he
  have hl := r.length
  have hn := line63
  have hj : j < xs.length := (List.getElem?_eq_some_iff.mp he).1
  exact wpAny_getItem_list (x := w) pl.isList (by omega) (by omega) (by rw [Int.toNat_natCast]; simpa using ew) ⟨z, H, I, rw', q⟩
end
/-! ### HouseError.__init__(self, ..) -/
section
variable {X : Cx} {e : Expr} {es : List Expr} {ta : TA} {p1 p2 pos : Pos}
theorem pe_hei {pl : Sem Bool} (y : ClsF X.K (He.ga X.K "HouseError") "__init__" (.builtin "ValueError.__init__")) (hm : X.mg "HouseError" = some (.ref (He.ga X.K "HouseError"))) (ha : PA X (e :: es) ta) (hg : Gl X "HouseError" := by rfl)
    (hc : eval (.Call (.Attribute (.Name "HouseError" p1) "__init__" p2) (e :: es) [] pos) X.env = (do
      let ov ← eval (.Name "HouseError" p1) X.env
      standAt p2.atName
      let (f, first) ← holding [ov] (getMethod ov "__init__" pl)
      callWith pos f first (backTo pos (starEach (e :: es) X.env)) (backToKw pos (keywordEach [] X.env))) := by rfl)
    (he : starEach (e :: es) X.env = (false, eval e X.env) :: starEach es X.env := by rfl) (hpl : (backTo pos (starEach es X.env)).any (·.1) = false := by rfl) :
    PE X (.Call (.Attribute (.Name "HouseError" p1) "__init__" p2) (e :: es) [] pos) (tVeI X.K ta) := by
  refine ⟨fun pins s σ H Q I h => ?_⟩
  refine PySem.W.methodCall_KW (pl := pl) (ld_glob I hg hm ?_ (by decide +kernel)) hc
  refine PySem.W.method_cls I.kIn y.ga (PySem.W.cls_value I.kIn y.rd y.at_ rfl ?_)
  show wpAny _ _ (callWith pos (Value.builtin "ValueError.__init__") [] (backTo pos (starEach (e :: es) X.env)) []) _ _ _
  refine PyProof.Rows.callWith_method1 (thn (ha.run pos pins _ σ H _ (I.tok _) h) fun us s1 ⟨vs, H1, I1, r1, a, C, ws, ev, hl, T, ea, q⟩ => ?_) he hpl
  subst ev
  cases r1 with
  | @cons _ u0 _ ur ra rw' =>
    obtain rfl : u0 = Value.ref a := ra
    have hlen : ur.length ≤ sizeLine := by
      rw [← Paired.length rw', sizeLine_eq]
      omega
    exact oinit_ok T I1 ea hlen fun s' J => ⟨.non, H1, J, rfl, q⟩
end
end Sp

set_option Elab.async false
set_option linter.all false
set_option maxRecDepth 100000
set_option maxHeartbeats 4000000
namespace Sp
open PySem PySem.Spec PyProof.Rows L2

/-! ### steps of the heap: a ghost g tags the objects of a way (0: none of its); T: the tags that may change -/
structure Stp (T : List Nat) (g : Addr → Nat) (H : Hp) (g' : Addr → Nat) (H' : Hp) : Prop where
  keep : ∀ b o, H b = some o → g b ∉ T → H' b = some o
  stay : ∀ b o, H b = some o → (∃ o', H' b = some o') ∧ g' b = g b
  wf : (∀ b, g b ≠ 0 → ∃ o, H b = some o) → ∀ b, g' b ≠ 0 → ∃ o, H' b = some o
/-- every tagged object is there -/
def Wf (g : Addr → Nat) (H : Hp) : Prop := ∀ b, g b ≠ 0 → ∃ o, H b = some o
def tg (g : Addr → Nat) (p : Addr) (n : Nat) : Addr → Nat := fun b => if b = p then n else g b
theorem tg_same {g : Addr → Nat} {p : Addr} {n : Nat} : tg g p n p = n := if_pos rfl
theorem tg_ne {g : Addr → Nat} {p b : Addr} {n : Nat} (h : b ≠ p) : tg g p n b = g b := if_neg h
section
variable {T T1 T2 : List Nat} {g g1 g2 : Addr → Nat} {H H1 H2 : Hp} {a p : Addr} {o o' : HO}
theorem Stp.refl : Stp T g H g H := ⟨fun _ _ h _ => h, fun b o h => ⟨⟨o, h⟩, rfl⟩, fun w => w⟩
theorem Stp.mono (s : Stp T1 g H g1 H1) (h : ∀ n ∈ T1, n ∈ T) : Stp T g H g1 H1 := ⟨fun b o e hn => s.keep b o e fun m => hn (h _ m), s.stay, s.wf⟩
theorem Stp.trans (s : Stp T g H g1 H1) (t : Stp T g1 H1 g2 H2) : Stp T g H g2 H2 :=
  ⟨fun b o e hn => t.keep b o (s.keep b o e hn) (by rw [(s.stay b o e).2]; exact hn),
   fun b o e => by
     obtain ⟨⟨u, eu⟩, e1⟩ := s.stay b o e
     obtain ⟨x, e2⟩ := t.stay b u eu
     exact ⟨x, e2.trans e1⟩,
   fun w => t.wf (s.wf w)⟩
theorem Stp.same (h : Same H H1) : Stp T g H g H1 := ⟨fun b o e _ => h b o e, fun b o e => ⟨⟨o, h b o e⟩, rfl⟩, fun w b hb => by
  obtain ⟨o, e⟩ := w b hb
  exact ⟨o, h b o e⟩⟩
theorem Stp.put (h : H a = some o) (hT : g a ∈ T) : Stp T g H g (upd H a o') :=
  ⟨fun b u e hn => by
     have : b ≠ a := fun z => hn (z ▸ hT)
     rw [upd_ne this]; exact e,
   fun b u e => ⟨by
     by_cases hb : b = a
     · subst hb; exact ⟨_, upd_same⟩
     · exact ⟨u, by rw [upd_ne hb]; exact e⟩, rfl⟩,
   fun w b hb => by
     by_cases hb' : b = a
     · subst hb'; exact ⟨_, upd_same⟩
     · obtain ⟨u, e⟩ := w b hb
       exact ⟨u, by rw [upd_ne hb']; exact e⟩⟩
theorem Stp.new (h : H p = none) (n : Nat) : Stp T g H (tg g p n) (upd H p o) :=
  ⟨fun b u e _ => by rw [upd_ne (ne_of_none e h)]; exact e, fun b u e => ⟨⟨u, by rw [upd_ne (ne_of_none e h)]; exact e⟩, tg_ne (ne_of_none e h)⟩,
   fun w b hb => by
     by_cases hb' : b = p
     · subst hb'; exact ⟨_, upd_same⟩
     · rw [tg_ne hb'] at hb
       obtain ⟨u, e⟩ := w b hb
       exact ⟨u, by rw [upd_ne hb']; exact e⟩⟩
theorem Stp.new0 (h : H p = none) : Stp T g H g (upd H p o) := .same fun b u e => by rw [upd_ne (ne_of_none e h)]; exact e
theorem Stp.tag (s : Stp T g H g1 H1) (h : H a = some o) : g1 a = g a := (s.stay a o h).2
theorem Stp.at (s : Stp T g H g1 H1) (h : H a = some o) (hn : g a ∉ T) : H1 a = some o := s.keep a o h hn
theorem same_new (h : H p = none) : Same H (L2.upd H p o) := fun b u e => by rw [upd_ne (ne_of_none e h)]; exact e
theorem tag0 (w : Wf g H) (h : H p = none) : g p = 0 := by
  by_cases e : g p = 0
  · exact e
  · obtain ⟨o, z⟩ := w p e
    rw [h] at z; cases z
/-- apart by their tags -/
theorem tne {a b : Addr} {i j : Nat} (ha : g a = i) (hb : g b = j) (h : i ≠ j := by decide) : a ≠ b := fun e => h (by rw [← ha, ← hb, e])
end
theorem upd_none {H : Hp} {a b : Addr} {o : HO} (h : L2.upd H a o b = none) : b ≠ a ∧ H b = none := by
  by_cases e : b = a
  · subst e; rw [upd_same] at h; cases h
  · rw [upd_ne e] at h; exact ⟨e, h⟩
/-- behind a making: p itself is written, all else that was there stays -/
theorem Stp.made {T : List Nat} {g g' : Addr → Nat} {H H' : Hp} {p : Addr} (hk : ∀ b o, H b = some o → b ≠ p → H' b = some o) (hp : ∃ o, H' p = some o) (hT : g p ∈ T) (hg : ∀ b, g' b ≠ g b → H b = none ∧ ∃ o, H' b = some o) : Stp T g H g' H' :=
  ⟨fun b o e hn => hk b o e fun z => hn (z ▸ hT),
   fun b o e => ⟨by
     by_cases hb : b = p
     · subst hb; exact hp
     · exact ⟨o, hk b o e hb⟩, by
     by_cases hb : g' b = g b
     · exact hb
     · have := (hg b hb).1
       rw [e] at this; cases this⟩,
   fun w b hb => by
     by_cases e : g' b = g b
     · rw [e] at hb
       obtain ⟨o, h⟩ := w b hb
       by_cases hbp : b = p
       · subst hbp; exact hp
       · exact ⟨o, hk b o h hbp⟩
     · exact (hg b e).2⟩
theorem lookup_no {fs : List (Str × V)} {m : Str} (h : (fs.map (·.1)).contains m = false) : fs.lookup m = none := by
  induction fs with
  | nil => rfl
  | cons p r ih =>
    obtain ⟨k, v⟩ := p
    rw [List.map_cons, List.contains_cons, Bool.or_eq_false_iff] at h
    obtain ⟨h1, h2⟩ := h
    show (match m == k with | true => some v | false => r.lookup m) = none
    rw [h1]
    exact ih h2

/-! ### pages -/
def IsWord (x : Int) : Prop := 0 ≤ x ∧ x < 281474976710656
abbrev Pg := Option (List Int)
def pgWords (ps : List Pg) (n : Int) : Option (List Int) := if 0 ≤ n then (ps[n.toNat]?).join else none
def pgHas (ps : List Pg) (n : Int) : Bool := (pgWords ps n).isSome
def pgRd (ps : List Pg) (n c : Int) : Int := ((pgWords ps n).getD []).getD c.toNat 0
def pgWr (ps : List Pg) (n c w : Int) : List Pg := ps.set n.toNat (some (((pgWords ps n).getD []).set c.toNat w))

/-! ### frames -/
abbrev Fm := Option (Addr × List Int)
def Fm.v : Fm → V
  | none => .non
  | some p => .ref p.1
def Fm.n : Fm → Int
  | none => 0
  | some _ => 1
structure Fr where
  fr : Addr
  hl : Addr
  ol : Addr
  F : List Fm
  pl : Int
def fsFr (S : Fr) : List (Str × V) := [("held", .ref S.hl), ("owned", .ref S.ol), ("pledged", .int S.pl)]
def fPg (F : List Fm) : List Pg := F.map fun f => f.map (·.2)
structure FrAt (K : PySem.W.Frag) (g : Addr → Nat) (H : Hp) (S : Fr) : Prop where
  ob : ∃ dx, H S.fr = some (.ins (He.ga K "Frames") dx (fsFr S))
  hd : H S.hl = some (.lst (S.F.map Fm.v))
  ow : H S.ol = some (.lst ((S.F.map Fm.n).map V.int))
  ws : ∀ (i : Nat) (w : Addr) (xs : List Int), S.F[i]? = some (some (w, xs)) → H w = some (.lst (xs.map V.int)) ∧ xs.length = 8 ∧ (∀ x ∈ xs, IsWord x) ∧ g w = 4
  inj : ∀ (i j : Nat) (w : Addr) (xs ys : List Int), S.F[i]? = some (some (w, xs)) → S.F[j]? = some (some (w, ys)) → i = j
  t1 : g S.fr = 1
  t2 : g S.hl = 2
  t3 : g S.ol = 3
  sz : S.F.length ≤ 200
section
variable {K : PySem.W.Frag} {g g' : Addr → Nat} {H H' : Hp} {S : Fr} {T : List Nat}
theorem FrAt.stp (A : FrAt K g H S) (s : Stp T g H g' H') (h : ∀ n ∈ [1, 2, 3, 4], n ∉ T) : FrAt K g' H' S := by
  obtain ⟨dx, ob⟩ := A.ob
  exact ⟨⟨dx, s.at ob (by rw [A.t1]; exact h 1 (by simp))⟩, s.at A.hd (by rw [A.t2]; exact h 2 (by simp)), s.at A.ow (by rw [A.t3]; exact h 3 (by simp)),
    fun i w xs e => by
      obtain ⟨h1, h2, h3, h4⟩ := A.ws i w xs e
      exact ⟨s.at h1 (by rw [h4]; exact h 4 (by simp)), h2, h3, (s.tag h1).trans h4⟩,
    A.inj, (s.tag ob).trans A.t1, (s.tag A.hd).trans A.t2, (s.tag A.ow).trans A.t3, A.sz⟩
theorem FrAt.same (A : FrAt K g H S) (s : Same H H') : FrAt K g H' S := A.stp (T := []) (.same s) (by simp)
theorem FrAt.o (A : FrAt K g H S) {m : Str} (hm : (["held", "owned", "pledged"] : List Str).contains m = false := by decide +kernel) : IsO K "Frames" m H (.ref S.fr) := by
  obtain ⟨dx, ob⟩ := A.ob
  exact ⟨_, dx, _, rfl, ob, lookup_no hm⟩
theorem lk_fr1 (S : Fr) : (fsFr S).lookup ("held" : Str) = some (.ref S.hl) := by kernel_rfl
theorem lk_fr2 (S : Fr) : (fsFr S).lookup ("owned" : Str) = some (.ref S.ol) := by kernel_rfl
theorem lk_fr3 (S : Fr) : (fsFr S).lookup ("pledged" : Str) = some (.int S.pl) := by kernel_rfl
theorem pf_fr3 (S : Fr) (z : Int) : putF "pledged" (.int z) (fsFr S) = fsFr { S with pl := z } := by kernel_rfl
theorem FrAt.f_held (A : FrAt K g H S) : Fld K "Frames" "held" H (.ref S.fr) (.ref S.hl) := by
  obtain ⟨dx, ob⟩ := A.ob
  exact ⟨_, dx, _, rfl, ob, lk_fr1 S⟩
theorem FrAt.f_owned (A : FrAt K g H S) : Fld K "Frames" "owned" H (.ref S.fr) (.ref S.ol) := by
  obtain ⟨dx, ob⟩ := A.ob
  exact ⟨_, dx, _, rfl, ob, lk_fr2 S⟩
theorem FrAt.f_pledged (A : FrAt K g H S) : Fld K "Frames" "pledged" H (.ref S.fr) (.int S.pl) := by
  obtain ⟨dx, ob⟩ := A.ob
  exact ⟨_, dx, _, rfl, ob, lk_fr3 S⟩
/-- the promised count is stored -/
theorem FrAt.s_pledged (A : FrAt K g H S) (z : Int) : ∃ H', Stf K "Frames" "pledged" H (.ref S.fr) (.int z) H' ∧ Stp [1] g H g H' ∧ FrAt K g H' { S with pl := z } := by
  obtain ⟨dx, ob⟩ := A.ob
  refine ⟨_, ⟨_, dx, _, rfl, ob, by show 3 < 1000; decide, rfl⟩, .put ob (by rw [A.t1]; simp), ?_⟩
  refine ⟨⟨dx, by rw [upd_same, pf_fr3]⟩, by rw [upd_ne (tne A.t2 A.t1)]; exact A.hd, by rw [upd_ne (tne A.t3 A.t1)]; exact A.ow, fun i w xs e => ?_, A.inj, A.t1, A.t2, A.t3, A.sz⟩
  obtain ⟨h1, h2, h3, h4⟩ := A.ws i w xs e
  exact ⟨by rw [upd_ne (tne h4 A.t1)]; exact h1, h2, h3, h4⟩
theorem FrAt.len_h (A : FrAt K g H S) : (S.F.map Fm.v).length = S.F.length := List.length_map ..
/-- the words of a taken frame are written -/
theorem FrAt.set (A : FrAt K g H S) {i : Nat} {w : Addr} {xs ys : List Int} (e : S.F[i]? = some (some (w, xs))) (hl : ys.length = 8) (hw : ∀ x ∈ ys, IsWord x) :
    Stp [4] g H g (upd H w (.lst (ys.map V.int))) ∧ FrAt K g (upd H w (.lst (ys.map V.int))) { S with F := S.F.set i (some (w, ys)) } := by
  obtain ⟨h1, h2, h3, h4⟩ := A.ws i w xs e
  obtain ⟨dx, ob⟩ := A.ob
  have hi : i < S.F.length := (List.getElem?_eq_some_iff.mp e).1
  have hv : (S.F.set i (some (w, ys))).map Fm.v = S.F.map Fm.v := by
    apply List.ext_getElem?
    intro k
    rw [List.getElem?_map, List.getElem?_map, List.getElem?_set]
    by_cases hk : i = k
    · subst hk; rw [if_pos rfl, if_pos hi, e]; rfl
    · rw [if_neg hk]
  have hn : (S.F.set i (some (w, ys))).map Fm.n = S.F.map Fm.n := by
    apply List.ext_getElem?
    intro k
    rw [List.getElem?_map, List.getElem?_map, List.getElem?_set]
    by_cases hk : i = k
    · subst hk; rw [if_pos rfl, if_pos hi, e]; rfl
    · rw [if_neg hk]
  have key : ∀ (k : Nat) (w' : Addr) (zs : List Int), (S.F.set i (some (w, ys)))[k]? = some (some (w', zs)) → (k = i ∧ w' = w ∧ zs = ys) ∨ (k ≠ i ∧ S.F[k]? = some (some (w', zs))) := fun k w' zs q => by
    rw [List.getElem?_set] at q
    by_cases hk : i = k
    · subst hk
      rw [if_pos rfl, if_pos hi] at q
      injection q with q; injection q with q; injection q with q1 q2
      exact .inl ⟨rfl, q1.symm, q2.symm⟩
    · rw [if_neg hk] at q
      exact .inr ⟨fun z => hk z.symm, q⟩
  refine ⟨.put h1 (by rw [h4]; simp), ⟨⟨dx, by rw [upd_ne (tne A.t1 h4)]; exact ob⟩, by rw [upd_ne (tne A.t2 h4)]; show H S.hl = some (.lst ((S.F.set i (some (w, ys))).map Fm.v)); rw [hv]; exact A.hd,
    by rw [upd_ne (tne A.t3 h4)]; show H S.ol = some (.lst (((S.F.set i (some (w, ys))).map Fm.n).map V.int)); rw [hn]; exact A.ow, fun k w' zs q => ?_, fun k j w' as bs q1 q2 => ?_, A.t1, A.t2, A.t3, by rw [List.length_set]; exact A.sz⟩⟩
  · rcases key k w' zs q with ⟨rfl, rfl, rfl⟩ | ⟨hk, q⟩
    · exact ⟨upd_same, hl, hw, h4⟩
    · obtain ⟨a1, a2, a3, a4⟩ := A.ws k w' zs q
      have : w' ≠ w := fun z => hk (A.inj k i w zs xs (z ▸ q) e)
      exact ⟨by rw [upd_ne this]; exact a1, a2, a3, a4⟩
  · rcases key k w' as q1 with ⟨a1, a2, _⟩ | ⟨hk, q3⟩
    · rcases key j w' bs q2 with ⟨b1, _, _⟩ | ⟨hj, q4⟩
      · rw [a1, b1]
      · rw [a1]; exact A.inj i j w' xs bs (a2 ▸ e) q4
    · rcases key j w' bs q2 with ⟨b1, b2, _⟩ | ⟨hj, q4⟩
      · rw [b1]; exact A.inj k i w' as xs q3 (b2 ▸ e)
      · exact A.inj k j w' as bs q3 q4
end
end Sp

set_option Elab.async false
set_option linter.all false
set_option maxRecDepth 100000
set_option maxHeartbeats 4000000
namespace Sp
open PySem PySem.Spec PyProof.Rows L2
section
variable {P : Program} {w : World} {K : PySem.W.Frag} {mg : Str → Option Value} {base : Heap}
theorem ifT {c : Bool} {A B : Prop} (h : c = true) (a : A) : if c = true then A else B := by
  rw [if_pos h]; exact a
theorem ifF {c : Bool} {A B : Prop} (h : c = false) (b : B) : if c = true then A else B := by
  rw [if_neg (by rw [h]; decide)]; exact b
theorem ifB {c : Bool} {A B : Prop} (a : c = true → A) (b : c = false → B) : if c = true then A else B := by
  cases c with
  | true => exact iteT (a rfl)
  | false => exact iteF (b rfl)
theorem k_int_int {K : PySem.W.Frag} : PySem.W.kitOne K (.type "int") (.type "int") = some true := kit_ty (by decide +kernel)
theorem k_int_bool {K : PySem.W.Frag} : PySem.W.kitOne K (.type "int") (.type "bool") = some false := kit_ty (by decide +kernel)
theorem k_list_list {K : PySem.W.Frag} : PySem.W.kitOne K (.type "list") (.type "list") = some true := kit_ty (by decide +kernel)
theorem blT {Q : VK} {H : Hp} {c d : Bool} (e : c = d) (q : Q (.bl d) H) : Q (.bl c) H := by rw [e]; exact q
abbrev N_is_whole : List Str := ["thing"]
theorem sc_is_whole : FnScope N_is_whole ["thing"] (defScope s_is_whole) := ⟨rfl, rfl, rfl, by decide +kernel, rfl, by decide +kernel, by decide +kernel⟩
def sp_is_whole : Sp := fun vs H Q _ => ∃ i : Int, vs = [.int i] ∧ Q (.bl true) H
theorem ok_is_whole (T : Txt K mg) : DOk P w K mg base CX0 1 ("is_whole", none) ["thing"] (sp_is_whole) := by
  refine dok T.d_is_whole sc_is_whole (fun _ _ _ _ _ _ us hl => match us, hl with | [_], _ => rfl) (fun vs H Q E h => ?_) (fun cdv A outer s H vs Q E hr h => ?_)
  · obtain ⟨i, rfl, k⟩ := h
    rfl
  · obtain ⟨i, rfl, k⟩ := h
    refine ⟨_, (PSs.nox (pss_one (ps_ret (pe_and (pe_isi (ty := "int") T.b_isinstance T.b_int (pv 0)) (pe_one (pe_not (pe_isi (ty := "bool") T.b_isinstance T.b_bool (pv 0)))))))), ?_⟩
    refine ⟨_, rfl, _, _, _, _, true, rfl, .ty "int", .base (.int i), k_int_int, true, rfl, iteT ?_⟩
    exact ⟨_, rfl, _, _, _, _, false, rfl, .ty "bool", .base (.int i), k_int_bool, false, rfl, k⟩
abbrev N_is_word : List Str := ["thing"]
theorem sc_is_word : FnScope N_is_word ["thing"] (defScope s_is_word) := ⟨rfl, rfl, rfl, by decide +kernel, rfl, by decide +kernel, by decide +kernel⟩
def sp_is_word : Sp := fun vs H Q _ => ∃ i : Int, vs = [.int i] ∧ IsWord i ∧ Q (.bl true) H
theorem ok_is_word (T : Txt K mg) : DOk P w K mg base CX0 2 ("is_word", none) ["thing"] (sp_is_word) := by
  refine dok T.d_is_word sc_is_word (fun _ _ _ _ _ _ us hl => match us, hl with | [_], _ => rfl) (fun vs H Q E h => ?_) (fun cdv A outer s H vs Q E hr h => ?_)
  · obtain ⟨i, rfl, hw, k⟩ := h
    rfl
  · obtain ⟨i, rfl, hw, k⟩ := h
    refine ⟨_, (PSs.nox (pss_one (ps_ret (pe_and (pe_g (ok_is_whole T) (hr.mono (by decide)) T.g_is_whole pass0 (pa_cons (pv 0) pa_nil)) (pe_one (pe_chain op_le op_lt pe_int (pv 0) (pe_op op_pow pe_int pe_int))))))), ?_⟩
    refine ⟨_, rfl, i, rfl, ⟨true, rfl, iteT ?_⟩⟩
    refine ⟨_, rfl, _, _, rfl, rfl, _, rfl, ?_⟩
    refine ifT (decide_eq_true hw.1) ⟨_, _, rfl, rfl, ⟨by decide, by decide, by decide⟩, _, _, rfl, rfl, ?_⟩
    have e : decide (i < 2 ^ (48 : Int).toNat) = true := decide_eq_true (show i < 2 ^ (48 : Int).toNat from hw.2)
    exact blT e k
abbrev N_is_below : List Str := ["thing", "count"]
theorem sc_is_below : FnScope N_is_below ["thing", "count"] (defScope s_is_below) := ⟨rfl, rfl, rfl, by decide +kernel, rfl, by decide +kernel, by decide +kernel⟩
def sp_is_below : Sp := fun vs H Q _ => ∃ i n : Int, vs = [.int i, .int n] ∧ Q (.bl (decide (0 ≤ i) && decide (i < n))) H
theorem ok_is_below (T : Txt K mg) : DOk P w K mg base CX0 2 ("is_below", none) ["thing", "count"] (sp_is_below) := by
  refine dok T.d_is_below sc_is_below (fun _ _ _ _ _ _ us hl => match us, hl with | [_, _], _ => rfl) (fun vs H Q E h => ?_) (fun cdv A outer s H vs Q E hr h => ?_)
  · obtain ⟨i, n, rfl, k⟩ := h
    rfl
  · obtain ⟨i, n, rfl, k⟩ := h
    refine ⟨_, (PSs.nox (pss_one (ps_ret (pe_and (pe_g (ok_is_whole T) (hr.mono (by decide)) T.g_is_whole pass0 (pa_cons (pv 0) pa_nil)) (pe_one (pe_chain op_le op_lt pe_int (pv 0) (pv 1))))))), ?_⟩
    refine ⟨_, rfl, i, rfl, ⟨true, rfl, iteT ?_⟩⟩
    refine ⟨_, rfl, _, _, rfl, rfl, _, rfl, ?_⟩
    by_cases h0 : 0 ≤ i
    · refine ifT (decide_eq_true h0) ⟨_, rfl, _, _, rfl, rfl, ?_⟩
      rw [decide_eq_true h0] at k
      exact k
    · refine ifF (decide_eq_false h0) ?_
      rw [decide_eq_false h0] at k
      exact k
abbrev N_look_at_places : List Str := ["place"]
theorem sc_look_at_places : FnScope N_look_at_places ["place"] (defScope s_look_at_places) := ⟨rfl, rfl, rfl, by decide +kernel, rfl, by decide +kernel, by decide +kernel⟩
def sp_look_at_places : Sp := fun vs H Q _ => ∃ i : Int, vs = [.int i] ∧ 0 ≤ i ∧ i ≤ 511 ∧ Q .non H
theorem ok_look_at_places (T : Txt K mg) : DOk P w K mg base CX0 2 ("look_at_places", none) ["place"] (sp_look_at_places) := by
  refine dok T.d_look_at_places sc_look_at_places (fun _ _ _ _ _ _ us hl => match us, hl with | [_], _ => rfl) (fun vs H Q E h => ?_) (fun cdv A outer s H vs Q E hr h => ?_)
  · obtain ⟨i, rfl, h0, h1, k⟩ := h
    rfl
  · obtain ⟨i, rfl, h0, h1, k⟩ := h
    refine ⟨_, (PSs.nox (pss_one (ps_if (PW.pt (pw_or (pt_not (pt_val (pe_g (ok_is_whole T) (hr.mono (by decide)) T.g_is_whole pass0 (pa_cons (pv 0) pa_nil)))) (pw_or (pt_cmpR op_lt (pv 0) pe_int (nomark _)) (pw_or1 (pt_cmpR op_gt (pv 0) pe_int (nomark _)))))) (pss_one ps_never) pss_nil))), ?_⟩
    refine ⟨_, rfl, i, rfl, true, rfl, ?_⟩
    refine iteF ⟨_, rfl, _, _, rfl, rfl, _, rfl, ?_⟩
    refine ifF (decide_eq_false (by omega)) ?_
    refine ⟨_, rfl, _, _, rfl, rfl, _, rfl, ?_⟩
    refine ifF (decide_eq_false (by omega)) ?_
    exact k
abbrev N_parts_of : List Str := ["place", "number", "cell", "outer", "inner"]
theorem sc_parts_of : FnScope N_parts_of ["place"] (defScope s_parts_of) := ⟨rfl, rfl, rfl, by decide +kernel, rfl, by decide +kernel, by decide +kernel⟩
def sp_parts_of : Sp := fun vs H Q _ => ∃ i : Int, vs = [.int i] ∧ 0 ≤ i ∧ i ≤ 511 ∧ ∀ p H', H p = none → Same H H' → H' p = some (.tup [.int (i / 8 / 8), .int (i / 8 % 8), .int (i % 8)]) → Q (.ref p) H'
theorem ok_parts_of (T : Txt K mg) : DOk P w K mg base CX0 3 ("parts_of", none) ["place"] (sp_parts_of) := by
  refine dok T.d_parts_of sc_parts_of (fun _ _ _ _ _ _ us hl => match us, hl with | [_], _ => rfl) (fun vs H Q E h => ?_) (fun cdv A outer s H vs Q E hr h => ?_)
  · obtain ⟨i, rfl, h0, h1, k⟩ := h
    rfl
  · obtain ⟨i, rfl, h0, h1, k⟩ := h
    refine ⟨_, (PSs.nox (pss_cons (ps_expr (pe_g (ok_look_at_places T) (hr.mono (by decide)) T.g_look_at_places pass0 (pa_cons (pv 0) pa_nil)))
      (pss_cons (ps_asg (pe_callB call_divmod rfl T.b_divmod (by decide +kernel) (pa_cons (pv 0) (pa_cons pe_int pa_nil))) (pg_tup rfl (pgs_cons (pg_name (i := 1) sc_parts_of.nd rfl (Or.inl rfl)) (pgs_cons (pg_name (i := 2) sc_parts_of.nd rfl (Or.inl rfl)) pgs_nil))))
      (pss_cons (ps_asg (pe_callB call_divmod rfl T.b_divmod (by decide +kernel) (pa_cons (pv 1) (pa_cons pe_int pa_nil))) (pg_tup rfl (pgs_cons (pg_name (i := 3) sc_parts_of.nd rfl (Or.inl rfl)) (pgs_cons (pg_name (i := 4) sc_parts_of.nd rfl (Or.inl rfl)) pgs_nil))))
      (pss_one (ps_ret (pe_tup (pa_cons (pv 3) (pa_cons (pv 4) (pa_cons (pv 2) pa_nil)))))))))), ?_⟩
    refine ⟨_, rfl, i, rfl, h0, h1, ?_⟩
    refine ⟨_, rfl, i, 8, rfl, ⟨by decide, by decide⟩, fun p1 n1 => ?_⟩
    refine ⟨p1, _, rfl, SqT.of upd_same, rfl, _, _, rfl, _, _, rfl, rfl, ?_⟩
    refine ⟨_, rfl, i / 8, 8, rfl, ⟨by decide, by decide⟩, fun p2 n2 => ?_⟩
    refine ⟨p2, _, rfl, SqT.of upd_same, rfl, _, _, rfl, _, _, rfl, rfl, ?_⟩
    refine ⟨_, rfl, _, rfl, _, rfl, by show 3 ≤ sizeLine; decide, fun p3 n3 => ?_⟩
    have s := ((same_new (o := .tup [.int (i / 8), .int (i % 8)]) n1).trans (same_new n2)).trans (same_new (o := .tup [.int (i / 8 / 8), .int (i / 8 % 8), .int (i % 8)]) n3)
    exact k p3 _ (((same_new n1).trans (same_new n2)).free n3) s upd_same
abbrev N_row_of : List Str := ["page", "marks"]
theorem sc_row_of : FnScope N_row_of ["page", "marks"] (defScope s_row_of) := ⟨rfl, rfl, rfl, by decide +kernel, rfl, by decide +kernel, by decide +kernel⟩
def sp_row_of : Sp := fun vs H Q _ => ∃ p m : Int, vs = [.int p, .int m] ∧ 0 ≤ p ∧ p < 1099511627776 ∧ 0 ≤ m ∧ m ≤ 255 ∧ Q (.int (Builtin.bitOr (p * 256) m)) H
theorem ok_row_of (T : Txt K mg) : DOk P w K mg base CX0 2 ("row_of", none) ["page", "marks"] (sp_row_of) := by
  refine dok T.d_row_of sc_row_of (fun _ _ _ _ _ _ us hl => match us, hl with | [_, _], _ => rfl) (fun vs H Q E h => ?_) (fun cdv A outer s H vs Q E hr h => ?_)
  · obtain ⟨p, m, rfl, h0, h1, h2, h3, k⟩ := h
    rfl
  · obtain ⟨p, m, rfl, h0, h1, h2, h3, k⟩ := h
    refine ⟨_, (PSs.nox (pss_cons (ps_if (PW.pt (pw_or (pt_not (pt_val (pe_g (ok_is_whole T) (hr.mono (by decide)) T.g_is_whole pass0 (pa_cons (pv 0) pa_nil)))) (pw_or (pt_cmpR op_lt (pv 0) pe_int (nomark _)) (pw_or1 (pt_cmpR op_ge (pv 0) (pe_op op_pow pe_int pe_int) (nomark _)))))) (pss_one ps_never) pss_nil)
      (pss_cons (ps_if (PW.pt (pw_or (pt_not (pt_val (pe_g (ok_is_whole T) (hr.mono (by decide)) T.g_is_whole pass0 (pa_cons (pv 1) pa_nil)))) (pw_or (pt_cmpR op_lt (pv 1) pe_int (nomark _)) (pw_or1 (pt_cmpR op_gt (pv 1) pe_int (nomark _)))))) (pss_one ps_never) pss_nil)
      (pss_one (ps_ret (pe_op op_or (pe_op op_shl (pv 0) pe_int) (pv 1))))))), ?_⟩
    refine ⟨_, rfl, p, rfl, true, rfl, ?_⟩
    refine iteF ⟨_, rfl, _, _, rfl, rfl, _, rfl, ?_⟩
    refine ifF (decide_eq_false (by omega)) ?_
    refine ⟨_, rfl, _, _, rfl, rfl, ⟨by decide, by decide, by decide⟩, _, _, rfl, rfl, _, rfl, ?_⟩
    refine ifF (decide_eq_false (show ¬ (2 : Int) ^ (40 : Int).toNat ≤ p from (show ¬ (1099511627776 : Int) ≤ p by omega))) ?_
    refine ⟨_, rfl, m, rfl, true, rfl, ?_⟩
    refine iteF ⟨_, rfl, _, _, rfl, rfl, _, rfl, ?_⟩
    refine ifF (decide_eq_false (by omega)) ?_
    refine ⟨_, rfl, _, _, rfl, rfl, _, rfl, ?_⟩
    refine ifF (decide_eq_false (by omega)) ?_
    exact ⟨_, rfl, _, _, rfl, rfl, ⟨by decide, by decide, by omega⟩, _, rfl, _, _, rfl, rfl, k⟩
abbrev N_page_of : List Str := ["row"]
theorem sc_page_of : FnScope N_page_of ["row"] (defScope s_page_of) := ⟨rfl, rfl, rfl, by decide +kernel, rfl, by decide +kernel, by decide +kernel⟩
def sp_page_of : Sp := fun vs H Q _ => ∃ r : Int, vs = [.int r] ∧ Q (.int (r / 256)) H
theorem ok_page_of (T : Txt K mg) : DOk P w K mg base CX0 1 ("page_of", none) ["row"] (sp_page_of) := by
  refine dok T.d_page_of sc_page_of (fun _ _ _ _ _ _ us hl => match us, hl with | [_], _ => rfl) (fun vs H Q E h => ?_) (fun cdv A outer s H vs Q E hr h => ?_)
  · obtain ⟨r, rfl, k⟩ := h
    rfl
  · obtain ⟨r, rfl, k⟩ := h
    refine ⟨_, (PSs.nox (pss_one (ps_ret (pe_op op_shr (pv 0) pe_int)))), ?_⟩
    exact ⟨_, rfl, _, _, rfl, rfl, (by show (0 : Int) ≤ 8; decide), k⟩
abbrev N_has : List Str := ["row", "marks"]
theorem sc_has : FnScope N_has ["row", "marks"] (defScope s_has) := ⟨rfl, rfl, rfl, by decide +kernel, rfl, by decide +kernel, by decide +kernel⟩
def bHas (r m : Int) : Bool := decide (Builtin.bitAnd r m = m)
def sp_has : Sp := fun vs H Q _ => ∃ r m : Int, vs = [.int r, .int m] ∧ Q (.bl (bHas r m)) H
theorem ok_has (T : Txt K mg) : DOk P w K mg base CX0 1 ("has", none) ["row", "marks"] (sp_has) := by
  refine dok T.d_has sc_has (fun _ _ _ _ _ _ us hl => match us, hl with | [_, _], _ => rfl) (fun vs H Q E h => ?_) (fun cdv A outer s H vs Q E hr h => ?_)
  · obtain ⟨r, m, rfl, k⟩ := h
    rfl
  · obtain ⟨r, m, rfl, k⟩ := h
    refine ⟨_, (PSs.nox (pss_one (ps_ret (pe_cmpR op_eq (pe_op op_and (pv 0) (pv 1)) (pv 1) (nomark _))))), ?_⟩
    refine ⟨_, rfl, _, rfl, _, _, rfl, rfl, _, rfl, rfl, ?_⟩
    have e : decide (V.int (Builtin.bitAnd r m) = V.int m) = bHas r m := by
      unfold bHas
      by_cases h : Builtin.bitAnd r m = m
      · rw [h]; simp
      · rw [decide_eq_false h, decide_eq_false fun z => h (by injection z)]
    rw [e]
    exact k
abbrev N_put : List Str := ["row", "marks"]
theorem sc_put : FnScope N_put ["row", "marks"] (defScope s_put) := ⟨rfl, rfl, rfl, by decide +kernel, rfl, by decide +kernel, by decide +kernel⟩
def sp_put : Sp := fun vs H Q _ => ∃ r m : Int, vs = [.int r, .int m] ∧ Q (.int (Builtin.bitOr r m)) H
theorem ok_put (T : Txt K mg) : DOk P w K mg base CX0 1 ("put", none) ["row", "marks"] (sp_put) := by
  refine dok T.d_put sc_put (fun _ _ _ _ _ _ us hl => match us, hl with | [_, _], _ => rfl) (fun vs H Q E h => ?_) (fun cdv A outer s H vs Q E hr h => ?_)
  · obtain ⟨r, m, rfl, k⟩ := h
    rfl
  · obtain ⟨r, m, rfl, k⟩ := h
    refine ⟨_, (PSs.nox (pss_one (ps_ret (pe_op op_or (pv 0) (pv 1))))), ?_⟩
    exact ⟨_, rfl, _, rfl, _, _, rfl, rfl, k⟩
abbrev N_rights_of : List Str := ["high", "low", "rights"]
theorem sc_rights_of : FnScope N_rights_of ["high", "low"] (defScope s_rights_of) := ⟨rfl, rfl, rfl, by decide +kernel, rfl, by decide +kernel, by decide +kernel⟩
def vRights (h l : Int) : Int := Builtin.bitOr (Builtin.bitOr (Builtin.bitAnd (Builtin.bitAnd h l) 2) (Builtin.bitAnd (Builtin.bitOr h l) 4)) (Builtin.bitAnd l 16)
def sp_rights_of : Sp := fun vs H Q _ => ∃ h l : Int, vs = [.int h, .int l] ∧ Q (.int (vRights h l)) H
theorem ok_rights_of (T : Txt K mg) : DOk P w K mg base CX0 1 ("rights_of", none) ["high", "low"] (sp_rights_of) := by
  refine dok T.d_rights_of sc_rights_of (fun _ _ _ _ _ _ us hl => match us, hl with | [_, _], _ => rfl) (fun vs H Q E h => ?_) (fun cdv A outer s H vs Q E hr h => ?_)
  · obtain ⟨hi, lo, rfl, k⟩ := h
    rfl
  · obtain ⟨hi, lo, rfl, k⟩ := h
    refine ⟨_, (PSs.nox (pss_cons (ps_set (i := 2) sc_rights_of.nd rfl (Or.inl rfl) (pe_op op_and (pe_op op_and (pv 0) (pv 1)) (pe_ic T.i_WRITABLE)))
      (pss_cons (ps_set (i := 2) sc_rights_of.nd rfl (Or.inl rfl) (pe_op op_or (pv 2) (pe_op op_and (pe_op op_or (pv 0) (pv 1)) (pe_ic T.i_KERNEL))))
      (pss_one (ps_ret (pe_op op_or (pv 2) (pe_op op_and (pv 1) (pe_ic T.i_SOILED)))))))), ?_⟩
    refine ⟨_, rfl, _, rfl, _, _, rfl, rfl, _, _, rfl, rfl, ?_⟩
    refine ⟨_, rfl, _, rfl, _, rfl, _, _, rfl, rfl, _, _, rfl, rfl, _, _, rfl, rfl, ?_⟩
    exact ⟨_, rfl, _, rfl, _, _, rfl, rfl, _, _, rfl, rfl, k⟩
abbrev N_lets : List Str := ["rights", "write", "kernel"]
theorem sc_lets : FnScope N_lets ["rights", "write", "kernel"] (defScope s_lets) := ⟨rfl, rfl, rfl, by decide +kernel, rfl, by decide +kernel, by decide +kernel⟩
def bLets (r : Int) (w k : Bool) : Bool := (!bHas r 4 || k) && (!w || bHas r (Builtin.bitOr 2 16))
def sp_lets : Sp := fun vs H Q _ => ∃ (r : Int) (w k : Bool), vs = [.int r, .bl w, .bl k] ∧ Q (.bl (bLets r w k)) H
theorem ok_lets (T : Txt K mg) : DOk P w K mg base CX0 2 ("lets", none) ["rights", "write", "kernel"] (sp_lets) := by
  refine dok T.d_lets sc_lets (fun _ _ _ _ _ _ us hl => match us, hl with | [_, _, _], _ => rfl) (fun vs H Q E h => ?_) (fun cdv A outer s H vs Q E hr h => ?_)
  · obtain ⟨r, w', k', rfl, k⟩ := h
    rfl
  · obtain ⟨r, w', k', rfl, k⟩ := h
    refine ⟨_, (PSs.nox (pss_cons (ps_if (PW.pt (pw_and (pt_val (pe_g (ok_has T) (hr.mono (by decide)) T.g_has pass0 (pa_cons (pv 0) (pa_cons (pe_ic T.i_KERNEL) pa_nil)))) (pw_and1 (pt_not (pt_val (pv 2)))))) (pss_one (ps_ret pe_bl)) pss_nil)
      (pss_one (ps_ret (pe_or (pe_not (pv 1)) (pe_one (pe_g (ok_has T) (hr.mono (by decide)) T.g_has pass0 (pa_cons (pv 0) (pa_cons (pe_op op_or (pe_ic T.i_WRITABLE) (pe_ic T.i_SOILED)) pa_nil))))))))), ?_⟩
    refine ⟨_, rfl, r, 4, rfl, _, rfl, ?_⟩
    unfold bLets at k
    cases e1 : bHas r 4 with
    | true =>
      refine iteT ⟨_, rfl, _, rfl, ?_⟩
      rw [e1] at k
      cases k' with
      | false => exact iteT k
      | true =>
        refine iteF ⟨_, rfl, _, rfl, _, rfl, ?_⟩
        cases w' with
        | false => exact iteT k
        | true => exact iteF ⟨_, rfl, _, _, rfl, rfl, r, _, rfl, k⟩
    | false =>
      rw [e1] at k
      refine iteF (iteF ⟨_, rfl, _, rfl, _, rfl, ?_⟩)
      cases w' with
      | false => exact iteT k
      | true => exact iteF ⟨_, rfl, _, _, rfl, rfl, r, _, rfl, k⟩
end
end Sp

set_option Elab.async false
set_option linter.all false
set_option maxRecDepth 100000
set_option maxHeartbeats 4000000
namespace Sp
open PySem PySem.Spec PyProof.Rows L2
section
variable {P : Program} {w : World} {K : PySem.W.Frag} {mg : Str → Option Value} {base : Heap}
def WsAt (H : Hp) (a : Addr) (ws : List Int) : Prop := H a = some (.lst (ws.map V.int)) ∧ ws.length = 8 ∧ ∀ x ∈ ws, IsWord x
def PgAt (H : Hp) (x : V) : Pg → Prop
  | none => x = .non
  | some ws => ∃ a, x = .ref a ∧ WsAt H a ws
/-- a list of pages -/
structure ImgAt (H : Hp) (a : Addr) (ps : List Pg) : Prop where
  ex : ∃ xs, H a = some (.lst xs) ∧ xs.length = ps.length ∧ ∀ (i : Nat) p, ps[i]? = some p → ∃ x, xs[i]? = some x ∧ PgAt H x p
  lo : 1 ≤ ps.length
  hi : ps.length ≤ 24
theorem WsAt.same {H H' : Hp} {a : Addr} {ws : List Int} (h : WsAt H a ws) (s : Same H H') : WsAt H' a ws := ⟨s _ _ h.1, h.2⟩
theorem PgAt.same {H H' : Hp} {x : V} {p : Pg} (h : PgAt H x p) (s : Same H H') : PgAt H' x p := by
  cases p with
  | none => exact h
  | some ws =>
    obtain ⟨a, e, w⟩ := h
    exact ⟨a, e, w.same s⟩
theorem ImgAt.same {H H' : Hp} {a : Addr} {ps : List Pg} (h : ImgAt H a ps) (s : Same H H') : ImgAt H' a ps := by
  obtain ⟨xs, h1, h2, h3⟩ := h.ex
  exact ⟨⟨xs, s _ _ h1, h2, fun i p e => by
    obtain ⟨x, e1, e2⟩ := h3 i p e
    exact ⟨x, e1, e2.same s⟩⟩, h.lo, h.hi⟩
/-- an object of ours may change as long as the rest stays -/
theorem same_mut {H H' : Hp} {p : Addr} {o : HO} (s : Same H H') (n : H p = none) : Same H (upd H' p o) := fun b u e => by
  rw [upd_ne (ne_of_none e n)]; exact s b u e
theorem rep_map {α β : Type} {f : α → β} {n : Nat} {x : α} : List.replicate n (f x) = (List.replicate n x).map f := by rw [List.map_replicate]
theorem all_rep (n : Nat) : (List.replicate n true).all id = true := by
  induction n with
  | zero => rfl
  | succ n ih => rw [List.replicate_succ, List.all_cons, ih]; rfl
theorem rep_snoc {α : Type} {n : Nat} {x : α} : List.replicate n x ++ [x] = List.replicate (n + 1) x := by
  rw [List.replicate_succ']
abbrev N_are_words : List Str := ["thing", "word"]
theorem sc_are_words : FnScope N_are_words ["thing"] (defScope s_are_words) := ⟨rfl, rfl, rfl, by decide +kernel, rfl, by decide +kernel, by decide +kernel⟩
def sp_are_words : Sp := fun vs H Q _ => ∃ (a : Addr) (ws : List Int), vs = [.ref a] ∧ WsAt H a ws ∧ ∀ H', Same H H' → Q (.bl true) H'
theorem ok_are_words (T : Txt K mg) : DOk P w K mg base CX0 3 ("are_words", none) ["thing"] (sp_are_words) := by
  refine dok T.d_are_words sc_are_words (fun _ _ _ _ _ _ us hl => match us, hl with | [_], _ => rfl) (fun vs H Q E h => ?_) (fun cdv A outer s H vs Q E hr h => ?_)
  · obtain ⟨a, ws, rfl, ⟨h1, h2, h3⟩, k⟩ := h
    rfl
  · obtain ⟨a, ws, rfl, ⟨h1, h2, h3⟩, k⟩ := h
    refine ⟨_, (PSs.nox (pss_one (ps_ret (pe_and (pe_isi (ty := "list") T.b_isinstance T.b_list (pv 0)) (pe_and (pe_cmpR op_eq (pe_callB call_len_seq rfl T.b_len PySem.boot_len (pa_cons (pv 0) pa_nil)) (pe_ic T.i_CELLS) (nomark _)) (pe_one (pe_callB (cr_all rfl) rfl T.b_all (by decide +kernel) (pa_cons (pe_lc (own := [("word", 1)]) (g := gName 1) rfl sc_are_words.nd (pi_list (pv 0)) (blkOk_by (own := [("word", 1)]) (N := N_are_words) (sc := defScope s_are_words) (by decide +kernel)) (fun _ _ _ _ _ => pg_name (i := 1) sc_are_words.nd rfl (Or.inl rfl)) (fun _ _ _ _ _ => pts_nil) (fun _ _ _ _ _ => (pe_g (ok_is_word T) (hr.mono (by decide)) T.g_is_word pass0 (pa_cons (pv 1) pa_nil)))) pa_nil)))))))), ?_⟩
    refine ⟨_, rfl, _, _, _, _, true, rfl, .ty "list", .base (.lst h1), k_list_list, true, rfl, iteT ?_⟩
    refine ⟨_, rfl, a, _, rfl, .inl (SqL.of h1), rfl, true, congrArg V.bl (decide_eq_true ?_), iteT ?_⟩
    · rw [List.length_map, h2]; rfl
    refine ⟨_, rfl, a, rfl, ⟨_, SqL.of h1⟩, fun D nD => ?_⟩
    refine lc_list (K := K) (a := a) (xs := ws.map V.int) (fun i H' => Same H H' ∧ H' D = some (.lst (List.replicate i (V.bl true)))) ⟨same_new nD, upd_same⟩ (fun i H' _ p => SqL.of (p.1 _ _ h1)) (fun i x H' hi p => ?_) (fun H' p => ?_)
    · rw [List.getElem?_map] at hi
      obtain ⟨z, hz, rfl⟩ := Option.map_eq_some_iff.mp hi
      have hlt : i < ws.length := (List.getElem?_eq_some_iff.mp hz).1
      refine ⟨rfl, _, rfl, z, rfl, h3 z (List.mem_of_getElem? hz), _, p.2, ?_, same_mut p.1 nD, ?_⟩
      · rw [List.length_replicate]; exact small1000 (by omega)
      · rw [upd_same, rep_snoc]
    · refine ⟨D, List.replicate 8 true, rfl, SqL.of ?_, ?_⟩
      · rw [p.2, rep_map, List.length_map, h2]
      · rw [all_rep]
        exact k H' p.1
abbrev N_is_image : List Str := ["thing", "words"]
theorem sc_is_image : FnScope N_is_image ["thing"] (defScope s_is_image) := ⟨rfl, rfl, rfl, by decide +kernel, rfl, by decide +kernel, by decide +kernel⟩
def sp_is_image : Sp := fun vs H Q _ => ∃ (a : Addr) (ps : List Pg), vs = [.ref a] ∧ ImgAt H a ps ∧ ∀ H', Same H H' → Q (.bl true) H'
theorem ok_is_image (T : Txt K mg) : DOk P w K mg base CX0 4 ("is_image", none) ["thing"] (sp_is_image) := by
  refine dok T.d_is_image sc_is_image (fun _ _ _ _ _ _ us hl => match us, hl with | [_], _ => rfl) (fun vs H Q E h => ?_) (fun cdv A outer s H vs Q E hr h => ?_)
  · obtain ⟨a, ps, rfl, I, k⟩ := h
    rfl
  · obtain ⟨a, ps, rfl, I, k⟩ := h
    refine ⟨_, (PSs.nox (pss_cons (ps_if (PW.pt (pw_or (pt_not (pt_val (pe_isi (ty := "list") T.b_isinstance T.b_list (pv 0)))) (pw_or (pt_cmpR op_lt (pe_callB call_len_seq rfl T.b_len PySem.boot_len (pa_cons (pv 0) pa_nil)) pe_int (nomark _)) (pw_or1 (pt_cmpR op_gt (pe_callB call_len_seq rfl T.b_len PySem.boot_len (pa_cons (pv 0) pa_nil)) (pe_ic T.i_MOST_PAGES) (nomark _)))))) (pss_one (ps_ret pe_bl)) pss_nil)
      (pss_one (ps_ret (pe_callB (cr_all rfl) rfl T.b_all (by decide +kernel) (pa_cons (pe_lc (own := [("words", 1)]) (g := gName 1) rfl sc_is_image.nd (pi_list (pv 0)) (blkOk_by (own := [("words", 1)]) (N := N_is_image) (sc := defScope s_is_image) (by decide +kernel)) (fun _ _ _ _ _ => pg_name (i := 1) sc_is_image.nd rfl (Or.inl rfl)) (fun _ _ _ _ _ => pts_nil) (fun _ _ _ _ _ => (pe_or (pe_cmpR op_isN (pv 1) pe_non (nomark _)) (pe_one (pe_g (ok_are_words T) (hr.mono (by decide)) T.g_are_words pass0 (pa_cons (pv 1) pa_nil)))))) pa_nil)))))), ?_⟩
    obtain ⟨xs, h1, h2, h3⟩ := I.ex
    have lo := I.lo
    have hi := I.hi
    refine ⟨_, rfl, _, _, _, _, true, rfl, .ty "list", .base (.lst h1), k_list_list, true, rfl, iteF ?_⟩
    refine ⟨_, rfl, a, _, rfl, .inl (SqL.of h1), _, _, rfl, rfl, _, rfl, ?_⟩
    refine ifF (decide_eq_false (by omega)) ⟨_, rfl, a, _, rfl, .inl (SqL.of h1), _, _, rfl, rfl, _, rfl, ?_⟩
    refine ifF (decide_eq_false (by omega)) ?_
    refine ⟨_, rfl, a, rfl, ⟨_, SqL.of h1⟩, fun D nD => ?_⟩
    refine lc_list (K := K) (a := a) (xs := xs) (fun i H' => Same H H' ∧ H' D = some (.lst (List.replicate i (V.bl true)))) ⟨same_new nD, upd_same⟩ (fun i H' _ p => SqL.of (p.1 _ _ h1)) (fun i x H' hx p => ?_) (fun H' p => ?_)
    · have hlt : i < xs.length := (List.getElem?_eq_some_iff.mp hx).1
      obtain ⟨q, hq⟩ : ∃ q, ps[i]? = some q := ⟨ps[i]'(by omega), List.getElem?_eq_getElem (by omega)⟩
      obtain ⟨x', e1, e2⟩ := h3 i q hq
      rw [hx] at e1
      cases e1
      cases q with
      | none =>
        obtain rfl : x = V.non := e2
        refine ⟨rfl, _, rfl, rfl, true, rfl, iteT ⟨_, p.2, ?_, same_mut p.1 nD, ?_⟩⟩
        · rw [List.length_replicate]; exact small1000 (by omega)
        · rw [upd_same, rep_snoc]
      | some ws =>
        obtain ⟨b, rfl, w⟩ := e2
        refine ⟨rfl, _, rfl, rfl, false, rfl, iteF ⟨_, rfl, b, ws, rfl, w.same p.1, fun H2 s2 => ⟨_, s2 _ _ p.2, ?_, same_mut (p.1.trans s2) nD, ?_⟩⟩⟩
        · rw [List.length_replicate]; exact small1000 (by omega)
        · rw [upd_same, rep_snoc]
    · refine ⟨D, List.replicate xs.length true, rfl, SqL.of ?_, ?_⟩
      · rw [p.2, rep_map]
      · rw [all_rep]
        exact k H' p.1
end
end Sp

set_option Elab.async false
set_option linter.all false
set_option maxRecDepth 100000
set_option maxHeartbeats 4000000
namespace Sp
open PySem PySem.Spec PyProof.Rows L2
section
variable {P : Program} {w : World} {K : PySem.W.Frag} {mg : Str → Option Value} {base : Heap}
theorem for_enum {K : PySem.W.Frag} {a : Addr} {xs : List V} {g : TG} {tb : TS} {D : Ends} {σ : L2.St} {H : Hp} (Pv : Nat → L2.St → Hp → Prop) (h0 : Pv 0 σ H) (hl : ∀ i σ H, Pv i σ H → SqL K H a xs)
    (hs : ∀ (i : Nat) (x : V) (T : Addr) (σ : L2.St) (H : Hp), xs[i]? = some x → Pv i σ H → H T = none → g (.ref T) σ (upd H T (.tup [.int (i : Nat), x])) fun σ2 H2 => tb { D with nx := Pv (i + 1), ct := Pv (i + 1), bk := D.nx } σ2 H2) (hd : ∀ σ H, Pv xs.length σ H → D.nx σ H) :
    ∃ W : Nat → Nat → L2.St → Hp → Prop, (∃ m, W 0 m σ H) ∧ ∀ i m σ H, W i m σ H →
      ((Ite K a).stop i H ∧ D.nx σ H) ∨ ((Ite K a).go i H ∧ ∃ N : L2.St → Hp → Prop, (∀ σ' H', N σ' H' → ∃ m', m' < m ∧ W (i + 1) m' σ' H') ∧ ∀ v H', (Ite K a).yld i H v H' → g v σ H' fun σ2 H2 => tb { D with nx := N, ct := N, bk := D.nx } σ2 H2) := by
  refine ⟨fun i m σ H => m = xs.length - i ∧ i ≤ xs.length ∧ Pv i σ H, ⟨xs.length, rfl, Nat.zero_le _, h0⟩, ?_⟩
  rintro i m σ H ⟨rfl, hi, p⟩
  have qx := hl i σ H p
  by_cases hlt : i < xs.length
  · have hx : xs[i]? = some xs[i] := List.getElem?_eq_getElem hlt
    refine .inr ⟨⟨xs, _, qx, hx⟩, Pv (i + 1), fun σ' H' p' => ⟨xs.length - (i + 1), by omega, rfl, hlt, p'⟩, fun v H' y => ?_⟩
    obtain ⟨T, x', rfl, hT, rfl, f1⟩ := y
    exact hs i x' T σ H (f1 xs qx) p hT
  · have e : i = xs.length := by omega
    subst e
    exact .inl ⟨⟨xs, qx, Nat.le_refl _⟩, hd σ H p⟩
theorem ixN_nat {n j : Nat} (hj : j < n) : ixN n (j : Int) = some j := Evl.ixN_nat hj
theorem erase_map {α β : Type} (f : α → β) : ∀ (l : List α) (i : Nat), (l.eraseIdx i).map f = (l.map f).eraseIdx i
  | [], _ => rfl
  | a :: l, 0 => rfl
  | a :: l, i + 1 => congrArg (f a :: ·) (erase_map f l i)
abbrev Rw := Int × Int × Int
def lSeat : List Rw → Int → Nat
  | [], _ => 0
  | r :: l, n => if r.1 = n then 0 else lSeat l n + 1
theorem lSeat_le : ∀ (l : List Rw) (n : Int), lSeat l n ≤ l.length
  | [], _ => Nat.le_refl _
  | r :: l, n => by
    unfold lSeat
    split
    · exact Nat.zero_le _
    · exact Nat.succ_le_succ (lSeat_le l n)
theorem lSeat_hit : ∀ (l : List Rw) (n : Int) (i : Nat) (r : Rw), l[i]? = some r → r.1 = n → (∀ (j : Nat) r', j < i → l[j]? = some r' → r'.1 ≠ n) → lSeat l n = i
  | [], n, i, r, h, _, _ => by simp at h
  | q :: l, n, 0, r, h, e, _ => by
    simp at h
    unfold lSeat
    rw [if_pos (by rw [h]; exact e)]
  | q :: l, n, i + 1, r, h, e, k => by
    unfold lSeat
    rw [if_neg (k 0 q (Nat.succ_pos _) rfl), lSeat_hit l n i r (by simpa using h) e fun j r' hj hr => k (j + 1) r' (Nat.succ_lt_succ hj) (by simpa using hr)]
theorem lSeat_miss : ∀ (l : List Rw) (n : Int), (∀ (j : Nat) r', l[j]? = some r' → r'.1 ≠ n) → lSeat l n = l.length
  | [], n, _ => rfl
  | q :: l, n, k => by
    unfold lSeat
    rw [if_neg (k 0 q rfl), lSeat_miss l n fun j r' hr => k (j + 1) r' (by simpa using hr)]
    rfl
theorem lSeat_get : ∀ (l : List Rw) (n : Int), lSeat l n < l.length → ∃ r, l[lSeat l n]? = some r ∧ r.1 = n
  | [], n, h => absurd h (Nat.not_lt_zero _)
  | q :: l, n, h => by
    unfold lSeat at h ⊢
    by_cases e : q.1 = n
    · rw [if_pos e]; exact ⟨q, rfl, e⟩
    · rw [if_neg e] at h ⊢
      obtain ⟨r, h1, h2⟩ := lSeat_get l n (by simpa using h)
      exact ⟨r, by simpa using h1, h2⟩
def lSeek (l : List Rw) (n : Int) : Option (Int × Int) := (l[lSeat l n]?).map (·.2)
/-- the rows behind a keeping, and the number that is put out -/
def lKeep (most : Int) (l : List Rw) (r : Rw) : List Rw × Option Int :=
  if lSeat l r.1 < l.length then (l.set (lSeat l r.1) r, none)
  else if ((l ++ [r]).length : Int) ≤ most then (l ++ [r], none) else ((l ++ [r]).eraseIdx 0, ((l ++ [r])[0]?).map (·.1))
structure Sh where
  sh : Addr
  ln : Addr
  most : Int
  rows : List (Addr × Rw)
def Sh.line (S : Sh) : List Rw := S.rows.map (·.2)
def fsSh (S : Sh) : List (Str × V) := [("most", .int S.most), ("line", .ref S.ln)]
def rwV (r : Rw) : HO := .tup [.int r.1, .int r.2.1, .int r.2.2]
structure ShAt (K : PySem.W.Frag) (g : Addr → Nat) (H : Hp) (S : Sh) : Prop where
  ob : ∃ dx, H S.sh = some (.ins (He.ga K "Shelf") dx (fsSh S))
  ls : H S.ln = some (.lst (S.rows.map fun r => .ref r.1))
  rw : ∀ r ∈ S.rows, H r.1 = some (rwV r.2) ∧ g r.1 = 15
  t7 : g S.sh = 7
  t8 : g S.ln = 8
  lo : 1 ≤ S.most
  hi : S.most ≤ 12
  sz : (S.rows.length : Int) ≤ S.most
theorem lk_sh1 (S : Sh) : (fsSh S).lookup ("most" : Str) = some (.int S.most) := by kernel_rfl
theorem lk_sh2 (S : Sh) : (fsSh S).lookup ("line" : Str) = some (.ref S.ln) := by kernel_rfl
theorem pf_sh2 (S : Sh) (p : Addr) : putF "line" (.ref p) (fsSh S) = fsSh { S with ln := p } := by kernel_rfl
section
variable {g g' : Addr → Nat} {H H' : Hp} {S : Sh} {T : List Nat}
theorem ShAt.stp (A : ShAt K g H S) (s : Stp T g H g' H') (h : ∀ n ∈ [7, 8, 15], n ∉ T) : ShAt K g' H' S := by
  obtain ⟨dx, ob⟩ := A.ob
  refine ⟨⟨dx, s.at ob (by rw [A.t7]; exact h 7 (by simp))⟩, s.at A.ls (by rw [A.t8]; exact h 8 (by simp)), fun r hr => ?_, (s.tag ob).trans A.t7, (s.tag A.ls).trans A.t8, A.lo, A.hi, A.sz⟩
  obtain ⟨h1, h2⟩ := A.rw r hr
  exact ⟨s.at h1 (by rw [h2]; exact h 15 (by simp)), (s.tag h1).trans h2⟩
theorem ShAt.same (A : ShAt K g H S) (s : Same H H') : ShAt K g H' S := A.stp (T := []) (.same s) (by simp)
theorem ShAt.o (A : ShAt K g H S) {m : Str} (hm : (["most", "line"] : List Str).contains m = false := by decide +kernel) : IsO K "Shelf" m H (.ref S.sh) := by
  obtain ⟨dx, ob⟩ := A.ob
  exact ⟨_, dx, _, rfl, ob, lookup_no hm⟩
theorem ShAt.f_most (A : ShAt K g H S) : Fld K "Shelf" "most" H (.ref S.sh) (.int S.most) := by
  obtain ⟨dx, ob⟩ := A.ob
  exact ⟨_, dx, _, rfl, ob, lk_sh1 S⟩
theorem ShAt.f_line (A : ShAt K g H S) : Fld K "Shelf" "line" H (.ref S.sh) (.ref S.ln) := by
  obtain ⟨dx, ob⟩ := A.ob
  exact ⟨_, dx, _, rfl, ob, lk_sh2 S⟩
theorem ShAt.at_ (A : ShAt K g H S) {i : Nat} {r : Rw} (h : S.line[i]? = some r) : ∃ t, S.rows[i]? = some (t, r) ∧ H t = some (rwV r) ∧ g t = 15 := by
  unfold Sh.line at h
  rw [List.getElem?_map] at h
  obtain ⟨⟨t, q⟩, h1, h2⟩ := Option.map_eq_some_iff.mp h
  cases h2
  obtain ⟨a, b⟩ := A.rw _ (List.mem_of_getElem? h1)
  exact ⟨t, h1, a, b⟩
theorem Sh.len (S : Sh) : S.line.length = S.rows.length := List.length_map ..
/-- the list of rows is written -/
theorem ShAt.put (A : ShAt K g H S) (rows : List (Addr × Rw)) (hr : ∀ r ∈ rows, H r.1 = some (rwV r.2) ∧ g r.1 = 15) (hz : (rows.length : Int) ≤ S.most) :
    Stp [8] g H g (upd H S.ln (.lst (rows.map fun r => .ref r.1))) ∧ ShAt K g (upd H S.ln (.lst (rows.map fun r => .ref r.1))) { S with rows := rows } := by
  obtain ⟨dx, ob⟩ := A.ob
  refine ⟨.put A.ls (by rw [A.t8]; simp), ⟨dx, by rw [upd_ne (tne A.t7 A.t8)]; exact ob⟩, upd_same, fun r h => ?_, A.t7, A.t8, A.lo, A.hi, hz⟩
  obtain ⟨h1, h2⟩ := hr r h
  exact ⟨by rw [upd_ne (tne h2 A.t8)]; exact h1, h2⟩
end
abbrev N_Shelf_init : List Str := ["self", "most"]
theorem sc_Shelf_init : FnScope N_Shelf_init ["self", "most"] (defScope s_Shelf_init) := ⟨rfl, rfl, rfl, by decide +kernel, rfl, by decide +kernel, by decide +kernel⟩
def sp_Shelf_init (K : PySem.W.Frag) : Sp := fun vs H Q _ => ∃ (p dx : Addr) (m : Int) (g : Addr → Nat), vs = [.ref p, .int m] ∧ 1 ≤ m ∧ m ≤ 12 ∧ H p = some (.ins (He.ga K "Shelf") dx []) ∧ g p = 7 ∧
  ∀ l g' H', Stp [7] g H g' H' → ShAt K g' H' ⟨p, l, m, []⟩ → Q .non H'
theorem ok_Shelf_init (T : Txt K mg) : DOk P w K mg base CX0 2 ("Shelf", some "__init__") ["self", "most"] (sp_Shelf_init K) := by
  refine dok T.d_Shelf_init sc_Shelf_init (fun _ _ _ _ _ _ us hl => match us, hl with | [_, _], _ => rfl) (fun vs H Q E h => ?_) (fun cdv A outer s H vs Q E hr h => ?_)
  · obtain ⟨p, dx, m, g, rfl, h1, h2, hp, t7, k⟩ := h
    rfl
  · obtain ⟨p, dx, m, g, rfl, h1, h2, hp, t7, k⟩ := h
    refine ⟨_, (PSs.nox (pss_cons (ps_if (PW.pt (pw_or (pt_not (pt_val (pe_g (ok_is_whole T) (hr.mono (by decide)) T.g_is_whole pass0 (pa_cons (pv 1) pa_nil)))) (pw_or (pt_cmpR op_lt (pv 1) pe_int (nomark _)) (pw_or1 (pt_cmpR op_gt (pv 1) (pe_ic T.i_MOST) (nomark _)))))) (pss_one ps_never) pss_nil)
      (pss_cons (ps_f (pv 0) (pv 1) T.c_Shelf T.n_Shelf_most)
      (pss_one (ps_f (pv 0) (pe_lst pa_nil) T.c_Shelf T.n_Shelf_line))))), ?_⟩
    refine ⟨_, rfl, m, rfl, true, rfl, iteF ⟨_, rfl, _, _, rfl, rfl, _, rfl, ifF (decide_eq_false (by omega)) ⟨_, rfl, _, _, rfl, rfl, _, rfl, ifF (decide_eq_false (by omega)) ?_⟩⟩⟩
    refine ⟨_, rfl, _, rfl, _, ⟨p, dx, _, rfl, hp, (by show 0 < 1000; decide), rfl⟩, ?_⟩
    refine ⟨by show 0 ≤ sizeLine; omega, fun l nl => ?_⟩
    have npl : p ≠ l := ne_of_none upd_same nl
    have nl0 : H l = none := by rw [upd_ne npl.symm] at nl; exact nl
    refine ⟨_, rfl, _, ⟨p, dx, _, rfl, by rw [upd_ne npl]; exact upd_same, (by show 1 < 1000; decide), rfl⟩, ?_⟩
    have s1 : Stp [7] g H (tg g l 8) (upd (upd (upd H p (.ins (He.ga K "Shelf") dx (putF "most" (.int m) []))) l (.lst [])) p (.ins (He.ga K "Shelf") dx (putF "line" (.ref l) (putF "most" (.int m) [])))) :=
      Stp.trans (.put hp (by rw [t7]; simp)) (Stp.trans (.new nl 8) (.put (o := .ins (He.ga K "Shelf") dx (putF "most" (.int m) [])) (by rw [upd_ne npl]; exact upd_same) (by rw [tg_ne npl, t7]; simp)))
    refine k l _ _ s1 ⟨⟨dx, ?_⟩, ?_, (fun r hr => by cases hr), (by rw [tg_ne npl]; exact t7), tg_same, h1, h2, (by show (0 : Int) ≤ m; omega)⟩
    · rw [upd_same]; rfl
    · rw [upd_ne npl.symm, upd_same]; rfl
abbrev N_Shelf_seat : List Str := ["self", "number", "at", "row"]
theorem sc_Shelf_seat : FnScope N_Shelf_seat ["self", "number"] (defScope s_Shelf_seat) := ⟨rfl, rfl, rfl, by decide +kernel, rfl, by decide +kernel, by decide +kernel⟩
def sp_Shelf_seat (K : PySem.W.Frag) : Sp := fun vs H Q _ => ∃ (g : Addr → Nat) (S : Sh) (n : Int), vs = [.ref S.sh, .int n] ∧ ShAt K g H S ∧ ∀ H', Same H H' → Q (.int (lSeat S.line n : Nat)) H'
theorem ok_Shelf_seat (T : Txt K mg) : DOk P w K mg base CX0 1 ("Shelf", some "seat") ["self", "number"] (sp_Shelf_seat K) := by
  refine dok T.d_Shelf_seat sc_Shelf_seat (fun _ _ _ _ _ _ us hl => match us, hl with | [_, _], _ => rfl) (fun vs H Q E h => ?_) (fun cdv A outer s H vs Q E hr h => ?_)
  · obtain ⟨g, S, n, rfl, A, k⟩ := h
    rfl
  · obtain ⟨g, S, n, rfl, A, k⟩ := h
    refine ⟨_, (PSs.nox (pss_cons (ps_for PassesOwn.never rfl (pi_enum rfl T.b_enumerate (pa_cons (pe_f (pv 0) T.c_Shelf T.n_Shelf_line) pa_nil)) (pg_tup rfl (pgs_cons (pg_name (i := 2) sc_Shelf_seat.nd rfl (Or.inl rfl)) (pgs_cons (pg_name (i := 3) sc_Shelf_seat.nd rfl (Or.inl rfl)) pgs_nil))) (pss_one (ps_if (pt_cmpR op_eq (pe_ix ix_tup (pv 3) pe_int (fun _ _ => rfl)) (pv 1) (nomark _)) (pss_one (ps_ret (pv 2))) pss_nil)))
      (pss_one (ps_ret (pe_callB call_len_seq rfl T.b_len PySem.boot_len (pa_cons (pe_f (pv 0) T.c_Shelf T.n_Shelf_line) pa_nil)))))), ?_⟩
    refine ⟨_, rfl, _, A.f_line, _, _, rfl, SqL.of A.ls, ?_⟩
    refine for_enum (K := K) (xs := S.rows.map fun r => V.ref r.1) (fun i σ H' => Same H H' ∧ (∃ v3 v4, σ = [some (.ref S.sh), some (.int n), v3, v4]) ∧ ∀ (j : Nat) r', j < i → S.line[j]? = some r' → r'.1 ≠ n)
      ⟨Same.refl H, ⟨_, _, rfl⟩, fun j r' hj => absurd hj (Nat.not_lt_zero _)⟩ (fun i σ H' p => SqL.of (p.1 _ _ A.ls)) ?_ ?_
    · rintro i x t σ H' hx ⟨s, ⟨v3, v4, rfl⟩, hn⟩ ht
      rw [List.getElem?_map] at hx
      obtain ⟨⟨t1, r⟩, h1, rfl⟩ := Option.map_eq_some_iff.mp hx
      obtain ⟨h2, _⟩ := A.rw _ (List.mem_of_getElem? h1)
      have hl : S.line[i]? = some r := by
        unfold Sh.line
        rw [List.getElem?_map, h1]; rfl
      have s2 : Same H (upd H' t (.tup [.int (i : Nat), .ref t1])) := s.trans (same_new ht)
      refine ⟨t, _, rfl, SqT.of upd_same, rfl, _, _, rfl, _, _, rfl, rfl, ?_⟩
      refine ⟨_, rfl, t1, _, 0, _, rfl, rfl, SqT.of (s2 _ _ h2), atI_nat (j := 0) rfl, _, rfl, rfl, _, rfl, ?_⟩
      by_cases e : r.1 = n
      · refine ifT (decide_eq_true (by rw [e])) ⟨_, rfl, ?_⟩
        have := k _ s2
        rw [lSeat_hit S.line n i r hl e hn] at this
        exact this
      · refine ifF (decide_eq_false fun z => e (by injection z)) ⟨s2, ⟨_, _, rfl⟩, fun j r' hj hr => ?_⟩
        by_cases hji : j = i
        · subst hji
          rw [hl] at hr
          cases hr
          exact e
        · exact hn j r' (by omega) hr
    · rintro σ H' ⟨s, ⟨v3, v4, rfl⟩, hn⟩
      refine ⟨_, rfl, _, (A.same s).f_line, _, _, rfl, .inl (SqL.of (s _ _ A.ls)), ?_⟩
      have := k _ s
      rw [lSeat_miss S.line n fun j r' hr => hn j r' (by rw [List.length_map]; rw [← S.len]; exact (List.getElem?_eq_some_iff.mp hr).1) hr, S.len] at this
      rw [List.length_map]
      exact this
abbrev N_Shelf_seek : List Str := ["self", "number", "at"]
theorem sc_Shelf_seek : FnScope N_Shelf_seek ["self", "number"] (defScope s_Shelf_seek) := ⟨rfl, rfl, rfl, by decide +kernel, rfl, by decide +kernel, by decide +kernel⟩
def sp_Shelf_seek (K : PySem.W.Frag) : Sp := fun vs H Q _ => ∃ (g : Addr → Nat) (S : Sh) (n : Int), vs = [.ref S.sh, .int n] ∧ ShAt K g H S ∧ (lSeek S.line n = none → ∀ H', Same H H' → Q .non H') ∧
  ∀ p r, lSeek S.line n = some (p, r) → ∀ t H', H t = none → Same H H' → H' t = some (.tup [.int p, .int r]) → Q (.ref t) H'
theorem ok_Shelf_seek (T : Txt K mg) : DOk P w K mg base CX0 2 ("Shelf", some "seek") ["self", "number"] (sp_Shelf_seek K) := by
  refine dok T.d_Shelf_seek sc_Shelf_seek (fun _ _ _ _ _ _ us hl => match us, hl with | [_, _], _ => rfl) (fun vs H Q E h => ?_) (fun cdv A outer s H vs Q E hr h => ?_)
  · obtain ⟨g, S, n, rfl, A, k0, k⟩ := h
    rfl
  · obtain ⟨g, S, n, rfl, A, k0, k⟩ := h
    refine ⟨_, (PSs.nox (pss_cons (ps_set (i := 2) sc_Shelf_seek.nd rfl (Or.inl rfl) (pe_m (pv 0) T.c_Shelf T.m_Shelf_seat (ok_Shelf_seat T) (hr.mono (by decide)) pass0 (pa_cons (pv 1) pa_nil)))
      (pss_cons (ps_if (pt_cmpR op_eq (pv 2) (pe_callB call_len_seq rfl T.b_len PySem.boot_len (pa_cons (pe_f (pv 0) T.c_Shelf T.n_Shelf_line) pa_nil)) (nomark _)) (pss_one (ps_ret pe_non)) pss_nil)
      (pss_one (ps_ret (pe_tup (pa_cons (pe_ix ix_tup (pe_ix ix_list (pe_f (pv 0) T.c_Shelf T.n_Shelf_line) (pv 2) (fun _ _ => rfl)) pe_int (fun _ _ => rfl)) (pa_cons (pe_ix ix_tup (pe_ix ix_list (pe_f (pv 0) T.c_Shelf T.n_Shelf_line) (pv 2) (fun _ _ => rfl)) pe_int (fun _ _ => rfl)) pa_nil)))))))), ?_⟩
    refine ⟨_, rfl, A.o, _, rfl, g, S, n, rfl, A, fun H1 s1 => ?_⟩
    have A1 := A.same s1
    refine ⟨_, rfl, _, rfl, _, A1.f_line, _, _, rfl, .inl (SqL.of A1.ls), rfl, _, rfl, ?_⟩
    have hle := lSeat_le S.line n
    by_cases e : lSeat S.line n < S.line.length
    · obtain ⟨q, hq, hn⟩ := lSeat_get S.line n e
      obtain ⟨t, ht, hT, _⟩ := A1.at_ hq
      have hs : (S.rows.map fun r => V.ref r.1)[lSeat S.line n]? = some (.ref t) := by rw [List.getElem?_map, ht]; rfl
      refine ifF (decide_eq_false fun z => ?_) ?_
      · injection z with z
        rw [List.length_map] at z
        rw [S.len] at e
        omega
      refine ⟨_, rfl, _, A1.f_line, _, rfl, _, _, _, _, rfl, rfl, SqL.of A1.ls, atI_nat hs, t, _, 1, _, rfl, rfl, SqT.of hT, atI_nat (j := 1) rfl, ?_⟩
      refine ⟨_, rfl, _, A1.f_line, _, rfl, _, _, _, _, rfl, rfl, SqL.of A1.ls, atI_nat hs, t, _, 2, _, rfl, rfl, SqT.of hT, atI_nat (j := 2) rfl, ?_⟩
      refine ⟨by show 2 ≤ sizeLine; decide, fun p np => ?_⟩
      exact k q.2.1 q.2.2 (by unfold lSeek; rw [hq]; rfl) p _ (s1.free np) (s1.trans (same_new np)) upd_same
    · have e2 : lSeat S.line n = S.line.length := by omega
      refine ifT (decide_eq_true ?_) ?_
      · rw [List.length_map, ← S.len, e2]
      · exact k0 (by unfold lSeek; rw [e2, List.getElem?_eq_none (Nat.le_refl _)]; rfl) _ s1
abbrev N_Shelf_keep : List Str := ["self", "number", "page", "rights", "at"]
theorem sc_Shelf_keep : FnScope N_Shelf_keep ["self", "number", "page", "rights"] (defScope s_Shelf_keep) := ⟨rfl, rfl, rfl, by decide +kernel, rfl, by decide +kernel, by decide +kernel⟩
def sp_Shelf_keep (K : PySem.W.Frag) : Sp := fun vs H Q _ => ∃ (g : Addr → Nat) (S : Sh) (r : Rw), vs = [.ref S.sh, .int r.1, .int r.2.1, .int r.2.2] ∧ ShAt K g H S ∧
  ∀ S' g' H', Stp [8] g H g' H' → ShAt K g' H' S' → S'.sh = S.sh → S'.ln = S.ln → S'.most = S.most → S'.line = (lKeep S.most S.line r).1 → Q (match (lKeep S.most S.line r).2 with | none => .non | some n => .int n) H'
theorem ok_Shelf_keep (T : Txt K mg) : DOk P w K mg base CX0 2 ("Shelf", some "keep") ["self", "number", "page", "rights"] (sp_Shelf_keep K) := by
  refine dok T.d_Shelf_keep sc_Shelf_keep (fun _ _ _ _ _ _ us hl => match us, hl with | [_, _, _, _], _ => rfl) (fun vs H Q E h => ?_) (fun cdv A outer s H vs Q E hr h => ?_)
  · obtain ⟨g, S, r, rfl, A, k⟩ := h
    rfl
  · obtain ⟨g, S, r, rfl, A, k⟩ := h
    refine ⟨_, (PSs.nox (pss_cons (ps_set (i := 4) sc_Shelf_keep.nd rfl (Or.inl rfl) (pe_m (pv 0) T.c_Shelf T.m_Shelf_seat (ok_Shelf_seat T) (hr.mono (by decide)) pass0 (pa_cons (pv 1) pa_nil)))
      (pss_cons (ps_if (pt_cmpR op_lt (pv 4) (pe_callB call_len_seq rfl T.b_len PySem.boot_len (pa_cons (pe_f (pv 0) T.c_Shelf T.n_Shelf_line) pa_nil)) (nomark _)) (pss_cons (ps_asg (pe_tup (pa_cons (pv 1) (pa_cons (pv 2) (pa_cons (pv 3) pa_nil)))) (pg_sub (pe_f (pv 0) T.c_Shelf T.n_Shelf_line) (pv 4) set_list))
      (pss_one (ps_ret pe_non))) pss_nil)
      (pss_cons (ps_expr (pe_bm PySem.F.plainAttrs_list PySem.F.slot_list_append PySem.F.type_list_append mt_append (pe_f (pv 0) T.c_Shelf T.n_Shelf_line) (pa_cons (pe_tup (pa_cons (pv 1) (pa_cons (pv 2) (pa_cons (pv 3) pa_nil)))) pa_nil)))
      (pss_cons (ps_if (pt_cmpR op_le (pe_callB call_len_seq rfl T.b_len PySem.boot_len (pa_cons (pe_f (pv 0) T.c_Shelf T.n_Shelf_line) pa_nil)) (pe_f (pv 0) T.c_Shelf T.n_Shelf_most) (nomark _)) (pss_one (ps_ret pe_non)) pss_nil)
      (pss_one (ps_ret (pe_ix ix_tup (pe_bm PySem.F.plainAttrs_list PySem.F.slot_list_pop PySem.F.type_list_pop mt_popAt (pe_f (pv 0) T.c_Shelf T.n_Shelf_line) (pa_cons pe_int pa_nil)) pe_int (fun _ _ => rfl))))))))), ?_⟩
    refine ⟨_, rfl, A.o, _, rfl, g, S, r.1, rfl, A, fun H1 s1 => ?_⟩
    have A1 := A.same s1
    have st1 : Stp [8] g H g H1 := .same s1
    have sz := A.sz
    have hi := A.hi
    refine ⟨_, rfl, _, rfl, _, A1.f_line, _, _, rfl, .inl (SqL.of A1.ls), _, _, rfl, rfl, _, rfl, ?_⟩
    have hle := lSeat_le S.line r.1
    by_cases e : lSeat S.line r.1 < S.line.length
    · refine ifT (decide_eq_true (by rw [List.length_map, ← S.len]; omega)) ?_
      refine ⟨_, rfl, _, rfl, _, rfl, by show 3 ≤ sizeLine; decide, fun t nt => ?_⟩
      have A2 := A1.stp (T := []) (.new (o := rwV r) nt 15) (by simp)
      refine ⟨_, rfl, _, A2.f_line, _, rfl, _, _, _, lSeat S.line r.1, rfl, rfl, A2.ls, ixN_nat (by rw [List.length_map, ← S.len]; exact e), ?_⟩
      have em : (S.rows.map fun r => V.ref r.1).set (lSeat S.line r.1) (.ref t) = (S.rows.set (lSeat S.line r.1) (t, r)).map fun r => V.ref r.1 := by rw [List.map_set]
      have hrows : ∀ q ∈ S.rows.set (lSeat S.line r.1) (t, r), (upd H1 t (rwV r)) q.1 = some (rwV q.2) ∧ tg g t 15 q.1 = 15 := fun q hq => by
        rcases List.mem_or_eq_of_mem_set hq with h | h
        · exact A2.rw q h
        · subst h; exact ⟨upd_same, tg_same⟩
      obtain ⟨s3, A3⟩ := A2.put (S.rows.set (lSeat S.line r.1) (t, r)) hrows (by rw [List.length_set]; exact sz)
      rw [em]
      have hk : lKeep S.most S.line r = (S.line.set (lSeat S.line r.1) r, none) := by unfold lKeep; rw [if_pos e]
      have q := k _ _ _ (Stp.trans st1 (Stp.trans (.new (o := rwV r) nt 15) s3)) A3 rfl rfl rfl (by rw [hk]; show (S.rows.set _ (t, r)).map (·.2) = _; rw [List.map_set]; rfl)
      rw [hk] at q
      exact q
    · refine ifF (decide_eq_false (by rw [List.length_map, ← S.len]; omega)) ?_
      refine ⟨_, rfl, _, A1.f_line, .inl ⟨rfl, _, SqL.of A1.ls⟩, _, rfl, _, rfl, _, rfl, by show 3 ≤ sizeLine; decide, fun t nt => ?_⟩
      have A2 := A1.stp (T := []) (.new (o := rwV r) nt 15) (by simp)
      refine ⟨_, _, _, rfl, rfl, A2.ls, small1000 (by rw [List.length_map]; omega), ?_⟩
      have em : (S.rows.map fun r => V.ref r.1) ++ [.ref t] = (S.rows ++ [(t, r)]).map fun r => V.ref r.1 := by rw [List.map_append]; rfl
      have hrows : ∀ q ∈ S.rows ++ [(t, r)], (upd H1 t (rwV r)) q.1 = some (rwV q.2) ∧ tg g t 15 q.1 = 15 := fun q hq => by
        rcases List.mem_append.mp hq with h | h
        · exact A2.rw q h
        · rw [List.mem_singleton.mp h]; exact ⟨upd_same, tg_same⟩
      have ne : t ≠ S.ln := fun z => by rw [z] at nt; rw [A1.ls] at nt; cases nt
      have hl : (S.line ++ [r]).length = S.rows.length + 1 := by rw [List.length_append, S.len]; rfl
      rw [em]
      obtain ⟨dx, ob⟩ := A2.ob
      have L3 : (upd (upd H1 t (rwV r)) S.ln (.lst ((S.rows ++ [(t, r)]).map fun r => V.ref r.1))) S.ln = some (.lst ((S.rows ++ [(t, r)]).map fun r => V.ref r.1)) := upd_same
      have ob3 : (upd (upd H1 t (rwV r)) S.ln (.lst ((S.rows ++ [(t, r)]).map fun r => V.ref r.1))) S.sh = some (.ins (He.ga K "Shelf") dx (fsSh S)) := by rw [upd_ne (tne A2.t7 A2.t8)]; exact ob
      have fl : Fld K "Shelf" "line" (upd (upd H1 t (rwV r)) S.ln (.lst ((S.rows ++ [(t, r)]).map fun r => V.ref r.1))) (.ref S.sh) (.ref S.ln) := ⟨_, dx, _, rfl, ob3, lk_sh2 S⟩
      have fm : Fld K "Shelf" "most" (upd (upd H1 t (rwV r)) S.ln (.lst ((S.rows ++ [(t, r)]).map fun r => V.ref r.1))) (.ref S.sh) (.int S.most) := ⟨_, dx, _, rfl, ob3, lk_sh1 S⟩
      refine ⟨_, rfl, _, fl, _, _, rfl, .inl (SqL.of L3), _, rfl, _, fm, _, _, rfl, rfl, _, rfl, ?_⟩
      have he : ¬ lSeat S.line r.1 < S.line.length := e
      by_cases hm : ((S.line ++ [r]).length : Int) ≤ S.most
      · refine ifT (decide_eq_true (by rw [List.length_map, List.length_append]; rw [hl] at hm; exact hm)) ?_
        have hk : lKeep S.most S.line r = (S.line ++ [r], none) := by unfold lKeep; rw [if_neg he, if_pos hm]
        obtain ⟨s3, A3⟩ := A2.put (S.rows ++ [(t, r)]) hrows (by rw [List.length_append]; rw [hl] at hm; exact hm)
        have q := k _ _ _ (Stp.trans st1 (Stp.trans (.new (o := rwV r) nt 15) s3)) A3 rfl rfl rfl (by rw [hk]; show (S.rows ++ [(t, r)]).map (·.2) = _; rw [List.map_append]; rfl)
        rw [hk] at q
        exact q
      · refine ifF (decide_eq_false (by rw [List.length_map, List.length_append]; rw [hl] at hm; exact hm)) ?_
        have hk : lKeep S.most S.line r = ((S.line ++ [r]).eraseIdx 0, ((S.line ++ [r])[0]?).map (·.1)) := by unfold lKeep; rw [if_neg he, if_neg hm]
        obtain ⟨q0, rest, eq0⟩ : ∃ q0 rest, S.rows ++ [(t, r)] = q0 :: rest := by
          cases h : S.rows with
          | nil => exact ⟨_, _, rfl⟩
          | cons a b => exact ⟨_, _, rfl⟩
        have h0 : q0 ∈ S.rows ++ [(t, r)] := by rw [eq0]; exact List.mem_cons_self
        obtain ⟨hq0, hg0⟩ := hrows q0 h0
        have nq : q0.1 ≠ S.ln := tne hg0 A2.t8
        have hlr : ((S.rows ++ [(t, r)]).eraseIdx 0).map (fun r => V.ref r.1) = ((S.rows ++ [(t, r)]).map fun r => V.ref r.1).eraseIdx 0 := by rw [eq0]; rfl
        have hlen : (rest.length : Int) ≤ S.most := by
          have z : (S.rows ++ [(t, r)]).length = rest.length + 1 := by rw [eq0]; rfl
          rw [List.length_append] at z
          have : rest.length = S.rows.length := by simpa using z.symm
          omega
        refine ⟨_, rfl, _, fl, .inl ⟨rfl, _, SqL.of L3⟩, _, _, 0, 0, .ref q0.1, rfl, rfl, L3, by decide, by decide, ?_, ?_, ?_⟩
        · exact seqIndex_of (by decide) (by rw [List.length_map, List.length_append]; show (0 : Int) < ((S.rows.length + 1 : Nat) : Int); omega)
        · rw [eq0]; rfl
        · rw [← hlr]
          obtain ⟨s3, A3⟩ := A2.put ((S.rows ++ [(t, r)]).eraseIdx 0) (fun q hq => hrows q (List.mem_of_mem_eraseIdx hq)) (by rw [eq0]; exact hlen)
          have eu : upd (upd (upd H1 t (rwV r)) S.ln (.lst ((S.rows ++ [(t, r)]).map fun r => V.ref r.1))) S.ln (.lst (((S.rows ++ [(t, r)]).eraseIdx 0).map fun r => V.ref r.1)) = upd (upd H1 t (rwV r)) S.ln (.lst (((S.rows ++ [(t, r)]).eraseIdx 0).map fun r => V.ref r.1)) := upd_upd
          refine ⟨q0.1, _, 0, _, rfl, rfl, SqT.of (xs := [.int q0.2.1, .int q0.2.2.1, .int q0.2.2.2]) (by rw [upd_ne nq, upd_ne nq]; exact hq0), atI_nat (j := 0) rfl, ?_⟩
          have el : S.line ++ [r] = (S.rows ++ [(t, r)]).map (·.2) := by rw [List.map_append]; rfl
          have q := k _ _ _ (Stp.trans st1 (Stp.trans (.new (o := rwV r) nt 15) s3)) A3 rfl rfl rfl (by rw [hk, el, eq0]; rfl)
          have hh : (match (lKeep S.most S.line r).2 with | none => V.non | some n => V.int n) = .int q0.2.1 := by rw [hk, el, eq0]; rfl
          rw [hh, ← eu] at q
          exact q
abbrev N_Shelf_drop : List Str := ["self", "number", "at"]
theorem sc_Shelf_drop : FnScope N_Shelf_drop ["self", "number"] (defScope s_Shelf_drop) := ⟨rfl, rfl, rfl, by decide +kernel, rfl, by decide +kernel, by decide +kernel⟩
def lDrop (l : List Rw) (n : Int) : List Rw := l.eraseIdx (lSeat l n)
def sp_Shelf_drop (K : PySem.W.Frag) : Sp := fun vs H Q _ => ∃ (g : Addr → Nat) (S : Sh) (n : Int), vs = [.ref S.sh, .int n] ∧ ShAt K g H S ∧
  ∀ S' g' H', Stp [8] g H g' H' → ShAt K g' H' S' → S'.sh = S.sh → S'.ln = S.ln → S'.most = S.most → S'.line = lDrop S.line n → Q (.bl (decide (lSeat S.line n < S.line.length))) H'
theorem ok_Shelf_drop (T : Txt K mg) : DOk P w K mg base CX0 2 ("Shelf", some "drop") ["self", "number"] (sp_Shelf_drop K) := by
  refine dok T.d_Shelf_drop sc_Shelf_drop (fun _ _ _ _ _ _ us hl => match us, hl with | [_, _], _ => rfl) (fun vs H Q E h => ?_) (fun cdv A outer s H vs Q E hr h => ?_)
  · obtain ⟨g, S, n, rfl, A, k⟩ := h
    rfl
  · obtain ⟨g, S, n, rfl, A, k⟩ := h
    refine ⟨_, (PSs.nox (pss_cons (ps_set (i := 2) sc_Shelf_drop.nd rfl (Or.inl rfl) (pe_m (pv 0) T.c_Shelf T.m_Shelf_seat (ok_Shelf_seat T) (hr.mono (by decide)) pass0 (pa_cons (pv 1) pa_nil)))
      (pss_cons (ps_if (pt_cmpR op_eq (pv 2) (pe_callB call_len_seq rfl T.b_len PySem.boot_len (pa_cons (pe_f (pv 0) T.c_Shelf T.n_Shelf_line) pa_nil)) (nomark _)) (pss_one (ps_ret pe_bl)) pss_nil)
      (pss_cons (ps_expr (pe_bm PySem.F.plainAttrs_list PySem.F.slot_list_pop PySem.F.type_list_pop mt_popAt (pe_f (pv 0) T.c_Shelf T.n_Shelf_line) (pa_cons (pv 2) pa_nil)))
      (pss_one (ps_ret pe_bl)))))), ?_⟩
    refine ⟨_, rfl, A.o, _, rfl, g, S, n, rfl, A, fun H1 s1 => ?_⟩
    have A1 := A.same s1
    have st1 : Stp [8] g H g H1 := .same s1
    have sz := A.sz
    have hi := A.hi
    have hle := lSeat_le S.line n
    refine ⟨_, rfl, _, rfl, _, A1.f_line, _, _, rfl, .inl (SqL.of A1.ls), rfl, _, rfl, ?_⟩
    by_cases e : lSeat S.line n < S.line.length
    · refine ifF (decide_eq_false fun z => ?_) ?_
      · injection z with z
        rw [List.length_map] at z
        rw [S.len] at e
        omega
      have e2 := e
      rw [S.len] at e2
      have hs : (S.rows.map fun r => V.ref r.1)[lSeat S.line n]? = some (.ref (S.rows[lSeat S.line n]).1) := by rw [List.getElem?_map, List.getElem?_eq_getElem e2]; rfl
      refine ⟨_, rfl, _, A1.f_line, .inl ⟨rfl, _, SqL.of A1.ls⟩, _, rfl, _, _, _, lSeat S.line n, _, rfl, rfl, A1.ls, by omega, by omega, seqIndex_of (by omega) (by rw [List.length_map]; omega), hs, ?_⟩
      have em : (S.rows.map fun r => V.ref r.1).eraseIdx (lSeat S.line n) = (S.rows.eraseIdx (lSeat S.line n)).map fun r => V.ref r.1 := by exact (erase_map _ _ _).symm
      rw [em]
      obtain ⟨s3, A3⟩ := A1.put (S.rows.eraseIdx (lSeat S.line n)) (fun q hq => A1.rw q (List.mem_of_mem_eraseIdx hq)) (by have := len_erase S.rows (lSeat S.line n); omega)
      have q := k _ _ _ (Stp.trans st1 s3) A3 rfl rfl rfl (erase_map _ _ _)
      rw [decide_eq_true e] at q
      exact q
    · have e2 : lSeat S.line n = S.line.length := by omega
      refine ifT (decide_eq_true ?_) ?_
      · rw [List.length_map, ← S.len, e2]
      · have q := k _ _ _ st1 A1 rfl rfl rfl (by unfold lDrop; rw [e2, List.eraseIdx_of_length_le (Nat.le_refl _)])
        rw [decide_eq_false e] at q
        exact q
abbrev N_Shelf_empty : List Str := ["self"]
theorem sc_Shelf_empty : FnScope N_Shelf_empty ["self"] (defScope s_Shelf_empty) := ⟨rfl, rfl, rfl, by decide +kernel, rfl, by decide +kernel, by decide +kernel⟩
def sp_Shelf_empty (K : PySem.W.Frag) : Sp := fun vs H Q _ => ∃ (g : Addr → Nat) (S : Sh), vs = [.ref S.sh] ∧ ShAt K g H S ∧ ∀ l g' H', Stp [7] g H g' H' → ShAt K g' H' { S with ln := l, rows := [] } → Q .non H'
theorem ok_Shelf_empty (T : Txt K mg) : DOk P w K mg base CX0 1 ("Shelf", some "empty") ["self"] (sp_Shelf_empty K) := by
  refine dok T.d_Shelf_empty sc_Shelf_empty (fun _ _ _ _ _ _ us hl => match us, hl with | [_], _ => rfl) (fun vs H Q E h => ?_) (fun cdv A outer s H vs Q E hr h => ?_)
  · obtain ⟨g, S, rfl, A, k⟩ := h
    rfl
  · obtain ⟨g, S, rfl, A, k⟩ := h
    refine ⟨_, (PSs.nox (pss_one (ps_f (pv 0) (pe_lst pa_nil) T.c_Shelf T.n_Shelf_line))), ?_⟩
    obtain ⟨dx, ob⟩ := A.ob
    refine ⟨by show 0 ≤ sizeLine; omega, fun l nl => ?_⟩
    have npl : S.sh ≠ l := ne_of_none ob nl
    refine ⟨_, rfl, _, ⟨S.sh, dx, _, rfl, by rw [upd_ne npl]; exact ob, (by show 2 < 1000; decide), rfl⟩, ?_⟩
    refine k l _ _ (Stp.trans (.new nl 8) (.put (by rw [upd_ne npl]; exact ob) (by rw [tg_ne npl, A.t7]; simp))) ⟨⟨dx, ?_⟩, ?_, (fun r hr => by cases hr), (by rw [tg_ne npl]; exact A.t7), tg_same, A.lo, A.hi, ?_⟩
    · rw [upd_same, pf_sh2]; rfl
    · rw [upd_ne npl.symm, upd_same]; rfl
    · have := A.lo
      show (0 : Int) ≤ S.most
      omega
abbrev N_Shelf_told : List Str := ["self"]
theorem sc_Shelf_told : FnScope N_Shelf_told ["self"] (defScope s_Shelf_told) := ⟨rfl, rfl, rfl, by decide +kernel, rfl, by decide +kernel, by decide +kernel⟩
def sp_Shelf_told (K : PySem.W.Frag) : Sp := fun vs H Q _ => ∃ (g : Addr → Nat) (S : Sh), vs = [.ref S.sh] ∧ ShAt K g H S ∧ ∀ l H', H l = none → Same H H' → H' l = some (.lst (S.rows.map fun r => .ref r.1)) → Q (.ref l) H'
theorem ok_Shelf_told (T : Txt K mg) : DOk P w K mg base CX0 1 ("Shelf", some "told") ["self"] (sp_Shelf_told K) := by
  refine dok T.d_Shelf_told sc_Shelf_told (fun _ _ _ _ _ _ us hl => match us, hl with | [_], _ => rfl) (fun vs H Q E h => ?_) (fun cdv A outer s H vs Q E hr h => ?_)
  · obtain ⟨g, S, rfl, A, k⟩ := h
    rfl
  · obtain ⟨g, S, rfl, A, k⟩ := h
    refine ⟨_, (PSs.nox (pss_one (ps_ret (pe_callTy call_list_of rfl T.b_list (by decide +kernel) (pa_cons (pe_f (pv 0) T.c_Shelf T.n_Shelf_line) pa_nil))))), ?_⟩
    refine ⟨_, rfl, _, A.f_line, _, _, rfl, .inl (SqL.of A.ls), fun l nl => ?_⟩
    exact k l _ nl (same_new nl) upd_same
end
end Sp

set_option Elab.async false
set_option linter.all false
set_option maxRecDepth 100000
set_option maxHeartbeats 4000000
namespace Sp
open PySem PySem.Spec PyProof.Rows L2
section
variable {P : Program} {w : World} {K : PySem.W.Frag} {mg : Str → Option Value} {base : Heap}
theorem pgW_f {F : List Fm} {n : Int} {xs : List Int} : pgWords (fPg F) n = some xs ↔ ∃ (i : Nat) (w : Addr), n = (i : Int) ∧ F[i]? = some (some (w, xs)) := by
  unfold pgWords fPg
  constructor
  · intro h
    by_cases h0 : 0 ≤ n
    · rw [if_pos h0, List.getElem?_map] at h
      cases e : F[n.toNat]? with
      | none => rw [e] at h; cases h
      | some f =>
        rw [e] at h
        cases f with
        | none => cases h
        | some p =>
          obtain ⟨w, ys⟩ := p
          have : ys = xs := by injection h
          subst this
          exact ⟨n.toNat, w, (Int.toNat_of_nonneg h0).symm, e⟩
    · rw [if_neg h0] at h; cases h
  · rintro ⟨i, w, rfl, e⟩
    rw [if_pos (Int.natCast_nonneg i), List.getElem?_map, Int.toNat_natCast, e]
    rfl
theorem pgH_f {F : List Fm} {i : Nat} {f : Fm} (e : F[i]? = some f) : pgHas (fPg F) (i : Int) = f.isSome := by
  unfold pgHas pgWords fPg
  rw [if_pos (Int.natCast_nonneg i), List.getElem?_map, Int.toNat_natCast, e]
  cases f <;> rfl
theorem pgH_lo {ps : List Pg} {n : Int} (h : n < 0) : pgHas ps n = false := by
  unfold pgHas pgWords
  rw [if_neg (by omega)]; rfl
theorem pgH_hi {ps : List Pg} {n : Int} (h : (ps.length : Int) ≤ n) : pgHas ps n = false := by
  unfold pgHas pgWords
  rw [if_pos (by omega), List.getElem?_eq_none (by omega)]; rfl
theorem fPg_len (F : List Fm) : (fPg F).length = F.length := List.length_map ..
theorem flat_ints : ∀ ns : List Int, (ns.map V.int).all flatV = true
  | [] => rfl
  | _ :: r => by rw [List.map_cons, List.all_cons, flat_ints r]; rfl
theorem inV_ints (x : Int) : ∀ ns : List Int, inV (.int x) (ns.map V.int) = decide (x ∈ ns)
  | [] => rfl
  | y :: r => by
    have ih := inV_ints x r
    unfold inV at ih ⊢
    rw [List.map_cons, List.any_cons, ih]
    show ((y == x) || decide (x ∈ r)) = decide (x ∈ y :: r)
    by_cases h : y = x
    · subst h
      rw [beq_self_eq_true, Bool.true_or, decide_eq_true List.mem_cons_self]
    · rw [beq_eq_false_iff_ne.mpr h, Bool.false_or]
      by_cases m : x ∈ r
      · rw [decide_eq_true m, decide_eq_true (List.mem_cons_of_mem _ m)]
      · rw [decide_eq_false m, decide_eq_false fun z => by
          rcases List.mem_cons.mp z with z | z
          · exact h z.symm
          · exact m z]
/-- how many frames are taken -/
def cnt : List Fm → Nat
  | [] => 0
  | none :: r => cnt r
  | some _ :: r => cnt r + 1
theorem cnt_free : ∀ F : List Fm, cnt F < F.length → ∃ i : Nat, F[i]? = some none ∧ ∀ j f, j < i → F[j]? = some f → f ≠ none
  | [], h => absurd h (Nat.not_lt_zero _)
  | none :: r, _ => ⟨0, rfl, fun j f hj => absurd hj (Nat.not_lt_zero _)⟩
  | some p :: r, h => by
    obtain ⟨i, h1, h2⟩ := cnt_free r (by simpa [cnt] using h)
    refine ⟨i + 1, by simpa using h1, fun j f hj e => ?_⟩
    cases j with
    | zero =>
      have : f = some p := by simpa using e.symm
      rw [this]; intro z; cases z
    | succ j => exact h2 j f (by omega) (by simpa using e)
theorem cnt_set_some : ∀ (F : List Fm) (i : Nat) (p : Addr × List Int), F[i]? = some none → cnt (F.set i (some p)) = cnt F + 1
  | [], i, p, h => by simp at h
  | f :: r, 0, p, h => by
    have : f = none := by simpa using h
    subst this; rfl
  | f :: r, i + 1, p, h => by
    have ih := cnt_set_some r i p (by simpa using h)
    cases f <;> simp [cnt, ih]
theorem cnt_set_none : ∀ (F : List Fm) (i : Nat) (p : Addr × List Int), F[i]? = some (some p) → cnt (F.set i none) + 1 = cnt F
  | [], i, p, h => by simp at h
  | f :: r, 0, p, h => by
    have : f = some p := by simpa using h
    subst this; rfl
  | f :: r, i + 1, p, h => by
    have ih := cnt_set_none r i p (by simpa using h)
    cases f <;> simp [cnt] <;> omega
theorem cnt_set_same : ∀ (F : List Fm) (i : Nat) (p q : Addr × List Int), F[i]? = some (some p) → cnt (F.set i (some q)) = cnt F
  | [], i, p, q, h => by simp at h
  | f :: r, 0, p, q, h => by
    have : f = some p := by simpa using h
    subst this; rfl
  | f :: r, i + 1, p, q, h => by
    have ih := cnt_set_same r i p q (by simpa using h)
    cases f <;> simp [cnt, ih]
theorem cnt_none : ∀ n : Nat, cnt (List.replicate n (none : Fm)) = 0
  | 0 => rfl
  | n + 1 => by rw [List.replicate_succ]; exact cnt_none n
section
variable {g g' : Addr → Nat} {H H3 : Hp} {S : Fr}
/-- a frame's stand changes: both lists are written -/
theorem FrAt.chg (A : FrAt K g H S) {i : Nat} {f : Fm} (hi : i < S.F.length) (hk : ∀ b, b ≠ S.hl → b ≠ S.ol → H3 b = H b) (h2 : H3 S.hl = some (.lst ((S.F.map Fm.v).set i f.v))) (h3 : H3 S.ol = some (.lst ((S.F.map Fm.n).map V.int |>.set i (.int f.n))))
    (hnew : ∀ w xs, f = some (w, xs) → H w = some (.lst (xs.map V.int)) ∧ xs.length = 8 ∧ (∀ x ∈ xs, IsWord x) ∧ g w = 4 ∧ ∀ (j : Nat) ys, S.F[j]? ≠ some (some (w, ys))) :
    Stp [2, 3] g H g H3 ∧ FrAt K g H3 { S with F := S.F.set i f } := by
  obtain ⟨dx, ob⟩ := A.ob
  have keep : ∀ b o, H b = some o → g b ≠ 2 → g b ≠ 3 → H3 b = some o := fun b o e n2 n3 => by
    rw [hk b (fun z => n2 (z ▸ A.t2)) (fun z => n3 (z ▸ A.t3))]; exact e
  have key : ∀ (k : Nat) (w' : Addr) (zs : List Int), (S.F.set i f)[k]? = some (some (w', zs)) → (k = i ∧ f = some (w', zs)) ∨ (k ≠ i ∧ S.F[k]? = some (some (w', zs))) := fun k w' zs q => by
    rw [List.getElem?_set] at q
    by_cases hk : i = k
    · subst hk
      rw [if_pos rfl, if_pos hi] at q
      exact .inl ⟨rfl, by injection q⟩
    · rw [if_neg hk] at q
      exact .inr ⟨fun z => hk z.symm, q⟩
  refine ⟨⟨fun b o e hn => ?_, fun b o e => ⟨?_, rfl⟩, fun w b hb => ?_⟩, ⟨⟨dx, keep _ _ ob (by rw [A.t1]; decide) (by rw [A.t1]; decide)⟩, by rw [h2]; show _ = some (HO.lst ((S.F.set i f).map Fm.v)); rw [List.map_set],
    by rw [h3]; show _ = some (HO.lst (((S.F.set i f).map Fm.n).map V.int)); rw [List.map_set, List.map_set], fun k w xs q => ?_, fun k j w as bs q1 q2 => ?_, A.t1, A.t2, A.t3, by rw [List.length_set]; exact A.sz⟩⟩
  · exact keep b o e (fun z => hn (by rw [z]; simp)) fun z => hn (by rw [z]; simp)
  · by_cases e2 : b = S.hl
    · subst e2; exact ⟨_, h2⟩
    · by_cases e3 : b = S.ol
      · subst e3; exact ⟨_, h3⟩
      · exact ⟨o, by rw [hk b e2 e3]; exact e⟩
  · by_cases e2 : b = S.hl
    · subst e2; exact ⟨_, h2⟩
    · by_cases e3 : b = S.ol
      · subst e3; exact ⟨_, h3⟩
      · obtain ⟨o, e⟩ := w b hb
        exact ⟨o, by rw [hk b e2 e3]; exact e⟩
  · rcases key k w xs q with ⟨_, hf⟩ | ⟨_, hf⟩
    · obtain ⟨a1, a2, a3, a4, _⟩ := hnew w xs hf
      exact ⟨keep _ _ a1 (by rw [a4]; decide) (by rw [a4]; decide), a2, a3, a4⟩
    · obtain ⟨a1, a2, a3, a4⟩ := A.ws k w xs hf
      exact ⟨keep _ _ a1 (by rw [a4]; decide) (by rw [a4]; decide), a2, a3, a4⟩
  · rcases key k w as q1 with ⟨e1, f1⟩ | ⟨_, f1⟩
    · rcases key j w bs q2 with ⟨e2, f2⟩ | ⟨_, f2⟩
      · rw [e1, e2]
      · exact absurd f2 ((hnew w as f1).2.2.2.2 j bs)
    · rcases key j w bs q2 with ⟨e2, f2⟩ | ⟨_, f2⟩
      · exact absurd f1 ((hnew w bs f2).2.2.2.2 k as)
      · exact A.inj k j w as bs f1 f2
theorem FrAt.tkl (A : FrAt K g H S) {i : Nat} {f : Fm} (e : S.F[i]? = some f) : ((S.F.map Fm.n).map V.int)[i]? = some (.int f.n) ∧ (S.F.map Fm.v)[i]? = some f.v := by
  constructor
  · rw [List.getElem?_map, List.getElem?_map, e]; rfl
  · rw [List.getElem?_map, e]; rfl
end
def zeros : List Int := [0, 0, 0, 0, 0, 0, 0, 0]
theorem zeros_w : ∀ x ∈ zeros, IsWord x := by
  intro x hx
  simp [zeros] at hx
  subst hx
  exact ⟨by decide, by decide⟩
abbrev N_Frames_init : List Str := ["self", "many"]
theorem sc_Frames_init : FnScope N_Frames_init ["self", "many"] (defScope s_Frames_init) := ⟨rfl, rfl, rfl, by decide +kernel, rfl, by decide +kernel, by decide +kernel⟩
def sp_Frames_init (K : PySem.W.Frag) : Sp := fun vs H Q _ => ∃ (p dx : Addr) (m : Nat) (g : Addr → Nat), vs = [.ref p, .int (m : Int)] ∧ 1 ≤ m ∧ m ≤ 200 ∧ H p = some (.ins (He.ga K "Frames") dx []) ∧ g p = 1 ∧
  ∀ hl ol g' H', Stp [1] g H g' H' → FrAt K g' H' ⟨p, hl, ol, List.replicate m none, 0⟩ → Q .non H'
theorem ok_Frames_init (T : Txt K mg) : DOk P w K mg base CX0 2 ("Frames", some "__init__") ["self", "many"] (sp_Frames_init K) := by
  refine dok T.d_Frames_init sc_Frames_init (fun _ _ _ _ _ _ us hl => match us, hl with | [_, _], _ => rfl) (fun vs H Q E h => ?_) (fun cdv A outer s H vs Q E hr h => ?_)
  · obtain ⟨p, dx, m, g, rfl, h1, h2, hp, t1, k⟩ := h
    rfl
  · obtain ⟨p, dx, m, g, rfl, h1, h2, hp, t1, k⟩ := h
    refine ⟨_, (PSs.nox (pss_cons (ps_if (PW.pt (pw_or (pt_not (pt_val (pe_g (ok_is_whole T) (hr.mono (by decide)) T.g_is_whole pass0 (pa_cons (pv 1) pa_nil)))) (pw_or (pt_cmpR op_lt (pv 1) pe_int (nomark _)) (pw_or1 (pt_cmpR op_gt (pv 1) (pe_ic T.i_MOST_FRAMES) (nomark _)))))) (pss_one ps_never) pss_nil)
      (pss_cons (ps_f (pv 0) (pe_op op_rep (pe_lst (pa_cons pe_non pa_nil)) (pv 1)) T.c_Frames T.n_Frames_held)
      (pss_cons (ps_f (pv 0) (pe_op op_rep (pe_lst (pa_cons pe_int pa_nil)) (pv 1)) T.c_Frames T.n_Frames_owned)
      (pss_one (ps_f (pv 0) pe_int T.c_Frames T.n_Frames_pledged)))))), ?_⟩
    refine ⟨_, rfl, _, rfl, true, rfl, iteF ⟨_, rfl, _, _, rfl, rfl, _, rfl, ifF (decide_eq_false (by omega)) ⟨_, rfl, _, _, rfl, rfl, _, rfl, ifF (decide_eq_false (by omega)) ?_⟩⟩⟩
    refine ⟨by show 1 ≤ sizeLine; decide, fun l0 n0 => ⟨_, rfl, l0, _, _, rfl, rfl, upd_same, by omega, by omega, ?_, fun l nl => ?_⟩⟩
    · have : ([V.non].length * (m : Int).toNat) = m := by rw [Int.toNat_natCast]; show 1 * m = m; omega
      rw [this]; exact Nat.le_of_lt (small1000 (by omega))
    have npl0 : p ≠ l0 := ne_of_none hp n0
    obtain ⟨nll0, nl1⟩ := upd_none nl
    have npl : p ≠ l := ne_of_none hp nl1
    refine ⟨_, rfl, _, ⟨p, dx, _, rfl, by rw [upd_ne npl, upd_ne npl0]; exact hp, (by show 0 < 1000; decide), rfl⟩, ?_⟩
    refine ⟨by show 1 ≤ sizeLine; decide, fun o0 m0 => ⟨_, rfl, o0, _, _, rfl, rfl, upd_same, by omega, by omega, ?_, fun ol mol => ?_⟩⟩
    · have : ([V.int 0].length * (m : Int).toNat) = m := by rw [Int.toNat_natCast]; show 1 * m = m; omega
      rw [this]; exact Nat.le_of_lt (small1000 (by omega))
    obtain ⟨nop, m1⟩ := upd_none m0
    obtain ⟨nol, m2⟩ := upd_none m1
    obtain ⟨nol0, m3⟩ := upd_none m2
    obtain ⟨qo, r0⟩ := upd_none mol
    obtain ⟨qp, r1⟩ := upd_none r0
    obtain ⟨ql, r2⟩ := upd_none r1
    obtain ⟨ql0, r3⟩ := upd_none r2
    refine ⟨_, rfl, _, ⟨p, dx, _, rfl, by rw [upd_ne qp.symm, upd_ne nop.symm]; exact upd_same, (by show 1 < 1000; decide), rfl⟩, ?_⟩
    refine ⟨_, rfl, _, ⟨p, dx, _, rfl, upd_same, (by show 2 < 1000; decide), rfl⟩, ?_⟩
    have e1 : (List.replicate (m : Int).toNat [V.non]).flatten = (List.replicate m (none : Fm)).map Fm.v := by
      rw [Int.toNat_natCast, List.map_replicate]; simp [Fm.v]
    have e2 : (List.replicate (m : Int).toNat [V.int 0]).flatten = ((List.replicate m (none : Fm)).map Fm.n).map V.int := by
      rw [Int.toNat_natCast, List.map_replicate, List.map_replicate]; simp [Fm.n]
    refine k l ol (tg (tg g l 2) ol 3) _ (.made (p := p) (fun b o e hb => ?_) ⟨_, upd_same⟩ (by rw [t1]; simp) (fun b hb => ?_)) ⟨⟨dx, by rw [upd_same]; rfl⟩, ?_, ?_, fun i w xs e => ?_, fun i j w xs ys e => ?_, by rw [tg_ne qp.symm, tg_ne npl]; exact t1, by rw [tg_ne ql.symm]; exact tg_same, tg_same, by rw [List.length_replicate]; exact h2⟩
    · have a1 := ne_of_none e n0
      have a2 := ne_of_none e nl1
      have a3 := ne_of_none e m3
      have a4 := ne_of_none e r3
      rw [upd_ne hb, upd_ne hb, upd_ne a4, upd_ne a3, upd_ne hb, upd_ne a2, upd_ne a1]; exact e
    · by_cases b1 : b = ol
      · subst b1
        exact ⟨r3, _, by rw [upd_ne qp, upd_ne qp]; exact upd_same⟩
      · by_cases b2 : b = l
        · subst b2
          exact ⟨nl1, _, by rw [upd_ne npl.symm, upd_ne npl.symm, upd_ne ql.symm, upd_ne nol.symm, upd_ne npl.symm]; exact upd_same⟩
        · rw [tg_ne b1, tg_ne b2] at hb
          exact absurd rfl hb
    · rw [upd_ne npl.symm, upd_ne npl.symm, upd_ne ql.symm, upd_ne nol.symm, upd_ne npl.symm, upd_same]
      exact congrArg (fun z => some (HO.lst z)) e1
    · rw [upd_ne qp, upd_ne qp, upd_same]
      exact congrArg (fun z => some (HO.lst z)) e2
    · rw [List.getElem?_replicate] at e
      split at e <;> cases e
    · rw [List.getElem?_replicate] at e
      split at e <;> cases e
abbrev N_Frames_size : List Str := ["self"]
theorem sc_Frames_size : FnScope N_Frames_size ["self"] (defScope s_Frames_size) := ⟨rfl, rfl, rfl, by decide +kernel, rfl, by decide +kernel, by decide +kernel⟩
def sp_Frames_size (K : PySem.W.Frag) : Sp := fun vs H Q _ => ∃ (g : Addr → Nat) (S : Fr), vs = [.ref S.fr] ∧ FrAt K g H S ∧ Q (.int (S.F.length : Nat)) H
theorem ok_Frames_size (T : Txt K mg) : DOk P w K mg base CX0 1 ("Frames", some "size") ["self"] (sp_Frames_size K) := by
  refine dok T.d_Frames_size sc_Frames_size (fun _ _ _ _ _ _ us hl => match us, hl with | [_], _ => rfl) (fun vs H Q E h => ?_) (fun cdv A outer s H vs Q E hr h => ?_)
  · obtain ⟨g, S, rfl, A, k⟩ := h
    rfl
  · obtain ⟨g, S, rfl, A, k⟩ := h
    refine ⟨_, (PSs.nox (pss_one (ps_ret (pe_callB call_len_seq rfl T.b_len PySem.boot_len (pa_cons (pe_f (pv 0) T.c_Frames T.n_Frames_owned) pa_nil))))), ?_⟩
    refine ⟨_, rfl, _, A.f_owned, _, _, rfl, .inl (SqL.of A.ow), ?_⟩
    rw [List.length_map, List.length_map]
    exact k
abbrev N_Frames_has : List Str := ["self", "page"]
theorem sc_Frames_has : FnScope N_Frames_has ["self", "page"] (defScope s_Frames_has) := ⟨rfl, rfl, rfl, by decide +kernel, rfl, by decide +kernel, by decide +kernel⟩
def sp_Frames_has (K : PySem.W.Frag) : Sp := fun vs H Q _ => ∃ (g : Addr → Nat) (S : Fr) (n : Int), vs = [.ref S.fr, .int n] ∧ FrAt K g H S ∧ Q (.bl (pgHas (fPg S.F) n)) H
theorem ok_Frames_has (T : Txt K mg) : DOk P w K mg base CX0 3 ("Frames", some "has") ["self", "page"] (sp_Frames_has K) := by
  refine dok T.d_Frames_has sc_Frames_has (fun _ _ _ _ _ _ us hl => match us, hl with | [_, _], _ => rfl) (fun vs H Q E h => ?_) (fun cdv A outer s H vs Q E hr h => ?_)
  · obtain ⟨g, S, n, rfl, A, k⟩ := h
    rfl
  · obtain ⟨g, S, n, rfl, A, k⟩ := h
    refine ⟨_, (PSs.nox (pss_one (ps_ret (pe_and (pe_g (ok_is_below T) (hr.mono (by decide)) T.g_is_below pass0 (pa_cons (pv 1) (pa_cons (pe_callB call_len_seq rfl T.b_len PySem.boot_len (pa_cons (pe_f (pv 0) T.c_Frames T.n_Frames_owned) pa_nil)) pa_nil))) (pe_one (pe_cmpR op_gt (pe_ix ix_list (pe_f (pv 0) T.c_Frames T.n_Frames_owned) (pv 1) (fun _ _ => rfl)) pe_int (nomark _))))))), ?_⟩
    refine ⟨_, rfl, _, rfl, _, A.f_owned, _, _, rfl, .inl (SqL.of A.ow), _, _, rfl, _, rfl, ?_⟩
    rw [List.length_map, List.length_map]
    by_cases h0 : 0 ≤ n
    · by_cases h1 : n < S.F.length
      · obtain ⟨i, rfl⟩ : ∃ i : Nat, n = (i : Int) := ⟨n.toNat, (Int.toNat_of_nonneg h0).symm⟩
        have hi : i < S.F.length := by omega
        have e : S.F[i]? = some S.F[i] := List.getElem?_eq_getElem hi
        refine ifT (by rw [decide_eq_true h0, decide_eq_true h1]; rfl) ⟨_, rfl, _, A.f_owned, _, rfl, _, _, _, _, rfl, rfl, SqL.of A.ow, atI_nat (A.tkl e).1, _, _, rfl, rfl, ?_⟩
        rw [pgH_f e] at k
        cases ef : S.F[i] with
        | none => rw [ef] at k; exact k
        | some p => rw [ef] at k; exact k
      · rw [pgH_hi (by rw [fPg_len]; omega)] at k
        exact ifF (by rw [decide_eq_false h1, Bool.and_false]) k
    · rw [pgH_lo (by omega)] at k
      exact ifF (by rw [decide_eq_false h0]; rfl) k
abbrev N_Frames_look_at : List Str := ["self", "page", "cell"]
theorem sc_Frames_look_at : FnScope N_Frames_look_at ["self", "page", "cell"] (defScope s_Frames_look_at) := ⟨rfl, rfl, rfl, by decide +kernel, rfl, by decide +kernel, by decide +kernel⟩
def sp_Frames_look_at (K : PySem.W.Frag) : Sp := fun vs H Q _ => ∃ (g : Addr → Nat) (S : Fr) (n c : Int), vs = [.ref S.fr, .int n, .int c] ∧ FrAt K g H S ∧ pgHas (fPg S.F) n = true ∧ 0 ≤ c ∧ c < 8 ∧ Q .non H
theorem ok_Frames_look_at (T : Txt K mg) : DOk P w K mg base CX0 4 ("Frames", some "look_at") ["self", "page", "cell"] (sp_Frames_look_at K) := by
  refine dok T.d_Frames_look_at sc_Frames_look_at (fun _ _ _ _ _ _ us hl => match us, hl with | [_, _, _], _ => rfl) (fun vs H Q E h => ?_) (fun cdv A outer s H vs Q E hr h => ?_)
  · obtain ⟨g, S, n, c, rfl, A, hn, h0, h1, k⟩ := h
    rfl
  · obtain ⟨g, S, n, c, rfl, A, hn, h0, h1, k⟩ := h
    refine ⟨_, (PSs.nox (pss_cons (ps_if (pt_not (pt_val (pe_m (pv 0) T.c_Frames T.m_Frames_has (ok_Frames_has T) (hr.mono (by decide)) pass0 (pa_cons (pv 1) pa_nil)))) (pss_one ps_never) pss_nil)
      (pss_one (ps_if (pt_not (pt_val (pe_g (ok_is_below T) (hr.mono (by decide)) T.g_is_below pass0 (pa_cons (pv 2) (pa_cons (pe_ic T.i_CELLS) pa_nil))))) (pss_one ps_never) pss_nil)))), ?_⟩
    refine ⟨_, rfl, A.o, _, rfl, g, S, n, rfl, A, _, rfl, ?_⟩
    rw [hn]
    refine iteF ⟨_, rfl, _, _, rfl, _, rfl, ?_⟩
    rw [decide_eq_true h0, decide_eq_true h1]
    exact iteF k
abbrev N_Frames_read : List Str := ["self", "page", "cell"]
theorem sc_Frames_read : FnScope N_Frames_read ["self", "page", "cell"] (defScope s_Frames_read) := ⟨rfl, rfl, rfl, by decide +kernel, rfl, by decide +kernel, by decide +kernel⟩
def sp_Frames_read (K : PySem.W.Frag) : Sp := fun vs H Q _ => ∃ (g : Addr → Nat) (S : Fr) (n c : Int), vs = [.ref S.fr, .int n, .int c] ∧ FrAt K g H S ∧ pgHas (fPg S.F) n = true ∧ 0 ≤ c ∧ c < 8 ∧ Q (.int (pgRd (fPg S.F) n c)) H
theorem ok_Frames_read (T : Txt K mg) : DOk P w K mg base CX0 5 ("Frames", some "read") ["self", "page", "cell"] (sp_Frames_read K) := by
  refine dok T.d_Frames_read sc_Frames_read (fun _ _ _ _ _ _ us hl => match us, hl with | [_, _, _], _ => rfl) (fun vs H Q E h => ?_) (fun cdv A outer s H vs Q E hr h => ?_)
  · obtain ⟨g, S, n, c, rfl, A, hn, h0, h1, k⟩ := h
    rfl
  · obtain ⟨g, S, n, c, rfl, A, hn, h0, h1, k⟩ := h
    refine ⟨_, (PSs.nox (pss_cons (ps_expr (pe_m (pv 0) T.c_Frames T.m_Frames_look_at (ok_Frames_look_at T) (hr.mono (by decide)) pass0 (pa_cons (pv 1) (pa_cons (pv 2) pa_nil))))
      (pss_one (ps_ret (pe_ix ix_list (pe_ix ix_list (pe_f (pv 0) T.c_Frames T.n_Frames_held) (pv 1) (fun _ _ => rfl)) (pv 2) (fun _ _ => rfl)))))), ?_⟩
    refine ⟨_, rfl, A.o, _, rfl, _, rfl, g, S, n, c, rfl, A, hn, h0, h1, ?_⟩
    obtain ⟨xs, ex⟩ := Option.isSome_iff_exists.mp hn
    obtain ⟨i, w, rfl, e⟩ := pgW_f.mp ex
    obtain ⟨a1, a2, _, _⟩ := A.ws i w xs e
    obtain ⟨j, rfl⟩ : ∃ j : Nat, c = (j : Int) := ⟨c.toNat, (Int.toNat_of_nonneg h0).symm⟩
    have hj : j < xs.length := by omega
    refine ⟨_, rfl, _, A.f_held, _, rfl, _, _, _, _, rfl, rfl, SqL.of A.hd, atI_nat (A.tkl e).2, _, rfl, _, _, _, _, rfl, rfl, SqL.of a1, atI_nat (v := .int xs[j]) (by rw [List.getElem?_map, List.getElem?_eq_getElem hj]; rfl), ?_⟩
    have er : pgRd (fPg S.F) (i : Int) (j : Int) = xs[j] := by
      unfold pgRd
      rw [ex, Int.toNat_natCast]
      show xs.getD j 0 = _
      rw [List.getD_eq_getElem?_getD, List.getElem?_eq_getElem hj]; rfl
    rw [er] at k
    exact k
abbrev N_Frames_write : List Str := ["self", "page", "cell", "word"]
theorem sc_Frames_write : FnScope N_Frames_write ["self", "page", "cell", "word"] (defScope s_Frames_write) := ⟨rfl, rfl, rfl, by decide +kernel, rfl, by decide +kernel, by decide +kernel⟩
def sp_Frames_write (K : PySem.W.Frag) : Sp := fun vs H Q _ => ∃ (g : Addr → Nat) (S : Fr) (i j : Nat) (x : Int) (w : Addr) (xs : List Int), vs = [.ref S.fr, .int (i : Int), .int (j : Int), .int x] ∧ FrAt K g H S ∧ S.F[i]? = some (some (w, xs)) ∧ j < 8 ∧ IsWord x ∧
  ∀ H', Stp [4] g H g H' → FrAt K g H' { S with F := S.F.set i (some (w, xs.set j x)) } → Q .non H'
theorem ok_Frames_write (T : Txt K mg) : DOk P w K mg base CX0 5 ("Frames", some "write") ["self", "page", "cell", "word"] (sp_Frames_write K) := by
  refine dok T.d_Frames_write sc_Frames_write (fun _ _ _ _ _ _ us hl => match us, hl with | [_, _, _, _], _ => rfl) (fun vs H Q E h => ?_) (fun cdv A outer s H vs Q E hr h => ?_)
  · obtain ⟨g, S, i, j, x, w, xs, rfl, A, e, hj, hx, k⟩ := h
    rfl
  · obtain ⟨g, S, i, j, x, w, xs, rfl, A, e, hj, hx, k⟩ := h
    refine ⟨_, (PSs.nox (pss_cons (ps_expr (pe_m (pv 0) T.c_Frames T.m_Frames_look_at (ok_Frames_look_at T) (hr.mono (by decide)) pass0 (pa_cons (pv 1) (pa_cons (pv 2) pa_nil))))
      (pss_cons (ps_if (pt_not (pt_val (pe_g (ok_is_word T) (hr.mono (by decide)) T.g_is_word pass0 (pa_cons (pv 3) pa_nil)))) (pss_one ps_never) pss_nil)
      (pss_one (ps_asg (pv 3) (pg_sub (pe_ix ix_list (pe_f (pv 0) T.c_Frames T.n_Frames_held) (pv 1) (fun _ _ => rfl)) (pv 2) set_list)))))), ?_⟩
    have hn : pgHas (fPg S.F) (i : Int) = true := pgH_f e
    obtain ⟨a1, a2, a3, _⟩ := A.ws i w xs e
    refine ⟨_, rfl, A.o, _, rfl, _, rfl, g, S, _, _, rfl, A, hn, by omega, by omega, ?_⟩
    refine ⟨_, rfl, x, rfl, hx, _, rfl, iteF ?_⟩
    refine ⟨_, rfl, _, rfl, _, A.f_held, _, rfl, _, _, _, _, rfl, rfl, SqL.of A.hd, atI_nat (A.tkl e).2, _, rfl, w, _, _, j, rfl, rfl, a1, ixN_nat (by rw [List.length_map]; omega), ?_⟩
    have e2 : (xs.map V.int).set j (.int x) = (xs.set j x).map V.int := by rw [List.map_set]
    rw [e2]
    obtain ⟨s, A2⟩ := A.set e (ys := xs.set j x) (by rw [List.length_set]; exact a2) (fun y hy => by
      rcases List.mem_or_eq_of_mem_set hy with h | h
      · exact a3 y h
      · rw [h]; exact hx)
    exact k _ s A2
abbrev N_Frames_take : List Str := ["self", "frame"]
theorem sc_Frames_take : FnScope N_Frames_take ["self"] (defScope s_Frames_take) := ⟨rfl, rfl, rfl, by decide +kernel, rfl, by decide +kernel, by decide +kernel⟩
def sp_Frames_take (K : PySem.W.Frag) : Sp := fun vs H Q _ => ∃ (g : Addr → Nat) (S : Fr), vs = [.ref S.fr] ∧ FrAt K g H S ∧ cnt S.F < S.F.length ∧
  ∀ (i : Nat) w g' H', S.F[i]? = some none → H w = none → Stp [2, 3, 4] g H g' H' → FrAt K g' H' { S with F := S.F.set i (some (w, zeros)) } → Q (.int (i : Int)) H'
theorem ok_Frames_take (T : Txt K mg) : DOk P w K mg base CX0 1 ("Frames", some "take") ["self"] (sp_Frames_take K) := by
  refine dok T.d_Frames_take sc_Frames_take (fun _ _ _ _ _ _ us hl => match us, hl with | [_], _ => rfl) (fun vs H Q E h => ?_) (fun cdv A outer s H vs Q E hr h => ?_)
  · obtain ⟨g, S, rfl, A, hc, k⟩ := h
    rfl
  · obtain ⟨g, S, rfl, A, hc, k⟩ := h
    refine ⟨_, (PSs.nox (pss_cons (ps_if (pt_cmpR op_notIn_seq pe_int (pe_f (pv 0) T.c_Frames T.n_Frames_owned) (by rfl)) (pss_one ps_never) pss_nil)
      (pss_cons (ps_set (i := 1) sc_Frames_take.nd rfl (Or.inl rfl) (pe_bm PySem.F.plainAttrs_list PySem.F.slot_list_index PySem.F.type_list_index mt_index (pe_f (pv 0) T.c_Frames T.n_Frames_owned) (pa_cons pe_int pa_nil)))
      (pss_cons (ps_asg (pe_op op_rep (pe_lst (pa_cons pe_int pa_nil)) (pe_ic T.i_CELLS)) (pg_sub (pe_f (pv 0) T.c_Frames T.n_Frames_held) (pv 1) set_list))
      (pss_cons (ps_asg pe_int (pg_sub (pe_f (pv 0) T.c_Frames T.n_Frames_owned) (pv 1) set_list))
      (pss_one (ps_ret (pv 1)))))))), ?_⟩
    obtain ⟨i, hi, hb⟩ := cnt_free S.F hc
    have hlt : i < S.F.length := (List.getElem?_eq_some_iff.mp hi).1
    have hm : (0 : Int) ∈ S.F.map Fm.n := List.mem_map.mpr ⟨none, List.mem_of_getElem? hi, rfl⟩
    refine ⟨_, rfl, _, A.f_owned, _, _, rfl, .inl (SqL.of A.ow), rfl, flat_ints _, _, rfl, ?_⟩
    refine ifF (by rw [inV_ints, decide_eq_true hm]; rfl) ?_
    refine ⟨_, rfl, _, A.f_owned, .inl ⟨rfl, _, SqL.of A.ow⟩, _, _, _, i, _, rfl, rfl, SqL.of A.ow, rfl, flat_ints _, (A.tkl hi).1, rfl, fun m z' hm' e' => ?_, ?_⟩
    · rw [List.getElem?_map, List.getElem?_map] at e'
      cases ef : S.F[m]? with
      | none => rw [ef] at e'; cases e'
      | some f =>
        rw [ef] at e'
        cases f with
        | none => exact absurd rfl (hb m none hm' ef)
        | some p =>
          have : z' = V.int 1 := by injection e' with e'; exact e'.symm
          rw [this]; rfl
    refine ⟨by show 1 ≤ sizeLine; decide, fun l0 n0 => ⟨l0, _, _, rfl, rfl, upd_same, by decide, by decide, by decide, fun w nw => ?_⟩⟩
    have ez : (List.replicate (8 : Int).toNat [V.int 0]).flatten = zeros.map V.int := rfl
    have nw0 : H w = none := (same_new n0).free nw
    have A1 := A.stp (T := []) (Stp.trans (g := g) (.new0 (o := .lst [.int 0]) n0) (.new (o := .lst (zeros.map V.int)) nw 4)) (by simp)
    refine ⟨_, rfl, _, A1.f_held, _, rfl, _, _, _, i, rfl, rfl, A1.hd, ixN_nat (by rw [List.length_map]; exact hlt), ?_⟩
    have A2o : (upd (upd (upd H l0 (.lst [.int 0])) w (.lst (zeros.map V.int))) S.hl (.lst ((S.F.map Fm.v).set i (.ref w)))) S.ol = some (.lst ((S.F.map Fm.n).map V.int)) := by
      rw [upd_ne (tne A1.t3 A1.t2)]; exact A1.ow
    obtain ⟨dx, ob⟩ := A1.ob
    have fo : Fld K "Frames" "owned" (upd (upd (upd H l0 (.lst [.int 0])) w (.lst (zeros.map V.int))) S.hl (.lst ((S.F.map Fm.v).set i (.ref w)))) (.ref S.fr) (.ref S.ol) := ⟨_, dx, _, rfl, by rw [upd_ne (tne A1.t1 A1.t2)]; exact ob, lk_fr2 S⟩
    refine ⟨_, rfl, _, fo, _, rfl, _, _, _, i, rfl, rfl, A2o, ixN_nat (by rw [List.length_map, List.length_map]; exact hlt), _, rfl, ?_⟩
    obtain ⟨s, A3⟩ := A1.chg (i := i) (f := some (w, zeros)) (H3 := upd (upd (upd (upd H l0 (.lst [.int 0])) w (.lst (zeros.map V.int))) S.hl (.lst ((S.F.map Fm.v).set i (.ref w)))) S.ol (.lst (((S.F.map Fm.n).map V.int).set i (.int 1)))) hlt
      (fun b h1 h2 => by rw [upd_ne h2, upd_ne h1]) (by rw [upd_ne (tne A1.t2 A1.t3), upd_same]; rfl) (by rw [upd_same]; rfl)
      (fun w' xs e => by
        have e1 : w = w' := by injection e with e; injection e
        have e2 : zeros = xs := by injection e with e; injection e
        subst e1 e2
        refine ⟨upd_same, rfl, zeros_w, tg_same, fun j ys hj => ?_⟩
        have := (A.ws j w ys hj).1
        rw [nw0] at this; cases this)
    exact k i w _ _ hi nw0 (Stp.trans (Stp.trans (.new0 n0) (.new nw 4)) (s.mono (by simp))) A3
abbrev N_Frames_look_up : List Str := ["self", "frame"]
theorem sc_Frames_look_up : FnScope N_Frames_look_up ["self", "frame"] (defScope s_Frames_look_up) := ⟨rfl, rfl, rfl, by decide +kernel, rfl, by decide +kernel, by decide +kernel⟩
def sp_Frames_look_up (K : PySem.W.Frag) : Sp := fun vs H Q _ => ∃ (g : Addr → Nat) (S : Fr) (n : Int), vs = [.ref S.fr, .int n] ∧ FrAt K g H S ∧ pgHas (fPg S.F) n = true ∧ Q .non H
theorem ok_Frames_look_up (T : Txt K mg) : DOk P w K mg base CX0 4 ("Frames", some "look_up") ["self", "frame"] (sp_Frames_look_up K) := by
  refine dok T.d_Frames_look_up sc_Frames_look_up (fun _ _ _ _ _ _ us hl => match us, hl with | [_, _], _ => rfl) (fun vs H Q E h => ?_) (fun cdv A outer s H vs Q E hr h => ?_)
  · obtain ⟨g, S, n, rfl, A, hn, k⟩ := h
    rfl
  · obtain ⟨g, S, n, rfl, A, hn, k⟩ := h
    refine ⟨_, (PSs.nox (pss_one (ps_if (pt_not (pt_val (pe_m (pv 0) T.c_Frames T.m_Frames_has (ok_Frames_has T) (hr.mono (by decide)) pass0 (pa_cons (pv 1) pa_nil)))) (pss_one ps_never) pss_nil))), ?_⟩
    refine ⟨_, rfl, A.o, _, rfl, g, S, n, rfl, A, _, rfl, ?_⟩
    rw [hn]
    exact iteF k
abbrev N_Frames_drop : List Str := ["self", "frame"]
theorem sc_Frames_drop : FnScope N_Frames_drop ["self", "frame"] (defScope s_Frames_drop) := ⟨rfl, rfl, rfl, by decide +kernel, rfl, by decide +kernel, by decide +kernel⟩
def sp_Frames_drop (K : PySem.W.Frag) : Sp := fun vs H Q _ => ∃ (g : Addr → Nat) (S : Fr) (i : Nat) (p : Addr × List Int), vs = [.ref S.fr, .int (i : Int)] ∧ FrAt K g H S ∧ S.F[i]? = some (some p) ∧
  ∀ H', Stp [2, 3] g H g H' → FrAt K g H' { S with F := S.F.set i none } → Q .non H'
theorem ok_Frames_drop (T : Txt K mg) : DOk P w K mg base CX0 5 ("Frames", some "drop") ["self", "frame"] (sp_Frames_drop K) := by
  refine dok T.d_Frames_drop sc_Frames_drop (fun _ _ _ _ _ _ us hl => match us, hl with | [_, _], _ => rfl) (fun vs H Q E h => ?_) (fun cdv A outer s H vs Q E hr h => ?_)
  · obtain ⟨g, S, i, p, rfl, A, e, k⟩ := h
    rfl
  · obtain ⟨g, S, i, p, rfl, A, e, k⟩ := h
    refine ⟨_, (PSs.nox (pss_cons (ps_expr (pe_m (pv 0) T.c_Frames T.m_Frames_look_up (ok_Frames_look_up T) (hr.mono (by decide)) pass0 (pa_cons (pv 1) pa_nil)))
      (pss_cons (ps_augS (pe_f (pv 0) T.c_Frames T.n_Frames_owned) (pv 1) get_listP pe_int ip_sub set_list)
      (pss_one (ps_if (pt_cmpR op_eq (pe_ix ix_list (pe_f (pv 0) T.c_Frames T.n_Frames_owned) (pv 1) (fun _ _ => rfl)) pe_int (nomark _)) (pss_one (ps_asg pe_non (pg_sub (pe_f (pv 0) T.c_Frames T.n_Frames_held) (pv 1) set_list))) pss_nil))))), ?_⟩
    have hlt : i < S.F.length := (List.getElem?_eq_some_iff.mp e).1
    refine ⟨_, rfl, A.o, _, rfl, g, S, _, rfl, A, pgH_f e, ?_⟩
    refine ⟨_, rfl, _, A.f_owned, _, rfl, _, _, i, _, rfl, rfl, SqL.of A.ow, (A.tkl e).1, 1, 1, rfl, rfl, _, _, _, i, rfl, rfl, A.ow, ixN_nat (by rw [List.length_map, List.length_map]; exact hlt), ?_⟩
    obtain ⟨dx, ob⟩ := A.ob
    have L2 : (upd H S.ol (.lst (((S.F.map Fm.n).map V.int).set i (.int (1 - 1))))) S.ol = some (.lst (((S.F.map Fm.n).map V.int).set i (.int (1 - 1)))) := upd_same
    have fo : ∀ o, (upd H S.ol o) S.fr = some (.ins (He.ga K "Frames") dx (fsFr S)) := fun o => by rw [upd_ne (tne A.t1 A.t3)]; exact ob
    refine ⟨_, rfl, _, ⟨_, dx, _, rfl, fo _, lk_fr2 S⟩, _, rfl, _, _, _, _, rfl, rfl, SqL.of L2, atI_nat (List.getElem?_set_self (by rw [List.length_map, List.length_map]; exact hlt)), rfl, _, rfl, ?_⟩
    refine ifT (by decide) ⟨_, rfl, _, ⟨_, dx, _, rfl, fo _, lk_fr1 S⟩, _, rfl, _, _, _, i, rfl, rfl, by rw [upd_ne (tne A.t2 A.t3)]; exact A.hd, ixN_nat (by rw [List.length_map]; exact hlt), ?_⟩
    obtain ⟨s, A3⟩ := A.chg (i := i) (f := none) (H3 := upd (upd H S.ol (.lst (((S.F.map Fm.n).map V.int).set i (.int (1 - 1))))) S.hl (.lst ((S.F.map Fm.v).set i .non))) hlt
      (fun b h1 h2 => by rw [upd_ne h1, upd_ne h2]) (by rw [upd_same]; rfl) (by rw [upd_ne (tne A.t3 A.t2), upd_same]; rfl) (fun w xs z => by cases z)
    exact k _ s A3
abbrev N_Frames_owners : List Str := ["self", "frame"]
theorem sc_Frames_owners : FnScope N_Frames_owners ["self", "frame"] (defScope s_Frames_owners) := ⟨rfl, rfl, rfl, by decide +kernel, rfl, by decide +kernel, by decide +kernel⟩
def sp_Frames_owners (K : PySem.W.Frag) : Sp := fun vs H Q _ => ∃ (g : Addr → Nat) (S : Fr) (i : Nat) (p : Addr × List Int), vs = [.ref S.fr, .int (i : Int)] ∧ FrAt K g H S ∧ S.F[i]? = some (some p) ∧ Q (.int 1) H
theorem ok_Frames_owners (T : Txt K mg) : DOk P w K mg base CX0 4 ("Frames", some "owners") ["self", "frame"] (sp_Frames_owners K) := by
  refine dok T.d_Frames_owners sc_Frames_owners (fun _ _ _ _ _ _ us hl => match us, hl with | [_, _], _ => rfl) (fun vs H Q E h => ?_) (fun cdv A outer s H vs Q E hr h => ?_)
  · obtain ⟨g, S, i, p, rfl, A, e, k⟩ := h
    rfl
  · obtain ⟨g, S, i, p, rfl, A, e, k⟩ := h
    refine ⟨_, (PSs.nox (pss_cons (ps_if (pt_not (pt_val (pe_m (pv 0) T.c_Frames T.m_Frames_has (ok_Frames_has T) (hr.mono (by decide)) pass0 (pa_cons (pv 1) pa_nil)))) (pss_one (ps_ret pe_int)) pss_nil)
      (pss_one (ps_ret (pe_ix ix_list (pe_f (pv 0) T.c_Frames T.n_Frames_owned) (pv 1) (fun _ _ => rfl)))))), ?_⟩
    refine ⟨_, rfl, A.o, _, rfl, g, S, _, rfl, A, _, rfl, ?_⟩
    rw [show pgHas (fPg S.F) (i : Int) = true from pgH_f e]
    exact iteF ⟨_, rfl, _, A.f_owned, _, rfl, _, _, _, _, rfl, rfl, SqL.of A.ow, atI_nat (A.tkl e).1, k⟩
abbrev N_Frames_ask : List Str := ["self", "count"]
theorem sc_Frames_ask : FnScope N_Frames_ask ["self", "count"] (defScope s_Frames_ask) := ⟨rfl, rfl, rfl, by decide +kernel, rfl, by decide +kernel, by decide +kernel⟩
def sp_Frames_ask (K : PySem.W.Frag) : Sp := fun vs H Q _ => ∃ (g : Addr → Nat) (S : Fr) (c : Int), vs = [.ref S.fr, .int c] ∧ FrAt K g H S ∧
  (S.pl + c ≤ S.F.length → ∀ H', Stp [1] g H g H' → FrAt K g H' { S with pl := S.pl + c } → Q (.bl true) H') ∧ (¬ S.pl + c ≤ S.F.length → Q (.bl false) H)
theorem ok_Frames_ask (T : Txt K mg) : DOk P w K mg base CX0 1 ("Frames", some "ask") ["self", "count"] (sp_Frames_ask K) := by
  refine dok T.d_Frames_ask sc_Frames_ask (fun _ _ _ _ _ _ us hl => match us, hl with | [_, _], _ => rfl) (fun vs H Q E h => ?_) (fun cdv A outer s H vs Q E hr h => ?_)
  · obtain ⟨g, S, c, rfl, A, k1, k2⟩ := h
    rfl
  · obtain ⟨g, S, c, rfl, A, k1, k2⟩ := h
    refine ⟨_, (PSs.nox (pss_cons (ps_if (pt_cmpR op_gt (pe_op op_add (pe_f (pv 0) T.c_Frames T.n_Frames_pledged) (pv 1)) (pe_callB call_len_seq rfl T.b_len PySem.boot_len (pa_cons (pe_f (pv 0) T.c_Frames T.n_Frames_owned) pa_nil)) (nomark _)) (pss_one (ps_ret pe_bl)) pss_nil)
      (pss_cons (ps_fa (pv 0) (pv 1) in_add T.c_Frames T.n_Frames_pledged)
      (pss_one (ps_ret pe_bl))))), ?_⟩
    refine ⟨_, rfl, _, A.f_pledged, _, rfl, _, _, rfl, rfl, _, rfl, _, A.f_owned, _, _, rfl, .inl (SqL.of A.ow), _, _, rfl, rfl, _, rfl, ?_⟩
    rw [List.length_map, List.length_map]
    by_cases h : S.pl + c ≤ S.F.length
    · refine ifF (decide_eq_false (by omega)) ⟨_, rfl, _, A.f_pledged, _, rfl, _, _, rfl, rfl, ?_⟩
      obtain ⟨H', h1, h2, h3⟩ := A.s_pledged (S.pl + c)
      exact ⟨H', h1, k1 h H' h2 h3⟩
    · exact ifT (decide_eq_true (by omega)) (k2 h)
abbrev N_Frames_back : List Str := ["self", "count"]
theorem sc_Frames_back : FnScope N_Frames_back ["self", "count"] (defScope s_Frames_back) := ⟨rfl, rfl, rfl, by decide +kernel, rfl, by decide +kernel, by decide +kernel⟩
def sp_Frames_back (K : PySem.W.Frag) : Sp := fun vs H Q _ => ∃ (g : Addr → Nat) (S : Fr) (c : Int), vs = [.ref S.fr, .int c] ∧ FrAt K g H S ∧ ∀ H', Stp [1] g H g H' → FrAt K g H' { S with pl := S.pl - c } → Q .non H'
theorem ok_Frames_back (T : Txt K mg) : DOk P w K mg base CX0 1 ("Frames", some "back") ["self", "count"] (sp_Frames_back K) := by
  refine dok T.d_Frames_back sc_Frames_back (fun _ _ _ _ _ _ us hl => match us, hl with | [_, _], _ => rfl) (fun vs H Q E h => ?_) (fun cdv A outer s H vs Q E hr h => ?_)
  · obtain ⟨g, S, c, rfl, A, k⟩ := h
    rfl
  · obtain ⟨g, S, c, rfl, A, k⟩ := h
    refine ⟨_, (PSs.nox (pss_one (ps_fa (pv 0) (pv 1) in_sub T.c_Frames T.n_Frames_pledged))), ?_⟩
    refine ⟨_, rfl, _, A.f_pledged, _, rfl, _, _, rfl, rfl, ?_⟩
    obtain ⟨H', h1, h2, h3⟩ := A.s_pledged (S.pl - c)
    exact ⟨H', h1, k H' h2 h3⟩
abbrev N_Frames_promised : List Str := ["self"]
theorem sc_Frames_promised : FnScope N_Frames_promised ["self"] (defScope s_Frames_promised) := ⟨rfl, rfl, rfl, by decide +kernel, rfl, by decide +kernel, by decide +kernel⟩
def sp_Frames_promised (K : PySem.W.Frag) : Sp := fun vs H Q _ => ∃ (g : Addr → Nat) (S : Fr), vs = [.ref S.fr] ∧ FrAt K g H S ∧ Q (.int S.pl) H
theorem ok_Frames_promised (T : Txt K mg) : DOk P w K mg base CX0 1 ("Frames", some "promised") ["self"] (sp_Frames_promised K) := by
  refine dok T.d_Frames_promised sc_Frames_promised (fun _ _ _ _ _ _ us hl => match us, hl with | [_], _ => rfl) (fun vs H Q E h => ?_) (fun cdv A outer s H vs Q E hr h => ?_)
  · obtain ⟨g, S, rfl, A, k⟩ := h
    rfl
  · obtain ⟨g, S, rfl, A, k⟩ := h
    refine ⟨_, (PSs.nox (pss_one (ps_ret (pe_f (pv 0) T.c_Frames T.n_Frames_pledged)))), ?_⟩
    exact ⟨_, rfl, _, A.f_pledged, k⟩
end
end Sp

set_option Elab.async false
set_option linter.all false
set_option maxRecDepth 100000
set_option maxHeartbeats 4000000
namespace Sp
open PySem PySem.Spec PyProof.Rows L2
section
variable {P : Program} {w : World} {K : PySem.W.Frag} {mg : Str → Option Value} {base : Heap}
structure Pt where
  pt : Addr
  ll : Addr
  leads : List (Option Nat)
def leadV : Option Nat → V
  | none => .non
  | some f => .int (f : Int)
def fsPt (fr : Addr) (S : Pt) : List (Str × V) := [("ground", .ref fr), ("leads", .ref S.ll)]
structure PtAt (K : PySem.W.Frag) (g : Addr → Nat) (H : Hp) (fr : Addr) (S : Pt) : Prop where
  ob : ∃ dx, H S.pt = some (.ins (He.ga K "Parts") dx (fsPt fr S))
  ld : H S.ll = some (.lst (S.leads.map leadV))
  t5 : g S.pt = 5
  t6 : g S.ll = 6
  sz : S.leads.length ≤ 24
theorem lk_pt1 (fr : Addr) (S : Pt) : (fsPt fr S).lookup ("ground" : Str) = some (.ref fr) := by kernel_rfl
theorem lk_pt2 (fr : Addr) (S : Pt) : (fsPt fr S).lookup ("leads" : Str) = some (.ref S.ll) := by kernel_rfl
/-- the frame of a page -/
def pLead (leads : List (Option Nat)) (n : Int) : Option Nat := if 0 ≤ n then (leads[n.toNat]?).join else none
def optI : Option Nat → V
  | none => .non
  | some f => .int (f : Int)
/-- a frame's words -/
def frW (F : List Fm) (f : Nat) : Option (List Int) := ((fPg F)[f]?).join
/-- the pages that a part leads to -/
def wPg (F : List Fm) (leads : List (Option Nat)) : List Pg := leads.map fun l => l.bind (frW F)
def LInj (leads : List (Option Nat)) : Prop := ∀ (i j f : Nat), leads[i]? = some (some f) → leads[j]? = some (some f) → i = j
def there : List Pg → Nat
  | [] => 0
  | none :: r => there r
  | some _ :: r => there r + 1
theorem frW_of {F : List Fm} {f : Nat} {w : Addr} {xs : List Int} (e : F[f]? = some (some (w, xs))) : frW F f = some xs := by
  unfold frW fPg
  rw [List.getElem?_map, e]; rfl
theorem frW_ex {F : List Fm} {f : Nat} {xs : List Int} (h : frW F f = some xs) : ∃ w, F[f]? = some (some (w, xs)) := by
  unfold frW fPg at h
  rw [List.getElem?_map] at h
  cases e : F[f]? with
  | none => rw [e] at h; cases h
  | some q =>
    rw [e] at h
    cases q with
    | none => cases h
    | some p =>
      obtain ⟨w, ys⟩ := p
      have : ys = xs := by injection h
      subst this
      exact ⟨w, rfl⟩
theorem pgW_fr {F : List Fm} {f : Nat} : pgWords (fPg F) (f : Int) = frW F f := by
  unfold pgWords frW
  rw [if_pos (Int.natCast_nonneg f), Int.toNat_natCast]
theorem frW_set_ne {F : List Fm} {i f : Nat} {q : Fm} (h : f ≠ i) : frW (F.set i q) f = frW F f := by
  unfold frW fPg
  rw [List.getElem?_map, List.getElem?_map, List.getElem?_set_ne (fun z => h z.symm)]
theorem frW_set_eq {F : List Fm} {i : Nat} {w : Addr} {xs : List Int} (h : i < F.length) : frW (F.set i (some (w, xs))) i = some xs := by
  unfold frW fPg
  rw [List.getElem?_map, List.getElem?_set_self h]; rfl
theorem pLead_nat {leads : List (Option Nat)} {i : Nat} {l : Option Nat} (e : leads[i]? = some l) : pLead leads (i : Int) = l := by
  unfold pLead
  rw [if_pos (Int.natCast_nonneg i), Int.toNat_natCast, e]; rfl
theorem pLead_ex {leads : List (Option Nat)} {n : Int} {f : Nat} (h : pLead leads n = some f) : ∃ i : Nat, n = (i : Int) ∧ leads[i]? = some (some f) := by
  unfold pLead at h
  by_cases h0 : 0 ≤ n
  · rw [if_pos h0] at h
    refine ⟨n.toNat, (Int.toNat_of_nonneg h0).symm, ?_⟩
    cases e : leads[n.toNat]? with
    | none => rw [e] at h; cases h
    | some l => rw [e] at h; rw [show l = some f from h]
  · rw [if_neg h0] at h; cases h
theorem wPg_len (F : List Fm) (leads : List (Option Nat)) : (wPg F leads).length = leads.length := List.length_map ..
theorem wPg_get (F : List Fm) (leads : List (Option Nat)) (i : Nat) : (wPg F leads)[i]? = (leads[i]?).map fun l => l.bind (frW F) := by
  unfold wPg
  rw [List.getElem?_map]
/-- an image whose lists are nobody's -/
structure ImgZ (g : Addr → Nat) (H : Hp) (a : Addr) (ps : List Pg) : Prop where
  ex : ∃ xs, H a = some (.lst xs) ∧ xs.length = ps.length ∧ ∀ (i : Nat) p, ps[i]? = some p → ∃ x, xs[i]? = some x ∧ PgAt H x p ∧ ∀ b, x = .ref b → g b = 0
  z : g a = 0
  lo : 1 ≤ ps.length
  hi : ps.length ≤ 24
section
variable {g g' : Addr → Nat} {H H' : Hp} {S : Pt} {T : List Nat} {fr a : Addr} {ps : List Pg}
theorem ImgZ.img (I : ImgZ g H a ps) : ImgAt H a ps := by
  obtain ⟨xs, h1, h2, h3⟩ := I.ex
  exact ⟨⟨xs, h1, h2, fun i p e => by
    obtain ⟨x, e1, e2, _⟩ := h3 i p e
    exact ⟨x, e1, e2⟩⟩, I.lo, I.hi⟩
theorem PgAt.stp {x : V} {p : Pg} (h : PgAt H x p) (hz : ∀ b, x = .ref b → g b = 0) (s : Stp T g H g' H') (hT : 0 ∉ T) : PgAt H' x p := by
  cases p with
  | none => exact h
  | some ws =>
    obtain ⟨b, e, h1, h2⟩ := h
    exact ⟨b, e, s.at h1 (by rw [hz b e]; exact hT), h2⟩
theorem ImgZ.stp (I : ImgZ g H a ps) (s : Stp T g H g' H') (hT : 0 ∉ T) : ImgZ g' H' a ps := by
  obtain ⟨xs, h1, h2, h3⟩ := I.ex
  refine ⟨⟨xs, s.at h1 (by rw [I.z]; exact hT), h2, fun i p e => ?_⟩, (s.tag h1).trans I.z, I.lo, I.hi⟩
  obtain ⟨x, e1, e2, e3⟩ := h3 i p e
  refine ⟨x, e1, e2.stp e3 s hT, fun b hb => ?_⟩
  cases p with
  | none =>
    have : x = V.non := e2
    rw [this] at hb; cases hb
  | some ws =>
    obtain ⟨c, ec, w1, _⟩ := e2
    have : c = b := by rw [ec] at hb; injection hb
    subst this
    exact (s.tag w1).trans (e3 c ec)
theorem PtAt.stp (A : PtAt K g H fr S) (s : Stp T g H g' H') (h : ∀ n ∈ [5, 6], n ∉ T) : PtAt K g' H' fr S := by
  obtain ⟨dx, ob⟩ := A.ob
  exact ⟨⟨dx, s.at ob (by rw [A.t5]; exact h 5 (by simp))⟩, s.at A.ld (by rw [A.t6]; exact h 6 (by simp)), (s.tag ob).trans A.t5, (s.tag A.ld).trans A.t6, A.sz⟩
theorem PtAt.same (A : PtAt K g H fr S) (s : Same H H') : PtAt K g H' fr S := A.stp (T := []) (.same s) (by simp)
theorem PtAt.o (A : PtAt K g H fr S) {m : Str} (hm : (["ground", "leads"] : List Str).contains m = false := by decide +kernel) : IsO K "Parts" m H (.ref S.pt) := by
  obtain ⟨dx, ob⟩ := A.ob
  exact ⟨_, dx, _, rfl, ob, lookup_no hm⟩
theorem PtAt.f_ground (A : PtAt K g H fr S) : Fld K "Parts" "ground" H (.ref S.pt) (.ref fr) := by
  obtain ⟨dx, ob⟩ := A.ob
  exact ⟨_, dx, _, rfl, ob, lk_pt1 fr S⟩
theorem PtAt.f_leads (A : PtAt K g H fr S) : Fld K "Parts" "leads" H (.ref S.pt) (.ref S.ll) := by
  obtain ⟨dx, ob⟩ := A.ob
  exact ⟨_, dx, _, rfl, ob, lk_pt2 fr S⟩
theorem PtAt.set (A : PtAt K g H fr S) (i : Nat) (l : Option Nat) : Stp [6] g H g (upd H S.ll (.lst ((S.leads.map leadV).set i (leadV l)))) ∧ PtAt K g (upd H S.ll (.lst ((S.leads.map leadV).set i (leadV l)))) fr { S with leads := S.leads.set i l } := by
  obtain ⟨dx, ob⟩ := A.ob
  refine ⟨.put A.ld (by rw [A.t6]; simp), ⟨dx, by rw [upd_ne (tne A.t5 A.t6)]; exact ob⟩, ?_, A.t5, A.t6, by rw [List.length_set]; exact A.sz⟩
  rw [upd_same]
  show _ = some (HO.lst ((S.leads.set i l).map leadV))
  rw [List.map_set]
end
abbrev N_laid_out : List Str := ["frames", "words", "frame", "cell", "word"]
theorem sc_laid_out : FnScope N_laid_out ["frames", "words"] (defScope s_laid_out) := ⟨rfl, rfl, rfl, by decide +kernel, rfl, by decide +kernel, by decide +kernel⟩
def sp_laid_out (K : PySem.W.Frag) : Sp := fun vs H Q _ => ∃ (g : Addr → Nat) (S : Fr) (a : Addr) (ws : List Int), vs = [.ref S.fr, .ref a] ∧ FrAt K g H S ∧ WsAt H a ws ∧ g a = 0 ∧ cnt S.F < S.F.length ∧
  ∀ (i : Nat) w g' H', S.F[i]? = some none → Stp [2, 3, 4] g H g' H' → FrAt K g' H' { S with F := S.F.set i (some (w, ws)) } → Q (.int (i : Int)) H'
theorem ok_laid_out (T : Txt K mg) : DOk P w K mg base CX0 6 ("laid_out", none) ["frames", "words"] (sp_laid_out K) := by
  refine dok T.d_laid_out sc_laid_out (fun _ _ _ _ _ _ us hl => match us, hl with | [_, _], _ => rfl) (fun vs H Q E h => ?_) (fun cdv A outer s H vs Q E hr h => ?_)
  · obtain ⟨g, S, a, ws, rfl, A, W, hz, hc, k⟩ := h
    rfl
  · obtain ⟨g, S, a, ws, rfl, A, W, hz, hc, k⟩ := h
    refine ⟨_, (PSs.nox (pss_cons (ps_set (i := 2) sc_laid_out.nd rfl (Or.inl rfl) (pe_m0 (pv 0) T.c_Frames T.m_Frames_take (ok_Frames_take T) (hr.mono (by decide)) pass0))
      (pss_cons (ps_for PassesOwn.never rfl (pi_enum rfl T.b_enumerate (pa_cons (pv 1) pa_nil)) (pg_tup rfl (pgs_cons (pg_name (i := 3) sc_laid_out.nd rfl (Or.inl rfl)) (pgs_cons (pg_name (i := 4) sc_laid_out.nd rfl (Or.inl rfl)) pgs_nil))) (pss_one (ps_expr (pe_m (pv 0) T.c_Frames T.m_Frames_write (ok_Frames_write T) (hr.mono (by decide)) pass0 (pa_cons (pv 2) (pa_cons (pv 3) (pa_cons (pv 4) pa_nil)))))))
      (pss_one (ps_ret (pv 2)))))), ?_⟩
    refine ⟨_, rfl, A.o, g, S, rfl, A, hc, fun i w g1 H1 hi nw s1 A1 => ?_⟩
    have hlt : i < S.F.length := (List.getElem?_eq_some_iff.mp hi).1
    have ha : ∀ {g' : Addr → Nat} {H' : Hp}, Stp [2, 3, 4] g H g' H' → H' a = some (.lst (ws.map V.int)) := fun s => s.at W.1 (by rw [hz]; decide)
    have hl8 : ws.length = 8 := W.2.1
    refine ⟨_, rfl, _, _, rfl, SqL.of (ha s1), ?_⟩
    refine for_enum (K := K) (xs := ws.map V.int) (fun j σ H' => ∃ g' xs, Stp [2, 3, 4] g H g' H' ∧ (∃ v3 v4, σ = [some (.ref S.fr), some (.ref a), some (.int (i : Int)), v3, v4]) ∧ FrAt K g' H' { S with F := S.F.set i (some (w, xs)) } ∧ xs = ws.take j ++ zeros.drop j)
      ⟨g1, zeros, s1, ⟨_, _, rfl⟩, A1, rfl⟩ (fun j σ H' ⟨g', xs, s, _, _, _⟩ => SqL.of (ha s)) ?_ ?_
    · rintro j x t σ H' hx ⟨g', xs, s, ⟨v3, v4, rfl⟩, A2, hxs⟩ ht
      rw [List.getElem?_map] at hx
      obtain ⟨z, hz1, rfl⟩ := Option.map_eq_some_iff.mp hx
      have hj : j < ws.length := (List.getElem?_eq_some_iff.mp hz1).1
      refine ⟨t, _, rfl, SqT.of upd_same, rfl, _, _, rfl, _, _, rfl, rfl, ?_⟩
      have A3 := A2.same (same_new (o := .tup [.int (j : Nat), .int z]) ht)
      refine ⟨_, rfl, A3.o, _, rfl, _, rfl, _, rfl, g', { S with F := S.F.set i (some (w, xs)) }, i, j, z, w, xs, rfl, A3, List.getElem?_set_self hlt, by omega, W.2.2 z (List.mem_of_getElem? hz1), fun H2 s2 A4 => ?_⟩
      refine ⟨g', xs.set j z, Stp.trans s (Stp.trans (.new0 ht) (s2.mono (by simp))), ⟨_, _, rfl⟩, ?_, ?_⟩
      · have e : (S.F.set i (some (w, xs))).set i (some (w, xs.set j z)) = S.F.set i (some (w, xs.set j z)) := List.set_set ..
        have A5 : FrAt K g' H2 { S with F := (S.F.set i (some (w, xs))).set i (some (w, xs.set j z)) } := A4
        rw [e] at A5
        exact A5
      · rw [hxs]
        have ez : zeros.length = 8 := rfl
        have hjz : j < zeros.length := by omega
        apply List.ext_getElem?
        intro m
        rw [List.getElem?_set]
        by_cases hm : j = m
        · subst hm
          rw [if_pos rfl, if_pos (by rw [List.length_append, List.length_take, List.length_drop]; omega), List.getElem?_append_left (by rw [List.length_take]; omega), List.getElem?_take_of_lt (Nat.lt_succ_self _), hz1]
        · rw [if_neg hm]
          by_cases hlt2 : m < j
          · rw [List.getElem?_append_left (by rw [List.length_take]; omega), List.getElem?_append_left (by rw [List.length_take]; omega), List.getElem?_take_of_lt hlt2, List.getElem?_take_of_lt (by omega)]
          · rw [List.getElem?_append_right (by rw [List.length_take]; omega), List.getElem?_append_right (by rw [List.length_take]; omega), List.getElem?_drop, List.getElem?_drop, List.length_take, List.length_take]
            congr 1
            omega
    · rintro σ H' ⟨g', xs, s, ⟨v3, v4, rfl⟩, A2, hxs⟩
      have e : xs = ws := by
        rw [hxs, List.length_map, List.take_of_length_le (Nat.le_refl _), List.drop_of_length_le (by rw [hl8]; decide), List.append_nil]
      subst e
      exact ⟨_, rfl, k i w g' H' hi s A2⟩
abbrev N_Parts_size : List Str := ["self"]
theorem sc_Parts_size : FnScope N_Parts_size ["self"] (defScope s_Parts_size) := ⟨rfl, rfl, rfl, by decide +kernel, rfl, by decide +kernel, by decide +kernel⟩
def sp_Parts_size (K : PySem.W.Frag) : Sp := fun vs H Q _ => ∃ (g : Addr → Nat) (fr : Addr) (S : Pt), vs = [.ref S.pt] ∧ PtAt K g H fr S ∧ Q (.int (S.leads.length : Nat)) H
theorem ok_Parts_size (T : Txt K mg) : DOk P w K mg base CX0 1 ("Parts", some "size") ["self"] (sp_Parts_size K) := by
  refine dok T.d_Parts_size sc_Parts_size (fun _ _ _ _ _ _ us hl => match us, hl with | [_], _ => rfl) (fun vs H Q E h => ?_) (fun cdv A outer s H vs Q E hr h => ?_)
  · obtain ⟨g, fr, S, rfl, A, k⟩ := h
    rfl
  · obtain ⟨g, fr, S, rfl, A, k⟩ := h
    refine ⟨_, (PSs.nox (pss_one (ps_ret (pe_callB call_len_seq rfl T.b_len PySem.boot_len (pa_cons (pe_f (pv 0) T.c_Parts T.n_Parts_leads) pa_nil))))), ?_⟩
    refine ⟨_, rfl, _, A.f_leads, _, _, rfl, .inl (SqL.of A.ld), ?_⟩
    rw [List.length_map]
    exact k
abbrev N_Parts_frame : List Str := ["self", "page"]
theorem sc_Parts_frame : FnScope N_Parts_frame ["self", "page"] (defScope s_Parts_frame) := ⟨rfl, rfl, rfl, by decide +kernel, rfl, by decide +kernel, by decide +kernel⟩
def sp_Parts_frame (K : PySem.W.Frag) : Sp := fun vs H Q _ => ∃ (g : Addr → Nat) (fr : Addr) (S : Pt) (n : Int), vs = [.ref S.pt, .int n] ∧ PtAt K g H fr S ∧ Q (leadV (pLead S.leads n)) H
theorem ok_Parts_frame (T : Txt K mg) : DOk P w K mg base CX0 3 ("Parts", some "frame") ["self", "page"] (sp_Parts_frame K) := by
  refine dok T.d_Parts_frame sc_Parts_frame (fun _ _ _ _ _ _ us hl => match us, hl with | [_, _], _ => rfl) (fun vs H Q E h => ?_) (fun cdv A outer s H vs Q E hr h => ?_)
  · obtain ⟨g, fr, S, n, rfl, A, k⟩ := h
    rfl
  · obtain ⟨g, fr, S, n, rfl, A, k⟩ := h
    refine ⟨_, (PSs.nox (pss_cons (ps_if (pt_not (pt_val (pe_g (ok_is_below T) (hr.mono (by decide)) T.g_is_below pass0 (pa_cons (pv 1) (pa_cons (pe_callB call_len_seq rfl T.b_len PySem.boot_len (pa_cons (pe_f (pv 0) T.c_Parts T.n_Parts_leads) pa_nil)) pa_nil))))) (pss_one (ps_ret pe_non)) pss_nil)
      (pss_one (ps_ret (pe_ix ix_list (pe_f (pv 0) T.c_Parts T.n_Parts_leads) (pv 1) (fun _ _ => rfl)))))), ?_⟩
    refine ⟨_, rfl, _, rfl, _, A.f_leads, _, _, rfl, .inl (SqL.of A.ld), _, _, rfl, _, rfl, ?_⟩
    rw [List.length_map]
    by_cases h0 : 0 ≤ n
    · by_cases h1 : n < S.leads.length
      · obtain ⟨i, rfl⟩ : ∃ i : Nat, n = (i : Int) := ⟨n.toNat, (Int.toNat_of_nonneg h0).symm⟩
        have hi : i < S.leads.length := by omega
        have e : S.leads[i]? = some S.leads[i] := List.getElem?_eq_getElem hi
        rw [pLead_nat e] at k
        rw [decide_eq_true h0, decide_eq_true h1]
        exact iteF ⟨_, rfl, _, A.f_leads, _, rfl, _, _, _, _, rfl, rfl, SqL.of A.ld, atI_nat (by rw [List.getElem?_map, e]; rfl), k⟩
      · rw [decide_eq_false h1, Bool.and_false]
        have : pLead S.leads n = none := by
          unfold pLead
          rw [if_pos h0, List.getElem?_eq_none (by omega)]; rfl
        rw [this] at k
        exact iteT k
    · rw [decide_eq_false h0]
      have : pLead S.leads n = none := by unfold pLead; rw [if_neg h0]
      rw [this] at k
      exact iteT k
abbrev N_Parts_need : List Str := ["self", "page"]
theorem sc_Parts_need : FnScope N_Parts_need ["self", "page"] (defScope s_Parts_need) := ⟨rfl, rfl, rfl, by decide +kernel, rfl, by decide +kernel, by decide +kernel⟩
def sp_Parts_need (K : PySem.W.Frag) : Sp := fun vs H Q _ => ∃ (g : Addr → Nat) (fr : Addr) (S : Pt) (n : Int) (f : Nat), vs = [.ref S.pt, .int n] ∧ PtAt K g H fr S ∧ pLead S.leads n = some f ∧ Q .non H
theorem ok_Parts_need (T : Txt K mg) : DOk P w K mg base CX0 4 ("Parts", some "need") ["self", "page"] (sp_Parts_need K) := by
  refine dok T.d_Parts_need sc_Parts_need (fun _ _ _ _ _ _ us hl => match us, hl with | [_, _], _ => rfl) (fun vs H Q E h => ?_) (fun cdv A outer s H vs Q E hr h => ?_)
  · obtain ⟨g, fr, S, n, f, rfl, A, e, k⟩ := h
    rfl
  · obtain ⟨g, fr, S, n, f, rfl, A, e, k⟩ := h
    refine ⟨_, (PSs.nox (pss_one (ps_if (pt_cmpR op_isN (pe_m (pv 0) T.c_Parts T.m_Parts_frame (ok_Parts_frame T) (hr.mono (by decide)) pass0 (pa_cons (pv 1) pa_nil)) pe_non (nomark _)) (pss_one ps_never) pss_nil))), ?_⟩
    refine ⟨_, rfl, A.o, _, rfl, g, fr, S, n, rfl, A, rfl, _, rfl, ?_⟩
    rw [e]
    exact ifF (decide_eq_false fun z => by cases z) k
abbrev N_Parts_alone : List Str := ["self", "page", "old"]
theorem sc_Parts_alone : FnScope N_Parts_alone ["self", "page"] (defScope s_Parts_alone) := ⟨rfl, rfl, rfl, by decide +kernel, rfl, by decide +kernel, by decide +kernel⟩
def sp_Parts_alone (K : PySem.W.Frag) : Sp := fun vs H Q _ => ∃ (g : Addr → Nat) (R : Fr) (S : Pt) (i : Nat) (f : Nat) (p : Addr × List Int), vs = [.ref S.pt, .int (i : Int)] ∧ PtAt K g H R.fr S ∧ FrAt K g H R ∧ S.leads[i]? = some (some f) ∧ R.F[f]? = some (some p) ∧ Q (.bl false) H
theorem ok_Parts_alone (T : Txt K mg) : DOk P w K mg base CX0 5 ("Parts", some "alone") ["self", "page"] (sp_Parts_alone K) := by
  refine dok T.d_Parts_alone sc_Parts_alone (fun _ _ _ _ _ _ us hl => match us, hl with | [_, _], _ => rfl) (fun vs H Q E h => ?_) (fun cdv A outer s H vs Q E hr h => ?_)
  · obtain ⟨g, R, S, i, f, p, rfl, A, B, e, ef, k⟩ := h
    rfl
  · obtain ⟨g, R, S, i, f, p, rfl, A, B, e, ef, k⟩ := h
    refine ⟨_, (PSs.nox (pss_cons (ps_expr (pe_m (pv 0) T.c_Parts T.m_Parts_need (ok_Parts_need T) (hr.mono (by decide)) pass0 (pa_cons (pv 1) pa_nil)))
      (pss_cons (ps_set (i := 2) sc_Parts_alone.nd rfl (Or.inl rfl) (pe_ix ix_list (pe_f (pv 0) T.c_Parts T.n_Parts_leads) (pv 1) (fun _ _ => rfl)))
      (pss_cons (ps_if (pt_cmpR op_eq (pe_m (pe_f (pv 0) T.c_Parts T.n_Parts_ground) T.c_Frames T.m_Frames_owners (ok_Frames_owners T) (hr.mono (by decide)) pass0 (pa_cons (pv 2) pa_nil)) pe_int (nomark _)) (pss_one (ps_ret pe_bl)) pss_nil)
      pss_never)))), ?_⟩
    refine ⟨_, rfl, A.o, _, rfl, g, R.fr, S, _, f, rfl, A, pLead_nat e, ?_⟩
    refine ⟨_, rfl, _, A.f_leads, _, rfl, _, _, _, _, rfl, rfl, SqL.of A.ld, atI_nat (v := .int (f : Int)) (by rw [List.getElem?_map, e]; rfl), ?_⟩
    refine ⟨_, rfl, _, A.f_ground, B.o, _, rfl, g, R, f, p, rfl, B, ef, rfl, _, rfl, ?_⟩
    exact iteT k
abbrev N_Parts_give : List Str := ["self", "page"]
theorem sc_Parts_give : FnScope N_Parts_give ["self", "page"] (defScope s_Parts_give) := ⟨rfl, rfl, rfl, by decide +kernel, rfl, by decide +kernel, by decide +kernel⟩
def sp_Parts_give (K : PySem.W.Frag) : Sp := fun vs H Q _ => ∃ (g : Addr → Nat) (R : Fr) (S : Pt) (i : Nat) (f : Nat) (p : Addr × List Int), vs = [.ref S.pt, .int (i : Int)] ∧ PtAt K g H R.fr S ∧ FrAt K g H R ∧ S.leads[i]? = some (some f) ∧ R.F[f]? = some (some p) ∧
  ∀ H', Stp [2, 3, 6] g H g H' → FrAt K g H' { R with F := R.F.set f none } → PtAt K g H' R.fr { S with leads := S.leads.set i none } → Q .non H'
theorem ok_Parts_give (T : Txt K mg) : DOk P w K mg base CX0 6 ("Parts", some "give") ["self", "page"] (sp_Parts_give K) := by
  refine dok T.d_Parts_give sc_Parts_give (fun _ _ _ _ _ _ us hl => match us, hl with | [_, _], _ => rfl) (fun vs H Q E h => ?_) (fun cdv A outer s H vs Q E hr h => ?_)
  · obtain ⟨g, R, S, i, f, p, rfl, A, B, e, ef, k⟩ := h
    rfl
  · obtain ⟨g, R, S, i, f, p, rfl, A, B, e, ef, k⟩ := h
    refine ⟨_, (PSs.nox (pss_cons (ps_expr (pe_m (pv 0) T.c_Parts T.m_Parts_need (ok_Parts_need T) (hr.mono (by decide)) pass0 (pa_cons (pv 1) pa_nil)))
      (pss_cons (ps_expr (pe_m (pe_f (pv 0) T.c_Parts T.n_Parts_ground) T.c_Frames T.m_Frames_drop (ok_Frames_drop T) (hr.mono (by decide)) pass0 (pa_cons (pe_ix ix_list (pe_f (pv 0) T.c_Parts T.n_Parts_leads) (pv 1) (fun _ _ => rfl)) pa_nil)))
      (pss_one (ps_asg pe_non (pg_sub (pe_f (pv 0) T.c_Parts T.n_Parts_leads) (pv 1) set_list)))))), ?_⟩
    have hlt : i < S.leads.length := (List.getElem?_eq_some_iff.mp e).1
    refine ⟨_, rfl, A.o, _, rfl, g, R.fr, S, _, f, rfl, A, pLead_nat e, ?_⟩
    refine ⟨_, rfl, _, A.f_ground, B.o, _, rfl, _, A.f_leads, _, rfl, _, _, _, _, rfl, rfl, SqL.of A.ld, atI_nat (v := .int (f : Int)) (by rw [List.getElem?_map, e]; rfl), g, R, f, p, rfl, B, ef, fun H1 s1 B1 => ?_⟩
    have A1 := A.stp s1 (by simp)
    refine ⟨_, rfl, _, A1.f_leads, _, rfl, _, _, _, i, rfl, rfl, A1.ld, ixN_nat (by rw [List.length_map]; exact hlt), ?_⟩
    obtain ⟨s2, A2⟩ := A1.set i none
    exact k _ (Stp.trans (s1.mono (by simp)) (s2.mono (by simp))) (B1.stp s2 (by simp)) A2
abbrev N_Parts_fresh : List Str := ["self", "page"]
theorem sc_Parts_fresh : FnScope N_Parts_fresh ["self", "page"] (defScope s_Parts_fresh) := ⟨rfl, rfl, rfl, by decide +kernel, rfl, by decide +kernel, by decide +kernel⟩
def sp_Parts_fresh (K : PySem.W.Frag) : Sp := fun vs H Q _ => ∃ (g : Addr → Nat) (R : Fr) (S : Pt) (i : Nat), vs = [.ref S.pt, .int (i : Int)] ∧ PtAt K g H R.fr S ∧ FrAt K g H R ∧ S.leads[i]? = some none ∧ cnt R.F < R.F.length ∧
  ∀ (f : Nat) w g' H', R.F[f]? = some none → Stp [2, 3, 4, 6] g H g' H' → FrAt K g' H' { R with F := R.F.set f (some (w, zeros)) } → PtAt K g' H' R.fr { S with leads := S.leads.set i (some f) } → Q .non H'
theorem ok_Parts_fresh (T : Txt K mg) : DOk P w K mg base CX0 3 ("Parts", some "fresh") ["self", "page"] (sp_Parts_fresh K) := by
  refine dok T.d_Parts_fresh sc_Parts_fresh (fun _ _ _ _ _ _ us hl => match us, hl with | [_, _], _ => rfl) (fun vs H Q E h => ?_) (fun cdv A outer s H vs Q E hr h => ?_)
  · obtain ⟨g, R, S, i, rfl, A, B, e, hc, k⟩ := h
    rfl
  · obtain ⟨g, R, S, i, rfl, A, B, e, hc, k⟩ := h
    refine ⟨_, (PSs.nox (pss_cons (ps_if (PW.pt (pw_or (pt_not (pt_val (pe_g (ok_is_below T) (hr.mono (by decide)) T.g_is_below pass0 (pa_cons (pv 1) (pa_cons (pe_callB call_len_seq rfl T.b_len PySem.boot_len (pa_cons (pe_f (pv 0) T.c_Parts T.n_Parts_leads) pa_nil)) pa_nil))))) (pw_or1 (pt_cmpR op_notN (pe_ix ix_list (pe_f (pv 0) T.c_Parts T.n_Parts_leads) (pv 1) (fun _ _ => rfl)) pe_non (nomark _))))) (pss_one ps_never) pss_nil)
      (pss_one (ps_asg (pe_m0 (pe_f (pv 0) T.c_Parts T.n_Parts_ground) T.c_Frames T.m_Frames_take (ok_Frames_take T) (hr.mono (by decide)) pass0) (pg_sub (pe_f (pv 0) T.c_Parts T.n_Parts_leads) (pv 1) set_list))))), ?_⟩
    have hlt : i < S.leads.length := (List.getElem?_eq_some_iff.mp e).1
    refine ⟨_, rfl, _, rfl, _, A.f_leads, _, _, rfl, .inl (SqL.of A.ld), _, _, rfl, _, rfl, ?_⟩
    rw [List.length_map, decide_eq_true (Int.natCast_nonneg i), decide_eq_true (show (i : Int) < (S.leads.length : Int) by omega)]
    refine iteF ⟨_, rfl, _, A.f_leads, _, rfl, _, _, _, _, rfl, rfl, SqL.of A.ld, atI_nat (v := .non) (by rw [List.getElem?_map, e]; rfl), rfl, _, rfl, ?_⟩
    refine ⟨_, rfl, _, A.f_ground, B.o, g, R, rfl, B, hc, fun f w g1 H1 hf nw s1 B1 => ?_⟩
    have A1 := A.stp s1 (by simp)
    refine ⟨_, rfl, _, A1.f_leads, _, rfl, _, _, _, i, rfl, rfl, A1.ld, ixN_nat (by rw [List.length_map]; exact hlt), ?_⟩
    obtain ⟨s2, A2⟩ := A1.set i (some f)
    exact k f w g1 _ hf (Stp.trans (s1.mono (by simp)) (s2.mono (by simp))) (B1.stp s2 (by simp)) A2
theorem wPg_congr {F F' : List Fm} {leads : List (Option Nat)} (h : ∀ (i f : Nat), leads[i]? = some (some f) → frW F' f = frW F f) : wPg F' leads = wPg F leads := by
  apply List.ext_getElem?
  intro i
  rw [wPg_get, wPg_get]
  cases e : leads[i]? with
  | none => rfl
  | some l =>
    cases l with
    | none => rfl
    | some f =>
      show some (frW F' f) = some (frW F f)
      rw [h i f e]
def one : Pg → Nat
  | none => 0
  | some _ => 1
theorem there_append (p : Pg) : ∀ l : List Pg, there (l ++ [p]) = there l + one p
  | [] => by cases p <;> rfl
  | none :: r => there_append p r
  | some _ :: r => by
    show there (r ++ [p]) + 1 = there r + 1 + one p
    rw [there_append p r]; omega
theorem take_snoc {α : Type} {ps : List α} {i : Nat} {p : α} (h : ps[i]? = some p) : ps.take (i + 1) = ps.take i ++ [p] := by
  rw [List.take_add_one, h]; rfl
theorem there_take {ps : List Pg} {i : Nat} {p : Pg} (h : ps[i]? = some p) : there (ps.take (i + 1)) = there (ps.take i) + one p := by
  rw [take_snoc h, there_append]
theorem there_le : ∀ (ps : List Pg) (i : Nat), there (ps.take i) ≤ there ps
  | [], i => by rw [List.take_nil]; exact Nat.le_refl _
  | p :: r, 0 => Nat.zero_le _
  | none :: r, i + 1 => there_le r i
  | some _ :: r, i + 1 => Nat.succ_le_succ (there_le r i)
/-- the stand of a part's making: i pages are laid -/
structure Laid (S : Fr) (ps : List Pg) (i : Nat) (F' : List Fm) (leads : List (Option Nat)) : Prop where
  len : leads.length = i
  fl : F'.length = S.F.length
  c : cnt F' = cnt S.F + there (ps.take i)
  pg : wPg F' leads = ps.take i
  inj : LInj leads
  new : ∀ (j f : Nat), leads[j]? = some (some f) → S.F[f]? = some none
  old : ∀ (f : Nat), (∀ j : Nat, leads[j]? ≠ some (some f)) → F'[f]? = S.F[f]?
  tk : ∀ (j f : Nat), leads[j]? = some (some f) → ∃ p, F'[f]? = some (some p)
theorem snoc_get {α : Type} {l : List α} {x y : α} {j : Nat} (h : (l ++ [x])[j]? = some y) : (j = l.length ∧ y = x) ∨ l[j]? = some y := by
  by_cases hj : j < l.length
  · rw [List.getElem?_append_left hj] at h; exact .inr h
  · rw [List.getElem?_append_right (by omega)] at h
    by_cases e : j - l.length = 0
    · rw [e] at h
      exact .inl ⟨by omega, by simpa using h.symm⟩
    · obtain ⟨m, hm⟩ : ∃ m, j - l.length = m + 1 := ⟨j - l.length - 1, by omega⟩
      rw [hm] at h
      simp at h
theorem get_left {α : Type} {l : List α} {x : α} {j : Nat} {y : α} (h : l[j]? = some y) : (l ++ [x])[j]? = some y := by
  rw [List.getElem?_append_left (List.getElem?_eq_some_iff.mp h).1]; exact h
theorem Laid.non {S : Fr} {ps : List Pg} {i : Nat} {F' : List Fm} {leads : List (Option Nat)} (L : Laid S ps i F' leads) (h : ps[i]? = some none) : Laid S ps (i + 1) F' (leads ++ [none]) := by
  refine ⟨by rw [List.length_append, L.len]; rfl, L.fl, by rw [there_take h]; exact L.c, ?_, fun a b f h1 h2 => ?_, fun j f h1 => ?_, fun f hf => L.old f fun j hj => hf j (get_left hj), fun j f h1 => ?_⟩
  · rw [take_snoc h, ← L.pg]
    unfold wPg
    rw [List.map_append]; rfl
  · rcases snoc_get h1 with ⟨_, e⟩ | h1
    · cases e
    · rcases snoc_get h2 with ⟨_, e⟩ | h2
      · cases e
      · exact L.inj a b f h1 h2
  · rcases snoc_get h1 with ⟨_, e⟩ | h1
    · cases e
    · exact L.new j f h1
  · rcases snoc_get h1 with ⟨_, e⟩ | h1
    · cases e
    · exact L.tk j f h1
theorem Laid.put {S : Fr} {ps : List Pg} {i f0 : Nat} {w : Addr} {ws : List Int} {F' : List Fm} {leads : List (Option Nat)} (L : Laid S ps i F' leads) (h : ps[i]? = some (some ws)) (hf : F'[f0]? = some none) : Laid S ps (i + 1) (F'.set f0 (some (w, ws))) (leads ++ [some f0]) := by
  have hlt : f0 < F'.length := (List.getElem?_eq_some_iff.mp hf).1
  have nol : ∀ j : Nat, leads[j]? ≠ some (some f0) := fun j hj => by
    obtain ⟨p, hp⟩ := L.tk j f0 hj
    rw [hf] at hp; cases hp
  refine ⟨by rw [List.length_append, L.len]; rfl, by rw [List.length_set]; exact L.fl, by rw [cnt_set_some F' f0 (w, ws) hf, L.c, there_take h]; rfl, ?_, fun a b f h1 h2 => ?_, fun j f h1 => ?_, fun f hf' => ?_, fun j f h1 => ?_⟩
  · rw [take_snoc h, ← L.pg]
    have e1 : wPg (F'.set f0 (some (w, ws))) leads = wPg F' leads := wPg_congr fun j f hj => frW_set_ne fun z => nol j (z ▸ hj)
    have e2 : wPg (F'.set f0 (some (w, ws))) (leads ++ [some f0]) = wPg (F'.set f0 (some (w, ws))) leads ++ [frW (F'.set f0 (some (w, ws))) f0] := by
      unfold wPg
      rw [List.map_append]; rfl
    rw [e2, e1, frW_set_eq hlt]
  · rcases snoc_get h1 with ⟨e1, f1⟩ | h1
    · rcases snoc_get h2 with ⟨e2, _⟩ | h2
      · rw [e1, e2]
      · have : f = f0 := by injection f1
        exact absurd (this ▸ h2) (nol b)
    · rcases snoc_get h2 with ⟨e2, f2⟩ | h2
      · have : f = f0 := by injection f2
        exact absurd (this ▸ h1) (nol a)
      · exact L.inj a b f h1 h2
  · rcases snoc_get h1 with ⟨_, e⟩ | h1
    · have : f = f0 := by injection e
      subst this
      rw [← L.old f nol]; exact hf
    · exact L.new j f h1
  · have hne : f ≠ f0 := fun z => hf' leads.length (by rw [z, List.getElem?_append_right (Nat.le_refl _), Nat.sub_self]; rfl)
    rw [List.getElem?_set_ne (fun z => hne z.symm)]
    exact L.old f fun j hj => hf' j (get_left hj)
  · rcases snoc_get h1 with ⟨_, e⟩ | h1
    · have : f = f0 := by injection e
      subst this
      exact ⟨_, List.getElem?_set_self hlt⟩
    · by_cases hne : f = f0
      · subst hne; exact ⟨_, List.getElem?_set_self hlt⟩
      · rw [List.getElem?_set_ne (fun z => hne z.symm)]; exact L.tk j f h1
section
variable {T : List Nat} {g g' : Addr → Nat} {H H' : Hp} {D : Addr} {o : HO} {n : Nat}
/-- what was not there may change, and be tagged anew -/
theorem Stp.mut (s : Stp T g H g' H') (h : H D = none) : Stp T g H g' (upd H' D o) :=
  ⟨fun b u e hn => by rw [upd_ne (ne_of_none e h)]; exact s.keep b u e hn, fun b u e => ⟨by rw [upd_ne (ne_of_none e h)]; exact (s.stay b u e).1, (s.stay b u e).2⟩, fun w b hb => by
    by_cases e : b = D
    · subst e; exact ⟨_, upd_same⟩
    · rw [upd_ne e]; exact s.wf w b hb⟩
theorem Stp.retag (s : Stp T g H g' H') (h : H D = none) (hD : ∃ o, H' D = some o) : Stp T g H (tg g' D n) H' :=
  ⟨s.keep, fun b u e => ⟨(s.stay b u e).1, by rw [tg_ne (ne_of_none e h)]; exact (s.stay b u e).2⟩, fun w b hb => by
    by_cases e : b = D
    · subst e; exact hD
    · rw [tg_ne e] at hb; exact s.wf w b hb⟩
theorem FrAt.tg {S : Fr} (A : FrAt K g H S) (h : g D = 0) : FrAt K (tg g D n) H S := by
  have ne : ∀ {a : Addr} {i : Nat}, g a = i + 1 → Sp.tg g D n a = i + 1 := fun {a i} e => by rw [tg_ne (fun z => by rw [z, h] at e; cases e)]; exact e
  exact ⟨A.ob, A.hd, A.ow, fun i w xs e => by
    obtain ⟨h1, h2, h3, h4⟩ := A.ws i w xs e
    exact ⟨h1, h2, h3, ne h4⟩, A.inj, ne A.t1, ne A.t2, ne A.t3, A.sz⟩
end
abbrev N_Parts_init : List Str := ["self", "frames", "pages", "words"]
theorem sc_Parts_init : FnScope N_Parts_init ["self", "frames", "pages"] (defScope s_Parts_init) := ⟨rfl, rfl, rfl, by decide +kernel, rfl, by decide +kernel, by decide +kernel⟩
def sp_Parts_init (K : PySem.W.Frag) : Sp := fun vs H Q _ => ∃ (p dx : Addr) (g : Addr → Nat) (S : Fr) (a : Addr) (ps : List Pg), vs = [.ref p, .ref S.fr, .ref a] ∧ Wf g H ∧ FrAt K g H S ∧ ImgZ g H a ps ∧ cnt S.F + there ps ≤ S.F.length ∧ H p = some (.ins (He.ga K "Parts") dx []) ∧ g p = 5 ∧
  ∀ ll F' leads g' H', Stp [2, 3, 4, 5] g H g' H' → FrAt K g' H' { S with F := F' } → PtAt K g' H' S.fr ⟨p, ll, leads⟩ → Laid S ps ps.length F' leads → Q .non H'
theorem ok_Parts_init (T : Txt K mg) : DOk P w K mg base CX0 7 ("Parts", some "__init__") ["self", "frames", "pages"] (sp_Parts_init K) := by
  refine dok T.d_Parts_init sc_Parts_init (fun _ _ _ _ _ _ us hl => match us, hl with | [_, _, _], _ => rfl) (fun vs H Q E h => ?_) (fun cdv A outer s H vs Q E hr h => ?_)
  · obtain ⟨p, dx, g, S, a, ps, rfl, wf, A, I, hc, hp, t5, k⟩ := h
    rfl
  · obtain ⟨p, dx, g, S, a, ps, rfl, wf, A, I, hc, hp, t5, k⟩ := h
    refine ⟨_, (PSs.nox (pss_cons (ps_if (pt_not (pt_val (pe_g (ok_is_image T) (hr.mono (by decide)) T.g_is_image pass0 (pa_cons (pv 2) pa_nil)))) (pss_one ps_never) pss_nil)
      (pss_cons (ps_f (pv 0) (pv 1) T.c_Parts T.n_Parts_ground)
      (pss_one (ps_f (pv 0) (pe_lc (own := [("words", 3)]) (g := gName 3) rfl sc_Parts_init.nd (pi_list (pv 2)) (blkOk_by (own := [("words", 3)]) (N := N_Parts_init) (sc := defScope s_Parts_init) (by decide +kernel)) (fun _ _ _ _ _ => pg_name (i := 3) sc_Parts_init.nd rfl (Or.inl rfl)) (fun _ _ _ _ _ => pts_nil) (fun _ _ _ _ _ => (pe_ifExp (pt_cmpR op_isN (pv 3) pe_non (nomark _)) pe_non (pe_g (ok_laid_out T) (hr.mono (by decide)) T.g_laid_out pass0 (pa_cons (pv 1) (pa_cons (pv 3) pa_nil)))))) T.c_Parts T.n_Parts_leads))))), ?_⟩
    refine ⟨_, rfl, a, ps, rfl, I.img, fun H1 s1 => ⟨true, rfl, ?_⟩⟩
    refine iteF ⟨_, rfl, _, rfl, _, ⟨p, dx, _, rfl, s1 _ _ hp, (by show 0 < 1000; decide), rfl⟩, ?_⟩
    have st1 : Stp [2, 3, 4, 5] g H g (upd H1 p (.ins (He.ga K "Parts") dx (putF "ground" (.ref S.fr) []))) := Stp.trans (.same s1) (.put (s1 _ _ hp) (by rw [t5]; simp))
    have A1 := (A.same s1).stp (T := [5]) (.put (o' := .ins (He.ga K "Parts") dx (putF "ground" (.ref S.fr) [])) (s1 _ _ hp) (by rw [t5]; simp)) (by simp)
    have I1 := I.stp st1 (by simp)
    obtain ⟨xs, h1, h2, h3⟩ := I1.ex
    refine ⟨_, rfl, a, rfl, ⟨_, SqL.of h1⟩, fun D nD => ?_⟩
    have npD : p ≠ D := ne_of_none upd_same nD
    have nDH : H D = none := by
      obtain ⟨_, q⟩ := upd_none nD
      exact s1.free q
    have gD : g D = 0 := tag0 wf nDH
    have hi := I.hi
    refine lc_list (K := K) (a := a) (xs := xs) (fun i H' => ∃ F' leads g', Stp [2, 3, 4, 5] g H g' H' ∧ FrAt K g' H' { S with F := F' } ∧ Laid S ps i F' leads ∧ H' D = some (.lst (leads.map leadV)) ∧ g' D = 0 ∧ H' p = some (.ins (He.ga K "Parts") dx (putF "ground" (.ref S.fr) [])))
      ⟨S.F, [], g, st1.mut nDH, A1.same (same_new nD), ⟨rfl, rfl, rfl, rfl, (fun _ _ _ h => by simp at h), (fun _ _ h => by simp at h), (fun _ _ => rfl), (fun _ _ h => by simp at h)⟩, upd_same, gD, by rw [upd_ne npD]; exact upd_same⟩ ?_ ?_ ?_
    · rintro i H' _ ⟨F', leads, g', st, _⟩
      exact SqL.of (by
        obtain ⟨zs, q, _⟩ := I.ex
        have e3 := st1.at q (by rw [I.z]; simp)
        rw [h1] at e3
        have e4 := st.at q (by rw [I.z]; simp)
        rw [e4, ← e3])
    · rintro i x H' hx ⟨F', leads, g', st, A', L, hD, hgD, hp'⟩
      have hlt : i < xs.length := (List.getElem?_eq_some_iff.mp hx).1
      obtain ⟨q, hq⟩ : ∃ q, ps[i]? = some q := ⟨ps[i]'(by omega), List.getElem?_eq_getElem (by omega)⟩
      have hle : leads.length < sizeLine := by rw [L.len]; exact small1000 (by omega)
      obtain ⟨x0, e1, e2, e3⟩ := h3 i q hq
      rw [hx] at e1
      cases e1
      cases q with
      | none =>
        obtain rfl : x = V.non := e2
        refine ⟨rfl, _, rfl, rfl, _, rfl, _, hD, by rw [List.length_map]; exact hle, ?_⟩
        refine ⟨F', leads ++ [none], g', st.mut nDH, A'.stp (T := [0]) (.put hD (by rw [hgD]; simp)) (by simp), L.non hq, ?_, hgD, by rw [upd_ne npD]; exact hp'⟩
        rw [upd_same, List.map_append]; rfl
      | some ws =>
        obtain ⟨b, rfl, w1, w2⟩ := e2
        have zb : g b = 0 := e3 b rfl
        obtain ⟨xs0, q1, q2, q3⟩ := I.ex
        obtain ⟨y0, f1, f2, f3⟩ := q3 i (some ws) hq
        have hy : y0 = V.ref b := by
          have e5 := st1.at q1 (by rw [I.z]; simp)
          rw [h1] at e5
          have : xs = xs0 := by injection e5 with e5; injection e5
          subst this
          rw [hx] at f1; injection f1 with f1; exact f1.symm
        obtain ⟨b', eb, v1, v2⟩ := f2
        have : b' = b := by rw [hy] at eb; injection eb with eb; exact eb.symm
        subst this
        have Wb : WsAt H' b' ws := ⟨st.at v1 (by rw [zb]; simp), v2⟩
        have hcc : cnt F' < F'.length := by
          have := there_take hq
          have t2 := there_le ps (i + 1)
          have o1 : one (some ws) = 1 := rfl
          rw [L.c, L.fl]; omega
        refine ⟨rfl, _, rfl, rfl, _, rfl, _, rfl, _, rfl, g', { S with F := F' }, b', ws, rfl, A', Wb, (st.tag v1).trans zb, hcc, fun f0 w g2 H2 hf s2 A2 => ?_⟩
        have hD2 : H2 D = some (.lst (leads.map leadV)) := s2.at hD (by rw [hgD]; simp)
        have gD2 : g2 D = 0 := (s2.tag hD).trans hgD
        refine ⟨_, hD2, by rw [List.length_map]; exact hle, _, leads ++ [some f0], g2, (st.trans (s2.mono (by simp))).mut nDH, A2.stp (T := [0]) (.put hD2 (by rw [gD2]; simp)) (by simp), L.put (w := w) hq hf, ?_, gD2, ?_⟩
        · rw [upd_same, List.map_append]; rfl
        · rw [upd_ne npD]; exact s2.at hp' (by rw [(st.stay p _ hp).2, t5]; simp)
    · rintro H' ⟨F', leads, g', st, A', L, hD, hgD, hp'⟩
      rw [h2] at L
      refine ⟨_, rfl, _, ⟨p, dx, _, rfl, hp', (by show 1 < 1000; decide), rfl⟩, ?_⟩
      have tp : g' p = 5 := (st.tag hp).trans t5
      have s2 : Stp [2, 3, 4, 5] g H g' (upd H' p (.ins (He.ga K "Parts") dx (putF "leads" (.ref D) (putF "ground" (.ref S.fr) [])))) := st.trans (.put hp' (by rw [tp]; simp))
      have A3 := A'.stp (T := [5]) (.put (o' := .ins (He.ga K "Parts") dx (putF "leads" (.ref D) (putF "ground" (.ref S.fr) []))) hp' (by rw [tp]; simp)) (by simp)
      have hD3 : (upd H' p (.ins (He.ga K "Parts") dx (putF "leads" (.ref D) (putF "ground" (.ref S.fr) [])))) D = some (.lst (leads.map leadV)) := by rw [upd_ne npD.symm]; exact hD
      refine k D F' leads (tg g' D 6) _ (s2.retag nDH ⟨_, hD3⟩) (A3.tg hgD) ⟨⟨dx, by rw [upd_same]; rfl⟩, hD3, by rw [tg_ne npD]; exact tp, tg_same, by rw [L.len]; exact hi⟩ L
end
end Sp

set_option Elab.async false
set_option linter.all false
set_option maxRecDepth 100000
set_option maxHeartbeats 4000000
namespace Sp
open PySem PySem.Spec PyProof.Rows L2
section
variable {P : Program} {w : World} {K : PySem.W.Frag} {mg : Str → Option Value} {base : Heap}
abbrev N_Fault_init : List Str := ["self", "kind", "place", "level"]
theorem sc_Fault_init : FnScope N_Fault_init ["self", "kind", "place", "level"] (defScope s_Fault_init) := ⟨rfl, rfl, rfl, by decide +kernel, rfl, by decide +kernel, by decide +kernel⟩
def sp_Fault_init (K : PySem.W.Frag) : Sp := fun vs H Q _ => ∃ (a : Addr) (k : Str) (p l : Int), vs = [.ref a, .str k, .int p, .int l] ∧ H a = some (exo a (He.ga K "Fault") none) ∧
  ∀ d H', H d = none → d ≠ a → H' a = some (exo a (He.ga K "Fault") (some d)) → H' d = some (exd d [("level", .int l), ("place", .int p), ("kind", .str k)]) → (∀ b o, H b = some o → b ≠ a → H' b = some o) → Q .non H'
theorem ok_Fault_init (T : Txt K mg) : DOk P w K mg base CX0 1 ("Fault", some "__init__") ["self", "kind", "place", "level"] (sp_Fault_init K) := by
  refine dok T.d_Fault_init sc_Fault_init (fun _ _ _ _ _ _ us hl => match us, hl with | [_, _, _, _], _ => rfl) (fun vs H Q E h => ?_) (fun cdv A outer s H vs Q E hr h => ?_)
  · obtain ⟨a, kd, p, l, rfl, ha, k⟩ := h
    rfl
  · obtain ⟨a, kd, p, l, rfl, ha, k⟩ := h
    refine ⟨_, (PSs.nox (pss_cons (ps_expr (pe_hei T.y_HouseError T.g_HouseError (pa_cons (pv 0) (pa_cons pe_str pa_nil))))
      (pss_cons (ps_ost (pv 0) (pv 1))
      (pss_cons (ps_ost (pv 0) (pv 2))
      (pss_one (ps_ost (pv 0) (pv 3))))))), ?_⟩
    refine ⟨_, rfl, a, _, _, rfl, (by show 1 ≤ 1000; decide), T.oex, ha, ?_⟩
    refine ⟨_, rfl, _, rfl, a, _, rfl, T.oex, T.n_Fault_kind, .inl ⟨ha, fun d nd hda => ?_⟩⟩
    refine ⟨_, rfl, _, rfl, a, _, rfl, T.oex, T.n_Fault_place, .inr ⟨d, _, upd_same, by rw [upd_ne hda]; exact upd_same, by show 1 ≤ 900; decide, ?_⟩⟩
    refine ⟨_, rfl, _, rfl, a, _, rfl, T.oex, T.n_Fault_level, .inr ⟨d, _, by rw [upd_ne hda.symm]; exact upd_same, upd_same, by show 2 ≤ 900; decide, ?_⟩⟩
    refine k d _ nd hda ?_ upd_same fun b o e hb => ?_
    · rw [upd_ne hda.symm, upd_ne hda.symm]; exact upd_same
    · have : b ≠ d := ne_of_none e nd
      rw [upd_ne this, upd_ne this, upd_ne hb, upd_ne this]; exact e
/-- a fault's own dict -/
def FltAt (H : Hp) (d : Addr) (k : Str) (p l : Int) : Prop := H d = some (.xd [("level", .int l), ("place", .int p), ("kind", .str k)])
theorem pmk_fault {X : Cx} {e : Expr} {es : List Expr} {ta : TA} {p pos : Pos} (T : Txt X.K X.mg) (hr : Room 2 X.A) (ha : PA X (e :: es) ta) (hg : Gl X "Fault" := by rfl)
    (he : starEach (e :: es) X.env = (false, eval e X.env) :: starEach es X.env := by rfl) (hpl : (backTo pos (starEach es X.env)).any (·.1) = false := by rfl) :
    PMk X (.Call (.Name "Fault" p) (e :: es) [] pos) (tMkO (He.ga X.K "Fault") (sp_Fault_init X.K) [] ta) := by
  obtain ⟨⟨fd, F, b⟩, kp⟩ := ok_Fault_init (P := X.prog) (w := X.w) (base := X.base) T
  exact pmk_oex T.oex T.oexI T.oexT F hr b .nil pass0 hg T.g_Fault ha (by decide +kernel) he hpl
theorem mkF {H1 : Hp} {Q : XK} {k : Str} {p l : Int} (h : ∀ d H', Same H1 H' → H1 d = none → FltAt H' d k p l → Q (.ref (He.ga K "Fault")) (some d) H') :
    [V.str k, V.int p, V.int l].length ≤ 1000 ∧ ∀ a, H1 a = none → sp_Fault_init K (.ref a :: ([V.str k, V.int p, V.int l] ++ [])) (upd H1 a (exo a (He.ga K "Fault") none))
      (fun v H2 => v = .non ∧ ∃ (d : Addr) (fs : List (Str × V)), H2 a = some (exo a (He.ga K "Fault") (some d)) ∧ H2 d = some (exd d fs) ∧ H1 d = none ∧ Q (.ref (He.ga K "Fault")) (some d) (upd (del H2 a) d (.xd fs))) (fun _ _ _ => False) := by
  refine ⟨by show 3 ≤ 1000; decide, fun a na => ⟨a, k, p, l, rfl, upd_same, fun d H' nd hda ea ed hk => ⟨rfl, d, _, ea, ed, (upd_none nd).2, h d _ ?_ (upd_none nd).2 upd_same⟩⟩⟩
  intro b o e
  have h1 : b ≠ a := ne_of_none e na
  have h2 : b ≠ d := ne_of_none e (upd_none nd).2
  rw [upd_ne h2, del_ne h1]
  exact hk b o (by rw [upd_ne h1]; exact e) h1
/-! ### a store, as the walk sees it -/
def sp_st_has (St : Hp → Addr → List Pg → Prop) : Sp := fun vs H Q _ => ∃ (a : Addr) (ps : List Pg) (n : Int), vs = [.ref a, .int n] ∧ St H a ps ∧ Q (.bl (pgHas ps n)) H
def sp_st_read (St : Hp → Addr → List Pg → Prop) : Sp := fun vs H Q _ => ∃ (a : Addr) (ps : List Pg) (n c : Int), vs = [.ref a, .int n, .int c] ∧ St H a ps ∧ pgHas ps n = true ∧ 0 ≤ c ∧ c < 8 ∧ Q (.int (pgRd ps n c)) H
def lookBy (ps : List Pg) (row : Int) (w k : Bool) : Except Str Int :=
  if bHas row 1 = false then .error "absent" else if pgHas ps (row / 256) = false then .error "beyond" else if (bHas row 4 && !k) = true then .error "kernel" else if (w && !bHas row 2) = true then .error "fixed" else .ok (row / 256)
abbrev Trail := (Int × Int) × (Int × Int) × Int × Int
def lookP (ps : List Pg) (root place : Int) (w k : Bool) : Except (Str × Int) Trail :=
  if 511 < place then .error ("far", 0) else if pgHas ps root = false then .error ("beyond", 0) else
  match lookBy ps (pgRd ps root (place / 8 / 8)) w k with
  | .error s => .error (s, 1)
  | .ok table => match lookBy ps (pgRd ps table (place / 8 % 8)) w k with
    | .error s => .error (s, 2)
    | .ok page => .ok ((root, place / 8 / 8), (table, place / 8 % 8), page, vRights (pgRd ps root (place / 8 / 8)) (pgRd ps table (place / 8 % 8)))
theorem lookBy_ok {ps : List Pg} {row : Int} {w k : Bool} {pg : Int} (h : lookBy ps row w k = .ok pg) : bHas row 1 = true ∧ pgHas ps (row / 256) = true ∧ pg = row / 256 ∧ (bHas row 4 && !k) = false ∧ (w && !bHas row 2) = false := by
  unfold lookBy at h
  by_cases h1 : bHas row 1 = false
  · rw [if_pos h1] at h; cases h
  · rw [if_neg h1] at h
    by_cases h2 : pgHas ps (row / 256) = false
    · rw [if_pos h2] at h; cases h
    · rw [if_neg h2] at h
      by_cases h3 : (bHas row 4 && !k) = true
      · rw [if_pos h3] at h; cases h
      · rw [if_neg h3] at h
        by_cases h4 : (w && !bHas row 2) = true
        · rw [if_pos h4] at h; cases h
        · rw [if_neg h4] at h
          injection h with h
          exact ⟨by simpa using h1, by simpa using h2, h.symm, by simpa using h3, by simpa using h4⟩
def TrAt (H0 H : Hp) (t : Addr) (x : Trail) : Prop := ∃ t1 t2, H t = some (.tup [.ref t1, .ref t2, .int x.2.2.1, .int x.2.2.2]) ∧ H t1 = some (.tup [.int x.1.1, .int x.1.2]) ∧ H t2 = some (.tup [.int x.2.1.1, .int x.2.1.2]) ∧ H0 t1 = none ∧ H0 t2 = none
abbrev N_look_by : List Str := ["store", "row", "place", "level", "write", "kernel", "page"]
theorem sc_look_by : FnScope N_look_by ["store", "row", "place", "level", "write", "kernel"] (defScope s_look_by) := ⟨rfl, rfl, rfl, by decide +kernel, rfl, by decide +kernel, by decide +kernel⟩
def sp_look_by (K : PySem.W.Frag) (c : Str) (St : Hp → Addr → List Pg → Prop) : Sp := fun vs H Q E => ∃ (a : Addr) (ps : List Pg) (row place level : Int) (w' k' : Bool), vs = [.ref a, .int row, .int place, .int level, .bl w', .bl k'] ∧ St H a ps ∧ IsO K c "has" H (.ref a) ∧
  (∀ pg, lookBy ps row w' k' = .ok pg → Q (.int pg) H) ∧ (∀ s, lookBy ps row w' k' = .error s → ∀ d H', Same H H' → H d = none → FltAt H' d s place level → E (.ref (He.ga K "Fault")) (some d) H')
theorem ok_look_by {c : Str} {St : Hp → Addr → List Pg → Prop} (hC : Cls K (He.ga K c)) (hM_has : Meth K (He.ga K c) "has" (He.ma K (He.ga K c) "has")) (G_has : DOk P w K mg base CX0 7 (c, some "has") ["self", "page"] (sp_st_has St)) (T : Txt K mg) : DOk P w K mg base (L2.CX P w) 8 ("look_by", none) ["store", "row", "place", "level", "write", "kernel"] (sp_look_by K c St) := by
  refine dok T.d_look_by sc_look_by (fun _ _ _ _ _ _ us hl => match us, hl with | [_, _, _, _, _, _], _ => rfl) (fun vs H Q E h => ?_) (fun cdv A outer s H vs Q E hr h => ?_)
  · obtain ⟨a, ps, row, place, level, w', k', rfl, hS, hO, k, kE⟩ := h
    rfl
  · obtain ⟨a, ps, row, place, level, w', k', rfl, hS, hO, k, kE⟩ := h
    refine ⟨_, (pss_cons (ps_set (i := 6) sc_look_by.nd rfl (Or.inl rfl) (pe_g (ok_page_of T) (hr.mono (by decide)) T.g_page_of pass0 (pa_cons (pv 1) pa_nil)))
      (pss_cons (ps_if (pt_not (pt_val (pe_g (ok_has T) (hr.mono (by decide)) T.g_has pass0 (pa_cons (pv 1) (pa_cons (pe_ic T.i_PRESENT) pa_nil))))) (pss_one (ps_raise rfl (takes_of rfl rfl rfl rfl) (pmk_fault T (hr.mono (by decide)) (pa_cons pe_str (pa_cons (pv 2) (pa_cons (pv 3) pa_nil)))))) pss_nil)
      (pss_cons (ps_if (pt_not (pt_val (pe_m (pv 0) hC hM_has G_has (hr.mono (by decide)) pass0 (pa_cons (pv 6) pa_nil)))) (pss_one (ps_raise rfl (takes_of rfl rfl rfl rfl) (pmk_fault T (hr.mono (by decide)) (pa_cons pe_str (pa_cons (pv 2) (pa_cons (pv 3) pa_nil)))))) pss_nil)
      (pss_cons (ps_if (PW.pt (pw_and (pt_val (pe_g (ok_has T) (hr.mono (by decide)) T.g_has pass0 (pa_cons (pv 1) (pa_cons (pe_ic T.i_KERNEL) pa_nil)))) (pw_and1 (pt_not (pt_val (pv 5)))))) (pss_one (ps_raise rfl (takes_of rfl rfl rfl rfl) (pmk_fault T (hr.mono (by decide)) (pa_cons pe_str (pa_cons (pv 2) (pa_cons (pv 3) pa_nil)))))) pss_nil)
      (pss_cons (ps_if (PW.pt (pw_and (pt_val (pv 4)) (pw_and1 (pt_not (pt_val (pe_g (ok_has T) (hr.mono (by decide)) T.g_has pass0 (pa_cons (pv 1) (pa_cons (pe_ic T.i_WRITABLE) pa_nil)))))))) (pss_one (ps_raise rfl (takes_of rfl rfl rfl rfl) (pmk_fault T (hr.mono (by decide)) (pa_cons pe_str (pa_cons (pv 2) (pa_cons (pv 3) pa_nil)))))) pss_nil)
      (pss_one (ps_ret (pv 6)))))))), ?_⟩
    unfold lookBy at k kE
    refine ⟨_, rfl, row, rfl, ?_⟩
    refine ⟨_, rfl, row, 1, rfl, _, rfl, ?_⟩
    cases h1 : bHas row 1 with
    | false =>
      refine iteT ⟨_, rfl, _, rfl, mkF fun d H' s nd f => ?_⟩
      exact kE _ (by rw [if_pos h1]) d H' s nd f
    | true =>
      rw [if_neg (by rw [h1]; decide)] at k kE
      refine iteF ⟨_, rfl, hO, _, rfl, a, ps, _, rfl, hS, _, rfl, ?_⟩
      cases h2 : pgHas ps (row / 256) with
      | false =>
        refine iteT ⟨_, rfl, _, rfl, mkF fun d H' s nd f => ?_⟩
        exact kE _ (by rw [if_pos h2]) d H' s nd f
      | true =>
        rw [if_neg (by rw [h2]; decide)] at k kE
        refine iteF ⟨_, rfl, row, 4, rfl, _, rfl, ?_⟩
        cases h3 : bHas row 4 with
        | true =>
          refine iteT ⟨_, rfl, _, rfl, ?_⟩
          cases k' with
          | false =>
            refine iteT ⟨_, rfl, _, rfl, mkF fun d H' s nd f => ?_⟩
            exact kE _ (by rw [if_pos (by rw [h3]; rfl)]) d H' s nd f
          | true =>
            rw [if_neg (by rw [h3]; decide)] at k kE
            refine iteF ⟨_, rfl, _, rfl, ?_⟩
            cases w' with
            | false => exact iteF (iteF ⟨_, rfl, k _ (by rw [if_neg (by simp)])⟩)
            | true =>
              refine iteT ⟨_, rfl, row, 2, rfl, _, rfl, ?_⟩
              cases h4 : bHas row 2 with
              | false =>
                refine iteT ⟨_, rfl, _, rfl, mkF fun d H' s nd f => ?_⟩
                exact kE _ (by rw [if_pos (by rw [h4]; rfl)]) d H' s nd f
              | true => exact iteF ⟨_, rfl, k _ (by rw [if_neg (by rw [h4]; decide)])⟩
        | false =>
          rw [if_neg (by rw [h3]; simp)] at k kE
          refine iteF (iteF ⟨_, rfl, _, rfl, ?_⟩)
          cases w' with
          | false => exact iteF (iteF ⟨_, rfl, k _ (by rw [if_neg (by simp)])⟩)
          | true =>
            refine iteT ⟨_, rfl, row, 2, rfl, _, rfl, ?_⟩
            cases h4 : bHas row 2 with
            | false =>
              refine iteT ⟨_, rfl, _, rfl, mkF fun d H' s nd f => ?_⟩
              exact kE _ (by rw [if_pos (by rw [h4]; rfl)]) d H' s nd f
            | true => exact iteF ⟨_, rfl, k _ (by rw [if_neg (by rw [h4]; decide)])⟩
abbrev N_look : List Str := ["store", "root", "place", "write", "kernel", "outer", "inner", "cell", "high", "table", "low", "page"]
theorem sc_look : FnScope N_look ["store", "root", "place", "write", "kernel"] (defScope s_look) := ⟨rfl, rfl, rfl, by decide +kernel, rfl, by decide +kernel, by decide +kernel⟩
def sp_look (K : PySem.W.Frag) (c : Str) (St : Hp → Addr → List Pg → Prop) : Sp := fun vs H Q E => ∃ (a : Addr) (ps : List Pg) (root place : Int) (w' k' : Bool), vs = [.ref a, .int root, .int place, .bl w', .bl k'] ∧ 0 ≤ place ∧ St H a ps ∧ IsO K c "has" H (.ref a) ∧ IsO K c "read" H (.ref a) ∧
  (∀ x, lookP ps root place w' k' = .ok x → ∀ t H', H t = none → Same H H' → TrAt H H' t x → Q (.ref t) H') ∧ (∀ s l, lookP ps root place w' k' = .error (s, l) → ∀ d H', Same H H' → H d = none → FltAt H' d s place l → E (.ref (He.ga K "Fault")) (some d) H')
theorem ok_look {c : Str} {St : Hp → Addr → List Pg → Prop} (hC : Cls K (He.ga K c)) (hM_has : Meth K (He.ga K c) "has" (He.ma K (He.ga K c) "has")) (hM_read : Meth K (He.ga K c) "read" (He.ma K (He.ga K c) "read")) (G_has : DOk P w K mg base CX0 7 (c, some "has") ["self", "page"] (sp_st_has St)) (G_read : DOk P w K mg base CX0 7 (c, some "read") ["self", "page", "cell"] (sp_st_read St)) (hSt : ∀ H H' a ps, St H a ps → Same H H' → St H' a ps) (T : Txt K mg) : DOk P w K mg base (L2.CX P w) 9 ("look", none) ["store", "root", "place", "write", "kernel"] (sp_look K c St) := by
  refine dok T.d_look sc_look (fun _ _ _ _ _ _ us hl => match us, hl with | [_, _, _, _, _], _ => rfl) (fun vs H Q E h => ?_) (fun cdv A outer s H vs Q E hr h => ?_)
  · obtain ⟨a, ps, root, place, w', k', rfl, hp0, hS, hO, hO2, k, kE⟩ := h
    rfl
  · obtain ⟨a, ps, root, place, w', k', rfl, hp0, hS, hO, hO2, k, kE⟩ := h
    refine ⟨_, (pss_cons (ps_if (pt_cmpR op_gt (pv 2) (pe_ic T.i_LAST) (nomark _)) (pss_one (ps_raise rfl (takes_of rfl rfl rfl rfl) (pmk_fault T (hr.mono (by decide)) (pa_cons pe_str (pa_cons (pv 2) (pa_cons pe_int pa_nil)))))) pss_nil)
      (pss_cons (ps_if (pt_not (pt_val (pe_m (pv 0) hC hM_has G_has (hr.mono (by decide)) pass0 (pa_cons (pv 1) pa_nil)))) (pss_one (ps_raise rfl (takes_of rfl rfl rfl rfl) (pmk_fault T (hr.mono (by decide)) (pa_cons pe_str (pa_cons (pv 2) (pa_cons pe_int pa_nil)))))) pss_nil)
      (pss_cons (ps_asg (pe_g (ok_parts_of T) (hr.mono (by decide)) T.g_parts_of pass0 (pa_cons (pv 2) pa_nil)) (pg_tup rfl (pgs_cons (pg_name (i := 5) sc_look.nd rfl (Or.inl rfl)) (pgs_cons (pg_name (i := 6) sc_look.nd rfl (Or.inl rfl)) (pgs_cons (pg_name (i := 7) sc_look.nd rfl (Or.inl rfl)) pgs_nil)))))
      (pss_cons (ps_set (i := 8) sc_look.nd rfl (Or.inl rfl) (pe_m (pv 0) hC hM_read G_read (hr.mono (by decide)) pass0 (pa_cons (pv 1) (pa_cons (pv 5) pa_nil))))
      (pss_cons (ps_set (i := 9) sc_look.nd rfl (Or.inl rfl) (pe_g (ok_look_by hC hM_has G_has T) (hr.mono (by decide)) T.g_look_by (passes_call (takes_of rfl rfl rfl rfl) (fun _ _ _ _ h => h)) (pa_cons (pv 0) (pa_cons (pv 8) (pa_cons (pv 2) (pa_cons pe_int (pa_cons (pv 3) (pa_cons (pv 4) pa_nil))))))))
      (pss_cons (ps_set (i := 10) sc_look.nd rfl (Or.inl rfl) (pe_m (pv 0) hC hM_read G_read (hr.mono (by decide)) pass0 (pa_cons (pv 9) (pa_cons (pv 6) pa_nil))))
      (pss_cons (ps_set (i := 11) sc_look.nd rfl (Or.inl rfl) (pe_g (ok_look_by hC hM_has G_has T) (hr.mono (by decide)) T.g_look_by (passes_call (takes_of rfl rfl rfl rfl) (fun _ _ _ _ h => h)) (pa_cons (pv 0) (pa_cons (pv 10) (pa_cons (pv 2) (pa_cons pe_int (pa_cons (pv 3) (pa_cons (pv 4) pa_nil))))))))
      (pss_one (ps_ret (pe_tup (pa_cons (pe_tup (pa_cons (pv 1) (pa_cons (pv 5) pa_nil))) (pa_cons (pe_tup (pa_cons (pv 9) (pa_cons (pv 6) pa_nil))) (pa_cons (pv 11) (pa_cons (pe_g (ok_rights_of T) (hr.mono (by decide)) T.g_rights_of pass0 (pa_cons (pv 8) (pa_cons (pv 10) pa_nil))) pa_nil)))))))))))))), ?_⟩
    unfold lookP at k kE
    have isoS : ∀ {H1 H2 : Hp} {m : Str}, IsO K c m H1 (.ref a) → Same H1 H2 → IsO K c m H2 (.ref a) := fun ⟨b, dx, fs, e, h, l⟩ s => ⟨b, dx, fs, e, s _ _ h, l⟩
    refine ⟨_, rfl, _, _, rfl, rfl, _, rfl, ?_⟩
    by_cases h1 : 511 < place
    · refine ifT (decide_eq_true h1) ⟨_, rfl, mkF fun d H' s nd f => ?_⟩
      exact kE _ _ (by rw [if_pos h1]) d H' s nd f
    rw [if_neg h1] at k kE
    refine ifF (decide_eq_false h1) ⟨_, rfl, hO, _, rfl, a, ps, _, rfl, hS, _, rfl, ?_⟩
    cases h2 : pgHas ps root with
    | false =>
      refine iteT ⟨_, rfl, mkF fun d H' s nd f => ?_⟩
      exact kE _ _ (by rw [if_pos h2]) d H' s nd f
    | true =>
    rw [if_neg (by rw [h2]; decide)] at k kE
    refine iteF ⟨_, rfl, place, rfl, hp0, by omega, fun p1 H1 n1 s1 e1 => ?_⟩
    have hS1 := hSt _ _ _ _ hS s1
    have hO1 := isoS hO s1
    have hO21 := isoS hO2 s1
    refine ⟨p1, _, rfl, SqT.of e1, rfl, _, _, rfl, _, _, rfl, _, _, rfl, rfl, ?_⟩
    have o0 : 0 ≤ place / 8 / 8 := by omega
    have o8 : place / 8 / 8 < 8 := by omega
    have i0 : 0 ≤ place / 8 % 8 := by omega
    have i8 : place / 8 % 8 < 8 := by omega
    refine ⟨_, rfl, hO21, _, rfl, _, rfl, a, ps, _, _, rfl, hS1, h2, o0, o8, ?_⟩
    refine ⟨_, rfl, _, rfl, _, rfl, _, rfl, _, rfl, a, ps, _, place, 1, w', k', rfl, hS1, hO1, fun table ht => ?_, fun s hs d H' sd nd f => ?_⟩
    case refine_2 =>
      rw [hs] at kE
      exact kE s 1 rfl d H' (s1.trans sd) (s1.free nd) f
    rw [ht] at k kE
    obtain ⟨b1, b2, b3, b4, b5⟩ := lookBy_ok ht
    refine ⟨_, rfl, hO21, _, rfl, _, rfl, a, ps, _, _, rfl, hS1, by rw [b3]; exact b2, i0, i8, ?_⟩
    refine ⟨_, rfl, _, rfl, _, rfl, _, rfl, _, rfl, a, ps, _, place, 2, w', k', rfl, hS1, hO1, fun page hpg => ?_, fun s hs d H' sd nd f => ?_⟩
    case refine_2 =>
      dsimp only at kE
      rw [hs] at kE
      exact kE s 2 rfl d H' (s1.trans sd) (s1.free nd) f
    dsimp only at k
    rw [hpg] at k
    refine ⟨_, rfl, _, rfl, by show 2 ≤ sizeLine; decide, fun t1 m1 => ?_⟩
    refine ⟨_, rfl, _, rfl, by show 2 ≤ sizeLine; decide, fun t2 m2 => ?_⟩
    refine ⟨_, rfl, _, rfl, _, rfl, _, _, rfl, by show 4 ≤ sizeLine; decide, fun t m => ?_⟩
    obtain ⟨q1, r1⟩ := upd_none m
    obtain ⟨q2, r2⟩ := upd_none r1
    obtain ⟨q3, r3⟩ := upd_none m2
    refine k _ rfl t _ (s1.free r2) (s1.trans ((same_new m1).trans ((same_new m2).trans (same_new m)))) ⟨t1, t2, upd_same, ?_, ?_, s1.free m1, s1.free (upd_none m2).2⟩
    · rw [upd_ne q2.symm, upd_ne q3.symm, upd_same]
    · rw [upd_ne q1.symm, upd_same]
end
end Sp

set_option Elab.async false
set_option linter.all false
set_option maxRecDepth 100000
set_option maxHeartbeats 4000000
namespace Sp
open PySem PySem.Spec PyProof.Rows L2
section
variable {P : Program} {w : World} {K : PySem.W.Frag} {mg : Str → Option Value} {base : Heap}
/-! ### dicts whose keys are page numbers -/
structure KOk (kvs : List (Key × V)) : Prop where
  nd : (kvs.map (·.1)).Nodup
  lt : ∀ k ∈ kvs.map (·.1), ∃ n : Nat, n < 24 ∧ k = Sum.inl (n : Int)
theorem nodup_lt : ∀ (n : Nat) (l : List Nat), l.Nodup → (∀ x ∈ l, x < n) → l.length ≤ n
  | 0, [], _, _ => Nat.le_refl _
  | 0, x :: _, _, h => absurd (h x List.mem_cons_self) (Nat.not_lt_zero _)
  | n + 1, l, nd, h => by
    have h1 : (l.erase n).length ≤ n := nodup_lt n (l.erase n) (nd.erase n) fun x hx => by
      have := h x (List.mem_of_mem_erase hx)
      have ne : x ≠ n := fun z => by
        rw [z] at hx
        exact (List.Nodup.not_mem_erase nd) hx
      omega
    have h2 : l.length ≤ (l.erase n).length + 1 := by
      rw [List.length_erase]
      split <;> omega
    omega
theorem KOk.len {kvs : List (Key × V)} (h : KOk kvs) : kvs.length ≤ 24 := by
  have e : ∃ l : List Nat, l.Nodup ∧ (∀ x ∈ l, x < 24) ∧ l.length = kvs.length := by
    refine ⟨(kvs.map (·.1)).map (fun k => match k with | .inl i => i.toNat | .inr _ => 0), ?_, ?_, by rw [List.length_map, List.length_map]⟩
    · have inj : ∀ a ∈ kvs.map (·.1), ∀ b ∈ kvs.map (·.1), (match a with | .inl i => i.toNat | .inr _ => 0) = (match b with | .inl i => i.toNat | .inr _ => 0) → a = b := fun a ha b hb q => by
        obtain ⟨n, _, rfl⟩ := h.lt a ha
        obtain ⟨m, _, rfl⟩ := h.lt b hb
        have : n = m := by simpa using q
        rw [this]
      have nd := h.nd
      revert inj nd
      generalize kvs.map (·.1) = l
      intro inj nd
      induction l with
      | nil => exact List.nodup_nil
      | cons a r ih =>
        rw [List.map_cons]
        obtain ⟨n1, n2⟩ := List.nodup_cons.mp nd
        refine List.nodup_cons.mpr ⟨fun m => ?_, ih (fun x hx y hy => inj x (List.mem_cons_of_mem _ hx) y (List.mem_cons_of_mem _ hy)) n2⟩
        obtain ⟨b, hb, e⟩ := List.mem_map.mp m
        exact n1 (inj a List.mem_cons_self b (List.mem_cons_of_mem _ hb) e.symm ▸ hb)
    · intro x hx
      obtain ⟨k, hk, rfl⟩ := List.mem_map.mp hx
      obtain ⟨n, hn, rfl⟩ := h.lt k hk
      simpa using hn
  obtain ⟨l, n1, n2, n3⟩ := e
  rw [← n3]
  exact nodup_lt 24 l n1 n2
theorem KOk.put {kvs : List (Key × V)} (h : KOk kvs) {n : Nat} (hn : n < 24) (v : V) : KOk (putK kvs (Sum.inl (n : Int)) v) := by
  cases e : valV kvs (Sum.inl (n : Int)) with
  | none =>
    refine ⟨nd_putK v h.nd e, fun k hk => ?_⟩
    rw [putK_new v e, List.map_append] at hk
    rcases List.mem_append.mp hk with hk | hk
    · exact h.lt k hk
    · rw [List.map_cons, List.map_nil] at hk
      exact ⟨n, hn, List.mem_singleton.mp hk⟩
  | some w =>
    have ek : (putK kvs (Sum.inl (n : Int)) v).map (·.1) = kvs.map (·.1) := by
      unfold putK
      have : (kvs.any fun kv => decide (kv.1 = Sum.inl (n : Int))) = true := by
        have m := valV_in e
        obtain ⟨p, hp, ep⟩ := List.mem_map.mp m
        exact List.any_eq_true.mpr ⟨p, hp, decide_eq_true ep⟩
      rw [if_pos this, List.map_map]
      apply List.map_congr_left
      intro p _
      show (if p.1 = Sum.inl (n : Int) then (p.1, v) else p).1 = p.1
      split <;> rfl
    exact ⟨by rw [ek]; exact h.nd, fun k hk => h.lt k (by rw [ek] at hk; exact hk)⟩
theorem KOk.drop {kvs : List (Key × V)} (h : KOk kvs) (k : Key) : KOk (dropK kvs k) :=
  ⟨nd_dropK h.nd, fun x hx => by
    obtain ⟨p, hp, e⟩ := List.mem_map.mp hx
    exact h.lt x (List.mem_map.mpr ⟨p, dropK_mem hp, e⟩)⟩
theorem KOk.nil : KOk [] := ⟨List.nodup_nil, fun k hk => by cases hk⟩
/-! ### a way -/
structure Wy where
  me : Addr
  ch : Addr
  an : Addr
  op : Addr
  sp : Addr
  mn : Addr
  f : Fr
  s : Sh
  p : Pt
  base : Int
  said : List Bool
  chK : List (Key × V)
  opK : List (Key × V)
  spare : List Nat
  mine : List Nat
def natV (n : Nat) : V := .int (n : Int)
def fsWy (S : Wy) : List (Str × V) := [("held", .ref S.s.sh), ("base", .int S.base), ("ground", .ref S.f.fr), ("mine", .ref S.mn), ("part", .ref S.p.pt), ("changed", .ref S.ch), ("answers", .ref S.an), ("opened", .ref S.op), ("spare", .ref S.sp)]
structure WyAt (K : PySem.W.Frag) (g : Addr → Nat) (H : Hp) (S : Wy) : Prop where
  wf : Wf g H
  ob : ∃ dx, H S.me = some (.ins (He.ga K "Shadows") dx (fsWy S))
  fr : FrAt K g H S.f
  sh : ShAt K g H S.s
  pt : PtAt K g H S.f.fr S.p
  ch_ : H S.ch = some (.dK S.chK)
  an_ : H S.an = some (.lst (S.said.map V.bl))
  op_ : H S.op = some (.dK S.opK)
  sp_ : H S.sp = some (.lst (S.spare.map natV))
  mn_ : H S.mn = some (.lst (S.mine.map natV))
  t9 : g S.me = 9
  t10 : g S.ch = 10
  t11 : g S.an = 11
  t12 : g S.op = 12
  t13 : g S.sp = 13
  t14 : g S.mn = 14
  kc : KOk S.chK
  ko : KOk S.opK
def ALL : List Nat := [1, 2, 3, 4, 5, 6, 7, 8, 9, 10, 11, 12, 13, 14, 15]
theorem lk_w1 (S : Wy) : (fsWy S).lookup ("held" : Str) = some (.ref S.s.sh) := by kernel_rfl
theorem lk_w2 (S : Wy) : (fsWy S).lookup ("base" : Str) = some (.int S.base) := by kernel_rfl
theorem lk_w3 (S : Wy) : (fsWy S).lookup ("ground" : Str) = some (.ref S.f.fr) := by kernel_rfl
theorem lk_w4 (S : Wy) : (fsWy S).lookup ("mine" : Str) = some (.ref S.mn) := by kernel_rfl
theorem lk_w5 (S : Wy) : (fsWy S).lookup ("part" : Str) = some (.ref S.p.pt) := by kernel_rfl
theorem lk_w6 (S : Wy) : (fsWy S).lookup ("changed" : Str) = some (.ref S.ch) := by kernel_rfl
theorem lk_w7 (S : Wy) : (fsWy S).lookup ("answers" : Str) = some (.ref S.an) := by kernel_rfl
theorem lk_w8 (S : Wy) : (fsWy S).lookup ("opened" : Str) = some (.ref S.op) := by kernel_rfl
theorem lk_w9 (S : Wy) : (fsWy S).lookup ("spare" : Str) = some (.ref S.sp) := by kernel_rfl
theorem pf_w2 (S : Wy) (z : Int) : putF "base" (.int z) (fsWy S) = fsWy { S with base := z } := by kernel_rfl
theorem pf_w7 (S : Wy) (a : Addr) : putF "answers" (.ref a) (fsWy S) = fsWy { S with an := a } := by kernel_rfl
section
variable {g g' : Addr → Nat} {H H' : Hp} {S : Wy} {T : List Nat}
theorem WyAt.fl (A : WyAt K g H S) {f : Str} {v : V} (h : (fsWy S).lookup f = some v) : Fld K "Shadows" f H (.ref S.me) v := by
  obtain ⟨dx, ob⟩ := A.ob
  exact ⟨_, dx, _, rfl, ob, h⟩
theorem WyAt.o (A : WyAt K g H S) {m : Str} (hm : (["held", "base", "ground", "mine", "part", "changed", "answers", "opened", "spare"] : List Str).contains m = false := by decide +kernel) : IsO K "Shadows" m H (.ref S.me) := by
  obtain ⟨dx, ob⟩ := A.ob
  exact ⟨_, dx, _, rfl, ob, lookup_no hm⟩
/-- the way's own objects stay, its frames, shelf and part may change -/
theorem WyAt.chg (A : WyAt K g H S) (s : Stp T g H g' H') {f : Fr} {sh : Sh} {p : Pt} (B : FrAt K g' H' f) (C : ShAt K g' H' sh) (D : PtAt K g' H' f.fr p) (e1 : f.fr = S.f.fr) (e2 : sh.sh = S.s.sh) (e3 : p.pt = S.p.pt)
    (h : ∀ n ∈ [9, 10, 11, 12, 13, 14], n ∉ T := by decide) : WyAt K g' H' { S with f := f, s := sh, p := p } := by
  obtain ⟨dx, ob⟩ := A.ob
  have ob' := s.at ob (by rw [A.t9]; exact h 9 (by simp))
  refine ⟨s.wf A.wf, ⟨dx, ?_⟩, B, C, D, s.at A.ch_ (by rw [A.t10]; exact h 10 (by simp)), s.at A.an_ (by rw [A.t11]; exact h 11 (by simp)), s.at A.op_ (by rw [A.t12]; exact h 12 (by simp)), s.at A.sp_ (by rw [A.t13]; exact h 13 (by simp)), s.at A.mn_ (by rw [A.t14]; exact h 14 (by simp)),
    (s.tag ob).trans A.t9, (s.tag A.ch_).trans A.t10, (s.tag A.an_).trans A.t11, (s.tag A.op_).trans A.t12, (s.tag A.sp_).trans A.t13, (s.tag A.mn_).trans A.t14, A.kc, A.ko⟩
  have : fsWy { S with f := f, s := sh, p := p } = fsWy S := by unfold fsWy; rw [e1, e2, e3]
  rw [this]
  exact ob'
theorem WyAt.stp0 (A : WyAt K g H S) (s : Stp T g H g' H') (h : ∀ n ∈ ALL, n ∉ T) : WyAt K g' H' S := by
  have hh : ∀ {l : List Nat}, (∀ n ∈ l, n ∈ ALL) → ∀ n ∈ l, n ∉ T := fun hl n hn => h n (hl n hn)
  exact A.chg s (A.fr.stp s (hh (by decide))) (A.sh.stp s (hh (by decide))) (A.pt.stp s (hh (by decide))) rfl rfl rfl (hh (by decide))
theorem WyAt.same (A : WyAt K g H S) (s : Same H H') : WyAt K g H' S := A.stp0 (T := []) (.same s) (by simp)
theorem WyAt.setF (A : WyAt K g H S) (s : Stp T g H g' H') {f : Fr} (B : FrAt K g' H' f) (e1 : f.fr = S.f.fr) (h : ∀ n ∈ [5, 6, 7, 8, 9, 10, 11, 12, 13, 14, 15], n ∉ T := by decide) : WyAt K g' H' { S with f := f } := by
  have hh : ∀ {l : List Nat}, (∀ n ∈ l, n ∈ [5, 6, 7, 8, 9, 10, 11, 12, 13, 14, 15]) → ∀ n ∈ l, n ∉ T := fun hl n hn => h n (hl n hn)
  have D := A.pt.stp s (hh (by decide))
  rw [← e1] at D
  exact A.chg s B (A.sh.stp s (hh (by decide))) D e1 rfl rfl (hh (by decide))
theorem WyAt.setS (A : WyAt K g H S) (s : Stp T g H g' H') {sh : Sh} (B : ShAt K g' H' sh) (e1 : sh.sh = S.s.sh) (h : ∀ n ∈ [1, 2, 3, 4, 5, 6, 9, 10, 11, 12, 13, 14], n ∉ T := by decide) : WyAt K g' H' { S with s := sh } := by
  have hh : ∀ {l : List Nat}, (∀ n ∈ l, n ∈ [1, 2, 3, 4, 5, 6, 9, 10, 11, 12, 13, 14]) → ∀ n ∈ l, n ∉ T := fun hl n hn => h n (hl n hn)
  exact A.chg s (A.fr.stp s (hh (by decide))) B (A.pt.stp s (hh (by decide))) rfl e1 rfl (hh (by decide))
/-- one of the way's own lists or dicts is written -/
theorem WyAt.keepO (A : WyAt K g H S) {a : Addr} {o : HO} {n : Nat} (ha : g a = n) (hn : ∀ m ∈ [1, 2, 3, 4, 5, 6, 7, 8, 15], m ≠ n) : FrAt K g (upd H a o) S.f ∧ ShAt K g (upd H a o) S.s ∧ PtAt K g (upd H a o) S.f.fr S.p := by
  by_cases hh : ∃ u, H a = some u
  · obtain ⟨u, hu⟩ := hh
    have st : Stp [n] g H g (upd H a o) := .put hu (by rw [ha]; simp)
    have k : ∀ {l : List Nat}, (∀ m ∈ l, m ∈ [1, 2, 3, 4, 5, 6, 7, 8, 15]) → ∀ m ∈ l, m ∉ [n] := fun hl m hm z => hn m (hl m hm) (List.mem_singleton.mp z)
    exact ⟨A.fr.stp st (k (by decide)), A.sh.stp st (k (by decide)), A.pt.stp st (k (by decide))⟩
  · have hu : H a = none := by
      cases e : H a with
      | none => rfl
      | some u => exact absurd ⟨u, e⟩ hh
    have s := same_new (o := o) hu
    exact ⟨A.fr.same s, A.sh.same s, A.pt.same s⟩
theorem WyAt.setCh (A : WyAt K g H S) {kvs : List (Key × V)} (h : KOk kvs) : Stp ALL g H g (upd H S.ch (.dK kvs)) ∧ WyAt K g (upd H S.ch (.dK kvs)) { S with chK := kvs } := by
  have st : Stp [10] g H g (upd H S.ch (.dK kvs)) := .put A.ch_ (by rw [A.t10]; simp)
  obtain ⟨B, C, D⟩ := A.keepO (o := .dK kvs) A.t10 (by decide)
  obtain ⟨dx, ob⟩ := A.ob
  exact ⟨st.mono (by decide), st.wf A.wf, ⟨dx, by rw [upd_ne (tne A.t9 A.t10)]; exact ob⟩, B, C, D, upd_same, by rw [upd_ne (tne A.t11 A.t10)]; exact A.an_, by rw [upd_ne (tne A.t12 A.t10)]; exact A.op_, by rw [upd_ne (tne A.t13 A.t10)]; exact A.sp_, by rw [upd_ne (tne A.t14 A.t10)]; exact A.mn_,
    A.t9, A.t10, A.t11, A.t12, A.t13, A.t14, h, A.ko⟩
theorem WyAt.setOp (A : WyAt K g H S) {kvs : List (Key × V)} (h : KOk kvs) : Stp ALL g H g (upd H S.op (.dK kvs)) ∧ WyAt K g (upd H S.op (.dK kvs)) { S with opK := kvs } := by
  have st : Stp [12] g H g (upd H S.op (.dK kvs)) := .put A.op_ (by rw [A.t12]; simp)
  obtain ⟨B, C, D⟩ := A.keepO (o := .dK kvs) A.t12 (by decide)
  obtain ⟨dx, ob⟩ := A.ob
  exact ⟨st.mono (by decide), st.wf A.wf, ⟨dx, by rw [upd_ne (tne A.t9 A.t12)]; exact ob⟩, B, C, D, by rw [upd_ne (tne A.t10 A.t12)]; exact A.ch_, by rw [upd_ne (tne A.t11 A.t12)]; exact A.an_, upd_same, by rw [upd_ne (tne A.t13 A.t12)]; exact A.sp_, by rw [upd_ne (tne A.t14 A.t12)]; exact A.mn_,
    A.t9, A.t10, A.t11, A.t12, A.t13, A.t14, A.kc, h⟩
theorem WyAt.setSp (A : WyAt K g H S) (l : List Nat) : Stp ALL g H g (upd H S.sp (.lst (l.map natV))) ∧ WyAt K g (upd H S.sp (.lst (l.map natV))) { S with spare := l } := by
  have st : Stp [13] g H g (upd H S.sp (.lst (l.map natV))) := .put A.sp_ (by rw [A.t13]; simp)
  obtain ⟨B, C, D⟩ := A.keepO (o := .lst (l.map natV)) A.t13 (by decide)
  obtain ⟨dx, ob⟩ := A.ob
  exact ⟨st.mono (by decide), st.wf A.wf, ⟨dx, by rw [upd_ne (tne A.t9 A.t13)]; exact ob⟩, B, C, D, by rw [upd_ne (tne A.t10 A.t13)]; exact A.ch_, by rw [upd_ne (tne A.t11 A.t13)]; exact A.an_, by rw [upd_ne (tne A.t12 A.t13)]; exact A.op_, upd_same, by rw [upd_ne (tne A.t14 A.t13)]; exact A.mn_,
    A.t9, A.t10, A.t11, A.t12, A.t13, A.t14, A.kc, A.ko⟩
theorem WyAt.setAn (A : WyAt K g H S) (l : List Bool) : Stp ALL g H g (upd H S.an (.lst (l.map V.bl))) ∧ WyAt K g (upd H S.an (.lst (l.map V.bl))) { S with said := l } := by
  have st : Stp [11] g H g (upd H S.an (.lst (l.map V.bl))) := .put A.an_ (by rw [A.t11]; simp)
  obtain ⟨B, C, D⟩ := A.keepO (o := .lst (l.map V.bl)) A.t11 (by decide)
  obtain ⟨dx, ob⟩ := A.ob
  exact ⟨st.mono (by decide), st.wf A.wf, ⟨dx, by rw [upd_ne (tne A.t9 A.t11)]; exact ob⟩, B, C, D, by rw [upd_ne (tne A.t10 A.t11)]; exact A.ch_, upd_same, by rw [upd_ne (tne A.t12 A.t11)]; exact A.op_, by rw [upd_ne (tne A.t13 A.t11)]; exact A.sp_, by rw [upd_ne (tne A.t14 A.t11)]; exact A.mn_,
    A.t9, A.t10, A.t11, A.t12, A.t13, A.t14, A.kc, A.ko⟩
theorem WyAt.setB (A : WyAt K g H S) (z : Int) : ∃ H', Stf K "Shadows" "base" H (.ref S.me) (.int z) H' ∧ Stp ALL g H g H' ∧ WyAt K g H' { S with base := z } := by
  obtain ⟨dx, ob⟩ := A.ob
  have st : Stp [9] g H g (upd H S.me (.ins (He.ga K "Shadows") dx (putF "base" (.int z) (fsWy S)))) := .put ob (by rw [A.t9]; simp)
  obtain ⟨B, C, D⟩ := A.keepO (o := .ins (He.ga K "Shadows") dx (putF "base" (.int z) (fsWy S))) A.t9 (by decide)
  exact ⟨_, ⟨_, dx, _, rfl, ob, by show 9 < 1000; decide, rfl⟩, st.mono (by decide), st.wf A.wf, ⟨dx, by rw [upd_same, pf_w2]⟩, B, C, D, by rw [upd_ne (tne A.t10 A.t9)]; exact A.ch_, by rw [upd_ne (tne A.t11 A.t9)]; exact A.an_, by rw [upd_ne (tne A.t12 A.t9)]; exact A.op_, by rw [upd_ne (tne A.t13 A.t9)]; exact A.sp_, by rw [upd_ne (tne A.t14 A.t9)]; exact A.mn_,
    A.t9, A.t10, A.t11, A.t12, A.t13, A.t14, A.kc, A.ko⟩
end
/-- every page that is there lies on a taken frame -/
def Tk (S : Wy) : Prop := ∀ (j f : Nat), S.p.leads[j]? = some (some f) → ∃ p, S.f.F[f]? = some (some p)
def Wy.pages (S : Wy) : List Pg := wPg S.f.F S.p.leads
theorem pgW_w {S : Wy} {i f : Nat} {w : Addr} {xs : List Int} (e : S.p.leads[i]? = some (some f)) (ef : S.f.F[f]? = some (some (w, xs))) : pgWords S.pages (i : Int) = some xs := by
  unfold pgWords Wy.pages
  rw [if_pos (Int.natCast_nonneg i), Int.toNat_natCast, wPg_get, e]
  show (frW S.f.F f) = some xs
  exact frW_of ef
theorem pgH_w {S : Wy} (tk : Tk S) (n : Int) : pgHas S.pages n = (pLead S.p.leads n).isSome := by
  unfold pgHas pgWords pLead Wy.pages
  by_cases h0 : 0 ≤ n
  · rw [if_pos h0, if_pos h0, wPg_get]
    cases e : S.p.leads[n.toNat]? with
    | none => rfl
    | some l =>
      cases l with
      | none => rfl
      | some f =>
        obtain ⟨⟨w, xs⟩, hp⟩ := tk _ _ e
        show (frW S.f.F f).isSome = true
        rw [frW_of hp]; rfl
  · rw [if_neg h0, if_neg h0]; rfl
theorem w_at {S : Wy} (tk : Tk S) {n : Int} (h : pgHas S.pages n = true) : ∃ (i f : Nat) (w : Addr) (xs : List Int), n = (i : Int) ∧ S.p.leads[i]? = some (some f) ∧ S.f.F[f]? = some (some (w, xs)) ∧ pgWords S.pages n = some xs := by
  rw [pgH_w tk] at h
  obtain ⟨f, hf⟩ := Option.isSome_iff_exists.mp h
  obtain ⟨i, rfl, e⟩ := pLead_ex hf
  obtain ⟨⟨w, xs⟩, hp⟩ := tk i f e
  exact ⟨i, f, w, xs, rfl, e, hp, pgW_w e hp⟩
abbrev N_Shadows_size : List Str := ["self"]
theorem sc_Shadows_size : FnScope N_Shadows_size ["self"] (defScope s_Shadows_size) := ⟨rfl, rfl, rfl, by decide +kernel, rfl, by decide +kernel, by decide +kernel⟩
def sp_Shadows_size (K : PySem.W.Frag) : Sp := fun vs H Q _ => ∃ (g : Addr → Nat) (S : Wy), vs = [.ref S.me] ∧ WyAt K g H S ∧ Q (.int (S.pages.length : Nat)) H
theorem ok_Shadows_size (T : Txt K mg) : DOk P w K mg base CX0 2 ("Shadows", some "size") ["self"] (sp_Shadows_size K) := by
  refine dok T.d_Shadows_size sc_Shadows_size (fun _ _ _ _ _ _ us hl => match us, hl with | [_], _ => rfl) (fun vs H Q E h => ?_) (fun cdv A outer s H vs Q E hr h => ?_)
  · obtain ⟨g, S, rfl, A, k⟩ := h
    rfl
  · obtain ⟨g, S, rfl, A, k⟩ := h
    refine ⟨_, (PSs.nox (pss_one (ps_ret (pe_m0 (pe_f (pv 0) T.c_Shadows T.n_Shadows_part) T.c_Parts T.m_Parts_size (ok_Parts_size T) (hr.mono (by decide)) pass0)))), ?_⟩
    refine ⟨_, rfl, _, A.fl (lk_w5 S), A.pt.o, g, _, S.p, rfl, A.pt, ?_⟩
    have : S.pages.length = S.p.leads.length := wPg_len _ _
    rw [← this]
    exact k
abbrev N_Shadows_has : List Str := ["self", "page"]
theorem sc_Shadows_has : FnScope N_Shadows_has ["self", "page"] (defScope s_Shadows_has) := ⟨rfl, rfl, rfl, by decide +kernel, rfl, by decide +kernel, by decide +kernel⟩
def sp_Shadows_has (K : PySem.W.Frag) : Sp := fun vs H Q _ => ∃ (g : Addr → Nat) (S : Wy) (n : Int), vs = [.ref S.me, .int n] ∧ WyAt K g H S ∧ Tk S ∧ Q (.bl (pgHas S.pages n)) H
theorem ok_Shadows_has (T : Txt K mg) : DOk P w K mg base CX0 4 ("Shadows", some "has") ["self", "page"] (sp_Shadows_has K) := by
  refine dok T.d_Shadows_has sc_Shadows_has (fun _ _ _ _ _ _ us hl => match us, hl with | [_, _], _ => rfl) (fun vs H Q E h => ?_) (fun cdv A outer s H vs Q E hr h => ?_)
  · obtain ⟨g, S, n, rfl, A, tk, k⟩ := h
    rfl
  · obtain ⟨g, S, n, rfl, A, tk, k⟩ := h
    refine ⟨_, (PSs.nox (pss_one (ps_ret (pe_cmpR op_notN (pe_m (pe_f (pv 0) T.c_Shadows T.n_Shadows_part) T.c_Parts T.m_Parts_frame (ok_Parts_frame T) (hr.mono (by decide)) pass0 (pa_cons (pv 1) pa_nil)) pe_non (nomark _))))), ?_⟩
    refine ⟨_, rfl, _, A.fl (lk_w5 S), A.pt.o, _, rfl, g, _, S.p, n, rfl, A.pt, rfl, ?_⟩
    rw [pgH_w tk] at k
    cases e : pLead S.p.leads n with
    | none => rw [e] at k; exact k
    | some f => rw [e] at k; exact k
abbrev N_Shadows_look_for : List Str := ["self", "page", "cell"]
theorem sc_Shadows_look_for : FnScope N_Shadows_look_for ["self", "page", "cell"] (defScope s_Shadows_look_for) := ⟨rfl, rfl, rfl, by decide +kernel, rfl, by decide +kernel, by decide +kernel⟩
def sp_Shadows_look_for (K : PySem.W.Frag) : Sp := fun vs H Q _ => ∃ (g : Addr → Nat) (S : Wy) (n c : Int), vs = [.ref S.me, .int n, .int c] ∧ WyAt K g H S ∧ Tk S ∧ pgHas S.pages n = true ∧ 0 ≤ c ∧ c < 8 ∧ Q .non H
theorem ok_Shadows_look_for (T : Txt K mg) : DOk P w K mg base CX0 5 ("Shadows", some "look_for") ["self", "page", "cell"] (sp_Shadows_look_for K) := by
  refine dok T.d_Shadows_look_for sc_Shadows_look_for (fun _ _ _ _ _ _ us hl => match us, hl with | [_, _, _], _ => rfl) (fun vs H Q E h => ?_) (fun cdv A outer s H vs Q E hr h => ?_)
  · obtain ⟨g, S, n, c, rfl, A, tk, hn, h0, h1, k⟩ := h
    rfl
  · obtain ⟨g, S, n, c, rfl, A, tk, hn, h0, h1, k⟩ := h
    refine ⟨_, (PSs.nox (pss_cons (ps_if (pt_not (pt_val (pe_m (pv 0) T.c_Shadows T.m_Shadows_has (ok_Shadows_has T) (hr.mono (by decide)) pass0 (pa_cons (pv 1) pa_nil)))) (pss_one ps_never) pss_nil)
      (pss_one (ps_if (pt_not (pt_val (pe_g (ok_is_below T) (hr.mono (by decide)) T.g_is_below pass0 (pa_cons (pv 2) (pa_cons (pe_ic T.i_CELLS) pa_nil))))) (pss_one ps_never) pss_nil)))), ?_⟩
    refine ⟨_, rfl, A.o, _, rfl, g, S, n, rfl, A, tk, _, rfl, ?_⟩
    rw [hn]
    refine iteF ⟨_, rfl, _, _, rfl, _, rfl, ?_⟩
    rw [decide_eq_true h0, decide_eq_true h1]
    exact iteF k
abbrev N_Shadows_fetch : List Str := ["self", "page", "cell"]
theorem sc_Shadows_fetch : FnScope N_Shadows_fetch ["self", "page", "cell"] (defScope s_Shadows_fetch) := ⟨rfl, rfl, rfl, by decide +kernel, rfl, by decide +kernel, by decide +kernel⟩
def sp_Shadows_fetch (K : PySem.W.Frag) : Sp := fun vs H Q _ => ∃ (g : Addr → Nat) (S : Wy) (n c : Int), vs = [.ref S.me, .int n, .int c] ∧ WyAt K g H S ∧ Tk S ∧ pgHas S.pages n = true ∧ 0 ≤ c ∧ c < 8 ∧ Q (.int (pgRd S.pages n c)) H
theorem ok_Shadows_fetch (T : Txt K mg) : DOk P w K mg base CX0 6 ("Shadows", some "fetch") ["self", "page", "cell"] (sp_Shadows_fetch K) := by
  refine dok T.d_Shadows_fetch sc_Shadows_fetch (fun _ _ _ _ _ _ us hl => match us, hl with | [_, _, _], _ => rfl) (fun vs H Q E h => ?_) (fun cdv A outer s H vs Q E hr h => ?_)
  · obtain ⟨g, S, n, c, rfl, A, tk, hn, h0, h1, k⟩ := h
    rfl
  · obtain ⟨g, S, n, c, rfl, A, tk, hn, h0, h1, k⟩ := h
    refine ⟨_, (PSs.nox (pss_one (ps_ret (pe_m (pe_f (pv 0) T.c_Shadows T.n_Shadows_ground) T.c_Frames T.m_Frames_read (ok_Frames_read T) (hr.mono (by decide)) pass0 (pa_cons (pe_m (pe_f (pv 0) T.c_Shadows T.n_Shadows_part) T.c_Parts T.m_Parts_frame (ok_Parts_frame T) (hr.mono (by decide)) pass0 (pa_cons (pv 1) pa_nil)) (pa_cons (pv 2) pa_nil)))))), ?_⟩
    obtain ⟨i, f, w, xs, rfl, e, ef, ew⟩ := w_at tk hn
    refine ⟨_, rfl, _, A.fl (lk_w3 S), A.fr.o, _, rfl, _, A.fl (lk_w5 S), A.pt.o, _, rfl, g, _, S.p, _, rfl, A.pt, _, rfl, ?_⟩
    rw [pLead_nat e]
    refine ⟨g, S.f, (f : Int), c, rfl, A.fr, pgH_f ef, h0, h1, ?_⟩
    have : pgRd (fPg S.f.F) (f : Int) c = pgRd S.pages (i : Int) c := by
      unfold pgRd
      rw [ew, pgW_f.mpr ⟨f, w, rfl, ef⟩]
    rw [this]
    exact k
abbrev N_Shadows_read : List Str := ["self", "page", "cell"]
theorem sc_Shadows_read : FnScope N_Shadows_read ["self", "page", "cell"] (defScope s_Shadows_read) := ⟨rfl, rfl, rfl, by decide +kernel, rfl, by decide +kernel, by decide +kernel⟩
def sp_Shadows_read (K : PySem.W.Frag) : Sp := fun vs H Q _ => ∃ (g : Addr → Nat) (S : Wy) (n c : Int), vs = [.ref S.me, .int n, .int c] ∧ WyAt K g H S ∧ Tk S ∧ pgHas S.pages n = true ∧ 0 ≤ c ∧ c < 8 ∧ Q (.int (pgRd S.pages n c)) H
theorem ok_Shadows_read (T : Txt K mg) : DOk P w K mg base CX0 7 ("Shadows", some "read") ["self", "page", "cell"] (sp_Shadows_read K) := by
  refine dok T.d_Shadows_read sc_Shadows_read (fun _ _ _ _ _ _ us hl => match us, hl with | [_, _, _], _ => rfl) (fun vs H Q E h => ?_) (fun cdv A outer s H vs Q E hr h => ?_)
  · obtain ⟨g, S, n, c, rfl, A, tk, hn, h0, h1, k⟩ := h
    rfl
  · obtain ⟨g, S, n, c, rfl, A, tk, hn, h0, h1, k⟩ := h
    refine ⟨_, (PSs.nox (pss_cons (ps_expr (pe_m (pv 0) T.c_Shadows T.m_Shadows_look_for (ok_Shadows_look_for T) (hr.mono (by decide)) pass0 (pa_cons (pv 1) (pa_cons (pv 2) pa_nil))))
      (pss_one (ps_ret (pe_m (pv 0) T.c_Shadows T.m_Shadows_fetch (ok_Shadows_fetch T) (hr.mono (by decide)) pass0 (pa_cons (pv 1) (pa_cons (pv 2) pa_nil))))))), ?_⟩
    exact ⟨_, rfl, A.o, _, rfl, _, rfl, g, S, n, c, rfl, A, tk, hn, h0, h1, _, rfl, A.o, _, rfl, _, rfl, g, S, n, c, rfl, A, tk, hn, h0, h1, k⟩
abbrev N_Shadows_root : List Str := ["self"]
theorem sc_Shadows_root : FnScope N_Shadows_root ["self"] (defScope s_Shadows_root) := ⟨rfl, rfl, rfl, by decide +kernel, rfl, by decide +kernel, by decide +kernel⟩
def sp_Shadows_root (K : PySem.W.Frag) : Sp := fun vs H Q _ => ∃ (g : Addr → Nat) (S : Wy), vs = [.ref S.me] ∧ WyAt K g H S ∧ Q (.int S.base) H
theorem ok_Shadows_root (T : Txt K mg) : DOk P w K mg base CX0 1 ("Shadows", some "root") ["self"] (sp_Shadows_root K) := by
  refine dok T.d_Shadows_root sc_Shadows_root (fun _ _ _ _ _ _ us hl => match us, hl with | [_], _ => rfl) (fun vs H Q E h => ?_) (fun cdv A outer s H vs Q E hr h => ?_)
  · obtain ⟨g, S, rfl, A, k⟩ := h
    rfl
  · obtain ⟨g, S, rfl, A, k⟩ := h
    refine ⟨_, (PSs.nox (pss_one (ps_ret (pe_f (pv 0) T.c_Shadows T.n_Shadows_base)))), ?_⟩
    exact ⟨_, rfl, _, A.fl (lk_w2 S), k⟩
abbrev N_Shadows_said : List Str := ["self"]
theorem sc_Shadows_said : FnScope N_Shadows_said ["self"] (defScope s_Shadows_said) := ⟨rfl, rfl, rfl, by decide +kernel, rfl, by decide +kernel, by decide +kernel⟩
def sp_Shadows_said (K : PySem.W.Frag) : Sp := fun vs H Q _ => ∃ (g : Addr → Nat) (S : Wy), vs = [.ref S.me] ∧ WyAt K g H S ∧ ∀ l H', H l = none → Same H H' → H' l = some (.lst (S.said.map V.bl)) → Q (.ref l) H'
theorem ok_Shadows_said (T : Txt K mg) : DOk P w K mg base CX0 1 ("Shadows", some "said") ["self"] (sp_Shadows_said K) := by
  refine dok T.d_Shadows_said sc_Shadows_said (fun _ _ _ _ _ _ us hl => match us, hl with | [_], _ => rfl) (fun vs H Q E h => ?_) (fun cdv A outer s H vs Q E hr h => ?_)
  · obtain ⟨g, S, rfl, A, k⟩ := h
    rfl
  · obtain ⟨g, S, rfl, A, k⟩ := h
    refine ⟨_, (PSs.nox (pss_one (ps_ret (pe_callTy call_list_of rfl T.b_list (by decide +kernel) (pa_cons (pe_f (pv 0) T.c_Shadows T.n_Shadows_answers) pa_nil))))), ?_⟩
    exact ⟨_, rfl, _, A.fl (lk_w7 S), _, _, rfl, .inl (SqL.of A.an_), fun l nl => k l _ nl (same_new nl) upd_same⟩
abbrev N_Shadows_shelf : List Str := ["self"]
theorem sc_Shadows_shelf : FnScope N_Shadows_shelf ["self"] (defScope s_Shadows_shelf) := ⟨rfl, rfl, rfl, by decide +kernel, rfl, by decide +kernel, by decide +kernel⟩
def sp_Shadows_shelf (K : PySem.W.Frag) : Sp := fun vs H Q _ => ∃ (g : Addr → Nat) (S : Wy), vs = [.ref S.me] ∧ WyAt K g H S ∧ ∀ l H', H l = none → Same H H' → H' l = some (.lst (S.s.rows.map fun r => .ref r.1)) → Q (.ref l) H'
theorem ok_Shadows_shelf (T : Txt K mg) : DOk P w K mg base CX0 2 ("Shadows", some "shelf") ["self"] (sp_Shadows_shelf K) := by
  refine dok T.d_Shadows_shelf sc_Shadows_shelf (fun _ _ _ _ _ _ us hl => match us, hl with | [_], _ => rfl) (fun vs H Q E h => ?_) (fun cdv A outer s H vs Q E hr h => ?_)
  · obtain ⟨g, S, rfl, A, k⟩ := h
    rfl
  · obtain ⟨g, S, rfl, A, k⟩ := h
    refine ⟨_, (PSs.nox (pss_one (ps_ret (pe_m0 (pe_f (pv 0) T.c_Shadows T.n_Shadows_held) T.c_Shelf T.m_Shelf_told (ok_Shelf_told T) (hr.mono (by decide)) pass0)))), ?_⟩
    exact ⟨_, rfl, _, A.fl (lk_w1 S), A.sh.o, g, S.s, rfl, A.sh, k⟩
abbrev N_Shadows_put_alone : List Str := ["self", "page"]
theorem sc_Shadows_put_alone : FnScope N_Shadows_put_alone ["self", "page"] (defScope s_Shadows_put_alone) := ⟨rfl, rfl, rfl, by decide +kernel, rfl, by decide +kernel, by decide +kernel⟩
def sp_Shadows_put_alone (K : PySem.W.Frag) : Sp := fun vs H Q _ => ∃ (g : Addr → Nat) (S : Wy) (i f : Nat) (p : Addr × List Int), vs = [.ref S.me, .int (i : Int)] ∧ WyAt K g H S ∧ S.p.leads[i]? = some (some f) ∧ S.f.F[f]? = some (some p) ∧ Q .non H
theorem ok_Shadows_put_alone (T : Txt K mg) : DOk P w K mg base CX0 9 ("Shadows", some "put_alone") ["self", "page"] (sp_Shadows_put_alone K) := by
  refine dok T.d_Shadows_put_alone sc_Shadows_put_alone (fun _ _ _ _ _ _ us hl => match us, hl with | [_, _], _ => rfl) (fun vs H Q E h => ?_) (fun cdv A outer s H vs Q E hr h => ?_)
  · obtain ⟨g, S, i, f, p, rfl, A, e, ef, k⟩ := h
    rfl
  · obtain ⟨g, S, i, f, p, rfl, A, e, ef, k⟩ := h
    refine ⟨_, (PSs.nox (pss_one (ps_if (pt_val (pe_m (pe_f (pv 0) T.c_Shadows T.n_Shadows_part) T.c_Parts T.m_Parts_alone (ok_Parts_alone T) (hr.mono (by decide)) pass0 (pa_cons (pv 1) pa_nil))) (pss_one ps_never) pss_nil))), ?_⟩
    refine ⟨_, rfl, _, A.fl (lk_w5 S), A.pt.o, _, rfl, g, S.f, S.p, i, f, p, rfl, A.pt, A.fr, e, ef, _, rfl, ?_⟩
    exact iteF k
abbrev N_Kept_deposit : List Str := ["self", "page", "cell", "word"]
theorem sc_Kept_deposit : FnScope N_Kept_deposit ["self", "page", "cell", "word"] (defScope s_Kept_deposit) := ⟨rfl, rfl, rfl, by decide +kernel, rfl, by decide +kernel, by decide +kernel⟩
def sp_Kept_deposit (K : PySem.W.Frag) : Sp := fun vs H Q _ => ∃ (g : Addr → Nat) (S : Wy) (i j f : Nat) (x : Int) (w : Addr) (xs : List Int), vs = [.ref S.me, .int (i : Int), .int (j : Int), .int x] ∧ WyAt K g H S ∧ S.p.leads[i]? = some (some f) ∧ S.f.F[f]? = some (some (w, xs)) ∧ j < 8 ∧ IsWord x ∧
  ∀ H' kvs, Stp ALL g H g H' → WyAt K g H' { S with f := { S.f with F := S.f.F.set f (some (w, xs.set j x)) }, chK := kvs } → Q .non H'
theorem ok_Kept_deposit (T : Txt K mg) : DOk P w K mg base CX0 10 ("Kept", some "deposit") ["self", "page", "cell", "word"] (sp_Kept_deposit K) := by
  refine dok T.d_Kept_deposit sc_Kept_deposit (fun _ _ _ _ _ _ us hl => match us, hl with | [_, _, _, _], _ => rfl) (fun vs H Q E h => ?_) (fun cdv A outer s H vs Q E hr h => ?_)
  · obtain ⟨g, S, i, j, f, x, w, xs, rfl, A, e, ef, hj, hx, k⟩ := h
    rfl
  · obtain ⟨g, S, i, j, f, x, w, xs, rfl, A, e, ef, hj, hx, k⟩ := h
    refine ⟨_, (PSs.nox (pss_cons (ps_expr (pe_m (pv 0) T.c_Shadows T.m_Shadows_put_alone (ok_Shadows_put_alone T) (hr.mono (by decide)) pass0 (pa_cons (pv 1) pa_nil)))
      (pss_cons (ps_dput (hu_of hr) (pe_f (pv 0) T.c_Shadows T.n_Shadows_changed) (pv 1) pe_bl rfl)
      (pss_one (ps_expr (pe_m (pe_f (pv 0) T.c_Shadows T.n_Shadows_ground) T.c_Frames T.m_Frames_write (ok_Frames_write T) (hr.mono (by decide)) pass0 (pa_cons (pe_m (pe_f (pv 0) T.c_Shadows T.n_Shadows_part) T.c_Parts T.m_Parts_frame (ok_Parts_frame T) (hr.mono (by decide)) pass0 (pa_cons (pv 1) pa_nil)) (pa_cons (pv 2) (pa_cons (pv 3) pa_nil))))))))), ?_⟩
    have hi : i < 24 := Nat.lt_of_lt_of_le (List.getElem?_eq_some_iff.mp e).1 A.pt.sz
    refine ⟨_, rfl, A.o, _, rfl, g, S, i, f, _, rfl, A, e, ef, ?_⟩
    have kc := A.kc.put hi (.bl true)
    obtain ⟨s1, A1⟩ := A.setCh kc
    refine ⟨_, rfl, _, A.fl (lk_w6 S), _, rfl, S.ch, _, rfl, DPut.k (k := Sum.inl (i : Int)) A.ch_ (small1000 (by have := A.kc.len; omega)), ?_⟩
    refine ⟨_, rfl, _, A1.fl (lk_w3 _), A1.fr.o, _, rfl, _, A1.fl (lk_w5 _), A1.pt.o, _, rfl, g, _, S.p, _, rfl, A1.pt, _, rfl, _, rfl, ?_⟩
    rw [pLead_nat e]
    refine ⟨g, S.f, f, j, x, w, xs, rfl, A1.fr, ef, hj, hx, fun H2 s2 B2 => ?_⟩
    exact k H2 _ (s1.trans (s2.mono (by decide))) (A1.setF s2 B2 rfl)
abbrev N_Shadows_deposit : List Str := ["self", "page", "cell", "word"]
theorem sc_Shadows_deposit : FnScope N_Shadows_deposit ["self", "page", "cell", "word"] (defScope s_Shadows_deposit) := ⟨rfl, rfl, rfl, by decide +kernel, rfl, by decide +kernel, by decide +kernel⟩
def sp_Shadows_deposit (K : PySem.W.Frag) : Sp := fun vs H Q _ => ∃ (g : Addr → Nat) (S : Wy) (i j f : Nat) (x : Int) (w : Addr) (xs : List Int), vs = [.ref S.me, .int (i : Int), .int (j : Int), .int x] ∧ WyAt K g H S ∧ S.p.leads[i]? = some (some f) ∧ S.f.F[f]? = some (some (w, xs)) ∧ j < 8 ∧ IsWord x ∧
  ∀ H' kvs kvs2, Stp ALL g H g H' → WyAt K g H' { S with f := { S.f with F := S.f.F.set f (some (w, xs.set j x)) }, chK := kvs, opK := kvs2 } → Q .non H'
theorem ok_Shadows_deposit (T : Txt K mg) : DOk P w K mg base CX0 11 ("Shadows", some "deposit") ["self", "page", "cell", "word"] (sp_Shadows_deposit K) := by
  refine dok T.d_Shadows_deposit sc_Shadows_deposit (fun _ _ _ _ _ _ us hl => match us, hl with | [_, _, _, _], _ => rfl) (fun vs H Q E h => ?_) (fun cdv A outer s H vs Q E hr h => ?_)
  · obtain ⟨g, S, i, j, f, x, w, xs, rfl, A, e, ef, hj, hx, k⟩ := h
    rfl
  · obtain ⟨g, S, i, j, f, x, w, xs, rfl, A, e, ef, hj, hx, k⟩ := h
    refine ⟨_, (PSs.nox (pss_cons (ps_expr (pe_k T.y_Kept_deposit T.g_Kept (ok_Kept_deposit T) (hr.mono (by decide)) pass0 (pa_cons (pv 0) (pa_cons (pv 1) (pa_cons (pv 2) (pa_cons (pv 3) pa_nil))))))
      (pss_one (ps_dput (hu_of hr) (pe_f (pv 0) T.c_Shadows T.n_Shadows_opened) (pv 1) pe_bl rfl)))), ?_⟩
    have hi : i < 24 := Nat.lt_of_lt_of_le (List.getElem?_eq_some_iff.mp e).1 A.pt.sz
    refine ⟨_, rfl, _, rfl, _, rfl, _, rfl, g, S, i, j, f, x, w, xs, rfl, A, e, ef, hj, hx, fun H1 kvs s1 A1 => ?_⟩
    have ko := A1.ko.put hi (.bl true)
    obtain ⟨s2, A2⟩ := A1.setOp ko
    refine ⟨_, rfl, _, A1.fl (lk_w8 _), _, rfl, S.op, _, rfl, DPut.k (k := Sum.inl (i : Int)) A1.op_ (small1000 (by have := A1.ko.len; omega)), ?_⟩
    exact k _ _ _ (s1.trans s2) A2
/-- a page's word is written: the state behind it -/
def Wy.wr (S : Wy) (f j : Nat) (x : Int) (w : Addr) (xs : List Int) (c o : List (Key × V)) : Wy := { S with f := { S.f with F := S.f.F.set f (some (w, xs.set j x)) }, chK := c, opK := o }
abbrev N_Shadows_write : List Str := ["self", "page", "cell", "word"]
theorem sc_Shadows_write : FnScope N_Shadows_write ["self", "page", "cell", "word"] (defScope s_Shadows_write) := ⟨rfl, rfl, rfl, by decide +kernel, rfl, by decide +kernel, by decide +kernel⟩
def sp_Shadows_write (K : PySem.W.Frag) : Sp := fun vs H Q _ => ∃ (g : Addr → Nat) (S : Wy) (n c x : Int), vs = [.ref S.me, .int n, .int c, .int x] ∧ WyAt K g H S ∧ Tk S ∧ pgHas S.pages n = true ∧ 0 ≤ c ∧ c < 8 ∧ IsWord x ∧
  ∀ (i f : Nat) w xs H' kvs kvs2, n = (i : Int) → S.p.leads[i]? = some (some f) → S.f.F[f]? = some (some (w, xs)) → Stp ALL g H g H' → WyAt K g H' (S.wr f c.toNat x w xs kvs kvs2) → Q .non H'
theorem ok_Shadows_write (T : Txt K mg) : DOk P w K mg base CX0 12 ("Shadows", some "write") ["self", "page", "cell", "word"] (sp_Shadows_write K) := by
  refine dok T.d_Shadows_write sc_Shadows_write (fun _ _ _ _ _ _ us hl => match us, hl with | [_, _, _, _], _ => rfl) (fun vs H Q E h => ?_) (fun cdv A outer s H vs Q E hr h => ?_)
  · obtain ⟨g, S, n, c, x, rfl, A, tk, hn, h0, h1, hx, k⟩ := h
    rfl
  · obtain ⟨g, S, n, c, x, rfl, A, tk, hn, h0, h1, hx, k⟩ := h
    refine ⟨_, (PSs.nox (pss_cons (ps_expr (pe_m (pv 0) T.c_Shadows T.m_Shadows_look_for (ok_Shadows_look_for T) (hr.mono (by decide)) pass0 (pa_cons (pv 1) (pa_cons (pv 2) pa_nil))))
      (pss_cons (ps_if (pt_not (pt_val (pe_g (ok_is_word T) (hr.mono (by decide)) T.g_is_word pass0 (pa_cons (pv 3) pa_nil)))) (pss_one ps_never) pss_nil)
      (pss_one (ps_expr (pe_m (pv 0) T.c_Shadows T.m_Shadows_deposit (ok_Shadows_deposit T) (hr.mono (by decide)) pass0 (pa_cons (pv 1) (pa_cons (pv 2) (pa_cons (pv 3) pa_nil))))))))), ?_⟩
    obtain ⟨i, f, w, xs, rfl, e, ef, ew⟩ := w_at tk hn
    obtain ⟨j, rfl⟩ : ∃ j : Nat, c = (j : Int) := ⟨c.toNat, (Int.toNat_of_nonneg h0).symm⟩
    refine ⟨_, rfl, A.o, _, rfl, _, rfl, g, S, _, _, rfl, A, tk, hn, h0, h1, ?_⟩
    refine ⟨_, rfl, x, rfl, hx, _, rfl, iteF ?_⟩
    refine ⟨_, rfl, A.o, _, rfl, _, rfl, _, rfl, g, S, i, j, f, x, w, xs, rfl, A, e, ef, by omega, hx, fun H1 kvs kvs2 s1 A1 => ?_⟩
    exact k i f w xs H1 kvs kvs2 rfl e ef s1 A1
end
end Sp

set_option Elab.async false
set_option linter.all false
set_option maxRecDepth 100000
set_option maxHeartbeats 4000000
namespace Sp
open PySem PySem.Spec PyProof.Rows L2
section
variable {P : Program} {w : World} {K : PySem.W.Frag} {mg : Str → Option Value} {base : Heap}
/-! ### bits -/
theorem bAnd_nat (a b : Nat) : Builtin.bitAnd (a : Int) (b : Int) = ((a &&& b : Nat) : Int) := by simp [Builtin.bitAnd]
theorem land_lo {f m k : Nat} (hm : m < 256) (hk : k < 256) : (f * 256 + m) &&& k = m &&& k := by
  apply Nat.eq_of_testBit_eq
  intro i
  rw [Nat.testBit_and, Nat.testBit_and]
  by_cases h : i < 8
  · have e : f * 256 + m = 2 ^ 8 * f + m := by omega
    rw [e, Nat.testBit_two_pow_mul_add _ (by omega), if_pos h]
  · have : k.testBit i = false := Nat.testBit_lt_two_pow (Nat.lt_of_lt_of_le (show k < 2 ^ 8 by omega) (Nat.pow_le_pow_right (by decide) (by omega)))
    rw [this, Bool.and_false, Bool.and_false]
theorem bHas_nat (a k : Nat) : bHas (a : Int) (k : Int) = decide (a &&& k = k) := by
  unfold bHas
  rw [bAnd_nat]
  by_cases h : a &&& k = k
  · rw [decide_eq_true h, decide_eq_true (by rw [h])]
  · rw [decide_eq_false h, decide_eq_false fun z => h (by omega)]
theorem bHas_lo {f m k : Nat} (hm : m < 256) (hk : k < 256) : bHas ((f * 256 + m : Nat) : Int) (k : Int) = bHas (m : Int) (k : Int) := by
  rw [bHas_nat, bHas_nat, land_lo hm hk]
/-- a shadow row's marks, by the shelf's rights and whether it lets writes by -/
def mkN (r4 wr : Bool) : Nat := 9 + (if r4 then 4 else 0) + (if wr then 18 else 0)
theorem mkN_lt (a b : Bool) : mkN a b < 256 := by cases a <;> cases b <;> decide
theorem mkN_1 (a b : Bool) : bHas (mkN a b : Nat) 1 = true := by cases a <;> cases b <;> decide
theorem mkN_4 (a b : Bool) : bHas (mkN a b : Nat) 4 = a := by cases a <;> cases b <;> decide
theorem mkN_2 (a b : Bool) : bHas (mkN a b : Nat) 2 = b := by cases a <;> cases b <;> decide
theorem and4 (r : Nat) : r &&& 4 = if bHas (r : Int) 4 then 4 else 0 := by
  rw [show bHas (r : Int) 4 = decide (r &&& 4 = 4) from bHas_nat r 4]
  have h : r &&& 4 = r % 8 &&& 4 := by
    have := land_lo (f := r / 256) (m := r % 256) (k := 4) (by omega) (by decide)
    have e : r / 256 * 256 + r % 256 = r := by omega
    rw [e] at this
    have h2 : ∀ m : Fin 256, (m.val &&& 4) = (m.val % 8 &&& 4) := by decide
    have := h2 ⟨r % 256, by omega⟩
    have e3 : r % 256 % 8 = r % 8 := by omega
    simp only [e3] at this
    rw [← this]; assumption
  have h8 : ∀ m : Fin 8, (m.val &&& 4) = 4 ∨ (m.val &&& 4) = 0 := by decide
  have := h8 ⟨r % 8, by omega⟩
  simp only at this
  rw [← h] at this
  rcases this with e | e
  · rw [e]; rfl
  · rw [e]; rfl
theorem marks1 {r : Int} (h : 0 ≤ r) : Builtin.bitOr (Builtin.bitOr 1 8) (Builtin.bitAnd r 4) = (mkN (bHas r 4) false : Nat) := by
  obtain ⟨n, rfl⟩ := Int.eq_ofNat_of_zero_le h
  rw [show (4 : Int) = ((4 : Nat) : Int) from rfl, bAnd_nat, and4]
  have : ∀ b : Bool, Builtin.bitOr (Builtin.bitOr 1 8) (((if b then 4 else 0 : Nat)) : Int) = (mkN b false : Nat) := by decide
  exact this _
theorem marks2 (b : Bool) : Builtin.bitOr (mkN b false : Nat) (Builtin.bitOr 2 16) = (mkN b true : Nat) := by cases b <;> decide
theorem row_mk {f : Nat} {a b : Bool} : Builtin.bitOr ((f : Int) * 256) (mkN a b : Nat) = ((f * 256 + mkN a b : Nat) : Int) := by
  have := or_low (q := (f : Int)) (r := ((mkN a b : Nat) : Int)) (k := 8) (by omega) (by omega) (by have := mkN_lt a b; omega)
  rw [show (2 : Int) ^ 8 = 256 from rfl] at this
  rw [this]; omega
/-! ### the shadow tables -/
def tbV : Option Nat → Int
  | none => 0
  | some t => ((t * 256 + 3 : Nat) : Int)
def rowF (F : List Fm) (tb : Nat → Option Nat) (n : Nat) : Int := match tb (n / 8) with
  | none => 0
  | some t => ((frW F t).getD []).getD (n % 8) 0
structure TabOk (F : List Fm) (top : Nat) (rest spare : List Nat) (tb : Nat → Option Nat) : Prop where
  topw : ∃ xs, frW F top = some xs ∧ ∀ o, o < 8 → xs.getD o 0 = tbV (tb o)
  tbr : ∀ o t, o < 8 → tb o = some t → t ∈ rest ∧ t ∉ spare
  tbi : ∀ o o' t, o < 8 → o' < 8 → tb o = some t → tb o' = some t → o = o'
  spr : ∀ t ∈ spare, t ∈ rest
  spn : spare.Nodup
  spz : ∀ t ∈ spare, frW F t = some zeros
  ne : (∃ o, o < 8 ∧ (tb o).isSome = true) ∨ spare ≠ []
  nd : (top :: rest).Nodup
  tkn : ∀ t ∈ top :: rest, ∃ xs, frW F t = some xs
structure LineOk (l : List Rw) : Prop where
  nr : ∀ r ∈ l, 0 ≤ r.1 ∧ r.1 < 64 ∧ 0 ≤ r.2.2
  nd : (l.map (·.1)).Nodup
structure Wst (S : Wy) (top : Nat) (rest : List Nat) (tb : Nat → Option Nat) : Prop where
  mine : S.mine = top :: rest
  tab : TabOk S.f.F top rest S.spare tb
  inj : LInj S.p.leads
  tk : Tk S
  apart : ∀ (j f : Nat), S.p.leads[j]? = some (some f) → f ∉ top :: rest
  c : (cnt S.f.F : Int) ≤ S.f.pl
  l : S.f.pl ≤ S.f.F.length
  ln : LineOk S.s.line
def RowOk (F : List Fm) (leads : List (Option Nat)) (line : List Rw) (tb : Nat → Option Nat) (n : Nat) : Prop :=
  rowF F tb n = 0 ∨ ∃ (pg r : Int) (f : Nat) (wr : Bool), lSeek line (n : Int) = some (pg, r) ∧ pLead leads pg = some f ∧ rowF F tb n = ((f * 256 + mkN (bHas r 4) wr : Nat) : Int) ∧ (wr = true → bHas r 18 = true)
def RowsOk (S : Wy) (tb : Nat → Option Nat) (bad : Nat → Prop) : Prop := ∀ n, n < 64 → ¬ bad n → RowOk S.f.F S.p.leads S.s.line tb n
def noBad : Nat → Prop := fun _ => False
def Wok (S : Wy) (bad : Nat → Prop) : Prop := ∃ top rest tb, Wst S top rest tb ∧ RowsOk S tb bad
theorem TabOk.mem {F : List Fm} {top : Nat} {rest spare : List Nat} {tb : Nat → Option Nat} (h : TabOk F top rest spare tb) {o t : Nat} (ho : o < 8) (e : tb o = some t) : ∃ w xs, F[t]? = some (some (w, xs)) ∧ t ∈ rest ∧ t ≠ top := by
  obtain ⟨h1, _⟩ := h.tbr o t ho e
  obtain ⟨xs, hx⟩ := h.tkn t (List.mem_cons_of_mem _ h1)
  obtain ⟨w, hw⟩ := frW_ex hx
  exact ⟨w, xs, hw, h1, fun z => (List.nodup_cons.mp h.nd).1 (z ▸ h1)⟩
/-- frames outside the tables may change -/
theorem TabOk.congr {F F' : List Fm} {top : Nat} {rest spare : List Nat} {tb : Nat → Option Nat} (h : TabOk F top rest spare tb) (k : ∀ t ∈ top :: rest, frW F' t = frW F t) : TabOk F' top rest spare tb := by
  obtain ⟨xs, h1, h2⟩ := h.topw
  exact ⟨⟨xs, by rw [k top List.mem_cons_self]; exact h1, h2⟩, h.tbr, h.tbi, h.spr, h.spn, fun t ht => by rw [k t (List.mem_cons_of_mem _ (h.spr t ht))]; exact h.spz t ht, h.ne, h.nd, fun t ht => by rw [k t ht]; exact h.tkn t ht⟩
theorem rowF_congr {F F' : List Fm} {top : Nat} {rest spare : List Nat} {tb : Nat → Option Nat} (h : TabOk F top rest spare tb) (k : ∀ t ∈ top :: rest, frW F' t = frW F t) {n : Nat} (hn : n < 64) : rowF F' tb n = rowF F tb n := by
  unfold rowF
  cases e : tb (n / 8) with
  | none => rfl
  | some t =>
    have := k t (List.mem_cons_of_mem _ (h.tbr _ t (by omega) e).1)
    dsimp only
    rw [this]
theorem tab_get {F : List Fm} {top : Nat} {rest spare : List Nat} {tb : Nat → Option Nat} (h : TabOk F top rest spare tb) {o : Nat} (ho : o < 8) : pgHas (fPg F) (top : Int) = true ∧ pgRd (fPg F) (top : Int) (o : Int) = tbV (tb o) := by
  obtain ⟨xs, h1, h2⟩ := h.topw
  have e : pgWords (fPg F) (top : Int) = some xs := by rw [pgW_fr]; exact h1
  unfold pgHas pgRd
  rw [e, Int.toNat_natCast]
  exact ⟨rfl, h2 o ho⟩
theorem has_fr {F : List Fm} {f : Nat} {xs : List Int} (h : frW F f = some xs) : pgHas (fPg F) (f : Int) = true := by
  unfold pgHas
  rw [pgW_fr, h]; rfl
theorem tbV_has (t : Nat) : bHas (tbV (some t)) 1 = true ∧ bHas (tbV (some t)) 4 = false ∧ bHas (tbV (some t)) 2 = true ∧ tbV (some t) / 256 = (t : Int) := by
  unfold tbV
  refine ⟨?_, ?_, ?_, by show ((t * 256 + 3 : Nat) : Int) / 256 = (t : Int); omega⟩
  · have := bHas_lo (f := t) (m := 3) (k := 1) (by decide) (by decide)
    exact this.trans (by decide)
  · have := bHas_lo (f := t) (m := 3) (k := 4) (by decide) (by decide)
    exact this.trans (by decide)
  · have := bHas_lo (f := t) (m := 3) (k := 2) (by decide) (by decide)
    exact this.trans (by decide)
/-! ### the abstract way -/
structure Pl where
  pages : List Pg
  base : Int
  line : List Rw
  most : Int
  said : List Bool
  spare : Int
def Wy.abs (S : Wy) : Pl := ⟨S.pages, S.base, S.s.line, S.s.most, S.said, S.f.F.length - S.f.pl⟩
def onShelf (P : Pl) (place : Int) (w k : Bool) : Option Int := if 512 ≤ place then none else match lSeek P.line (place / 8) with
  | none => none
  | some (pg, r) => if pgHas P.pages pg && bLets r w k then some pg else none
theorem lookBy_no {ps : List Pg} {row : Int} {w k : Bool} (h : bHas row 1 = false) : lookBy ps row w k = .error "absent" := by
  unfold lookBy; rw [if_pos h]
theorem bits216 : Builtin.bitOr 2 16 = 18 := by decide
/-- where the machine's own walk reaches a frame, the shelf reaches a page that lies on it -/
theorem machine {S : Wy} {top : Nat} {rest : List Nat} {tb : Nat → Option Nat} (W : Wst S top rest tb) (R : RowsOk S tb noBad) {place : Int} {w k : Bool} (h0 : 0 ≤ place) {x : Trail} (h : lookP (fPg S.f.F) (top : Int) place w k = .ok x) :
    place ≤ 511 ∧ ∃ (pg : Int) (f : Nat), onShelf S.abs place w k = some pg ∧ pLead S.p.leads pg = some f ∧ x.2.2.1 = (f : Int) := by
  unfold lookP at h
  by_cases hp : 511 < place
  · rw [if_pos hp] at h; cases h
  rw [if_neg hp] at h
  have ht := W.tab
  obtain ⟨n, hn, hn64, hpl⟩ : ∃ n : Nat, (n : Int) = place / 8 ∧ n < 64 ∧ place / 8 = (n : Int) := ⟨(place / 8).toNat, by omega, by omega, by omega⟩
  have eo : place / 8 / 8 = ((n / 8 : Nat) : Int) := by omega
  have ei : place / 8 % 8 = ((n % 8 : Nat) : Int) := by omega
  have ho : n / 8 < 8 := by omega
  obtain ⟨g1, g2⟩ := tab_get ht ho
  rw [if_neg (by rw [g1]; decide), eo, g2] at h
  cases e : tb (n / 8) with
  | none =>
    rw [e] at h
    have : lookBy (fPg S.f.F) (tbV none) w k = .error "absent" := lookBy_no (by decide)
    rw [this] at h; cases h
  | some t =>
    rw [e] at h
    obtain ⟨b1, b4, b2, bq⟩ := tbV_has t
    obtain ⟨wt, ys, et, _, _⟩ := ht.mem ho e
    have ht2 : frW S.f.F t = some ys := frW_of et
    have l1 : lookBy (fPg S.f.F) (tbV (some t)) w k = .ok (t : Int) := by
      unfold lookBy
      rw [bq, b1, b4, b2, has_fr ht2]
      simp
    rw [l1] at h
    dsimp only at h
    have er : pgRd (fPg S.f.F) (t : Int) (place / 8 % 8) = rowF S.f.F tb n := by
      unfold pgRd rowF
      rw [e, pgW_fr, ei, Int.toNat_natCast]
    rw [er] at h
    rcases R n hn64 (fun z => z) with z | ⟨pg, r, f, wr, s1, s2, s3, s4⟩
    · rw [z, lookBy_no (by decide)] at h; cases h
    · rw [s3] at h
      have ml := mkN_lt (bHas r 4) wr
      have r1 : bHas ((f * 256 + mkN (bHas r 4) wr : Nat) : Int) 1 = true := (bHas_lo ml (k := 1) (by decide)).trans (mkN_1 _ _)
      have r4 : bHas ((f * 256 + mkN (bHas r 4) wr : Nat) : Int) 4 = bHas r 4 := (bHas_lo ml (k := 4) (by decide)).trans (mkN_4 _ _)
      have r2 : bHas ((f * 256 + mkN (bHas r 4) wr : Nat) : Int) 2 = wr := (bHas_lo ml (k := 2) (by decide)).trans (mkN_2 _ _)
      have rq : ((f * 256 + mkN (bHas r 4) wr : Nat) : Int) / 256 = (f : Int) := by omega
      obtain ⟨j, rfl, ej⟩ := pLead_ex s2
      obtain ⟨⟨wf, zs⟩, ef⟩ := W.tk j f ej
      cases l2 : lookBy (fPg S.f.F) ((f * 256 + mkN (bHas r 4) wr : Nat) : Int) w k with
      | error s => rw [l2] at h; cases h
      | ok page =>
        rw [l2] at h
        obtain ⟨_, _, c3, c4, c5⟩ := lookBy_ok l2
        rw [rq] at c3
        rw [r4] at c4
        rw [r2] at c5
        refine ⟨by omega, (j : Int), f, ?_, s2, ?_⟩
        · unfold onShelf
          rw [if_neg (by omega), hpl, show S.abs.line = S.s.line from rfl, s1]
          dsimp only
          have hh : pgHas S.abs.pages (j : Int) = true := by
            show pgHas S.pages (j : Int) = true
            rw [pgH_w W.tk, s2]; rfl
          have hl : bLets r w k = true := by
            unfold bLets
            rw [bits216]
            cases w with
            | false => cases hb : bHas r 4 <;> cases k <;> simp_all
            | true =>
              have : wr = true := by simpa using c5
              have := s4 this
              cases hb : bHas r 4 <;> cases k <;> simp_all
          rw [hh, hl]; rfl
        · injection h with h
          rw [← h]; exact c3
abbrev N_Shadows_low_table : List Str := ["self", "outer", "row"]
theorem sc_Shadows_low_table : FnScope N_Shadows_low_table ["self", "outer"] (defScope s_Shadows_low_table) := ⟨rfl, rfl, rfl, by decide +kernel, rfl, by decide +kernel, by decide +kernel⟩
def sp_Shadows_low_table (K : PySem.W.Frag) : Sp := fun vs H Q _ => ∃ (g : Addr → Nat) (S : Wy) (top : Nat) (rest : List Nat) (tb : Nat → Option Nat) (o : Nat), vs = [.ref S.me, .int (o : Int)] ∧ WyAt K g H S ∧ S.mine = top :: rest ∧ TabOk S.f.F top rest S.spare tb ∧ o < 8 ∧ Q (leadV (tb o)) H
theorem ok_Shadows_low_table (T : Txt K mg) : DOk P w K mg base CX0 6 ("Shadows", some "low_table") ["self", "outer"] (sp_Shadows_low_table K) := by
  refine dok T.d_Shadows_low_table sc_Shadows_low_table (fun _ _ _ _ _ _ us hl => match us, hl with | [_, _], _ => rfl) (fun vs H Q E h => ?_) (fun cdv A outer s H vs Q E hr h => ?_)
  · obtain ⟨g, S, top, rest, tb, o, rfl, A, hm, W, ho, k⟩ := h
    rfl
  · obtain ⟨g, S, top, rest, tb, o, rfl, A, hm, W, ho, k⟩ := h
    refine ⟨_, (PSs.nox (pss_cons (ps_set (i := 2) sc_Shadows_low_table.nd rfl (Or.inl rfl) (pe_m (pe_f (pv 0) T.c_Shadows T.n_Shadows_ground) T.c_Frames T.m_Frames_read (ok_Frames_read T) (hr.mono (by decide)) pass0 (pa_cons (pe_ix (r := rIxL K) ix_list (pe_f (pv 0) T.c_Shadows T.n_Shadows_mine) pe_int (fun _ _ => rfl)) (pa_cons (pv 1) pa_nil))))
      (pss_cons (ps_if (pt_not (pt_val (pe_g (ok_has T) (hr.mono (by decide)) T.g_has pass0 (pa_cons (pv 2) (pa_cons (pe_ic T.i_PRESENT) pa_nil))))) (pss_one (ps_ret pe_non)) pss_nil)
      (pss_one (ps_ret (pe_g (ok_page_of T) (hr.mono (by decide)) T.g_page_of pass0 (pa_cons (pv 2) pa_nil))))))), ?_⟩
    obtain ⟨g1, g2⟩ := tab_get W ho
    have hmn : (S.mine.map natV)[0]? = some (.int (top : Int)) := by rw [hm]; rfl
    refine ⟨_, rfl, _, A.fl (lk_w3 S), A.fr.o, _, rfl, _, A.fl (lk_w4 S), _, _, _, _, rfl, rfl, SqL.of A.mn_, atI_nat (j := 0) hmn, _, rfl, g, S.f, _, _, rfl, A.fr, g1, by omega, by omega, ?_⟩
    rw [g2]
    refine ⟨_, rfl, _, 1, rfl, _, rfl, ?_⟩
    cases e : tb o with
    | none =>
      rw [e] at k
      rw [show bHas (tbV none) 1 = false by decide]
      exact iteT k
    | some t =>
      rw [e] at k
      obtain ⟨b1, _, _, bq⟩ := tbV_has t
      rw [b1]
      refine iteF ⟨_, rfl, _, rfl, ?_⟩
      rw [bq]
      exact k
/-- the frames behind a row's laying -/
theorem rowF_set {F : List Fm} {top : Nat} {rest spare : List Nat} {tb : Nat → Option Nat} (W : TabOk F top rest spare tb) {n t : Nat} {w : Addr} {xs : List Int} {x : Int} (hn : n < 64) (e : tb (n / 8) = some t) (et : F[t]? = some (some (w, xs))) (hl : xs.length = 8) {m : Nat} (hm : m < 64) :
    rowF (F.set t (some (w, xs.set (n % 8) x))) tb m = if m = n then x else rowF F tb m := by
  have hlt : t < F.length := (List.getElem?_eq_some_iff.mp et).1
  unfold rowF
  by_cases hmn : m = n
  · subst hmn
    rw [if_pos rfl, e]
    dsimp only
    rw [frW_set_eq hlt]
    show (xs.set (m % 8) x).getD (m % 8) 0 = x
    rw [List.getD_eq_getElem?_getD, List.getElem?_set_self (by omega)]; rfl
  · rw [if_neg hmn]
    cases e2 : tb (m / 8) with
    | none => rfl
    | some t2 =>
      dsimp only
      by_cases ht : t2 = t
      · subst ht
        have ho : m / 8 = n / 8 := W.tbi _ _ t2 (by omega) (by omega) e2 e
        rw [frW_set_eq hlt, frW_of et]
        show (xs.set (n % 8) x).getD (m % 8) 0 = xs.getD (m % 8) 0
        rw [List.getD_eq_getElem?_getD, List.getD_eq_getElem?_getD, List.getElem?_set_ne (by omega)]
      · rw [frW_set_ne ht]
theorem tab_set {F : List Fm} {top : Nat} {rest spare : List Nat} {tb : Nat → Option Nat} (W : TabOk F top rest spare tb) {o t : Nat} {w : Addr} {xs ys : List Int} (ho : o < 8) (e : tb o = some t) (et : F[t]? = some (some (w, xs))) : TabOk (F.set t (some (w, ys))) top rest spare tb := by
  have hlt : t < F.length := (List.getElem?_eq_some_iff.mp et).1
  obtain ⟨_, _, _, hr, hne⟩ := W.mem ho e
  obtain ⟨zs, h1, h2⟩ := W.topw
  refine ⟨⟨zs, by rw [frW_set_ne (fun z => hne z.symm)]; exact h1, h2⟩, W.tbr, W.tbi, W.spr, W.spn, fun u hu => ?_, W.ne, W.nd, fun u hu => ?_⟩
  · have : u ≠ t := fun z => (W.tbr o t ho e).2 (z ▸ hu)
    rw [frW_set_ne this]; exact W.spz u hu
  · by_cases hut : u = t
    · subst hut; exact ⟨ys, frW_set_eq hlt⟩
    · rw [frW_set_ne hut]; exact W.tkn u hu
/-- what a row's laying changes -/
structure LayT (S S' : Wy) (top : Nat) (rest : List Nat) (tb : Nat → Option Nat) (n : Nat) (x : Int) : Prop where
  eq : ∃ F', S' = { S with f := { S.f with F := F' } }
  tab : TabOk S'.f.F top rest S.spare tb
  row : ∀ m, m < 64 → rowF S'.f.F tb m = if m = n then (if (tb (n / 8)).isSome then x else 0) else rowF S.f.F tb m
  out : ∀ f, f ∉ top :: rest → S'.f.F[f]? = S.f.F[f]?
  c : cnt S'.f.F = cnt S.f.F
  len : S'.f.F.length = S.f.F.length
abbrev N_Shadows_lay_shadow : List Str := ["self", "number", "row", "table"]
theorem sc_Shadows_lay_shadow : FnScope N_Shadows_lay_shadow ["self", "number", "row"] (defScope s_Shadows_lay_shadow) := ⟨rfl, rfl, rfl, by decide +kernel, rfl, by decide +kernel, by decide +kernel⟩
def sp_Shadows_lay_shadow (K : PySem.W.Frag) : Sp := fun vs H Q _ => ∃ (g : Addr → Nat) (S : Wy) (top : Nat) (rest : List Nat) (tb : Nat → Option Nat) (n : Nat) (x : Int), vs = [.ref S.me, .int (n : Int), .int x] ∧ WyAt K g H S ∧ S.mine = top :: rest ∧ TabOk S.f.F top rest S.spare tb ∧ n < 64 ∧ IsWord x ∧
  ∀ S' H', Stp [4] g H g H' → WyAt K g H' S' → LayT S S' top rest tb n x → Q .non H'
theorem ok_Shadows_lay_shadow (T : Txt K mg) : DOk P w K mg base CX0 7 ("Shadows", some "lay_shadow") ["self", "number", "row"] (sp_Shadows_lay_shadow K) := by
  refine dok T.d_Shadows_lay_shadow sc_Shadows_lay_shadow (fun _ _ _ _ _ _ us hl => match us, hl with | [_, _, _], _ => rfl) (fun vs H Q E h => ?_) (fun cdv A outer s H vs Q E hr h => ?_)
  · obtain ⟨g, S, top, rest, tb, n, x, rfl, A, hm, W, hn, hx, k⟩ := h
    rfl
  · obtain ⟨g, S, top, rest, tb, n, x, rfl, A, hm, W, hn, hx, k⟩ := h
    refine ⟨_, (PSs.nox (pss_cons (ps_set (i := 3) sc_Shadows_lay_shadow.nd rfl (Or.inl rfl) (pe_m (pv 0) T.c_Shadows T.m_Shadows_low_table (ok_Shadows_low_table T) (hr.mono (by decide)) pass0 (pa_cons (pe_op op_fdivW (pv 1) pe_int) pa_nil)))
      (pss_one (ps_if (pt_cmpR op_notN (pv 3) pe_non (nomark _)) (pss_one (ps_expr (pe_m (pe_f (pv 0) T.c_Shadows T.n_Shadows_ground) T.c_Frames T.m_Frames_write (ok_Frames_write T) (hr.mono (by decide)) pass0 (pa_cons (pv 3) (pa_cons (pe_op op_mod (pv 1) pe_int) (pa_cons (pv 2) pa_nil)))))) pss_nil)))), ?_⟩
    have ho : n / 8 < 8 := by omega
    have e8 : (n : Int) / 8 = ((n / 8 : Nat) : Int) := by omega
    refine ⟨_, rfl, A.o, _, rfl, _, _, rfl, rfl, ⟨by decide, by decide⟩, g, S, top, rest, tb, n / 8, congrArg (fun z : Int => [V.ref S.me, V.int z]) e8, A, hm, W, ho, ?_⟩
    cases e : tb (n / 8) with
    | none =>
      refine ⟨_, rfl, rfl, _, rfl, iteF ?_⟩
      refine k S H .refl A ⟨⟨S.f.F, rfl⟩, W, fun m hm' => ?_, fun _ _ => rfl, rfl, rfl⟩
      by_cases hmn : m = n
      · subst hmn
        rw [if_pos rfl, e]
        unfold rowF
        rw [e]; rfl
      · rw [if_neg hmn]
    | some t =>
      obtain ⟨w, xs, et, hr, hne⟩ := W.mem ho e
      obtain ⟨_, hl, _, _⟩ := A.fr.ws t w xs et
      have em : (n : Int) % 8 = ((n % 8 : Nat) : Int) := by omega
      refine ⟨_, rfl, rfl, _, rfl, iteT ?_⟩
      refine ⟨_, rfl, _, A.fl (lk_w3 S), A.fr.o, _, rfl, _, rfl, _, _, rfl, rfl, (by show (0 : Int) < 8; decide), _, rfl, g, S.f, t, n % 8, x, w, xs, congrArg (fun z : Int => [V.ref S.f.fr, V.int (t : Int), V.int z, V.int x]) em, A.fr, et, by omega, hx, fun H2 s2 B2 => ?_⟩
      refine k _ H2 s2 (A.setF s2 B2 rfl) ⟨⟨_, rfl⟩, tab_set W ho e et, fun m hm' => ?_, fun f hf => ?_, cnt_set_same _ _ _ _ et, by show (S.f.F.set t _).length = _; rw [List.length_set]⟩
      · show rowF (S.f.F.set t (some (w, xs.set (n % 8) x))) tb m = _
        rw [rowF_set W hn e et hl hm', e]; rfl
      · show (S.f.F.set t _)[f]? = _
        exact List.getElem?_set_ne fun z : t = f => hf (by rw [← z]; exact List.mem_cons_of_mem _ hr)
abbrev N_Shadows_left : List Str := ["self", "number"]
theorem sc_Shadows_left : FnScope N_Shadows_left ["self", "number"] (defScope s_Shadows_left) := ⟨rfl, rfl, rfl, by decide +kernel, rfl, by decide +kernel, by decide +kernel⟩
def sp_Shadows_left (K : PySem.W.Frag) : Sp := fun vs H Q _ => ∃ (g : Addr → Nat) (S : Wy) (top : Nat) (rest : List Nat) (tb : Nat → Option Nat) (n : Nat), vs = [.ref S.me, .int (n : Int)] ∧ WyAt K g H S ∧ S.mine = top :: rest ∧ TabOk S.f.F top rest S.spare tb ∧ n < 64 ∧
  ∀ S' H', Stp [4] g H g H' → WyAt K g H' S' → LayT S S' top rest tb n 0 → Q .non H'
theorem ok_Shadows_left (T : Txt K mg) : DOk P w K mg base CX0 8 ("Shadows", some "left") ["self", "number"] (sp_Shadows_left K) := by
  refine dok T.d_Shadows_left sc_Shadows_left (fun _ _ _ _ _ _ us hl => match us, hl with | [_, _], _ => rfl) (fun vs H Q E h => ?_) (fun cdv A outer s H vs Q E hr h => ?_)
  · obtain ⟨g, S, top, rest, tb, n, rfl, A, hm, W, hn, k⟩ := h
    rfl
  · obtain ⟨g, S, top, rest, tb, n, rfl, A, hm, W, hn, k⟩ := h
    refine ⟨_, (PSs.nox (pss_one (ps_expr (pe_m (pv 0) T.c_Shadows T.m_Shadows_lay_shadow (ok_Shadows_lay_shadow T) (hr.mono (by decide)) pass0 (pa_cons (pv 1) (pa_cons pe_int pa_nil)))))), ?_⟩
    exact ⟨_, rfl, A.o, _, rfl, g, S, top, rest, tb, n, 0, rfl, A, hm, W, hn, ⟨by decide, by decide⟩, k⟩
end
end Sp

set_option Elab.async false
set_option linter.all false
set_option maxRecDepth 100000
set_option maxHeartbeats 4000000
namespace Sp
open PySem PySem.Spec PyProof.Rows L2
section
variable {P : Program} {w : World} {K : PySem.W.Frag} {mg : Str → Option Value} {base : Heap}
theorem lay0_all : ∀ {ds : List PyData}, (∀ d ∈ ds, d.canLay0 = true) → PyData.canLayAll0 ds = true
  | [], _ => by simp [PyData.canLayAll0]
  | d :: r, h => by
    simp only [PyData.canLayAll0, Bool.and_eq_true]
    exact ⟨h d List.mem_cons_self, lay0_all fun x hx => h x (List.mem_cons_of_mem _ hx)⟩
theorem depth_all {k : Nat} : ∀ {ds : List PyData}, (∀ d ∈ ds, d.depth ≤ k) → PyData.depthAll ds ≤ k
  | [], _ => by simp [PyData.depthAll]
  | d :: r, h => by
    have h1 := h d List.mem_cons_self
    have h2 := depth_all (ds := r) fun x hx => h x (List.mem_cons_of_mem _ hx)
    simp only [PyData.depthAll]
    omega
/-- data of a depth k that may be compared -/
structure Shp (d : PyData) (k : Nat) : Prop where
  lay : d.canLay0 = true
  dep : d.depth ≤ k
theorem Shp.ok {d : PyData} {k : Nat} (h : Shp d k) (hk : k ≤ 64 := by decide) : SeqAt.shaped d = true := by
  unfold SeqAt.shaped
  rw [h.lay, decide_eq_true (Nat.le_trans h.dep hk)]; rfl
theorem Shp.int (i : Int) : Shp (.int i) 0 := ⟨by simp [PyData.canLay0], by simp [PyData.depth]⟩
theorem Shp.bl (b : Bool) : Shp (.bool b) 0 := ⟨by simp [PyData.canLay0], by simp [PyData.depth]⟩
theorem Shp.non : Shp .none 0 := ⟨by simp [PyData.canLay0], by simp [PyData.depth]⟩
theorem Shp.lst {ds : List PyData} {k : Nat} (h : ∀ d ∈ ds, Shp d k) : Shp (.list ds) (k + 1) :=
  ⟨by simp only [PyData.canLay0]; exact lay0_all fun d hd => (h d hd).lay, by simp only [PyData.depth]; exact Nat.succ_le_succ (depth_all fun d hd => (h d hd).dep)⟩
theorem Shp.tup {ds : List PyData} {k : Nat} (h : ∀ d ∈ ds, Shp d k) : Shp (.tuple ds) (k + 1) :=
  ⟨by simp only [PyData.canLay0]; exact lay0_all fun d hd => (h d hd).lay, by simp only [PyData.depth]; exact Nat.succ_le_succ (depth_all fun d hd => (h d hd).dep)⟩
theorem Shp.mono {d : PyData} {j k : Nat} (h : Shp d j) (hk : j ≤ k) : Shp d k := ⟨h.lay, Nat.le_trans h.dep hk⟩
theorem dpAll_nat {K : PySem.W.Frag} {H : Hp} : ∀ l : List Nat, DpAll K H (l.map natV) (l.map fun n : Nat => PyData.int (n : Int))
  | [] => .nil
  | n :: r => .cons (.int _) (dpAll_nat r)
theorem shp_nat (l : List Nat) : Shp (.list (l.map fun n : Nat => PyData.int (n : Int))) 1 := .lst fun d hd => by
  obtain ⟨n, _, rfl⟩ := List.mem_map.mp hd
  exact .int _
theorem eqv_nil (l : List Nat) : PyData.eqv (.list (l.map fun n : Nat => PyData.int (n : Int))) (.list []) = l.isEmpty := by
  cases l <;> simp [PyData.eqv, PyData.eqvAll]
/-! ### the low tables are let go, one after another -/
theorem TabOk.tb_congr {F : List Fm} {top : Nat} {rest spare : List Nat} {tb tb' : Nat → Option Nat} (h : TabOk F top rest spare tb) (e : ∀ o, o < 8 → tb' o = tb o) : TabOk F top rest spare tb' := by
  obtain ⟨xs, h1, h2⟩ := h.topw
  refine ⟨⟨xs, h1, fun o ho => by rw [e o ho]; exact h2 o ho⟩, fun o t ho q => h.tbr o t ho (by rw [← e o ho]; exact q), fun o o' t ho ho' q q' => h.tbi o o' t ho ho' (by rw [← e o ho]; exact q) (by rw [← e o' ho']; exact q'), h.spr, h.spn, h.spz, ?_, h.nd, h.tkn⟩
  rcases h.ne with ⟨o, ho, q⟩ | q
  · exact .inl ⟨o, ho, by rw [e o ho]; exact q⟩
  · exact .inr q
theorem tab_free {F : List Fm} {top : Nat} {rest spare : List Nat} {tb : Nat → Option Nat} (W : TabOk F top rest spare tb) {o t : Nat} {w wt : Addr} {xs ys : List Int} (ho : o < 8) (e : tb o = some t) (et : F[t]? = some (some (w, xs))) (eT : F[top]? = some (some (wt, ys))) (hys : ys.length = 8) :
    TabOk ((F.set t (some (w, zeros))).set top (some (wt, ys.set o 0))) top rest (spare ++ [t]) (fun o' => if o' = o then none else tb o') := by
  obtain ⟨_, _, _, hr, hne⟩ := W.mem ho e
  have hlt : t < F.length := (List.getElem?_eq_some_iff.mp et).1
  have hlT : top < (F.set t (some (w, zeros))).length := by rw [List.length_set]; exact (List.getElem?_eq_some_iff.mp eT).1
  obtain ⟨zs, h1, h2⟩ := W.topw
  have ezs : zs = ys := by rw [frW_of eT] at h1; injection h1 with h1; exact h1.symm
  subst ezs
  have ns := (W.tbr o t ho e).2
  refine ⟨⟨zs.set o 0, frW_set_eq hlT, fun o' ho' => ?_⟩, fun o' t' ho' q => ?_, fun o1 o2 t' h3 h4 q1 q2 => ?_, fun u hu => ?_, ?_, fun u hu => ?_, .inr (by simp), W.nd, fun u hu => ?_⟩
  · rw [List.getD_eq_getElem?_getD, List.getElem?_set]
    by_cases hoo : o = o'
    · subst hoo
      rw [if_pos rfl, if_pos (by omega)]
      simp [tbV]
    · rw [if_neg hoo, ← List.getD_eq_getElem?_getD, h2 o' ho']
      simp only [if_neg (fun z => hoo (Eq.symm z) : ¬ o' = o)]
  · by_cases hoo : o' = o
    · simp [hoo] at q
    · simp only [if_neg hoo] at q
      obtain ⟨a, b⟩ := W.tbr o' t' ho' q
      refine ⟨a, fun m => ?_⟩
      rcases List.mem_append.mp m with m | m
      · exact b m
      · exact hoo (W.tbi o' o t ho' ho ((List.mem_singleton.mp m) ▸ q) e)
  · by_cases a1 : o1 = o
    · simp [a1] at q1
    · by_cases a2 : o2 = o
      · simp [a2] at q2
      · simp only [if_neg a1] at q1
        simp only [if_neg a2] at q2
        exact W.tbi o1 o2 t' h3 h4 q1 q2
  · rcases List.mem_append.mp hu with m | m
    · exact W.spr u m
    · rw [List.mem_singleton.mp m]; exact hr
  · exact nd_snoc W.spn ns
  · have hur : u ∈ rest := by
      rcases List.mem_append.mp hu with m | m
      · exact W.spr u m
      · rw [List.mem_singleton.mp m]; exact hr
    have hut : u ≠ top := fun z => (List.nodup_cons.mp W.nd).1 (z ▸ hur)
    rw [frW_set_ne hut]
    rcases List.mem_append.mp hu with m | m
    · have : u ≠ t := fun z => ns (z ▸ m)
      rw [frW_set_ne this]; exact W.spz u m
    · rw [List.mem_singleton.mp m]; exact frW_set_eq hlt
  · by_cases hut : u = top
    · subst hut; exact ⟨_, frW_set_eq hlT⟩
    · rw [frW_set_ne hut]
      by_cases h3 : u = t
      · subst h3; exact ⟨_, frW_set_eq hlt⟩
      · rw [frW_set_ne h3]; exact W.tkn u hu
/-- a spare frame becomes a low table -/
theorem tab_take {F : List Fm} {top : Nat} {rest spare : List Nat} {tb : Nat → Option Nat} {o t : Nat} (W : TabOk F top rest (spare ++ [t]) tb) {wt : Addr} {ys : List Int} (ho : o < 8) (e : tb o = none) (eT : F[top]? = some (some (wt, ys))) (hys : ys.length = 8) :
    TabOk (F.set top (some (wt, ys.set o ((t * 256 + 3 : Nat) : Int)))) top rest spare (fun o' => if o' = o then some t else tb o') ∧ ∀ m, m < 64 → rowF (F.set top (some (wt, ys.set o ((t * 256 + 3 : Nat) : Int)))) (fun o' => if o' = o then some t else tb o') m = rowF F tb m := by
  have hlT : top < F.length := (List.getElem?_eq_some_iff.mp eT).1
  obtain ⟨zs, h1, h2⟩ := W.topw
  have ezs : zs = ys := by rw [frW_of eT] at h1; injection h1 with h1; exact h1.symm
  subst ezs
  have ht : t ∈ spare ++ [t] := List.mem_append_right _ List.mem_cons_self
  have htr := W.spr t ht
  have htt : t ≠ top := fun z => (List.nodup_cons.mp W.nd).1 (z ▸ htr)
  have nts : t ∉ spare := fun m => by
    have := W.spn
    rw [List.nodup_append] at this
    exact this.2.2 t m t List.mem_cons_self rfl
  refine ⟨⟨⟨_, frW_set_eq hlT, fun o' ho' => ?_⟩, fun o' t' ho' q => ?_, fun o1 o2 t' h3 h4 q1 q2 => ?_, fun u hu => W.spr u (List.mem_append_left _ hu), ?_, fun u hu => ?_, .inl ⟨o, ho, by simp⟩, W.nd, fun u hu => ?_⟩, fun m hm => ?_⟩
  · rw [List.getD_eq_getElem?_getD, List.getElem?_set]
    by_cases hoo : o = o'
    · subst hoo
      rw [if_pos rfl, if_pos (by omega)]
      simp [tbV]
    · rw [if_neg hoo, ← List.getD_eq_getElem?_getD, h2 o' ho']
      simp only [if_neg (fun z => hoo (Eq.symm z) : ¬ o' = o)]
  · by_cases hoo : o' = o
    · simp only [if_pos hoo] at q
      injection q with q
      subst q
      exact ⟨htr, nts⟩
    · simp only [if_neg hoo] at q
      obtain ⟨a, b⟩ := W.tbr o' t' ho' q
      exact ⟨a, fun m => b (List.mem_append_left _ m)⟩
  · by_cases a1 : o1 = o
    · by_cases a2 : o2 = o
      · rw [a1, a2]
      · simp only [if_pos a1] at q1
        simp only [if_neg a2] at q2
        injection q1 with q1
        exact absurd (q1 ▸ ht) (W.tbr o2 t' h4 q2).2
    · by_cases a2 : o2 = o
      · simp only [if_neg a1] at q1
        simp only [if_pos a2] at q2
        injection q2 with q2
        exact absurd (q2 ▸ ht) (W.tbr o1 t' h3 q1).2
      · simp only [if_neg a1] at q1
        simp only [if_neg a2] at q2
        exact W.tbi o1 o2 t' h3 h4 q1 q2
  · have := W.spn
    rw [List.nodup_append] at this
    exact this.1
  · have hur := W.spr u (List.mem_append_left _ hu)
    have hut : u ≠ top := fun z => (List.nodup_cons.mp W.nd).1 (z ▸ hur)
    rw [frW_set_ne hut]; exact W.spz u (List.mem_append_left _ hu)
  · by_cases hut : u = top
    · subst hut; exact ⟨_, frW_set_eq hlT⟩
    · rw [frW_set_ne hut]; exact W.tkn u hu
  · unfold rowF
    by_cases hmo : m / 8 = o
    · simp only [if_pos hmo]
      rw [hmo, e, frW_set_ne htt, W.spz t ht]
      show zeros.getD (m % 8) 0 = 0
      have : ∀ j : Fin 8, zeros.getD j.val 0 = 0 := by decide
      exact this ⟨m % 8, by omega⟩
    · simp only [if_neg hmo]
      cases e2 : tb (m / 8) with
      | none => rfl
      | some t2 =>
        have h3 := (W.tbr _ t2 (by omega) e2).1
        have : t2 ≠ top := fun z => (List.nodup_cons.mp W.nd).1 (z ▸ h3)
        dsimp only
        rw [frW_set_ne this]
/-- what the tables' own work leaves alone -/
structure OutT (S S' : Wy) (top : Nat) (rest : List Nat) : Prop where
  eq : ∃ F' sp', S' = { S with f := { S.f with F := F' }, spare := sp' }
  out : ∀ f, f ∉ top :: rest → S'.f.F[f]? = S.f.F[f]?
  c : cnt S'.f.F = cnt S.f.F
  len : S'.f.F.length = S.f.F.length
theorem OutT.refl {S : Wy} {top : Nat} {rest : List Nat} : OutT S S top rest := ⟨⟨_, _, rfl⟩, fun _ _ => rfl, rfl, rfl⟩
theorem OutT.trans {S S1 S2 : Wy} {top : Nat} {rest : List Nat} (a : OutT S S1 top rest) (b : OutT S1 S2 top rest) : OutT S S2 top rest := by
  obtain ⟨F1, s1, rfl⟩ := a.eq
  obtain ⟨F2, s2, rfl⟩ := b.eq
  exact ⟨⟨F2, s2, rfl⟩, fun f hf => (b.out f hf).trans (a.out f hf), b.c.trans a.c, b.len.trans a.len⟩
theorem LayT.out' {S S' : Wy} {top n : Nat} {rest : List Nat} {tb : Nat → Option Nat} {x : Int} (a : LayT S S' top rest tb n x) : OutT S S' top rest := by
  obtain ⟨F', rfl⟩ := a.eq
  exact ⟨⟨F', S.spare, rfl⟩, a.out, a.c, a.len⟩
abbrev N_Shadows_throw_away : List Str := ["self", "outer", "table", "inner"]
theorem sc_Shadows_throw_away : FnScope N_Shadows_throw_away ["self"] (defScope s_Shadows_throw_away) := ⟨rfl, rfl, rfl, by decide +kernel, rfl, by decide +kernel, by decide +kernel⟩
def sp_Shadows_throw_away (K : PySem.W.Frag) : Sp := fun vs H Q _ => ∃ (g : Addr → Nat) (S : Wy) (top : Nat) (rest : List Nat) (tb : Nat → Option Nat), vs = [.ref S.me] ∧ WyAt K g H S ∧ S.mine = top :: rest ∧ TabOk S.f.F top rest S.spare tb ∧
  ∀ S' H', Stp ALL g H g H' → WyAt K g H' S' → OutT S S' top rest → TabOk S'.f.F top rest S'.spare (fun _ => none) → Q .non H'
theorem ok_Shadows_throw_away (T : Txt K mg) : DOk P w K mg base CX0 7 ("Shadows", some "throw_away") ["self"] (sp_Shadows_throw_away K) := by
  refine dok T.d_Shadows_throw_away sc_Shadows_throw_away (fun _ _ _ _ _ _ us hl => match us, hl with | [_], _ => rfl) (fun vs H Q E h => ?_) (fun cdv A outer s H vs Q E hr h => ?_)
  · obtain ⟨g, S, top, rest, tb, rfl, A, hm, W, k⟩ := h
    rfl
  · obtain ⟨g, S, top, rest, tb, rfl, A, hm, W, k⟩ := h
    refine ⟨_, (PSs.nox (pss_one (ps_for PassesOwn.never rfl (pi_range1 rfl T.b_range (pa_cons pe_int pa_nil)) (pg_name (i := 1) sc_Shadows_throw_away.nd rfl (Or.inl rfl)) (pss_cons (ps_set (i := 2) sc_Shadows_throw_away.nd rfl (Or.inl rfl) (pe_m (pv 0) T.c_Shadows T.m_Shadows_low_table (ok_Shadows_low_table T) (hr.mono (by decide)) pass0 (pa_cons (pv 1) pa_nil)))
      (pss_one (ps_if (pt_cmpR op_notN (pv 2) pe_non (nomark _)) (pss_cons (ps_for PassesOwn.never rfl (pi_range1 rfl T.b_range (pa_cons pe_int pa_nil)) (pg_name (i := 3) sc_Shadows_throw_away.nd rfl (Or.inl rfl)) (pss_one (ps_expr (pe_m (pe_f (pv 0) T.c_Shadows T.n_Shadows_ground) T.c_Frames T.m_Frames_write (ok_Frames_write T) (hr.mono (by decide)) pass0 (pa_cons (pv 2) (pa_cons (pv 3) (pa_cons pe_int pa_nil)))))))
      (pss_cons (ps_expr (pe_m (pe_f (pv 0) T.c_Shadows T.n_Shadows_ground) T.c_Frames T.m_Frames_write (ok_Frames_write T) (hr.mono (by decide)) pass0 (pa_cons (pe_ix (r := rIxL K) ix_list (pe_f (pv 0) T.c_Shadows T.n_Shadows_mine) pe_int (fun _ _ => rfl)) (pa_cons (pv 1) (pa_cons pe_int pa_nil)))))
      (pss_one (ps_expr (pe_bm PySem.F.plainAttrs_list PySem.F.slot_list_append PySem.F.type_list_append mt_append (pe_f (pv 0) T.c_Shadows T.n_Shadows_spare) (pa_cons (pv 2) pa_nil)))))) pss_nil)))))), ?_⟩
    refine ⟨8, rfl, by decide, by decide, ?_⟩
    refine for_range (n := 8) (lo := 0) (fun i σ H' => (∃ v1 v2 v3, σ = [some (.ref S.me), v1, v2, v3]) ∧ ∃ S', Stp ALL g H g H' ∧ WyAt K g H' S' ∧ OutT S S' top rest ∧ TabOk S'.f.F top rest S'.spare (fun o => if o < i then none else tb o))
      ⟨⟨_, _, _, rfl⟩, S, .refl, A, .refl, W.tb_congr fun o ho => by simp⟩ ?_ ?_
    · rintro i σ H1 hi ⟨⟨v1, v2, v3, rfl⟩, S1, s1, A1, O1, W1⟩
      obtain ⟨F1, p1, rfl⟩ := O1.eq
      have ei : (0 : Int) + (i : Int) = (i : Int) := Int.zero_add _
      have hm1 : S.mine = top :: rest := hm
      refine ⟨_, rfl, A1.o, _, rfl, g, { S with f := { S.f with F := F1 }, spare := p1 }, top, rest, _, i, congrArg (fun z : Int => [V.ref S.me, V.int z]) ei, A1, hm, W1, hi, ?_⟩
      have e0 : (fun o => if o < i then none else tb o) i = tb i := if_neg (Nat.lt_irrefl i)
      have ei2 : (if i < i then none else tb i) = tb i := e0
      rw [ei2]
      cases e : tb i with
      | none =>
        refine ⟨_, rfl, rfl, _, rfl, iteF ?_⟩
        refine ⟨⟨_, _, _, rfl⟩, _, s1, A1, O1, W1.tb_congr fun o ho => ?_⟩
        by_cases h1 : o < i
        · rw [if_pos h1, if_pos (by omega)]
        · by_cases h2 : o = i
          · subst h2; rw [if_pos (by omega), if_neg h1, e]
          · rw [if_neg h1, if_neg (by omega)]
      | some t =>
        refine ⟨_, rfl, rfl, _, rfl, iteT ?_⟩
        obtain ⟨w, xs, et, hr, hne⟩ := W1.mem hi (e0.trans e)
        obtain ⟨_, hlx, _, _⟩ := A1.fr.ws t w xs et
        obtain ⟨zs, hz1, hz2⟩ := W1.topw
        obtain ⟨wt, eT⟩ := frW_ex hz1
        obtain ⟨_, hly, _, _⟩ := A1.fr.ws top wt zs eT
        have hlt : t < F1.length := (List.getElem?_eq_some_iff.mp et).1
        refine ⟨8, rfl, by decide, by decide, ?_⟩
        refine for_range (n := 8) (lo := 0) (fun j σ H' => (∃ v3, σ = [some (.ref S.me), some (.int ((0 : Int) + (i : Int))), some (.int (t : Int)), v3]) ∧ ∃ ys, Stp ALL g H g H' ∧ WyAt K g H' { S with f := { S.f with F := F1.set t (some (w, ys)) }, spare := p1 } ∧ ys.length = 8 ∧ ∀ m, m < j → ys[m]? = some 0)
          ⟨⟨_, rfl⟩, xs, s1, ?_, hlx, fun m hm => absurd hm (Nat.not_lt_zero _)⟩ ?_ ?_
        · have : F1.set t (some (w, xs)) = F1 := by
            apply List.ext_getElem?
            intro k'
            rw [List.getElem?_set]
            by_cases hk : t = k'
            · subst hk; rw [if_pos rfl, if_pos hlt]; exact et.symm
            · rw [if_neg hk]
          rw [this]; exact A1
        · rintro j σ H2 hj ⟨⟨v3, rfl⟩, ys, s2, A2, hl, hy⟩
          have ej : (0 : Int) + (j : Int) = (j : Int) := Int.zero_add _
          refine ⟨_, rfl, _, A2.fl (lk_w3 _), A2.fr.o, _, rfl, _, rfl, g, { S.f with F := F1.set t (some (w, ys)) }, t, j, 0, w, ys, congrArg (fun z : Int => [V.ref S.f.fr, V.int (t : Int), V.int z, V.int 0]) ej, A2.fr, List.getElem?_set_self hlt, hj, ⟨by decide, by decide⟩, fun H3 s3 B3 => ?_⟩
          have A3 := A2.setF s3 B3 rfl
          have es : (F1.set t (some (w, ys))).set t (some (w, ys.set j 0)) = F1.set t (some (w, ys.set j 0)) := List.set_set ..
          have A3' : WyAt K g H3 { S with f := { S.f with F := (F1.set t (some (w, ys))).set t (some (w, ys.set j 0)) }, spare := p1 } := A3
          rw [es] at A3'
          refine ⟨⟨_, rfl⟩, ys.set j 0, s2.trans (s3.mono (by decide)), A3', by rw [List.length_set]; exact hl, fun m hm => ?_⟩
          rw [List.getElem?_set]
          by_cases hjm : j = m
          · rw [if_pos hjm, if_pos (by omega)]
          · rw [if_neg hjm]; exact hy m (by omega)
        · rintro σ H2 ⟨⟨v3, rfl⟩, ys, s2, A2, hl, hy⟩
          have eys : ys = zeros := by
            apply List.ext_getElem?
            intro m
            by_cases hm8 : m < 8
            · rw [hy m hm8]
              have : ∀ m : Fin 8, zeros[m.val]? = some 0 := by decide
              exact (this ⟨m, hm8⟩).symm
            · rw [List.getElem?_eq_none (by omega), List.getElem?_eq_none (by show 8 ≤ m; omega)]
          subst eys
          have hmn : (S.mine.map natV)[0]? = some (.int (top : Int)) := by rw [hm]; rfl
          have eT2 : (F1.set t (some (w, zeros)))[top]? = some (some (wt, zs)) := by rw [List.getElem?_set_ne hne]; exact eT
          refine ⟨_, rfl, _, A2.fl (lk_w3 _), A2.fr.o, _, rfl, _, A2.fl (lk_w4 _), _, _, _, _, rfl, rfl, SqL.of A2.mn_, atI_nat (j := 0) hmn, _, rfl, g, { S.f with F := F1.set t (some (w, zeros)) }, top, i, 0, wt, zs, congrArg (fun z : Int => [V.ref S.f.fr, V.int (top : Int), V.int z, V.int 0]) ei, A2.fr, eT2, hi, ⟨by decide, by decide⟩, fun H3 s3 B3 => ?_⟩
          have A3 := A2.setF s3 B3 rfl
          have hsp : p1.length < sizeLine := by
            have h1 := W1.spn
            have : p1.length ≤ F1.length := nodup_lt _ _ h1 fun u hu => by
              have := W1.spz u hu
              obtain ⟨w', hw'⟩ := frW_ex this
              exact (List.getElem?_eq_some_iff.mp hw').1
            have h2 := A1.fr.sz
            exact small1000 (by have h2' : F1.length ≤ 200 := h2; omega)
          refine ⟨_, rfl, _, A3.fl (lk_w9 _), .inl ⟨rfl, _, SqL.of A3.sp_⟩, _, rfl, _, _, _, rfl, rfl, A3.sp_, by rw [List.length_map]; exact hsp, ?_⟩
          have em : p1.map natV ++ [.int (t : Int)] = (p1 ++ [t]).map natV := by rw [List.map_append]; rfl
          obtain ⟨s4, A4⟩ := A3.setSp (p1 ++ [t])
          show _ ∧ _
          rw [em]
          refine ⟨⟨_, _, _, rfl⟩, _, s2.trans ((s3.mono (by decide)).trans s4), A4, ⟨⟨_, _, rfl⟩, fun f hf => ?_, ?_, ?_⟩, (tab_free W1 hi (e0.trans e) et eT hly).tb_congr fun o ho => ?_⟩
          · show ((F1.set t (some (w, zeros))).set top (some (wt, zs.set i 0)))[f]? = S.f.F[f]?
            rw [List.getElem?_set_ne (fun z : top = f => hf (by rw [← z]; exact List.mem_cons_self)), List.getElem?_set_ne (fun z : t = f => hf (by rw [← z]; exact List.mem_cons_of_mem _ hr))]
            exact O1.out f hf
          · show cnt ((F1.set t (some (w, zeros))).set top (some (wt, zs.set i 0))) = _
            rw [cnt_set_same _ _ _ _ eT2, cnt_set_same _ _ _ _ et]
            exact O1.c
          · show ((F1.set t (some (w, zeros))).set top (some (wt, zs.set i 0))).length = _
            rw [List.length_set, List.length_set]
            exact O1.len
          · by_cases h2 : o = i
            · rw [if_pos h2, if_pos (by omega)]
            · rw [if_neg h2]
              by_cases h1 : o < i
              · rw [if_pos h1, if_pos (by omega)]
              · rw [if_neg h1, if_neg (by omega)]
    · rintro σ H1 ⟨_, S1, s1, A1, O1, W1⟩
      exact k S1 H1 s1 A1 O1 (W1.tb_congr fun o ho => by rw [if_pos ho])
abbrev N_Shadows_left_all : List Str := ["self"]
theorem sc_Shadows_left_all : FnScope N_Shadows_left_all ["self"] (defScope s_Shadows_left_all) := ⟨rfl, rfl, rfl, by decide +kernel, rfl, by decide +kernel, by decide +kernel⟩
def sp_Shadows_left_all (K : PySem.W.Frag) : Sp := sp_Shadows_throw_away K
theorem ok_Shadows_left_all (T : Txt K mg) : DOk P w K mg base CX0 8 ("Shadows", some "left_all") ["self"] (sp_Shadows_left_all K) := by
  refine dok T.d_Shadows_left_all sc_Shadows_left_all (fun _ _ _ _ _ _ us hl => match us, hl with | [_], _ => rfl) (fun vs H Q E h => ?_) (fun cdv A outer s H vs Q E hr h => ?_)
  · obtain ⟨g, S, top, rest, tb, rfl, A, hm, W, k⟩ := h
    rfl
  · obtain ⟨g, S, top, rest, tb, rfl, A, hm, W, k⟩ := h
    refine ⟨_, (PSs.nox (pss_one (ps_expr (pe_m0 (pv 0) T.c_Shadows T.m_Shadows_throw_away (ok_Shadows_throw_away T) (hr.mono (by decide)) pass0)))), ?_⟩
    exact ⟨_, rfl, A.o, g, S, top, rest, tb, rfl, A, hm, W, k⟩
abbrev N_Shadows_need_table : List Str := ["self", "outer"]
theorem sc_Shadows_need_table : FnScope N_Shadows_need_table ["self", "outer"] (defScope s_Shadows_need_table) := ⟨rfl, rfl, rfl, by decide +kernel, rfl, by decide +kernel, by decide +kernel⟩
def sp_Shadows_need_table (K : PySem.W.Frag) : Sp := fun vs H Q _ => ∃ (g : Addr → Nat) (S : Wy) (top : Nat) (rest : List Nat) (tb : Nat → Option Nat) (o : Nat), vs = [.ref S.me, .int (o : Int)] ∧ WyAt K g H S ∧ S.mine = top :: rest ∧ TabOk S.f.F top rest S.spare tb ∧ o < 8 ∧
  ∀ S' H' tb', Stp ALL g H g H' → WyAt K g H' S' → OutT S S' top rest → TabOk S'.f.F top rest S'.spare tb' → (tb' o).isSome = true → (∀ m, m < 64 → rowF S'.f.F tb' m = rowF S.f.F tb m ∨ rowF S'.f.F tb' m = 0) → Q .non H'
theorem ok_Shadows_need_table (T : Txt K mg) : DOk P w K mg base CX0 8 ("Shadows", some "need_table") ["self", "outer"] (sp_Shadows_need_table K) := by
  refine dok T.d_Shadows_need_table sc_Shadows_need_table (fun _ _ _ _ _ _ us hl => match us, hl with | [_, _], _ => rfl) (fun vs H Q E h => ?_) (fun cdv A outer s H vs Q E hr h => ?_)
  · obtain ⟨g, S, top, rest, tb, o, rfl, A, hm, W, ho, k⟩ := h
    rfl
  · obtain ⟨g, S, top, rest, tb, o, rfl, A, hm, W, ho, k⟩ := h
    refine ⟨_, (PSs.nox (pss_cons (ps_if (pt_cmpR op_notN (pe_m (pv 0) T.c_Shadows T.m_Shadows_low_table (ok_Shadows_low_table T) (hr.mono (by decide)) pass0 (pa_cons (pv 1) pa_nil)) pe_non (nomark _)) (pss_one ps_retN) pss_nil)
      (pss_cons (ps_if (pt_cmpR (op_eqD hr.units) (pe_f (pv 0) T.c_Shadows T.n_Shadows_spare) (pe_lst pa_nil) (nomark _)) (pss_one (ps_expr (pe_m0 (pv 0) T.c_Shadows T.m_Shadows_throw_away (ok_Shadows_throw_away T) (hr.mono (by decide)) pass0))) pss_nil)
      (pss_one (ps_expr (pe_m (pe_f (pv 0) T.c_Shadows T.n_Shadows_ground) T.c_Frames T.m_Frames_write (ok_Frames_write T) (hr.mono (by decide)) pass0 (pa_cons (pe_ix (r := rIxL K) ix_list (pe_f (pv 0) T.c_Shadows T.n_Shadows_mine) pe_int (fun _ _ => rfl)) (pa_cons (pv 1) (pa_cons (pe_g (ok_row_of T) (hr.mono (by decide)) T.g_row_of pass0 (pa_cons (pe_bm0 PySem.F.plainAttrs_list PySem.F.slot_list_pop PySem.F.type_list_pop mt_pop (pe_f (pv 0) T.c_Shadows T.n_Shadows_spare)) (pa_cons (pe_op op_or (pe_ic T.i_PRESENT) (pe_ic T.i_WRITABLE)) pa_nil))) pa_nil))))))))), ?_⟩
    refine ⟨_, rfl, A.o, _, rfl, g, S, top, rest, tb, o, rfl, A, hm, W, ho, ?_⟩
    cases e : tb o with
    | some t =>
      refine ⟨rfl, _, rfl, iteT ?_⟩
      exact k S H tb .refl A .refl W (by rw [e]; rfl) fun m _ => .inl rfl
    | none =>
      refine ⟨rfl, _, rfl, iteF ?_⟩
      have fin : ∀ (S1 : Wy) (H1 : Hp) (tb1 : Nat → Option Nat), Stp ALL g H g H1 → WyAt K g H1 S1 → OutT S S1 top rest → TabOk S1.f.F top rest S1.spare tb1 → tb1 o = none → (∀ m, m < 64 → rowF S1.f.F tb1 m = rowF S.f.F tb m ∨ rowF S1.f.F tb1 m = 0) → S1.spare ≠ [] →
          (tDrop (tM K "Frames" "write" (sp_Frames_write K) E0 (tF K "Shadows" "ground" (tVar 0)) (tCons (tOp (rIxL K) (tF K "Shadows" "mine" (tVar 0)) (tC (.int 0))) (tCons (tVar 1) (tCons (tG sp_row_of E0 (tCons (tBM0 K "list" rPop (tF K "Shadows" "spare" (tVar 0))) (tCons (tOp (rI0 fun i j => .int (Builtin.bitOr i j)) (tC (.int 1)) (tC (.int 2))) tNil))) tNil))))) { nx := fun _ H' => Q .non H', rt := Q } [some (.ref S.me), some (.int (o : Int))] H1 := by
        intro S1 H1 tb1 s1 A1 O1 W1 e1 hrow hne
        obtain ⟨F1, p1, rfl⟩ := O1.eq
        obtain ⟨p0, t, rfl⟩ : ∃ p0 t, p1 = p0 ++ [t] := by
          have hne' : p1 ≠ [] := hne
          exact ⟨p1.dropLast, p1.getLast hne', (List.dropLast_concat_getLast hne').symm⟩
        obtain ⟨zs, hz1, hz2⟩ := W1.topw
        obtain ⟨wt, eT⟩ := frW_ex hz1
        obtain ⟨_, hly, _, _⟩ := A1.fr.ws top wt zs eT
        have hmn : (S.mine.map natV)[0]? = some (.int (top : Int)) := by rw [hm]; rfl
        have hlast : ((p0 ++ [t]).map natV)[((p0 ++ [t]).map natV).length - 1]? = some (.int (t : Int)) := by
          rw [List.length_map, List.length_append, List.getElem?_map]
          show ((p0 ++ [t])[p0.length + 1 - 1]?).map natV = _
          rw [Nat.add_sub_cancel, List.getElem?_append_right (Nat.le_refl _), Nat.sub_self]; rfl
        have edl : ((p0 ++ [t]).map natV).dropLast = p0.map natV := by rw [List.map_append]; exact List.dropLast_concat
        refine ⟨_, rfl, _, A1.fl (lk_w3 _), A1.fr.o, _, rfl, _, A1.fl (lk_w4 _), _, _, _, _, rfl, rfl, SqL.of A1.mn_, atI_nat (j := 0) hmn, _, rfl, ?_⟩
        refine ⟨_, rfl, _, A1.fl (lk_w9 _), .inl ⟨rfl, _, SqL.of A1.sp_⟩, _, _, _, rfl, rfl, A1.sp_, hlast, _, _, rfl, rfl, ?_⟩
        have htl : t < 200 := by
          have := W1.spz t (List.mem_append_right _ List.mem_cons_self)
          obtain ⟨w', hw'⟩ := frW_ex this
          have h1 := (List.getElem?_eq_some_iff.mp hw').1
          have h2 : F1.length ≤ 200 := A1.fr.sz
          have h3 : t < F1.length := h1
          omega
        refine ⟨(t : Int), _, rfl, by omega, by omega, by decide, by decide, ?_⟩
        have ebo : Builtin.bitOr ((t : Int) * 256) (Builtin.bitOr 1 2) = ((t * 256 + 3 : Nat) : Int) := by
          have h1 : Builtin.bitOr 1 2 = 3 := by decide
          have := or_low (q := (t : Int)) (r := 3) (k := 8) (by omega) (by decide) (by decide)
          rw [show (2 : Int) ^ 8 = 256 from rfl] at this
          rw [h1, this]; omega
        rw [ebo]
        obtain ⟨s2, A2⟩ := A1.setSp p0
        rw [edl]
        refine ⟨g, { S.f with F := F1 }, top, o, _, wt, zs, rfl, A2.fr, eT, ho, ⟨by omega, by omega⟩, fun H3 s3 B3 => ?_⟩
        have A3 := A2.setF s3 B3 rfl
        obtain ⟨W3, r3⟩ := tab_take W1 ho e1 eT hly
        refine k _ H3 _ (s1.trans (s2.trans (s3.mono (by decide)))) A3 ⟨⟨_, _, rfl⟩, fun f hf => ?_, ?_, ?_⟩ W3 (by simp) fun m hm' => ?_
        · show (F1.set top _)[f]? = _
          rw [List.getElem?_set_ne (fun z : top = f => hf (by rw [← z]; exact List.mem_cons_self))]
          exact O1.out f hf
        · show cnt (F1.set top _) = _
          rw [cnt_set_same _ _ _ _ eT]; exact O1.c
        · show (F1.set top _).length = _
          rw [List.length_set]; exact O1.len
        · rcases hrow m hm' with h | h
          · exact .inl ((r3 m hm').trans h)
          · exact .inr ((r3 m hm').trans h)
      refine ⟨_, rfl, _, A.fl (lk_w9 S), by show 0 ≤ sizeLine; omega, fun l nl => ?_⟩
      have A1 := A.same (same_new (o := .lst []) nl)
      refine ⟨_, _, .lst (SqL.of A1.sp_) (dpAll_nat S.spare), .lst (SqL.of upd_same) .nil, (shp_nat S.spare).ok, (Shp.lst (k := 0) (fun d hd => by cases hd)).ok, _, rfl, ?_⟩
      rw [eqv_nil]
      cases es : S.spare with
      | nil =>
        refine iteT ⟨_, rfl, A1.o, g, S, top, rest, tb, rfl, A1, hm, W, fun S1 H1 s1 A2 O1 W1 => ?_⟩
        refine fin S1 H1 _ (Stp.trans (.new0 nl) s1) A2 O1 W1 rfl (fun m _ => .inr rfl) ?_
        rcases W1.ne with ⟨o', _, q⟩ | q
        · cases q
        · exact q
      | cons a b => exact iteF (fin S _ tb (.new0 nl) A1 .refl W e (fun m _ => .inl rfl) (by rw [es]; simp))
end
end Sp

set_option Elab.async false
set_option linter.all false
set_option maxRecDepth 100000
set_option maxHeartbeats 4000000
namespace Sp
open PySem PySem.Spec PyProof.Rows L2
section
variable {P : Program} {w : World} {K : PySem.W.Frag} {mg : Str → Option Value} {base : Heap}
/-! ### the tables' own work leaves the rest of a way as it was -/
theorem OutT.fw {S S' : Wy} {top : Nat} {rest : List Nat} (a : OutT S S' top rest) {f : Nat} (hf : f ∉ top :: rest) : frW S'.f.F f = frW S.f.F f := by
  unfold frW fPg
  rw [List.getElem?_map, List.getElem?_map, a.out f hf]
theorem OutT.wst {S S' : Wy} {top : Nat} {rest : List Nat} {tb tb' : Nat → Option Nat} (a : OutT S S' top rest) (W : Wst S top rest tb) (h : TabOk S'.f.F top rest S'.spare tb') : Wst S' top rest tb' ∧ S'.abs = S.abs := by
  have fw := fun f hf => a.fw (f := f) hf
  have ac := a.c
  have al := a.len
  have ao := a.out
  obtain ⟨F', sp', rfl⟩ := a.eq
  have pg : wPg F' S.p.leads = wPg S.f.F S.p.leads := wPg_congr fun i f e => fw f (W.apart i f e)
  refine ⟨⟨W.mine, h, W.inj, fun j f e => ?_, W.apart, ?_, ?_, W.ln⟩, ?_⟩
  · obtain ⟨p, hp⟩ := W.tk j f e
    exact ⟨p, (ao f (W.apart j f e)).trans hp⟩
  · have := W.c
    rw [ac]; exact this
  · have := W.l
    rw [al]; exact this
  · unfold Wy.abs Wy.pages
    rw [al]
    show Pl.mk (wPg F' S.p.leads) _ _ _ _ _ = _
    rw [pg]
theorem lSeek_mem {l : List Rw} {n pg r : Int} (h : lSeek l n = some (pg, r)) : (n, pg, r) ∈ l := by
  unfold lSeek at h
  obtain ⟨q, hq, e⟩ := Option.map_eq_some_iff.mp h
  have hlt : lSeat l n < l.length := (List.getElem?_eq_some_iff.mp hq).1
  obtain ⟨q', hq', hn⟩ := lSeat_get l n hlt
  rw [hq] at hq'
  injection hq' with hq'
  subst hq'
  obtain ⟨a, b⟩ := q
  have : a = n := hn
  subst this
  have : b = (pg, r) := e
  subst this
  exact List.mem_of_getElem? hq
/-- the two that a way is told by stay -/
structure Sm (S S' : Wy) : Prop where
  me : S'.me = S.me
  fr : S'.f.fr = S.f.fr
theorem Sm.refl {S : Wy} : Sm S S := ⟨rfl, rfl⟩
theorem Sm.trans {S S1 S2 : Wy} (a : Sm S S1) (b : Sm S1 S2) : Sm S S2 := ⟨b.me.trans a.me, b.fr.trans a.fr⟩
theorem OutT.sm {S S' : Wy} {top : Nat} {rest : List Nat} (a : OutT S S' top rest) : Sm S S' := by
  obtain ⟨F', sp', rfl⟩ := a.eq
  exact ⟨rfl, rfl⟩
abbrev N_Shadows_make_shadow : List Str := ["self", "number", "page", "rights", "marks"]
theorem sc_Shadows_make_shadow : FnScope N_Shadows_make_shadow ["self", "number"] (defScope s_Shadows_make_shadow) := ⟨rfl, rfl, rfl, by decide +kernel, rfl, by decide +kernel, by decide +kernel⟩
def sp_Shadows_make_shadow (K : PySem.W.Frag) : Sp := fun vs H Q _ => ∃ (g : Addr → Nat) (S : Wy) (top : Nat) (rest : List Nat) (tb : Nat → Option Nat) (n f : Nat) (pg r : Int), vs = [.ref S.me, .int (n : Int)] ∧ WyAt K g H S ∧ Wst S top rest tb ∧ RowsOk S tb (fun m => m = n) ∧ n < 64 ∧ lSeek S.s.line (n : Int) = some (pg, r) ∧ pLead S.p.leads pg = some f ∧
  ∀ S' H' tb', Stp ALL g H g H' → WyAt K g H' S' → OutT S S' top rest → Wst S' top rest tb' → RowsOk S' tb' noBad → Q .non H'
theorem ok_Shadows_make_shadow (T : Txt K mg) : DOk P w K mg base CX0 9 ("Shadows", some "make_shadow") ["self", "number"] (sp_Shadows_make_shadow K) := by
  refine dok T.d_Shadows_make_shadow sc_Shadows_make_shadow (fun _ _ _ _ _ _ us hl => match us, hl with | [_, _], _ => rfl) (fun vs H Q E h => ?_) (fun cdv A outer s H vs Q E hr h => ?_)
  · obtain ⟨g, S, top, rest, tb, n, f, pg, r, rfl, A, W, R, hn, hs, hf, k⟩ := h
    rfl
  · obtain ⟨g, S, top, rest, tb, n, f, pg, r, rfl, A, W, R, hn, hs, hf, k⟩ := h
    refine ⟨_, (PSs.nox (pss_cons (ps_asg (pe_m (pe_f (pv 0) T.c_Shadows T.n_Shadows_held) T.c_Shelf T.m_Shelf_seek (ok_Shelf_seek T) (hr.mono (by decide)) pass0 (pa_cons (pv 1) pa_nil)) (pg_tup rfl (pgs_cons (pg_name (i := 2) sc_Shadows_make_shadow.nd rfl (Or.inl rfl)) (pgs_cons (pg_name (i := 3) sc_Shadows_make_shadow.nd rfl (Or.inl rfl)) pgs_nil))))
      (pss_cons (ps_set (i := 4) sc_Shadows_make_shadow.nd rfl (Or.inl rfl) (pe_op op_or (pe_op op_or (pe_ic T.i_PRESENT) (pe_ic T.i_TOUCHED)) (pe_op op_and (pv 3) (pe_ic T.i_KERNEL))))
      (pss_cons (ps_if (PW.pt (pw_and (pt_val (pe_g (ok_has T) (hr.mono (by decide)) T.g_has pass0 (pa_cons (pv 3) (pa_cons (pe_op op_or (pe_ic T.i_WRITABLE) (pe_ic T.i_SOILED)) pa_nil)))) (pw_and1 (pt_cmp (pc_din (hu_of hr) (pv 2) (pe_f (pv 0) T.c_Shadows T.n_Shadows_opened)) rfl)))) (pss_one (ps_aug (i := 4) sc_Shadows_make_shadow.nd rfl (Or.inl rfl) (pe_op op_or (pe_ic T.i_WRITABLE) (pe_ic T.i_SOILED)) iop_or)) pss_nil)
      (pss_cons (ps_expr (pe_m (pv 0) T.c_Shadows T.m_Shadows_need_table (ok_Shadows_need_table T) (hr.mono (by decide)) pass0 (pa_cons (pe_op op_fdivW (pv 1) pe_int) pa_nil)))
      (pss_one (ps_expr (pe_m (pv 0) T.c_Shadows T.m_Shadows_lay_shadow (ok_Shadows_lay_shadow T) (hr.mono (by decide)) pass0 (pa_cons (pv 1) (pa_cons (pe_g (ok_row_of T) (hr.mono (by decide)) T.g_row_of pass0 (pa_cons (pe_m (pe_f (pv 0) T.c_Shadows T.n_Shadows_part) T.c_Parts T.m_Parts_frame (ok_Parts_frame T) (hr.mono (by decide)) pass0 (pa_cons (pv 2) pa_nil)) (pa_cons (pv 4) pa_nil))) pa_nil)))))))))), ?_⟩
    obtain ⟨_, _, h0⟩ := W.ln.nr _ (lSeek_mem hs)
    have h0 : (0 : Int) ≤ r := h0
    have e8 : (n : Int) / 8 = ((n / 8 : Nat) : Int) := by omega
    obtain ⟨i, rfl, ei⟩ := pLead_ex hf
    obtain ⟨⟨wf, zs⟩, ef⟩ := W.tk i f ei
    have hf2 : f < 200 := by
      have h1 := (List.getElem?_eq_some_iff.mp ef).1
      have h2 : S.f.F.length ≤ 200 := A.fr.sz
      omega
    have fin : ∀ (H1 : Hp) (wr : Bool), Same H H1 → (wr = true → bHas r 18 = true) →
        (tSeq (tDrop (tM K "Shadows" "need_table" (sp_Shadows_need_table K) E0 (tVar 0) (tCons (tOp (rI CDivW fun i j => .int (i / j)) (tVar 1) (tC (.int 8))) tNil)))
          (tDrop (tM K "Shadows" "lay_shadow" (sp_Shadows_lay_shadow K) E0 (tVar 0) (tCons (tVar 1) (tCons (tG sp_row_of E0 (tCons (tM K "Parts" "frame" (sp_Parts_frame K) E0 (tF K "Shadows" "part" (tVar 0)) (tCons (tVar 2) tNil)) (tCons (tVar 4) tNil))) tNil)))))
          { nx := fun _ H' => Q .non H', rt := Q } [some (.ref S.me), some (.int (n : Int)), some (.int (i : Int)), some (.int r), some (.int (mkN (bHas r 4) wr : Nat))] H1 := by
      intro H1 wr s1 hwr
      have A1 := A.same s1
      refine ⟨_, rfl, A1.o, _, rfl, _, _, rfl, rfl, ⟨by decide, by decide⟩, g, S, top, rest, tb, n / 8, congrArg (fun z : Int => [V.ref S.me, V.int z]) e8, A1, W.mine, W.tab, by omega, fun S1 H2 tb1 s2 A2 O2 W2 ht hrow => ?_⟩
      obtain ⟨Wa, Wb⟩ := O2.wst W W2
      have em : S1.me = S.me := O2.sm.me
      have ef2 : S1.f.F[f]? = some (some (wf, zs)) := (O2.out f (W.apart i f ei)).trans ef
      have el : S1.p.leads = S.p.leads := by obtain ⟨F', sp', rfl⟩ := O2.eq; rfl
      have eln : S1.s = S.s := by obtain ⟨F', sp', rfl⟩ := O2.eq; rfl
      have A2o : IsO K "Shadows" "lay_shadow" H2 (.ref S.me) := by rw [← em]; exact A2.o
      have A2p : Fld K "Shadows" "part" H2 (.ref S.me) (.ref S1.p.pt) := by rw [← em]; exact A2.fl (lk_w5 S1)
      refine ⟨_, rfl, A2o, _, rfl, _, rfl, _, A2p, A2.pt.o, _, rfl, g, _, S1.p, _, rfl, A2.pt, _, rfl, ?_⟩
      rw [el, pLead_nat ei]
      have hm := mkN_lt (bHas r 4) wr
      refine ⟨(f : Int), _, rfl, by omega, by omega, by omega, by omega, ?_⟩
      rw [row_mk]
      refine ⟨g, S1, top, rest, tb1, n, _, by rw [em], A2, Wa.mine, Wa.tab, hn, ⟨by omega, by omega⟩, fun S3 H3 s3 A3 L3 => ?_⟩
      obtain ⟨Wc, Wd⟩ := (L3.out').wst Wa (by
        have h := L3.tab
        obtain ⟨F', rfl⟩ := L3.eq
        exact h)
      have el3 : S3.p.leads = S.p.leads := by obtain ⟨F', rfl⟩ := L3.eq; exact el
      have eln3 : S3.s = S.s := by obtain ⟨F', rfl⟩ := L3.eq; exact eln
      refine k S3 H3 tb1 ((Stp.same s1).trans (s2.trans (s3.mono (by decide)))) A3 (O2.trans L3.out') Wc fun m hm64 _ => ?_
      have hr3 := L3.row m hm64
      unfold RowOk
      rw [el3, eln3]
      by_cases hmn : m = n
      · subst hmn
        rw [if_pos rfl, if_pos ht] at hr3
        exact .inr ⟨(i : Int), r, f, wr, hs, hf, hr3, hwr⟩
      · rw [if_neg hmn] at hr3
        rw [hr3]
        rcases hrow m hm64 with h | h
        · rw [h]; exact R m hm64 hmn
        · exact .inl h
    refine ⟨_, rfl, _, A.fl (lk_w1 S), A.sh.o, _, rfl, g, S.s, n, rfl, A.sh, (fun e => by rw [e] at hs; cases hs), fun p q e t H1 nt s1 ht => ?_⟩
    rw [hs] at e
    injection e with e
    injection e with e1 e2
    subst e1 e2
    have A1 := A.same s1
    refine ⟨t, _, rfl, SqT.of ht, rfl, _, _, rfl, _, _, rfl, rfl, ?_⟩
    refine ⟨_, _, rfl, rfl, _, rfl, _, _, rfl, rfl, _, _, rfl, rfl, ?_⟩
    have em1 : V.int (Builtin.bitOr (Builtin.bitOr 1 8) (Builtin.bitAnd r 4)) = V.int (mkN (bHas r 4) false : Nat) := congrArg V.int (marks1 (r := r) h0)
    dsimp only
    rw [em1]
    refine ⟨_, rfl, _, _, rfl, rfl, r, _, rfl, _, rfl, ?_⟩
    rw [bits216]
    cases h18 : bHas r 18 with
    | false => exact iteF (fin _ false s1 (by simp))
    | true =>
      refine iteT ⟨_, rfl, _, rfl, _, A1.fl (lk_w8 S), S.op, _, rfl, DGet.k (k := Sum.inl (i : Int)) A1.op_, _, rfl, ?_⟩
      cases hv : (valV S.opK (Sum.inl (i : Int))).isSome with
      | false => exact iteF (fin _ false s1 (by simp))
      | true =>
        refine iteT ⟨_, rfl, _, _, rfl, rfl, _, _, rfl, rfl, ?_⟩
        dsimp only
        rw [marks2]
        exact fin _ true s1 fun _ => h18
def lNums (l : List Rw) (pg : Int) : List Int := (l.filter fun r => decide (r.2.1 = pg)).map (·.1)
theorem lNums_mem {l : List Rw} {pg n : Int} (h : n ∈ lNums l pg) : ∃ r : Int, (n, pg, r) ∈ l := by
  obtain ⟨x, hx, e⟩ := List.mem_map.mp h
  obtain ⟨h1, h2⟩ := List.mem_filter.mp hx
  obtain ⟨a, b, c⟩ := x
  have e1 : a = n := e
  have e2 : b = pg := by simpa using h2
  subst e1 e2
  exact ⟨c, h1⟩
theorem lNums_of {l : List Rw} {pg n r : Int} (h : (n, pg, r) ∈ l) : n ∈ lNums l pg := List.mem_map.mpr ⟨_, List.mem_filter.mpr ⟨h, by simp⟩, rfl⟩
abbrev N_Shadows_numbers_of : List Str := ["self", "page", "row"]
theorem sc_Shadows_numbers_of : FnScope N_Shadows_numbers_of ["self", "page"] (defScope s_Shadows_numbers_of) := ⟨rfl, rfl, rfl, by decide +kernel, rfl, by decide +kernel, by decide +kernel⟩
def sp_Shadows_numbers_of (K : PySem.W.Frag) : Sp := fun vs H Q _ => ∃ (g : Addr → Nat) (S : Wy) (pg : Int), vs = [.ref S.me, .int pg] ∧ WyAt K g H S ∧ ∀ l H', H l = none → Same H H' → H' l = some (.lst ((lNums S.s.line pg).map V.int)) → Q (.ref l) H'
theorem ok_Shadows_numbers_of (T : Txt K mg) : DOk P w K mg base CX0 2 ("Shadows", some "numbers_of") ["self", "page"] (sp_Shadows_numbers_of K) := by
  refine dok T.d_Shadows_numbers_of sc_Shadows_numbers_of (fun _ _ _ _ _ _ us hl => match us, hl with | [_, _], _ => rfl) (fun vs H Q E h => ?_) (fun cdv A outer s H vs Q E hr h => ?_)
  · obtain ⟨g, S, pg, rfl, A, k⟩ := h
    rfl
  · obtain ⟨g, S, pg, rfl, A, k⟩ := h
    refine ⟨_, (PSs.nox (pss_one (ps_ret (pe_lc (own := [("row", 2)]) (g := gName 2) rfl sc_Shadows_numbers_of.nd (pi_list (pe_m0 (pe_f (pv 0) T.c_Shadows T.n_Shadows_held) T.c_Shelf T.m_Shelf_told (ok_Shelf_told T) (hr.mono (by decide)) pass0)) (blkOk_by (own := [("row", 2)]) (N := N_Shadows_numbers_of) (sc := defScope s_Shadows_numbers_of) (by decide +kernel)) (fun _ _ _ _ _ => pg_name (i := 2) sc_Shadows_numbers_of.nd rfl (Or.inl rfl)) (fun _ _ _ _ _ => (pts_one (pt_cmpR op_eq (pe_ix (r := rIxT K) ix_tup (pv 2) pe_int (fun _ _ => rfl)) (pv 1) (nomark _)))) (fun _ _ _ _ _ => (pe_ix (r := rIxT K) ix_tup (pv 2) pe_int (fun _ _ => rfl))))))), ?_⟩
    refine ⟨_, rfl, _, A.fl (lk_w1 S), A.sh.o, g, S.s, rfl, A.sh, fun a H1 na s1 ha => ?_⟩
    have A1 := A.sh.same s1
    refine ⟨a, rfl, ⟨_, SqL.of ha⟩, fun D nD => ?_⟩
    refine lc_list (K := K) (a := a) (xs := S.s.rows.map fun r => V.ref r.1) (fun i H' => Same H1 H' ∧ H' D = some (.lst ((lNums (S.s.line.take i) pg).map V.int))) ⟨same_new nD, upd_same⟩ (fun i H' _ p => SqL.of (p.1 _ _ ha)) (fun i x H' hx p => ?_) (fun H' p => ?_)
    · rw [List.getElem?_map] at hx
      obtain ⟨⟨t, r⟩, h1, rfl⟩ := Option.map_eq_some_iff.mp hx
      obtain ⟨h2, _⟩ := A1.rw _ (List.mem_of_getElem? h1)
      have hl : S.s.line[i]? = some r := by
        unfold Sh.line
        rw [List.getElem?_map, h1]; rfl
      have h2' := p.1 _ _ h2
      have ht : lNums (S.s.line.take (i + 1)) pg = lNums (S.s.line.take i) pg ++ (if r.2.1 = pg then [r.1] else []) := by
        unfold lNums
        rw [take_snoc hl, List.filter_append, List.map_append]
        by_cases e : r.2.1 = pg
        · rw [if_pos e, List.filter_cons_of_pos (by simp [e])]; rfl
        · rw [if_neg e, List.filter_cons_of_neg (by simp [e])]; rfl
      have hi : i < 12 := by
        have h3 := (List.getElem?_eq_some_iff.mp h1).1
        have h4 := A.sh.sz
        have h5 := A.sh.hi
        omega
      have hlen : ((lNums (S.s.line.take i) pg).map V.int).length < sizeLine := by
        have h3 : (lNums (S.s.line.take i) pg).length ≤ i := by
          unfold lNums
          rw [List.length_map]
          refine Nat.le_trans (List.length_filter_le _ _) ?_
          rw [List.length_take]
          exact Nat.min_le_left _ _
        rw [List.length_map]
        exact small1000 (by omega)
      refine ⟨rfl, _, rfl, t, _, 1, _, rfl, rfl, SqT.of h2', atI_nat (j := 1) rfl, _, rfl, rfl, _, rfl, ?_⟩
      by_cases e : r.2.1 = pg
      · refine ifT (decide_eq_true (by rw [e])) ⟨_, rfl, t, _, 0, _, rfl, rfl, SqT.of h2', atI_nat (j := 0) rfl, _, p.2, hlen, same_mut p.1 nD, ?_⟩
        rw [upd_same, ht, if_pos e, List.map_append]; rfl
      · refine ifF (decide_eq_false fun z => e (by injection z)) ⟨p.1, ?_⟩
        rw [ht, if_neg e, List.append_nil]
        exact p.2
    · have e : S.s.line.take (S.s.rows.map fun r => V.ref r.1).length = S.s.line := by
        rw [List.length_map, ← S.s.len]; exact List.take_length
      rw [e] at p
      exact k D H' (s1.free nD) (s1.trans p.1) p.2
/-- the rows of a page's numbers are gone -/
structure MovT (S S' : Wy) (top : Nat) (rest : List Nat) (tb : Nat → Option Nat) (done : Int → Prop) : Prop where
  out : ∃ o, OutT { S with opK := o } S' top rest
  sp : S'.spare = S.spare
  tab : TabOk S'.f.F top rest S.spare tb
  row : ∀ m : Nat, m < 64 → rowF S'.f.F tb m = 0 ∨ (rowF S'.f.F tb m = rowF S.f.F tb m ∧ ¬ done (m : Int))
theorem TabOk.same {F : List Fm} {top : Nat} {rest spare spare' : List Nat} {tb : Nat → Option Nat} (h : TabOk F top rest spare tb) (e : spare' = spare) : TabOk F top rest spare' tb := e ▸ h
abbrev N_Shadows_moved : List Str := ["self", "page", "number"]
theorem sc_Shadows_moved : FnScope N_Shadows_moved ["self", "page"] (defScope s_Shadows_moved) := ⟨rfl, rfl, rfl, by decide +kernel, rfl, by decide +kernel, by decide +kernel⟩
def sp_Shadows_moved (K : PySem.W.Frag) : Sp := fun vs H Q _ => ∃ (g : Addr → Nat) (S : Wy) (top : Nat) (rest : List Nat) (tb : Nat → Option Nat) (i : Nat), vs = [.ref S.me, .int (i : Int)] ∧ WyAt K g H S ∧ Wst S top rest tb ∧ RowsOk S tb (fun m => ∃ r, lSeek S.s.line (m : Int) = some ((i : Int), r)) ∧
  ∀ S' H', Stp ALL g H g H' → WyAt K g H' S' → Sm S S' → S'.abs = S.abs → Wst S' top rest tb → RowsOk S' tb noBad → Q .non H'
theorem ok_Shadows_moved (T : Txt K mg) : DOk P w K mg base CX0 8 ("Shadows", some "moved") ["self", "page"] (sp_Shadows_moved K) := by
  refine dok T.d_Shadows_moved sc_Shadows_moved (fun _ _ _ _ _ _ us hl => match us, hl with | [_, _], _ => rfl) (fun vs H Q E h => ?_) (fun cdv A outer s H vs Q E hr h => ?_)
  · obtain ⟨g, S, top, rest, tb, i, rfl, A, W, R, k⟩ := h
    rfl
  · obtain ⟨g, S, top, rest, tb, i, rfl, A, W, R, k⟩ := h
    refine ⟨_, (PSs.nox (pss_cons (ps_expr (pe_dpop2 (pe_f (pv 0) T.c_Shadows T.n_Shadows_opened) (pv 1) pe_non ⟨rfl, rfl, rfl, rfl⟩))
      (pss_one (ps_for PassesOwn.never rfl (pi_list (pe_m (pv 0) T.c_Shadows T.m_Shadows_numbers_of (ok_Shadows_numbers_of T) (hr.mono (by decide)) pass0 (pa_cons (pv 1) pa_nil))) (pg_name (i := 2) sc_Shadows_moved.nd rfl (Or.inl rfl)) (pss_one (ps_expr (pe_m (pv 0) T.c_Shadows T.m_Shadows_lay_shadow (ok_Shadows_lay_shadow T) (hr.mono (by decide)) pass0 (pa_cons (pv 2) (pa_cons pe_int pa_nil))))))))), ?_⟩
    have main : ∀ (H1 : Hp) (o : List (Key × V)), Stp ALL g H g H1 → WyAt K g H1 { S with opK := o } →
        tFor (iList K (tM K "Shadows" "numbers_of" (sp_Shadows_numbers_of K) E0 (tVar 0) (tCons (tVar 1) tNil))) (gName 2)
          (tDrop (tM K "Shadows" "lay_shadow" (sp_Shadows_lay_shadow K) E0 (tVar 0) (tCons (tVar 2) (tCons (tC (.int 0)) tNil))))
          { nx := fun _ H' => Q .non H', rt := Q } [some (.ref S.me), some (.int (i : Int)), none] H1 := by
      intro H1 o s1 A1
      refine ⟨_, rfl, A1.o, _, rfl, g, { S with opK := o }, _, rfl, A1, fun l H2 nl s2 hl => ⟨l, rfl, ⟨_, SqL.of hl⟩, ?_⟩⟩
      refine for_list (K := K) (a := l) (xs := (lNums S.s.line (i : Int)).map V.int) (fun j σ H' => (∃ v, σ = [some (.ref S.me), some (.int (i : Int)), v]) ∧ ∃ S', Stp ALL g H2 g H' ∧ WyAt K g H' S' ∧ MovT S S' top rest tb (fun n => n ∈ (lNums S.s.line (i : Int)).take j) ∧ OutT { S with opK := o } S' top rest ∧ H' l = some (.lst ((lNums S.s.line (i : Int)).map V.int)))
        ⟨⟨_, rfl⟩, { S with opK := o }, .refl, A1.same s2, ⟨⟨o, .refl⟩, rfl, W.tab, fun m _ => .inr ⟨rfl, by simp⟩⟩, .refl, hl⟩ (fun j σ H' _ p => ?_) ?_ ?_
      · obtain ⟨_, S', _, _, _, _, h⟩ := p
        exact SqL.of h
      · rintro j x σ H3 hx ⟨⟨v, rfl⟩, S', s3, A3, M3, O3, h3⟩
        rw [List.getElem?_map] at hx
        obtain ⟨n, hn, rfl⟩ := Option.map_eq_some_iff.mp hx
        obtain ⟨r, hr⟩ := lNums_mem (List.mem_of_getElem? hn)
        obtain ⟨b1, b2, _⟩ := W.ln.nr _ hr
        obtain ⟨m, rfl⟩ : ∃ m : Nat, n = (m : Int) := ⟨n.toNat, (Int.toNat_of_nonneg b1).symm⟩
        have hm64 : m < 64 := by have : (m : Int) < 64 := b2; omega
        have em : S'.me = S.me := O3.sm.me
        have emn : S'.mine = top :: rest := by
          obtain ⟨F', sp', rfl⟩ := O3.eq
          exact W.mine
        have A3o : IsO K "Shadows" "lay_shadow" H3 (.ref S.me) := by rw [← em]; exact A3.o
        refine ⟨_, rfl, A3o, _, rfl, g, S', top, rest, tb, m, 0, by rw [em], A3, emn, M3.tab.same M3.sp, hm64, ⟨by decide, by decide⟩, fun S4 H4 s4 A4 L4 => ?_⟩
        have e4 : S4.spare = S'.spare := by
          obtain ⟨F', rfl⟩ := L4.eq
          rfl
        refine ⟨⟨_, rfl⟩, S4, s3.trans (s4.mono (by decide)), A4, ⟨⟨o, O3.trans L4.out'⟩, e4.trans M3.sp, by rw [← M3.sp]; exact L4.tab, fun m' hm' => ?_⟩, O3.trans L4.out', ?_⟩
        · have hr4 := L4.row m' hm'
          by_cases hmm : m' = m
          · rw [if_pos hmm] at hr4
            refine .inl (hr4.trans ?_)
            split <;> rfl
          · rw [if_neg hmm] at hr4
            rcases M3.row m' hm' with h | ⟨h, hnot⟩
            · exact .inl (hr4.trans h)
            · refine .inr ⟨hr4.trans h, fun z => ?_⟩
              rw [take_snoc hn] at z
              rcases List.mem_append.mp z with z | z
              · exact hnot z
              · have := List.mem_singleton.mp z
                exact hmm (by omega)
        · refine s4.at h3 ?_
          have : g l = 0 := tag0 A1.wf nl
          rw [this]; decide
      · rintro σ H3 ⟨_, S', s3, A3, M3, O3, h3⟩
        rw [List.length_map, List.take_length] at M3
        have W0 : Wst { S with opK := o } top rest tb := ⟨W.mine, W.tab, W.inj, W.tk, W.apart, W.c, W.l, W.ln⟩
        obtain ⟨Wa, Wb⟩ := O3.wst W0 (M3.tab.same M3.sp)
        have el : S'.p.leads = S.p.leads := by obtain ⟨F', sp', rfl⟩ := O3.eq; rfl
        have eln : S'.s = S.s := by obtain ⟨F', sp', rfl⟩ := O3.eq; rfl
        refine k S' H3 (s1.trans ((Stp.same s2).trans s3)) A3 ⟨O3.sm.me, O3.sm.fr⟩ Wb Wa fun m hm _ => ?_
        unfold RowOk
        rw [el, eln]
        rcases M3.row m hm with h | ⟨h, hnot⟩
        · exact .inl h
        · rw [h]
          exact R m hm fun ⟨r, hr⟩ => hnot (lNums_of (lSeek_mem hr))
    refine ⟨_, rfl, _, A.fl (lk_w8 S), S.op, rfl, .inl ⟨_, .inl A.op_⟩, _, rfl, S.opK, Sum.inl (i : Int), A.op_, rfl, fun v hv => ?_, fun hv => main H S.opK .refl A⟩
    obtain ⟨s1, A1⟩ := A.setOp (A.ko.drop (Sum.inl (i : Int)))
    exact main _ _ s1 A1
end
end Sp

set_option Elab.async false
set_option linter.all false
set_option maxRecDepth 100000
set_option maxHeartbeats 4000000
namespace Sp
open PySem PySem.Spec PyProof.Rows L2
section
variable {P : Program} {w : World} {K : PySem.W.Frag} {mg : Str → Option Value} {base : Heap}
/-! ### a store of frames, for the machine's own walk -/
def StF (K : PySem.W.Frag) : Hp → Addr → List Pg → Prop := fun H a ps => ∃ (g : Addr → Nat) (S : Fr), a = S.fr ∧ FrAt K g H S ∧ ps = fPg S.F
theorem StF.same (H H' : Hp) (a : Addr) (ps : List Pg) : StF K H a ps → Same H H' → StF K H' a ps := fun ⟨g, S, e, A, ep⟩ s => ⟨g, S, e, A.same s, ep⟩
theorem hasF (T : Txt K mg) : DOk P w K mg base CX0 7 ("Frames", some "has") ["self", "page"] (sp_st_has (StF K)) :=
  ((ok_Frames_has T).mono (by decide)).imp fun vs H Q E ⟨a, ps, n, e, ⟨g, S, ea, A, ep⟩, k⟩ => ⟨g, S, n, by rw [e, ea], A, by rw [← ep]; exact k⟩
theorem readF (T : Txt K mg) : DOk P w K mg base CX0 7 ("Frames", some "read") ["self", "page", "cell"] (sp_st_read (StF K)) :=
  ((ok_Frames_read T).mono (by decide)).imp fun vs H Q E ⟨a, ps, n, c, e, ⟨g, S, ea, A, ep⟩, h, h0, h1, k⟩ => ⟨g, S, n, c, by rw [e, ea], A, by rw [← ep]; exact h, h0, h1, by rw [← ep]; exact k⟩
def StW (K : PySem.W.Frag) : Hp → Addr → List Pg → Prop := fun H a ps => ∃ (g : Addr → Nat) (S : Wy), a = S.me ∧ WyAt K g H S ∧ Tk S ∧ ps = S.pages
theorem StW.same (H H' : Hp) (a : Addr) (ps : List Pg) : StW K H a ps → Same H H' → StW K H' a ps := fun ⟨g, S, e, A, tk, ep⟩ s => ⟨g, S, e, A.same s, tk, ep⟩
theorem hasW (T : Txt K mg) : DOk P w K mg base CX0 7 ("Shadows", some "has") ["self", "page"] (sp_st_has (StW K)) :=
  ((ok_Shadows_has T).mono (by decide)).imp fun vs H Q E ⟨a, ps, n, e, ⟨g, S, ea, A, tk, ep⟩, k⟩ => ⟨g, S, n, by rw [e, ea], A, tk, by rw [← ep]; exact k⟩
theorem readW (T : Txt K mg) : DOk P w K mg base CX0 7 ("Shadows", some "read") ["self", "page", "cell"] (sp_st_read (StW K)) :=
  ((ok_Shadows_read T).mono (by decide)).imp fun vs H Q E ⟨a, ps, n, c, e, ⟨g, S, ea, A, tk, ep⟩, h, h0, h1, k⟩ => ⟨g, S, n, c, by rw [e, ea], A, tk, by rw [← ep]; exact h, h0, h1, by rw [← ep]; exact k⟩
abbrev N_Shadows_by_machine : List Str := ["self", "place", "write", "kernel", "trail"]
theorem sc_Shadows_by_machine : FnScope N_Shadows_by_machine ["self", "place", "write", "kernel"] (defScope s_Shadows_by_machine) := ⟨rfl, rfl, rfl, by decide +kernel, rfl, by decide +kernel, by decide +kernel⟩
def sp_Shadows_by_machine (K : PySem.W.Frag) : Sp := fun vs H Q _ => ∃ (g : Addr → Nat) (S : Wy) (top : Nat) (rest : List Nat) (place : Int) (w' k' : Bool), vs = [.ref S.me, .int place, .bl w', .bl k'] ∧ 0 ≤ place ∧ WyAt K g H S ∧ S.mine = top :: rest ∧
  (∀ x, lookP (fPg S.f.F) (top : Int) place w' k' = .ok x → ∀ H', Same H H' → Q (.int x.2.2.1) H') ∧ (∀ e, lookP (fPg S.f.F) (top : Int) place w' k' = .error e → ∀ H', Same H H' → Q .non H')
theorem ok_Shadows_by_machine (T : Txt K mg) : DOk P w K mg base CX0 10 ("Shadows", some "by_machine") ["self", "place", "write", "kernel"] (sp_Shadows_by_machine K) := by
  refine dok T.d_Shadows_by_machine sc_Shadows_by_machine (fun _ _ _ _ _ _ us hl => match us, hl with | [_, _, _, _], _ => rfl) (fun vs H Q E h => ?_) (fun cdv A outer s H vs Q E hr h => ?_)
  · obtain ⟨g, S, top, rest, place, w', k', rfl, h0, A, hm, k, kE⟩ := h
    rfl
  · obtain ⟨g, S, top, rest, place, w', k', rfl, h0, A, hm, k, kE⟩ := h
    refine ⟨_, (PSs.nox (pss_one (ps_try_onlyE (tb := fun W => tAsg (tGS (sp_look K "Frames" (StF K)) (WE W) (tCons (tF K "Shadows" "ground" (tVar 0)) (tCons (tOp (rIxL K) (tF K "Shadows" "mine" (tVar 0)) (tC (.int 0))) (tCons (tVar 1) (tCons (tVar 2) (tCons (tVar 3) tNil)))))) (gName 4)) (ts := fun _ _ _ => tRet (tC .non)) (Wout := fun _ _ _ _ => False) (pss_one (ps_ret (pe_ix (r := rIxT K) ix_tup (pv 4) pe_int (fun _ _ => rfl)))) rfl rfl ⟨rfl, by decide +kernel, .inl T.g_Fault⟩ takes0 (fun W pn xe tk _ => (pss_one (ps_set (i := 4) sc_Shadows_by_machine.nd rfl (Or.inl rfl) (pe_gS (ok_look (c := "Frames") (St := StF K) T.c_Frames T.m_Frames_has T.m_Frames_read (hasF T) (readF T) StF.same T) (hr.mono (by decide)) T.g_look (fun σ => passAt tk σ) (pa_cons (pe_f (pv 0) T.c_Shadows T.n_Shadows_ground) (pa_cons (pe_ix (r := rIxL K) ix_list (pe_f (pv 0) T.c_Shadows T.n_Shadows_mine) pe_int (fun _ _ => rfl)) (pa_cons (pv 1) (pa_cons (pv 2) (pa_cons (pv 3) pa_nil))))))))) (fun a oe cls d pn hz hf => (pss_one (ps_ret pe_non)))))), ?_⟩
    have hmn : (S.mine.map natV)[0]? = some (.int (top : Int)) := by rw [hm]; rfl
    refine ⟨_, rfl, _, A.fl (lk_w3 S), _, rfl, _, A.fl (lk_w4 S), _, _, _, _, rfl, rfl, SqL.of A.mn_, atI_nat (j := 0) hmn, _, rfl, _, rfl, _, rfl, ?_⟩
    refine ⟨S.f.fr, fPg S.f.F, (top : Int), place, w', k', rfl, h0, ⟨g, S.f, rfl, A.fr, rfl⟩, A.fr.o, A.fr.o, fun x hx t H' nt s ht => ?_, fun s l hs d H' sd nd f => ?_⟩
    · obtain ⟨t1, t2, h1, h2, h3⟩ := ht
      exact ⟨_, rfl, t, _, 2, _, rfl, rfl, SqT.of h1, atI_nat (j := 2) rfl, k x hx H' s⟩
    · exact ⟨true, T.x_Fault, fun _ a na => kE _ hs _ sd, fun z => by cases z⟩
/-! ### page words are written: the tables stay -/
structure Wr (S S' : Wy) : Prop where
  eq : ∃ F' c o, S' = { S with f := { S.f with F := F' }, chK := c, opK := o }
  len : S'.f.F.length = S.f.F.length
  c : cnt S'.f.F = cnt S.f.F
  out : ∀ f : Nat, (∀ j : Nat, S.p.leads[j]? ≠ some (some f)) → S'.f.F[f]? = S.f.F[f]?
  tk : ∀ f : Nat, (∃ p, S.f.F[f]? = some (some p)) → ∃ p, S'.f.F[f]? = some (some p)
theorem Wr.refl {S : Wy} : Wr S S := ⟨⟨_, _, _, rfl⟩, rfl, rfl, fun _ _ => rfl, fun _ h => h⟩
theorem Wr.trans {S S1 S2 : Wy} (a : Wr S S1) (b : Wr S1 S2) : Wr S S2 := by
  obtain ⟨F1, c1, o1, rfl⟩ := a.eq
  obtain ⟨F2, c2, o2, rfl⟩ := b.eq
  exact ⟨⟨F2, c2, o2, rfl⟩, b.len.trans a.len, b.c.trans a.c, fun f hf => (b.out f hf).trans (a.out f hf), fun f hf => b.tk f (a.tk f hf)⟩
theorem Wr.sm {S S' : Wy} (a : Wr S S') : Sm S S' := by
  obtain ⟨F', c, o, rfl⟩ := a.eq
  exact ⟨rfl, rfl⟩
theorem Wr.leads {S S' : Wy} (a : Wr S S') : S'.p.leads = S.p.leads := by
  obtain ⟨F', c, o, rfl⟩ := a.eq
  rfl
theorem Wr.tk' {S S' : Wy} (a : Wr S S') (h : Tk S) : Tk S' := fun j f e => a.tk f (h j f (by rw [← a.leads]; exact e))
theorem Wr.has {S S' : Wy} (a : Wr S S') (h : Tk S) (n : Int) : pgHas S'.pages n = pgHas S.pages n := by rw [pgH_w h, pgH_w (a.tk' h), a.leads]
theorem Wr.of {S : Wy} {i f j : Nat} {x : Int} {w : Addr} {xs : List Int} {c o : List (Key × V)} (e : S.p.leads[i]? = some (some f)) (ef : S.f.F[f]? = some (some (w, xs))) : Wr S (S.wr f j x w xs c o) := by
  refine ⟨⟨_, _, _, rfl⟩, ?_, cnt_set_same _ _ _ _ ef, fun f' hf => ?_, fun f' hf => ?_⟩
  · show (S.f.F.set f _).length = _
    rw [List.length_set]
  · show (S.f.F.set f _)[f']? = _
    exact List.getElem?_set_ne fun z : f = f' => hf i (z ▸ e)
  · show ∃ p, (S.f.F.set f _)[f']? = _
    by_cases h : f = f'
    · subst h
      exact ⟨_, List.getElem?_set_self (List.getElem?_eq_some_iff.mp ef).1⟩
    · rw [List.getElem?_set_ne h]; exact hf
theorem Wr.wst {S S' : Wy} {top : Nat} {rest : List Nat} {tb : Nat → Option Nat} (a : Wr S S') (W : Wst S top rest tb) : Wst S' top rest tb ∧ ∀ bad, RowsOk S tb bad → RowsOk S' tb bad := by
  have tk := a.tk' W.tk
  have fw : ∀ t ∈ top :: rest, frW S'.f.F t = frW S.f.F t := fun t ht => by
    unfold frW fPg
    rw [List.getElem?_map, List.getElem?_map, a.out t fun j hj => W.apart j t hj ht]
  have al := a.len
  have ac := a.c
  obtain ⟨F', c, o, rfl⟩ := a.eq
  refine ⟨⟨W.mine, W.tab.congr fw, W.inj, tk, W.apart, ?_, ?_, W.ln⟩, fun bad R m hm hb => ?_⟩
  · have := W.c
    rw [ac]; exact this
  · have := W.l
    rw [al]; exact this
  · have e := rowF_congr W.tab fw hm
    have := R m hm hb
    unfold RowOk at this ⊢
    rw [e]
    exact this
theorem Wr.abs {S S' : Wy} (a : Wr S S') : S'.abs = { S.abs with pages := S'.pages } := by
  have al := a.len
  obtain ⟨F', c, o, rfl⟩ := a.eq
  unfold Wy.abs
  rw [al]
theorem pages_wr {S : Wy} (inj : LInj S.p.leads) {i f j : Nat} {x : Int} {w : Addr} {xs : List Int} {c o : List (Key × V)} (e : S.p.leads[i]? = some (some f)) (ef : S.f.F[f]? = some (some (w, xs))) : (S.wr f j x w xs c o).pages = pgWr S.pages (i : Int) (j : Int) x := by
  unfold pgWr
  rw [pgW_w e ef]
  apply List.ext_getElem?
  intro m
  show (wPg (S.f.F.set f (some (w, xs.set j x))) S.p.leads)[m]? = ((wPg S.f.F S.p.leads).set (i : Int).toNat (some (((some xs).getD []).set (j : Int).toNat x)))[m]?
  have hi : i < (wPg S.f.F S.p.leads).length := by rw [wPg_len]; exact (List.getElem?_eq_some_iff.mp e).1
  have hf : f < S.f.F.length := (List.getElem?_eq_some_iff.mp ef).1
  rw [wPg_get, List.getElem?_set, Int.toNat_natCast, Int.toNat_natCast]
  by_cases h : i = m
  · subst h
    rw [if_pos rfl, if_pos hi, e]
    show some (frW (S.f.F.set f (some (w, xs.set j x))) f) = _
    rw [frW_set_eq hf]; rfl
  · rw [if_neg h, wPg_get]
    cases e2 : S.p.leads[m]? with
    | none => rfl
    | some l =>
      cases l with
      | none => rfl
      | some f2 =>
        show some (frW _ f2) = some (frW _ f2)
        rw [frW_set_ne fun z : f2 = f => h (inj i m f e (z ▸ e2))]
/-! ### the marks that a walk leaves -/
def stampP (ps : List Pg) (s : Int × Int) (m : Int) : List Pg := if bHas (pgRd ps s.1 s.2) m then ps else pgWr ps s.1 s.2 (Builtin.bitOr (pgRd ps s.1 s.2) m)
theorem bOr_nat (a b : Nat) : Builtin.bitOr (a : Int) (b : Int) = ((a ||| b : Nat) : Int) := by rw [bitOr_nn (Int.natCast_nonneg a) (Int.natCast_nonneg b), Int.toNat_natCast, Int.toNat_natCast]
theorem word_or {x : Int} (h : IsWord x) {m : Nat} (hm : m < 256) : IsWord (Builtin.bitOr x (m : Int)) := by
  obtain ⟨h0, h1⟩ := h
  obtain ⟨n, rfl⟩ := Int.eq_ofNat_of_zero_le h0
  rw [bOr_nat]
  have : n ||| m < 2 ^ 48 := Nat.or_lt_two_pow (by show n < 281474976710656; omega) (Nat.lt_of_lt_of_le hm (by decide))
  have e : (2 : Nat) ^ 48 = 281474976710656 := by decide
  rw [e] at this
  exact ⟨by omega, by omega⟩
theorem rd_word {g : Addr → Nat} {H : Hp} {S : Wy} (A : WyAt K g H S) (tk : Tk S) {n c : Int} (h : pgHas S.pages n = true) (h0 : 0 ≤ c) (h1 : c < 8) : IsWord (pgRd S.pages n c) := by
  obtain ⟨i, f, w, xs, rfl, e, ef, ew⟩ := w_at tk h
  obtain ⟨_, hl, hw, _⟩ := A.fr.ws f w xs ef
  unfold pgRd
  rw [ew]
  show IsWord (xs.getD c.toNat 0)
  have hc : c.toNat < xs.length := by omega
  rw [List.getD_eq_getElem?_getD, List.getElem?_eq_getElem hc]
  exact hw _ (List.getElem_mem hc)
abbrev N_stamp : List Str := ["store", "spot", "marks", "word"]
theorem sc_stamp : FnScope N_stamp ["store", "spot", "marks"] (defScope s_stamp) := ⟨rfl, rfl, rfl, by decide +kernel, rfl, by decide +kernel, by decide +kernel⟩
def sp_stamp (K : PySem.W.Frag) : Sp := fun vs H Q _ => ∃ (g : Addr → Nat) (S : Wy) (t : Addr) (n c : Int) (m : Nat), vs = [.ref S.me, .ref t, .int (m : Int)] ∧ WyAt K g H S ∧ Tk S ∧ LInj S.p.leads ∧ H t = some (.tup [.int n, .int c]) ∧ pgHas S.pages n = true ∧ 0 ≤ c ∧ c < 8 ∧ m < 256 ∧
  ∀ S' H', Stp ALL g H g H' → WyAt K g H' S' → Wr S S' → S'.pages = stampP S.pages (n, c) (m : Int) → Q .non H'
theorem ok_stamp (T : Txt K mg) : DOk P w K mg base CX0 13 ("stamp", none) ["store", "spot", "marks"] (sp_stamp K) := by
  refine dok T.d_stamp sc_stamp (fun _ _ _ _ _ _ us hl => match us, hl with | [_, _, _], _ => rfl) (fun vs H Q E h => ?_) (fun cdv A outer s H vs Q E hr h => ?_)
  · obtain ⟨g, S, t, n, c, m, rfl, A, tk, inj, ht, hn, h0, h1, hm, k⟩ := h
    rfl
  · obtain ⟨g, S, t, n, c, m, rfl, A, tk, inj, ht, hn, h0, h1, hm, k⟩ := h
    refine ⟨_, (PSs.nox (pss_cons (ps_set (i := 3) sc_stamp.nd rfl (Or.inl rfl) (pe_m (pv 0) T.c_Shadows T.m_Shadows_read (ok_Shadows_read T) (hr.mono (by decide)) pass0 (pa_cons (pe_ix (r := rIxT K) ix_tup (pv 1) pe_int (fun _ _ => rfl)) (pa_cons (pe_ix (r := rIxT K) ix_tup (pv 1) pe_int (fun _ _ => rfl)) pa_nil))))
      (pss_one (ps_if (pt_not (pt_val (pe_g (ok_has T) (hr.mono (by decide)) T.g_has pass0 (pa_cons (pv 3) (pa_cons (pv 2) pa_nil))))) (pss_one (ps_expr (pe_m (pv 0) T.c_Shadows T.m_Shadows_write (ok_Shadows_write T) (hr.mono (by decide)) pass0 (pa_cons (pe_ix (r := rIxT K) ix_tup (pv 1) pe_int (fun _ _ => rfl)) (pa_cons (pe_ix (r := rIxT K) ix_tup (pv 1) pe_int (fun _ _ => rfl)) (pa_cons (pe_g (ok_put T) (hr.mono (by decide)) T.g_put pass0 (pa_cons (pv 3) (pa_cons (pv 2) pa_nil))) pa_nil)))))) pss_nil)))), ?_⟩
    refine ⟨_, rfl, A.o, _, rfl, t, _, 0, _, rfl, rfl, SqT.of ht, atI_nat (j := 0) rfl, _, rfl, t, _, 1, _, rfl, rfl, SqT.of ht, atI_nat (j := 1) rfl, g, S, n, c, rfl, A, tk, hn, h0, h1, ?_⟩
    refine ⟨_, rfl, _, rfl, _, _, rfl, _, rfl, ?_⟩
    cases hb : bHas (pgRd S.pages n c) (m : Int) with
    | true =>
      refine iteF (k S H .refl A .refl ?_)
      unfold stampP
      rw [if_pos hb]
    | false =>
      refine iteT ⟨_, rfl, A.o, _, rfl, t, _, 0, _, rfl, rfl, SqT.of ht, atI_nat (j := 0) rfl, _, rfl, t, _, 1, _, rfl, rfl, SqT.of ht, atI_nat (j := 1) rfl, _, rfl, _, rfl, _, _, rfl, ?_⟩
      refine ⟨g, S, n, c, _, rfl, A, tk, hn, h0, h1, word_or (rd_word A tk hn h0 h1) hm, fun i f w xs H' c1 c2 en e ef s A' => ?_⟩
      refine k _ H' s A' (Wr.of e ef) ?_
      unfold stampP
      rw [pages_wr inj e ef, if_neg (by rw [hb]; decide), Int.toNat_of_nonneg h0, ← en]
def markP (ps : List Pg) (x : Trail) (w : Bool) : List Pg × Int := if w then (stampP (stampP ps x.1 8) x.2.1 24, Builtin.bitOr x.2.2.2 16) else (stampP (stampP ps x.1 8) x.2.1 8, x.2.2.2)
abbrev N_mark : List Str := ["store", "trail", "write"]
theorem sc_mark : FnScope N_mark ["store", "trail", "write"] (defScope s_mark) := ⟨rfl, rfl, rfl, by decide +kernel, rfl, by decide +kernel, by decide +kernel⟩
def sp_mark (K : PySem.W.Frag) : Sp := fun vs H Q _ => ∃ (g : Addr → Nat) (S : Wy) (t : Addr) (x : Trail) (w' : Bool), vs = [.ref S.me, .ref t, .bl w'] ∧ WyAt K g H S ∧ Tk S ∧ LInj S.p.leads ∧ (∃ t1 t2, H t = some (.tup [.ref t1, .ref t2, .int x.2.2.1, .int x.2.2.2]) ∧ H t1 = some (.tup [.int x.1.1, .int x.1.2]) ∧ H t2 = some (.tup [.int x.2.1.1, .int x.2.1.2]) ∧ g t = 0 ∧ g t1 = 0 ∧ g t2 = 0) ∧ pgHas S.pages x.1.1 = true ∧ 0 ≤ x.1.2 ∧ x.1.2 < 8 ∧ pgHas S.pages x.2.1.1 = true ∧ 0 ≤ x.2.1.2 ∧ x.2.1.2 < 8 ∧
  ∀ S' H', Stp ALL g H g H' → WyAt K g H' S' → Wr S S' → S'.pages = (markP S.pages x w').1 → Q (.int (markP S.pages x w').2) H'
theorem ok_mark (T : Txt K mg) : DOk P w K mg base CX0 14 ("mark", none) ["store", "trail", "write"] (sp_mark K) := by
  refine dok T.d_mark sc_mark (fun _ _ _ _ _ _ us hl => match us, hl with | [_, _, _], _ => rfl) (fun vs H Q E h => ?_) (fun cdv A outer s H vs Q E hr h => ?_)
  · obtain ⟨g, S, t, x, w', rfl, A, tk, inj, ⟨u1, u2, ht, ht1, ht2, g0, g1, g2⟩, hn, h0, h1, hn2, h3, h4, k⟩ := h
    rfl
  · obtain ⟨g, S, t, x, w', rfl, A, tk, inj, ⟨u1, u2, ht, ht1, ht2, g0, g1, g2⟩, hn, h0, h1, hn2, h3, h4, k⟩ := h
    refine ⟨_, (PSs.nox (pss_cons (ps_expr (pe_g (ok_stamp T) (hr.mono (by decide)) T.g_stamp pass0 (pa_cons (pv 0) (pa_cons (pe_ix (r := rIxT K) ix_tup (pv 1) pe_int (fun _ _ => rfl)) (pa_cons (pe_ic T.i_TOUCHED) pa_nil)))))
      (pss_cons (ps_if (pt_not (pt_val (pv 2))) (pss_cons (ps_expr (pe_g (ok_stamp T) (hr.mono (by decide)) T.g_stamp pass0 (pa_cons (pv 0) (pa_cons (pe_ix (r := rIxT K) ix_tup (pv 1) pe_int (fun _ _ => rfl)) (pa_cons (pe_ic T.i_TOUCHED) pa_nil)))))
      (pss_one (ps_ret (pe_ix (r := rIxT K) ix_tup (pv 1) pe_int (fun _ _ => rfl))))) pss_nil)
      (pss_cons (ps_expr (pe_g (ok_stamp T) (hr.mono (by decide)) T.g_stamp pass0 (pa_cons (pv 0) (pa_cons (pe_ix (r := rIxT K) ix_tup (pv 1) pe_int (fun _ _ => rfl)) (pa_cons (pe_op op_or (pe_ic T.i_TOUCHED) (pe_ic T.i_SOILED)) pa_nil)))))
      (pss_one (ps_ret (pe_op op_or (pe_ix (r := rIxT K) ix_tup (pv 1) pe_int (fun _ _ => rfl)) (pe_ic T.i_SOILED)))))))), ?_⟩
    refine ⟨_, rfl, _, rfl, t, _, 0, _, rfl, rfl, SqT.of ht, atI_nat (j := 0) rfl, g, S, u1, _, _, 8, rfl, A, tk, inj, ht1, hn, h0, h1, by decide, fun S1 H1 s1 A1 W1 e1 => ?_⟩
    have inj1 : LInj S1.p.leads := by rw [W1.leads]; exact inj
    have tk1 := W1.tk' tk
    have em : S1.me = S.me := W1.sm.me
    have ht' := s1.at ht (by rw [g0]; decide)
    have ht2' := s1.at ht2 (by rw [g2]; decide)
    have hn2' : pgHas S1.pages x.2.1.1 = true := by rw [W1.has tk]; exact hn2
    refine ⟨_, rfl, _, rfl, ?_⟩
    cases w' with
    | false =>
      refine iteT ⟨_, rfl, _, rfl, t, _, 1, _, rfl, rfl, SqT.of ht', atI_nat (j := 1) rfl, g, S1, u2, _, _, 8, by rw [em]; rfl, A1, tk1, inj1, ht2', hn2', h3, h4, by decide, fun S2 H2 s2 A2 W2 e2 => ?_⟩
      refine ⟨_, rfl, t, _, 3, _, rfl, rfl, SqT.of (s2.at ht' (by rw [g0]; decide)), atI_nat (j := 3) rfl, ?_⟩
      have := k S2 H2 (s1.trans s2) A2 (W1.trans W2) (by rw [e2, e1]; rfl)
      exact this
    | true =>
      refine iteF ⟨_, rfl, _, rfl, t, _, 1, _, rfl, rfl, SqT.of ht', atI_nat (j := 1) rfl, _, _, rfl, rfl, g, S1, u2, _, _, 24, by rw [em]; rfl, A1, tk1, inj1, ht2', hn2', h3, h4, by decide, fun S2 H2 s2 A2 W2 e2 => ?_⟩
      refine ⟨_, rfl, t, _, 3, _, rfl, rfl, SqT.of (s2.at ht' (by rw [g0]; decide)), atI_nat (j := 3) rfl, _, _, rfl, rfl, ?_⟩
      have := k S2 H2 (s1.trans s2) A2 (W1.trans W2) (by rw [e2, e1]; rfl)
      exact this
end
end Sp

set_option Elab.async false
set_option linter.all false
set_option maxRecDepth 100000
set_option maxHeartbeats 4000000
namespace Sp
open PySem PySem.Spec PyProof.Rows L2
section
variable {P : Program} {w : World} {K : PySem.W.Frag} {mg : Str → Option Value} {base : Heap}
/-! ### rows by their numbers -/
theorem lSeek_cons (r : Rw) (l : List Rw) (n : Int) : lSeek (r :: l) n = if r.1 = n then some r.2 else lSeek l n := by
  unfold lSeek
  rw [lSeat]
  by_cases h : r.1 = n
  · rw [if_pos h, if_pos h]; rfl
  · rw [if_neg h, if_neg h]; rfl
theorem lSeek_none : ∀ (l : List Rw) (n : Int), lSeek l n = none ↔ ¬ lSeat l n < l.length
  | [], n => by simp [lSeek]
  | r :: l, n => by
    rw [lSeek_cons, lSeat]
    by_cases h : r.1 = n
    · rw [if_pos h, if_pos h]
      simp
    · rw [if_neg h, if_neg h, lSeek_none l n, List.length_cons]
      omega
theorem lSeek_app (r : Rw) (n : Int) : ∀ l : List Rw, lSeek (l ++ [r]) n = match lSeek l n with | some x => some x | none => if r.1 = n then some r.2 else none
  | [] => lSeek_cons r [] n
  | q :: l => by
    rw [List.cons_append, lSeek_cons, lSeek_cons, lSeek_app r n l]
    by_cases h : q.1 = n
    · rw [if_pos h, if_pos h]
    · rw [if_neg h, if_neg h]
theorem lSeek_set (r : Rw) (n : Int) : ∀ l : List Rw, lSeat l r.1 < l.length → lSeek (l.set (lSeat l r.1) r) n = if r.1 = n then some r.2 else lSeek l n
  | [], h => absurd h (Nat.not_lt_zero _)
  | q :: l, h => by
    rw [lSeat] at h ⊢
    by_cases e : q.1 = r.1
    · rw [if_pos e, List.set_cons_zero, lSeek_cons, lSeek_cons]
      by_cases e2 : r.1 = n
      · rw [if_pos e2, if_pos e2]
      · rw [if_neg e2, if_neg e2, if_neg (by rw [e]; exact e2)]
    · rw [if_neg e] at h ⊢
      rw [List.set_cons_succ, lSeek_cons, lSeek_set r n l (by simpa using h), lSeek_cons]
      by_cases e2 : q.1 = n
      · rw [if_pos e2, if_pos e2, if_neg fun z => e (e2.trans z.symm)]
      · rw [if_neg e2, if_neg e2]
theorem lSeek_no {l : List Rw} {n : Int} (h : ∀ r ∈ l, r.1 ≠ n) : lSeek l n = none := by
  induction l with
  | nil => rfl
  | cons q l ih =>
    rw [lSeek_cons, if_neg (h q List.mem_cons_self)]
    exact ih fun r hr => h r (List.mem_cons_of_mem _ hr)
theorem lKeep_seek {most : Int} {l : List Rw} {r : Rw} (h : 1 ≤ most) : lSeek (lKeep most l r).1 r.1 = some r.2 := by
  unfold lKeep
  by_cases h1 : lSeat l r.1 < l.length
  · rw [if_pos h1]
    show lSeek (l.set _ r) r.1 = _
    rw [lSeek_set r r.1 l h1, if_pos rfl]
  · rw [if_neg h1]
    have hn := (lSeek_none l r.1).mpr h1
    by_cases h2 : ((l ++ [r]).length : Int) ≤ most
    · rw [if_pos h2]
      show lSeek (l ++ [r]) r.1 = _
      rw [lSeek_app, hn]
      show (if r.1 = r.1 then _ else _) = _
      rw [if_pos rfl]
    · rw [if_neg h2]
      cases l with
      | nil => exact absurd h h2
      | cons q l =>
        rw [lSeek_cons] at hn
        by_cases e : q.1 = r.1
        · rw [if_pos e] at hn; cases hn
        · rw [if_neg e] at hn
          show lSeek (l ++ [r]) r.1 = _
          rw [lSeek_app, hn]
          show (if r.1 = r.1 then _ else _) = _
          rw [if_pos rfl]
theorem lKeep_other {most : Int} {l : List Rw} {r : Rw} {n : Int} (hn : r.1 ≠ n) : lSeek (lKeep most l r).1 n = lSeek l n ∨ (lKeep most l r).2 = some n := by
  unfold lKeep
  have ha : lSeek (l ++ [r]) n = lSeek l n := by
    rw [lSeek_app]
    cases lSeek l n with
    | some x => rfl
    | none => exact if_neg hn
  by_cases h1 : lSeat l r.1 < l.length
  · rw [if_pos h1]
    refine .inl ?_
    show lSeek (l.set _ r) n = _
    rw [lSeek_set r n l h1, if_neg hn]
  · rw [if_neg h1]
    by_cases h2 : ((l ++ [r]).length : Int) ≤ most
    · rw [if_pos h2]
      exact .inl ha
    · rw [if_neg h2]
      cases l with
      | nil => exact .inl (by show lSeek [] n = lSeek [] n; rfl)
      | cons q l =>
        by_cases e : q.1 = n
        · exact .inr (congrArg some e)
        · refine .inl ?_
          rw [List.cons_append, lSeek_cons, if_neg e] at ha
          exact ha
theorem lKeep_out {most : Int} {l : List Rw} {r : Rw} {m : Int} (h : 1 ≤ most) (e : (lKeep most l r).2 = some m) : ∃ q ∈ l, q.1 = m := by
  unfold lKeep at e
  by_cases h1 : lSeat l r.1 < l.length
  · rw [if_pos h1] at e; cases e
  · rw [if_neg h1] at e
    by_cases h2 : ((l ++ [r]).length : Int) ≤ most
    · rw [if_pos h2] at e; cases e
    · rw [if_neg h2] at e
      cases l with
      | nil => exact absurd h h2
      | cons q l =>
        refine ⟨q, List.mem_cons_self, ?_⟩
        have : some q.1 = some m := e
        injection this
theorem lKeep_ok {most : Int} {l : List Rw} {r : Rw} (L : LineOk l) (h0 : 0 ≤ r.1) (h1 : r.1 < 64) (h2 : 0 ≤ r.2.2) : LineOk (lKeep most l r).1 := by
  unfold lKeep
  have hap : ¬ lSeat l r.1 < l.length → LineOk (l ++ [r]) := fun h => by
    have hn := (lSeek_none l r.1).mpr h
    refine ⟨fun q hq => ?_, ?_⟩
    · rcases List.mem_append.mp hq with m | m
      · exact L.nr q m
      · rw [List.mem_singleton.mp m]; exact ⟨h0, h1, h2⟩
    · rw [List.map_append]
      refine nd_snoc L.nd fun m => ?_
      obtain ⟨q, hq, e⟩ := List.mem_map.mp m
      clear h1 h2 h0
      induction l with
      | nil => cases hq
      | cons x l ih =>
        rw [lSeek_cons] at hn
        by_cases ex : x.1 = r.1
        · rw [if_pos ex] at hn; cases hn
        · rw [if_neg ex] at hn
          rcases List.mem_cons.mp hq with z | z
          · exact ex (by rw [← z]; exact e)
          · exact ih ⟨fun y hy => L.nr y (List.mem_cons_of_mem _ hy), (List.nodup_cons.mp L.nd).2⟩ ((lSeek_none l r.1).mp hn) hn (List.mem_map.mpr ⟨q, z, e⟩) z
  by_cases h : lSeat l r.1 < l.length
  · rw [if_pos h]
    obtain ⟨q, hq, hqn⟩ := lSeat_get l r.1 h
    refine ⟨fun x hx => ?_, ?_⟩
    · rcases List.mem_or_eq_of_mem_set hx with m | m
      · exact L.nr x m
      · rw [m]; exact ⟨h0, h1, h2⟩
    · have e : (l.set (lSeat l r.1) r).map (·.1) = l.map (·.1) := by
        apply List.ext_getElem?
        intro k
        rw [List.getElem?_map, List.getElem?_map, List.getElem?_set]
        by_cases hk : lSeat l r.1 = k
        · subst hk
          rw [if_pos rfl, if_pos h, hq]
          exact congrArg some hqn.symm
        · rw [if_neg hk]
      show ((l.set (lSeat l r.1) r).map (·.1)).Nodup
      rw [e]
      exact L.nd
  · rw [if_neg h]
    have L2 := hap h
    by_cases h3 : ((l ++ [r]).length : Int) ≤ most
    · rw [if_pos h3]; exact L2
    · rw [if_neg h3]
      refine ⟨fun x hx => L2.nr x (List.mem_of_mem_eraseIdx hx), ?_⟩
      exact L2.nd.sublist ((List.eraseIdx_sublist ..).map _)
theorem lDrop_ok {l : List Rw} (L : LineOk l) (n : Int) : LineOk (lDrop l n) :=
  ⟨fun x hx => L.nr x (List.mem_of_mem_eraseIdx hx), L.nd.sublist ((List.eraseIdx_sublist ..).map _)⟩
theorem lDrop_seek {n m : Int} (h : n ≠ m) : ∀ l : List Rw, lSeek (lDrop l n) m = lSeek l m
  | [] => rfl
  | q :: l => by
    unfold lDrop
    rw [lSeat]
    by_cases e : q.1 = n
    · rw [if_pos e, List.eraseIdx_cons_zero, lSeek_cons, if_neg fun z => h (e.symm.trans z)]
    · rw [if_neg e, List.eraseIdx_cons_succ, lSeek_cons, lSeek_cons]
      have := lDrop_seek h l
      unfold lDrop at this
      rw [this]
theorem lDrop_gone {l : List Rw} (L : LineOk l) (n : Int) : lSeek (lDrop l n) n = none := by
  have nd := L.nd
  clear L
  induction l with
  | nil => rfl
  | cons q l ih =>
    unfold lDrop
    rw [lSeat]
    rw [List.map_cons] at nd
    obtain ⟨n1, n2⟩ := List.nodup_cons.mp nd
    by_cases e : q.1 = n
    · rw [if_pos e, List.eraseIdx_cons_zero]
      exact lSeek_no fun r hr z => n1 (List.mem_map.mpr ⟨r, hr, z.trans e.symm⟩)
    · rw [if_neg e, List.eraseIdx_cons_succ, lSeek_cons, if_neg e]
      have := ih n2
      unfold lDrop at this
      exact this
/-! ### the page that a deed reaches -/
def optV : Option Int → V
  | none => .non
  | some p => .int p
def reachP (P : Pl) (place : Int) (w k : Bool) : Except (Str × Int) (Pl × Int) := match onShelf P place w k with
  | some pg => .ok (P, pg)
  | none => match lookP P.pages P.base place w k with
    | .error e => .error e
    | .ok x => .ok ({ P with pages := (markP P.pages x w).1, line := (lKeep P.most P.line (place / 8, x.2.2.1, (markP P.pages x w).2)).1 }, x.2.2.1)
theorem lookP_ok {ps : List Pg} {root place : Int} {w k : Bool} {x : Trail} (h : lookP ps root place w k = .ok x) :
    place ≤ 511 ∧ pgHas ps x.1.1 = true ∧ x.1.2 = place / 8 / 8 ∧ pgHas ps x.2.1.1 = true ∧ x.2.1.2 = place / 8 % 8 ∧ pgHas ps x.2.2.1 = true ∧ x.2.2.2 = vRights (pgRd ps x.1.1 x.1.2) (pgRd ps x.2.1.1 x.2.1.2) := by
  unfold lookP at h
  by_cases h1 : 511 < place
  · rw [if_pos h1] at h; cases h
  rw [if_neg h1] at h
  by_cases h2 : pgHas ps root = false
  · rw [if_pos h2] at h; cases h
  rw [if_neg h2] at h
  cases e1 : lookBy ps (pgRd ps root (place / 8 / 8)) w k with
  | error s => rw [e1] at h; cases h
  | ok table =>
    rw [e1] at h
    dsimp only at h
    cases e2 : lookBy ps (pgRd ps table (place / 8 % 8)) w k with
    | error s => rw [e2] at h; cases h
    | ok page =>
      rw [e2] at h
      injection h with h
      subst h
      obtain ⟨_, b2, b3, _, _⟩ := lookBy_ok e1
      obtain ⟨_, c2, c3, _, _⟩ := lookBy_ok e2
      exact ⟨by omega, by simpa using h2, rfl, by rw [b3]; exact b2, rfl, by rw [c3]; exact c2, rfl⟩
theorem bOr_nn {a b : Int} (ha : 0 ≤ a) (hb : 0 ≤ b) : 0 ≤ Builtin.bitOr a b := by rw [bitOr_nn ha hb]; omega
theorem bAnd_nn {a b : Int} (ha : 0 ≤ a) (hb : 0 ≤ b) : 0 ≤ Builtin.bitAnd a b := by
  obtain ⟨n, rfl⟩ := Int.eq_ofNat_of_zero_le ha
  obtain ⟨m, rfl⟩ := Int.eq_ofNat_of_zero_le hb
  rw [bAnd_nat]; omega
theorem vRights_nn {h l : Int} (a : 0 ≤ h) (b : 0 ≤ l) : 0 ≤ vRights h l :=
  bOr_nn (bOr_nn (bAnd_nn (bAnd_nn a b) (by decide)) (bAnd_nn (bOr_nn a b) (by decide))) (bAnd_nn b (by decide))
theorem markP_nn {ps : List Pg} {x : Trail} {w : Bool} (h : 0 ≤ x.2.2.2) : 0 ≤ (markP ps x w).2 := by
  unfold markP
  cases w with
  | false => exact h
  | true => exact bOr_nn h (by decide)
abbrev N_Shadows_on_shelf : List Str := ["self", "place", "write", "kernel", "row"]
theorem sc_Shadows_on_shelf : FnScope N_Shadows_on_shelf ["self", "place", "write", "kernel"] (defScope s_Shadows_on_shelf) := ⟨rfl, rfl, rfl, by decide +kernel, rfl, by decide +kernel, by decide +kernel⟩
def sp_Shadows_on_shelf (K : PySem.W.Frag) : Sp := fun vs H Q _ => ∃ (g : Addr → Nat) (S : Wy) (place : Int) (w' k' : Bool), vs = [.ref S.me, .int place, .bl w', .bl k'] ∧ WyAt K g H S ∧ Tk S ∧ ∀ H', Same H H' → Q (optV (onShelf S.abs place w' k')) H'
theorem ok_Shadows_on_shelf (T : Txt K mg) : DOk P w K mg base CX0 5 ("Shadows", some "on_shelf") ["self", "place", "write", "kernel"] (sp_Shadows_on_shelf K) := by
  refine dok T.d_Shadows_on_shelf sc_Shadows_on_shelf (fun _ _ _ _ _ _ us hl => match us, hl with | [_, _, _, _], _ => rfl) (fun vs H Q E h => ?_) (fun cdv A outer s H vs Q E hr h => ?_)
  · obtain ⟨g, S, place, w', k', rfl, A, tk, k⟩ := h
    rfl
  · obtain ⟨g, S, place, w', k', rfl, A, tk, k⟩ := h
    refine ⟨_, (PSs.nox (pss_cons (ps_if (pt_cmpR op_ge (pv 1) (pe_ic T.i_PLACES) (nomark _)) (pss_one (ps_ret pe_non)) pss_nil)
      (pss_cons (ps_set (i := 4) sc_Shadows_on_shelf.nd rfl (Or.inl rfl) (pe_m (pe_f (pv 0) T.c_Shadows T.n_Shadows_held) T.c_Shelf T.m_Shelf_seek (ok_Shelf_seek T) (hr.mono (by decide)) pass0 (pa_cons (pe_op op_fdivW (pv 1) pe_int) pa_nil)))
      (pss_cons (ps_if (PW.pt (pw_or (pt_cmpR op_isN (pv 4) pe_non (nomark _)) (pw_or (pt_not (pt_val (pe_m (pv 0) T.c_Shadows T.m_Shadows_has (ok_Shadows_has T) (hr.mono (by decide)) pass0 (pa_cons (pe_ix (r := rIxT K) ix_tup (pv 4) pe_int (fun _ _ => rfl)) pa_nil)))) (pw_or1 (pt_not (pt_val (pe_g (ok_lets T) (hr.mono (by decide)) T.g_lets pass0 (pa_cons (pe_ix (r := rIxT K) ix_tup (pv 4) pe_int (fun _ _ => rfl)) (pa_cons (pv 2) (pa_cons (pv 3) pa_nil)))))))))) (pss_one (ps_ret pe_non)) pss_nil)
      (pss_one (ps_ret (pe_ix (r := rIxT K) ix_tup (pv 4) pe_int (fun _ _ => rfl)))))))), ?_⟩
    unfold onShelf at k
    refine ⟨_, rfl, _, _, rfl, rfl, _, rfl, ?_⟩
    by_cases h1 : 512 ≤ place
    · rw [if_pos h1] at k
      exact ifT (decide_eq_true h1) (k H (Same.refl H))
    rw [if_neg h1] at k
    refine ifF (decide_eq_false h1) ⟨_, rfl, _, A.fl (lk_w1 S), A.sh.o, _, rfl, _, _, rfl, rfl, ⟨by decide, by decide⟩, g, S.s, place / 8, rfl, A.sh, fun e H1 s1 => ?_, fun pg r e t H1 nt s1 ht => ?_⟩
    · refine ⟨_, rfl, rfl, _, rfl, iteT ?_⟩
      have := k H1 s1
      rw [show lSeek S.abs.line (place / 8) = none from e] at this
      exact this
    · rw [show lSeek S.abs.line (place / 8) = some (pg, r) from e] at k
      have A1 := A.same s1
      refine ⟨_, rfl, rfl, _, rfl, iteF ⟨_, rfl, A1.o, _, rfl, t, _, 0, _, rfl, rfl, SqT.of ht, atI_nat (j := 0) rfl, g, S, pg, rfl, A1, tk, _, rfl, ?_⟩⟩
      dsimp only at k
      cases h2 : pgHas S.pages pg with
      | false =>
        refine iteT ?_
        have := k H1 s1
        rw [show pgHas S.abs.pages pg = false from h2] at this
        exact this
      | true =>
        rw [show pgHas S.abs.pages pg = true from h2] at k
        refine iteF ⟨_, rfl, t, _, 1, _, rfl, rfl, SqT.of ht, atI_nat (j := 1) rfl, _, rfl, _, rfl, r, w', k', rfl, _, rfl, ?_⟩
        cases h3 : bLets r w' k' with
        | false =>
          rw [h3] at k
          exact iteT (k H1 s1)
        | true =>
          rw [h3] at k
          exact iteF ⟨_, rfl, t, _, 0, _, rfl, rfl, SqT.of ht, atI_nat (j := 0) rfl, k H1 s1⟩
end
end Sp

set_option Elab.async false
set_option linter.all false
set_option maxRecDepth 100000
set_option maxHeartbeats 4000000
namespace Sp
open PySem PySem.Spec PyProof.Rows L2
section
variable {P : Program} {w : World} {K : PySem.W.Frag} {mg : Str → Option Value} {base : Heap}
theorem Wst.setS {S : Wy} {top : Nat} {rest : List Nat} {tb : Nat → Option Nat} (W : Wst S top rest tb) (sh : Sh) (h : LineOk sh.line) : Wst { S with s := sh } top rest tb :=
  ⟨W.mine, W.tab, W.inj, W.tk, W.apart, W.c, W.l, h⟩
theorem RowsOk.mono {S : Wy} {tb : Nat → Option Nat} {bad bad' : Nat → Prop} (R : RowsOk S tb bad) (h : ∀ n, bad n → bad' n) : RowsOk S tb bad' := fun m hm hb => R m hm fun z => hb (h m z)
theorem RowsOk.line {S : Wy} {tb : Nat → Option Nat} {bad bad' : Nat → Prop} (R : RowsOk S tb bad) (sh : Sh) (h : ∀ m : Nat, ¬ bad' m → ¬ bad m ∧ lSeek sh.line (m : Int) = lSeek S.s.line (m : Int)) : RowsOk { S with s := sh } tb bad' := fun m hm hb => by
  obtain ⟨h1, h2⟩ := h m hb
  have := R m hm h1
  unfold RowOk at this ⊢
  rw [h2]
  exact this
/-- a row is taken out of the tables -/
theorem LayT.off {S S' : Wy} {top n : Nat} {rest : List Nat} {tb : Nat → Option Nat} {bad bad' : Nat → Prop} (L : LayT S S' top rest tb n 0) (W : Wst S top rest tb) (R : RowsOk S tb bad) (h : ∀ m, bad m → m = n ∨ bad' m) : Wst S' top rest tb ∧ S'.abs = S.abs ∧ RowsOk S' tb bad' := by
  have hr := L.row
  obtain ⟨Wa, Wb⟩ := (L.out').wst W (by
    have h := L.tab
    obtain ⟨F', rfl⟩ := L.eq
    exact h)
  refine ⟨Wa, Wb, fun m hm hb => ?_⟩
  have hm' := hr m hm
  have el : S'.p.leads = S.p.leads := by obtain ⟨F', rfl⟩ := L.eq; rfl
  have eln : S'.s = S.s := by obtain ⟨F', rfl⟩ := L.eq; rfl
  unfold RowOk
  rw [el, eln]
  by_cases hmn : m = n
  · rw [if_pos hmn] at hm'
    refine .inl (hm'.trans ?_)
    split <;> rfl
  · rw [if_neg hmn] at hm'
    rw [hm']
    exact R m hm fun z => by
      rcases h m z with z | z
      · exact hmn z
      · exact hb z
theorem LayT.sm {S S' : Wy} {top n : Nat} {rest : List Nat} {tb : Nat → Option Nat} {x : Int} (L : LayT S S' top rest tb n x) : Sm S S' := L.out'.sm
abbrev N_Shadows_reach : List Str := ["self", "place", "write", "kernel", "page", "trail", "rights", "out"]
theorem sc_Shadows_reach : FnScope N_Shadows_reach ["self", "place", "write", "kernel"] (defScope s_Shadows_reach) := ⟨rfl, rfl, rfl, by decide +kernel, rfl, by decide +kernel, by decide +kernel⟩
def sp_Shadows_reach (K : PySem.W.Frag) : Sp := fun vs H Q E => ∃ (g : Addr → Nat) (S : Wy) (place : Int) (w' k' : Bool), vs = [.ref S.me, .int place, .bl w', .bl k'] ∧ 0 ≤ place ∧ WyAt K g H S ∧ Wok S noBad ∧
  (∀ P pg, reachP S.abs place w' k' = .ok (P, pg) → ∀ S' g' H', Stp ALL g H g' H' → WyAt K g' H' S' → Sm S S' → S'.abs = P → Wok S' (fun m => (m : Int) = place / 8) → Q (.int pg) H') ∧
  (∀ s l, reachP S.abs place w' k' = .error (s, l) → ∀ d H', Same H H' → H d = none → FltAt H' d s place l → E (.ref (He.ga K "Fault")) (some d) H')
theorem ok_Shadows_reach (T : Txt K mg) : DOk P w K mg base (L2.CX P w) 15 ("Shadows", some "reach") ["self", "place", "write", "kernel"] (sp_Shadows_reach K) := by
  refine dok T.d_Shadows_reach sc_Shadows_reach (fun _ _ _ _ _ _ us hl => match us, hl with | [_, _, _, _], _ => rfl) (fun vs H Q E h => ?_) (fun cdv A outer s H vs Q E hr h => ?_)
  · obtain ⟨g, S, place, w', k', rfl, hp0, A, ⟨top, rest, tb, W, R⟩, k, kE⟩ := h
    rfl
  · obtain ⟨g, S, place, w', k', rfl, hp0, A, ⟨top, rest, tb, W, R⟩, k, kE⟩ := h
    refine ⟨_, (pss_cons (ps_set (i := 4) sc_Shadows_reach.nd rfl (Or.inl rfl) (pe_m (pv 0) T.c_Shadows T.m_Shadows_on_shelf (ok_Shadows_on_shelf T) (hr.mono (by decide)) pass0 (pa_cons (pv 1) (pa_cons (pv 2) (pa_cons (pv 3) pa_nil)))))
      (pss_cons (ps_if (pt_cmpR op_notN (pv 4) pe_non (nomark _)) (pss_one (ps_ret (pv 4))) pss_nil)
      (pss_cons (ps_set (i := 5) sc_Shadows_reach.nd rfl (Or.inl rfl) (pe_g (ok_look (c := "Shadows") (St := StW K) T.c_Shadows T.m_Shadows_has T.m_Shadows_read (hasW T) (readW T) StW.same T) (hr.mono (by decide)) T.g_look (passes_call (takes_of rfl rfl rfl rfl) (fun _ _ _ _ h => h)) (pa_cons (pv 0) (pa_cons (pe_f (pv 0) T.c_Shadows T.n_Shadows_base) (pa_cons (pv 1) (pa_cons (pv 2) (pa_cons (pv 3) pa_nil)))))))
      (pss_cons (ps_set (i := 6) sc_Shadows_reach.nd rfl (Or.inl rfl) (pe_g (ok_mark T) (hr.mono (by decide)) T.g_mark pass0 (pa_cons (pv 0) (pa_cons (pv 5) (pa_cons (pv 2) pa_nil)))))
      (pss_cons (ps_set (i := 7) sc_Shadows_reach.nd rfl (Or.inl rfl) (pe_m (pe_f (pv 0) T.c_Shadows T.n_Shadows_held) T.c_Shelf T.m_Shelf_keep (ok_Shelf_keep T) (hr.mono (by decide)) pass0 (pa_cons (pe_op op_fdivW (pv 1) pe_int) (pa_cons (pe_ix (r := rIxT K) ix_tup (pv 5) pe_int (fun _ _ => rfl)) (pa_cons (pv 6) pa_nil)))))
      (pss_cons (ps_if (pt_cmpR op_notN (pv 7) pe_non (nomark _)) (pss_one (ps_expr (pe_m (pv 0) T.c_Shadows T.m_Shadows_left (ok_Shadows_left T) (hr.mono (by decide)) pass0 (pa_cons (pv 7) pa_nil)))) pss_nil)
      (pss_one (ps_ret (pe_ix (r := rIxT K) ix_tup (pv 5) pe_int (fun _ _ => rfl)))))))))), ?_⟩
    have tk := W.tk
    refine ⟨_, rfl, A.o, _, rfl, _, rfl, _, rfl, g, S, place, w', k', rfl, A, tk, fun H1 s1 => ?_⟩
    have A1 := A.same s1
    unfold reachP at k kE
    cases eo : onShelf S.abs place w' k' with
    | some pg =>
      rw [eo] at k
      exact ⟨_, rfl, rfl, _, rfl, iteT ⟨_, rfl, k S.abs pg rfl S g H1 (.same s1) A1 .refl rfl ⟨top, rest, tb, W, R.mono fun n h => h.elim⟩⟩⟩
    | none =>
    rw [eo] at k kE
    dsimp only at k kE
    refine ⟨_, rfl, rfl, _, rfl, iteF ?_⟩
    refine ⟨_, rfl, _, rfl, _, A1.fl (lk_w2 S), _, rfl, _, rfl, _, rfl, S.me, S.pages, S.base, place, w', k', rfl, hp0, ⟨g, S, rfl, A1, tk, rfl⟩, A1.o, A1.o, fun x hx t H2 nt s2 ht => ?_, fun s l hs d H' sd nd f => ?_⟩
    case refine_2 =>
      refine kE s l ?_ d H' (s1.trans sd) (s1.free nd) f
      rw [show lookP S.abs.pages S.abs.base place w' k' = .error (s, l) from hs]
    rw [show lookP S.abs.pages S.abs.base place w' k' = .ok x from hx] at k
    obtain ⟨b1, b2, b3, b4, b5, b6, b7⟩ := lookP_ok hx
    obtain ⟨t1, t2, e1, e2, e3, n1, n2⟩ := ht
    have A2 := A1.same s2
    have gt : g t = 0 := tag0 A1.wf nt
    have q0 : 0 ≤ x.1.2 := by rw [b3]; omega
    have q1 : x.1.2 < 8 := by rw [b3]; omega
    have q2 : 0 ≤ x.2.1.2 := by rw [b5]; omega
    have q3 : x.2.1.2 < 8 := by rw [b5]; omega
    refine ⟨_, rfl, _, rfl, _, rfl, g, S, t, x, w', rfl, A2, tk, W.inj, ⟨t1, t2, e1, e2, e3, gt, tag0 A1.wf n1, tag0 A1.wf n2⟩, b2, q0, q1, b4, q2, q3, fun S3 H3 s3 A3 W3 e4 => ?_⟩
    have em : S3.me = S.me := W3.sm.me
    have e1' := s3.at e1 (by rw [gt]; decide)
    have A3f : Fld K "Shadows" "held" H3 (.ref S.me) (.ref S3.s.sh) := by rw [← em]; exact A3.fl (lk_w1 S3)
    have es : S3.s = S.s := by obtain ⟨F', c, o, rfl⟩ := W3.eq; rfl
    have hnn : 0 ≤ (markP S.pages x w').2 := by
      refine markP_nn ?_
      rw [b7]
      exact vRights_nn (rd_word A tk b2 q0 q1).1 (rd_word A tk b4 q2 q3).1
    refine ⟨_, rfl, _, A3f, A3.sh.o, _, rfl, _, _, rfl, rfl, ⟨by decide, by decide⟩, _, rfl, t, _, 2, _, rfl, rfl, SqT.of e1', atI_nat (j := 2) rfl, _, rfl, g, S3.s, (place / 8, x.2.2.1, (markP S.pages x w').2), rfl, A3.sh, fun Sh' g4 H4 s4 B4 f1 f2 f3 f4 => ?_⟩
    have A4 := A3.setS s4 B4 f1
    rw [es] at f3 f4
    have hmost : 1 ≤ S.s.most := A.sh.lo
    have hl2 : LineOk (lKeep S.s.most S.s.line (place / 8, x.2.2.1, (markP S.pages x w').2)).1 := lKeep_ok W.ln (by show 0 ≤ place / 8; omega) (by show place / 8 < 64; omega) hnn
    obtain ⟨Wa, Wb⟩ := W3.wst W
    have Wc := Wa.setS Sh' (by rw [f4]; exact hl2)
    have gt4 : g4 t = 0 := (s4.tag e1').trans gt
    have e14 := s4.at e1' (by rw [gt]; decide)
    have eabs : Wy.abs { S3 with s := Sh' } = { S.abs with pages := (markP S.abs.pages x w').1, line := (lKeep S.abs.most S.abs.line (place / 8, x.2.2.1, (markP S.abs.pages x w').2)).1 } := by
      have h1 : S3.abs = { S.abs with pages := (markP S.pages x w').1 } := by rw [W3.abs, e4]
      have h2 : Wy.abs { S3 with s := Sh' } = { S3.abs with line := Sh'.line, most := Sh'.most } := rfl
      rw [h2, h1, f3, f4]
      rfl
    have Rc : ∀ bad : Nat → Prop, (∀ m : Nat, ¬ bad m → (m : Int) ≠ place / 8 ∧ (lKeep S.s.most S.s.line (place / 8, x.2.2.1, (markP S.pages x w').2)).2 ≠ some (m : Int)) → RowsOk { S3 with s := Sh' } tb bad := fun bad hb => by
      refine (Wb _ R).line Sh' fun m hm => ⟨fun z => z, ?_⟩
      obtain ⟨c1, c2⟩ := hb m hm
      rw [f4, es]
      rcases lKeep_other (most := S.s.most) (l := S.s.line) (r := (place / 8, x.2.2.1, (markP S.pages x w').2)) (n := (m : Int)) (fun z => c1 (Eq.symm z)) with h | h
      · exact h
      · exact absurd h c2
    have sAll : Stp ALL g H g4 H4 := (Stp.same (s1.trans s2)).trans (s3.trans (s4.mono (by decide)))
    have eo2 : (lKeep S3.s.most S3.s.line (place / 8, x.2.2.1, (markP S.pages x w').2)).2 = (lKeep S.s.most S.s.line (place / 8, x.2.2.1, (markP S.pages x w').2)).2 := by rw [es]
    rw [eo2]
    cases ek : (lKeep S.s.most S.s.line (place / 8, x.2.2.1, (markP S.pages x w').2)).2 with
    | none =>
      refine ⟨_, rfl, rfl, _, rfl, iteF ⟨_, rfl, t, _, 2, _, rfl, rfl, SqT.of e14, atI_nat (j := 2) rfl, ?_⟩⟩
      exact k _ _ rfl { S3 with s := Sh' } g4 H4 sAll A4 ⟨em, W3.sm.fr⟩ eabs ⟨top, rest, tb, Wc, Rc _ fun m hm => ⟨hm, by rw [ek]; simp⟩⟩
    | some n =>
      obtain ⟨q, hq, hqn⟩ := lKeep_out hmost ek
      obtain ⟨c1, c2, _⟩ := W.ln.nr q hq
      rw [hqn] at c1 c2
      obtain ⟨m, rfl⟩ : ∃ m : Nat, n = (m : Int) := ⟨n.toNat, (Int.toNat_of_nonneg c1).symm⟩
      have A4o : IsO K "Shadows" "left" H4 (.ref S.me) := by
        have := A4.o (m := "left")
        rw [show ({ S3 with s := Sh' } : Wy).me = S.me from em] at this
        exact this
      refine ⟨_, rfl, rfl, _, rfl, iteT ⟨_, rfl, A4o, _, rfl, g4, { S3 with s := Sh' }, top, rest, tb, m, by rw [show ({ S3 with s := Sh' } : Wy).me = S.me from em], A4, Wc.mine, Wc.tab, by omega, fun S5 H5 s5 A5 L5 => ?_⟩⟩
      refine ⟨_, rfl, t, _, 2, _, rfl, rfl, SqT.of (s5.at e14 (by rw [gt4]; decide)), atI_nat (j := 2) rfl, ?_⟩
      obtain ⟨Wd, We, Wf⟩ := L5.off Wc (bad' := fun j => (j : Int) = place / 8) (Rc (fun j => (j : Int) = place / 8 ∨ j = m) fun j hj => ⟨fun z => hj (.inl z), fun z => hj (.inr (by rw [ek] at z; injection z with z; omega))⟩) fun j hj => hj.symm
      exact k _ _ rfl S5 g4 H5 (sAll.trans (s5.mono (by decide))) A5 (Sm.trans (S1 := { S3 with s := Sh' }) ⟨em, W3.sm.fr⟩ L5.sm) (We.trans eabs) ⟨top, rest, tb, Wd, Wf⟩
/-- behind a deed: the way stands at P -/
def Nx (K : PySem.W.Frag) (g : Addr → Nat) (H : Hp) (S : Wy) (P : Pl) (R : Hp → Prop) : Prop := ∀ S' g' H', Stp ALL g H g' H' → WyAt K g' H' S' → Sm S S' → S'.abs = P → Wok S' noBad → R H'
/-- a fault: nothing changed -/
def Fx (K : PySem.W.Frag) (H : Hp) (s : Str) (p l : Int) (E : XK) : Prop := ∀ d H', Same H H' → H d = none → FltAt H' d s p l → E (.ref (He.ga K "Fault")) (some d) H'
def loadP (P : Pl) (place : Int) (k : Bool) : Except (Str × Int) (Pl × Int) := match reachP P place false k with
  | .error e => .error e
  | .ok (P', pg) => .ok (P', pgRd P'.pages pg (place % 8))
def saveP (P : Pl) (place x : Int) (k : Bool) : Except (Str × Int) Pl := match reachP P place true k with
  | .error e => .error e
  | .ok (P', pg) => .ok { P' with pages := pgWr P'.pages pg (place % 8) x }
theorem has_wr {ps : List Pg} {n : Int} (h : pgHas ps n = true) (c x m : Int) : pgHas (pgWr ps n c x) m = pgHas ps m := by
  unfold pgHas pgWords at h
  by_cases h0 : 0 ≤ n
  · rw [if_pos h0] at h
    unfold pgHas pgWords
    by_cases hm : 0 ≤ m
    · rw [if_pos hm, if_pos hm]
      unfold pgWr
      rw [List.getElem?_set]
      by_cases e : n.toNat = m.toNat
      · rw [if_pos e]
        have hlt : n.toNat < ps.length := by
          cases q : ps[n.toNat]? with
          | none => rw [q] at h; cases h
          | some y => exact (List.getElem?_eq_some_iff.mp q).1
        rw [if_pos hlt, ← e]
        exact h.symm
      · rw [if_neg e]
    · rw [if_neg hm, if_neg hm]
  · rw [if_neg h0] at h; cases h
theorem has_stamp {ps : List Pg} {s : Int × Int} (h : pgHas ps s.1 = true) (m n : Int) : pgHas (stampP ps s m) n = pgHas ps n := by
  unfold stampP
  split
  · rfl
  · exact has_wr h _ _ _
theorem has_mark {ps : List Pg} {x : Trail} (h1 : pgHas ps x.1.1 = true) (h2 : pgHas ps x.2.1.1 = true) (w : Bool) (n : Int) : pgHas (markP ps x w).1 n = pgHas ps n := by
  unfold markP
  cases w with
  | false =>
    show pgHas (stampP (stampP ps x.1 8) x.2.1 8) n = _
    rw [has_stamp (by rw [has_stamp h1]; exact h2), has_stamp h1]
  | true =>
    show pgHas (stampP (stampP ps x.1 8) x.2.1 24) n = _
    rw [has_stamp (by rw [has_stamp h1]; exact h2), has_stamp h1]
theorem onShelf_ok {P : Pl} {place : Int} {w k : Bool} {pg : Int} (h : onShelf P place w k = some pg) : place ≤ 511 ∧ (∃ r, lSeek P.line (place / 8) = some (pg, r)) ∧ pgHas P.pages pg = true := by
  unfold onShelf at h
  by_cases h1 : 512 ≤ place
  · rw [if_pos h1] at h; cases h
  rw [if_neg h1] at h
  cases e : lSeek P.line (place / 8) with
  | none => rw [e] at h; cases h
  | some q =>
    obtain ⟨p, r⟩ := q
    rw [e] at h
    dsimp only at h
    cases h2 : (pgHas P.pages p && bLets r w k) with
    | false => rw [h2] at h; cases h
    | true =>
      rw [h2] at h
      injection h with h
      subst h
      rw [Bool.and_eq_true] at h2
      exact ⟨by omega, ⟨r, rfl⟩, h2.1⟩
theorem reachP_ok {P P' : Pl} {place : Int} {w k : Bool} {pg : Int} (hm : 1 ≤ P.most) (h : reachP P place w k = .ok (P', pg)) : place ≤ 511 ∧ (∃ r, lSeek P'.line (place / 8) = some (pg, r)) ∧ pgHas P'.pages pg = true := by
  unfold reachP at h
  cases e : onShelf P place w k with
  | some q =>
    rw [e] at h
    injection h with h
    injection h with h1 h2
    subst h1 h2
    exact onShelf_ok e
  | none =>
    rw [e] at h
    dsimp only at h
    cases e2 : lookP P.pages P.base place w k with
    | error s => rw [e2] at h; cases h
    | ok x =>
      rw [e2] at h
      injection h with h
      injection h with h1 h2
      subst h1 h2
      obtain ⟨b1, b2, _, b4, _, b6, _⟩ := lookP_ok e2
      exact ⟨b1, ⟨_, lKeep_seek hm⟩, by show pgHas (markP P.pages x w).1 _ = true; rw [has_mark b2 b4]; exact b6⟩
abbrev N_Kept_load : List Str := ["self", "place", "kernel"]
theorem sc_Kept_load : FnScope N_Kept_load ["self", "place", "kernel"] (defScope s_Kept_load) := ⟨rfl, rfl, rfl, by decide +kernel, rfl, by decide +kernel, by decide +kernel⟩
def sp_Kept_load (K : PySem.W.Frag) : Sp := fun vs H Q E => ∃ (g : Addr → Nat) (S : Wy) (place : Int) (k' : Bool), vs = [.ref S.me, .int place, .bl k'] ∧ 0 ≤ place ∧ WyAt K g H S ∧ Wok S noBad ∧
  (∀ P pg, reachP S.abs place false k' = .ok (P, pg) → ∀ S' g' H', Stp ALL g H g' H' → WyAt K g' H' S' → Sm S S' → S'.abs = P → Wok S' (fun m => (m : Int) = place / 8) → Q (.int (pgRd P.pages pg (place % 8))) H') ∧
  (∀ s l, reachP S.abs place false k' = .error (s, l) → Fx K H s place l E)
theorem ok_Kept_load (T : Txt K mg) : DOk P w K mg base (L2.CX P w) 16 ("Kept", some "load") ["self", "place", "kernel"] (sp_Kept_load K) := by
  refine dok T.d_Kept_load sc_Kept_load (fun _ _ _ _ _ _ us hl => match us, hl with | [_, _, _], _ => rfl) (fun vs H Q E h => ?_) (fun cdv A outer s H vs Q E hr h => ?_)
  · obtain ⟨g, S, place, k', rfl, hp0, A, W, k, kE⟩ := h
    rfl
  · obtain ⟨g, S, place, k', rfl, hp0, A, W, k, kE⟩ := h
    refine ⟨_, (pss_one (ps_ret (pe_m (pv 0) T.c_Shadows T.m_Shadows_read (ok_Shadows_read T) (hr.mono (by decide)) pass0 (pa_cons (pe_m (pv 0) T.c_Shadows T.m_Shadows_reach (ok_Shadows_reach T) (hr.mono (by decide)) (passes_call (takes_of rfl rfl rfl rfl) (fun _ _ _ _ h => h)) (pa_cons (pv 1) (pa_cons pe_bl (pa_cons (pv 2) pa_nil)))) (pa_cons (pe_op op_mod (pv 1) pe_int) pa_nil))))), ?_⟩
    refine ⟨_, rfl, A.o, _, rfl, A.o, _, rfl, _, rfl, g, S, place, false, k', rfl, hp0, A, W, fun P pg e S' g' H' s' A' m' ea W' => ?_, fun s l e => kE s l e⟩
    obtain ⟨top, rest, tb, W2, R2⟩ := W'
    obtain ⟨b1, b2, b3⟩ := reachP_ok (show 1 ≤ S.abs.most from A.sh.lo) e
    have b3' : pgHas S'.pages pg = true := by rw [show S'.pages = S'.abs.pages from rfl, ea]; exact b3
    refine ⟨_, rfl, _, _, rfl, rfl, (by show (0 : Int) < 8; decide), g', S', pg, place % 8, by rw [m'.me], A', W2.tk, b3', by omega, by omega, ?_⟩
    have := k P pg e S' g' H' s' A' m' ea ⟨top, rest, tb, W2, R2⟩
    rw [← ea] at this
    exact this
abbrev N_Kept_save : List Str := ["self", "place", "word", "kernel"]
theorem sc_Kept_save : FnScope N_Kept_save ["self", "place", "word", "kernel"] (defScope s_Kept_save) := ⟨rfl, rfl, rfl, by decide +kernel, rfl, by decide +kernel, by decide +kernel⟩
def sp_Kept_save (K : PySem.W.Frag) : Sp := fun vs H Q E => ∃ (g : Addr → Nat) (S : Wy) (place x : Int) (k' : Bool), vs = [.ref S.me, .int place, .int x, .bl k'] ∧ 0 ≤ place ∧ IsWord x ∧ WyAt K g H S ∧ Wok S noBad ∧
  (∀ P pg, reachP S.abs place true k' = .ok (P, pg) → ∀ S' g' H', Stp ALL g H g' H' → WyAt K g' H' S' → Sm S S' → S'.abs = { P with pages := pgWr P.pages pg (place % 8) x } → Wok S' (fun m => (m : Int) = place / 8) → Q .non H') ∧
  (∀ s l, reachP S.abs place true k' = .error (s, l) → Fx K H s place l E)
theorem ok_Kept_save (T : Txt K mg) : DOk P w K mg base (L2.CX P w) 16 ("Kept", some "save") ["self", "place", "word", "kernel"] (sp_Kept_save K) := by
  refine dok T.d_Kept_save sc_Kept_save (fun _ _ _ _ _ _ us hl => match us, hl with | [_, _, _, _], _ => rfl) (fun vs H Q E h => ?_) (fun cdv A outer s H vs Q E hr h => ?_)
  · obtain ⟨g, S, place, x, k', rfl, hp0, hx, A, W, k, kE⟩ := h
    rfl
  · obtain ⟨g, S, place, x, k', rfl, hp0, hx, A, W, k, kE⟩ := h
    refine ⟨_, (pss_one (ps_expr (pe_m (pv 0) T.c_Shadows T.m_Shadows_write (ok_Shadows_write T) (hr.mono (by decide)) pass0 (pa_cons (pe_m (pv 0) T.c_Shadows T.m_Shadows_reach (ok_Shadows_reach T) (hr.mono (by decide)) (passes_call (takes_of rfl rfl rfl rfl) (fun _ _ _ _ h => h)) (pa_cons (pv 1) (pa_cons pe_bl (pa_cons (pv 3) pa_nil)))) (pa_cons (pe_op op_mod (pv 1) pe_int) (pa_cons (pv 2) pa_nil)))))), ?_⟩
    refine ⟨_, rfl, A.o, _, rfl, A.o, _, rfl, _, rfl, g, S, place, true, k', rfl, hp0, A, W, fun P pg e S' g' H' s' A' m' ea W' => ?_, fun s l e => kE s l e⟩
    obtain ⟨top, rest, tb, W2, R2⟩ := W'
    obtain ⟨b1, b2, b3⟩ := reachP_ok (show 1 ≤ S.abs.most from A.sh.lo) e
    have b3' : pgHas S'.pages pg = true := by rw [show S'.pages = S'.abs.pages from rfl, ea]; exact b3
    refine ⟨_, rfl, _, _, rfl, rfl, (by show (0 : Int) < 8; decide), _, rfl, g', S', pg, place % 8, x, by rw [m'.me], A', W2.tk, b3', by omega, by omega, hx, fun i f w xs H3 c o en el ef s3 A3 => ?_⟩
    have hw : Wr S' (S'.wr f (place % 8).toNat x w xs c o) := Wr.of el ef
    obtain ⟨Wa, Wb⟩ := hw.wst W2
    refine k P pg e _ g' H3 (s'.trans s3) A3 ⟨hw.sm.me.trans m'.me, hw.sm.fr.trans m'.fr⟩ ?_ ⟨top, rest, tb, Wa, Wb _ R2⟩
    rw [hw.abs, pages_wr W2.inj el ef, ← en, Int.toNat_of_nonneg (by omega), ea, show S'.pages = S'.abs.pages from rfl, ea]
abbrev N_Shadows_load : List Str := ["self", "place", "kernel", "frame", "word"]
theorem sc_Shadows_load : FnScope N_Shadows_load ["self", "place", "kernel"] (defScope s_Shadows_load) := ⟨rfl, rfl, rfl, by decide +kernel, rfl, by decide +kernel, by decide +kernel⟩
def sp_Shadows_load (K : PySem.W.Frag) : Sp := fun vs H Q E => ∃ (g : Addr → Nat) (S : Wy) (place : Int) (k' : Bool), vs = [.ref S.me, .int place, .bl k'] ∧ 0 ≤ place ∧ WyAt K g H S ∧ Wok S noBad ∧
  (∀ P v, loadP S.abs place k' = .ok (P, v) → Nx K g H S P (Q (.int v))) ∧ (∀ s l, loadP S.abs place k' = .error (s, l) → Fx K H s place l E)
theorem ok_Shadows_load (T : Txt K mg) : DOk P w K mg base (L2.CX P w) 17 ("Shadows", some "load") ["self", "place", "kernel"] (sp_Shadows_load K) := by
  refine dok T.d_Shadows_load sc_Shadows_load (fun _ _ _ _ _ _ us hl => match us, hl with | [_, _, _], _ => rfl) (fun vs H Q E h => ?_) (fun cdv A outer s H vs Q E hr h => ?_)
  · obtain ⟨g, S, place, k', rfl, hp0, A, ⟨top, rest, tb, W, R⟩, k, kE⟩ := h
    rfl
  · obtain ⟨g, S, place, k', rfl, hp0, A, ⟨top, rest, tb, W, R⟩, k, kE⟩ := h
    refine ⟨_, (pss_cons (ps_set (i := 3) sc_Shadows_load.nd rfl (Or.inl rfl) (pe_m (pv 0) T.c_Shadows T.m_Shadows_by_machine (ok_Shadows_by_machine T) (hr.mono (by decide)) pass0 (pa_cons (pv 1) (pa_cons pe_bl (pa_cons (pv 2) pa_nil)))))
      (pss_cons (ps_if (pt_cmpR op_notN (pv 3) pe_non (nomark _)) (pss_one (ps_ret (pe_m (pe_f (pv 0) T.c_Shadows T.n_Shadows_ground) T.c_Frames T.m_Frames_read (ok_Frames_read T) (hr.mono (by decide)) pass0 (pa_cons (pv 3) (pa_cons (pe_op op_mod (pv 1) pe_int) pa_nil))))) pss_nil)
      (pss_cons (ps_set (i := 4) sc_Shadows_load.nd rfl (Or.inl rfl) (pe_k T.y_Kept_load T.g_Kept (ok_Kept_load T) (hr.mono (by decide)) (passes_call (takes_of rfl rfl rfl rfl) (fun _ _ _ _ h => h)) (pa_cons (pv 0) (pa_cons (pv 1) (pa_cons (pv 2) pa_nil)))))
      (pss_cons (ps_expr (pe_m (pv 0) T.c_Shadows T.m_Shadows_make_shadow (ok_Shadows_make_shadow T) (hr.mono (by decide)) pass0 (pa_cons (pe_op op_fdivW (pv 1) pe_int) pa_nil)))
      (pss_one (ps_ret (pv 4))))))), ?_⟩
    unfold loadP at k kE
    refine ⟨_, rfl, A.o, _, rfl, _, rfl, g, S, top, rest, place, false, k', rfl, hp0, A, W.mine, fun x hx H1 s1 => ?_, fun e he H1 s1 => ?_⟩
    · obtain ⟨b1, pg, f, b2, b3, b4⟩ := machine W R hp0 hx
      have er : reachP S.abs place false k' = .ok (S.abs, pg) := by unfold reachP; rw [b2]
      rw [er] at k
      have A1 := A.same s1
      obtain ⟨i, rfl, ei⟩ := pLead_ex b3
      obtain ⟨⟨w, xs⟩, ef⟩ := W.tk i f ei
      refine ⟨_, rfl, rfl, _, rfl, iteT ⟨_, rfl, _, A1.fl (lk_w3 S), A1.fr.o, _, rfl, _, rfl, _, _, rfl, rfl, (by show (0 : Int) < 8; decide), g, S.f, x.2.2.1, place % 8, rfl, A1.fr, ?_, by omega, by omega, ?_⟩⟩
      · rw [b4]; exact pgH_f ef
      · have := k _ _ rfl S g H1 (.same s1) A1 .refl rfl ⟨top, rest, tb, W, R⟩
        have e1 : pgRd (fPg S.f.F) x.2.2.1 (place % 8) = pgRd S.abs.pages (i : Int) (place % 8) := by
          unfold pgRd
          rw [show pgWords S.abs.pages (i : Int) = some xs from pgW_w ei ef, b4, pgW_f.mpr ⟨f, w, rfl, ef⟩]
        rw [e1]
        exact this
    · have A1 := A.same s1
      refine ⟨_, rfl, rfl, _, rfl, iteF ⟨_, rfl, _, rfl, _, rfl, g, S, place, k', rfl, hp0, A1, ⟨top, rest, tb, W, R⟩, fun P pg e S' g' H' s' A' m' ea W' => ?_, fun s l e d H' sd nd f => ?_⟩⟩
      · rw [e] at k
        obtain ⟨t2, r2, tb2, W2, R2⟩ := W'
        obtain ⟨b1, ⟨r, b2⟩, b3⟩ := reachP_ok (show 1 ≤ S.abs.most from A.sh.lo) e
        rw [← ea] at b2 b3
        obtain ⟨f, hf⟩ : ∃ f, pLead S'.p.leads pg = some f := Option.isSome_iff_exists.mp (by rw [← pgH_w W2.tk]; exact b3)
        obtain ⟨n, hn⟩ : ∃ n : Nat, place / 8 = (n : Int) := ⟨(place / 8).toNat, by omega⟩
        have A'o : IsO K "Shadows" "make_shadow" H' (.ref S.me) := by rw [← m'.me]; exact A'.o
        refine ⟨_, rfl, A'o, _, rfl, _, _, rfl, rfl, ⟨by decide, by decide⟩, g', S', t2, r2, tb2, n, f, pg, r, ?_, A', W2, fun m hm hb => R2 m hm fun z => hb (by omega), by omega, by rw [← hn]; exact b2, hf, fun S5 H5 tb5 s5 A5 O5 W5 R5 => ?_⟩
        · rw [m'.me]
          exact congrArg (fun z : Int => [V.ref S.me, V.int z]) hn
        · refine ⟨_, rfl, k _ _ rfl S5 g' H5 ((Stp.same s1).trans (s'.trans s5)) A5 (m'.trans O5.sm) ?_ ⟨t2, r2, tb5, W5, R5⟩⟩
          exact (O5.wst W2 W5.tab).2.trans ea
      · rw [e] at kE
        exact kE s l rfl d H' (s1.trans sd) (s1.free nd) f
abbrev N_Shadows_save : List Str := ["self", "place", "word", "kernel", "frame"]
theorem sc_Shadows_save : FnScope N_Shadows_save ["self", "place", "word", "kernel"] (defScope s_Shadows_save) := ⟨rfl, rfl, rfl, by decide +kernel, rfl, by decide +kernel, by decide +kernel⟩
def sp_Shadows_save (K : PySem.W.Frag) : Sp := fun vs H Q E => ∃ (g : Addr → Nat) (S : Wy) (place x : Int) (k' : Bool), vs = [.ref S.me, .int place, .int x, .bl k'] ∧ 0 ≤ place ∧ IsWord x ∧ WyAt K g H S ∧ Wok S noBad ∧
  (∀ P, saveP S.abs place x k' = .ok P → Nx K g H S P (Q .non)) ∧ (∀ s l, saveP S.abs place x k' = .error (s, l) → Fx K H s place l E)
theorem ok_Shadows_save (T : Txt K mg) : DOk P w K mg base (L2.CX P w) 17 ("Shadows", some "save") ["self", "place", "word", "kernel"] (sp_Shadows_save K) := by
  refine dok T.d_Shadows_save sc_Shadows_save (fun _ _ _ _ _ _ us hl => match us, hl with | [_, _, _, _], _ => rfl) (fun vs H Q E h => ?_) (fun cdv A outer s H vs Q E hr h => ?_)
  · obtain ⟨g, S, place, y, k', rfl, hp0, hy, A, ⟨top, rest, tb, W, R⟩, k, kE⟩ := h
    rfl
  · obtain ⟨g, S, place, y, k', rfl, hp0, hy, A, ⟨top, rest, tb, W, R⟩, k, kE⟩ := h
    refine ⟨_, (pss_cons (ps_set (i := 4) sc_Shadows_save.nd rfl (Or.inl rfl) (pe_m (pv 0) T.c_Shadows T.m_Shadows_by_machine (ok_Shadows_by_machine T) (hr.mono (by decide)) pass0 (pa_cons (pv 1) (pa_cons pe_bl (pa_cons (pv 3) pa_nil)))))
      (pss_cons (ps_if (pt_cmpR op_notN (pv 4) pe_non (nomark _)) (pss_cons (ps_expr (pe_m (pe_f (pv 0) T.c_Shadows T.n_Shadows_ground) T.c_Frames T.m_Frames_write (ok_Frames_write T) (hr.mono (by decide)) pass0 (pa_cons (pv 4) (pa_cons (pe_op op_mod (pv 1) pe_int) (pa_cons (pv 2) pa_nil)))))
      (pss_one ps_retN)) pss_nil)
      (pss_cons (ps_expr (pe_k T.y_Kept_save T.g_Kept (ok_Kept_save T) (hr.mono (by decide)) (passes_call (takes_of rfl rfl rfl rfl) (fun _ _ _ _ h => h)) (pa_cons (pv 0) (pa_cons (pv 1) (pa_cons (pv 2) (pa_cons (pv 3) pa_nil))))))
      (pss_one (ps_expr (pe_m (pv 0) T.c_Shadows T.m_Shadows_make_shadow (ok_Shadows_make_shadow T) (hr.mono (by decide)) pass0 (pa_cons (pe_op op_fdivW (pv 1) pe_int) pa_nil))))))), ?_⟩
    unfold saveP at k kE
    refine ⟨_, rfl, A.o, _, rfl, _, rfl, g, S, top, rest, place, true, k', rfl, hp0, A, W.mine, fun x hx H1 s1 => ?_, fun e he H1 s1 => ?_⟩
    · obtain ⟨b1, pg, f, b2, b3, b4⟩ := machine W R hp0 hx
      have er : reachP S.abs place true k' = .ok (S.abs, pg) := by unfold reachP; rw [b2]
      rw [er] at k
      have A1 := A.same s1
      obtain ⟨i, rfl, ei⟩ := pLead_ex b3
      obtain ⟨⟨w, xs⟩, ef⟩ := W.tk i f ei
      have hw : Wr S (S.wr f (place % 8).toNat y w xs S.chK S.opK) := Wr.of ei ef
      obtain ⟨Wa, Wb⟩ := hw.wst W
      have e8 : place % 8 = ((place % 8).toNat : Int) := (Int.toNat_of_nonneg (by omega)).symm
      refine ⟨_, rfl, rfl, _, rfl, iteT ⟨_, rfl, _, A1.fl (lk_w3 S), A1.fr.o, _, rfl, _, rfl, _, _, rfl, rfl, (by show (0 : Int) < 8; decide), _, rfl, g, S.f, f, (place % 8).toNat, y, w, xs, ?_, A1.fr, ef, by omega, hy, fun H3 s3 B3 => ?_⟩⟩
      · rw [← e8, b4]
      · refine k _ rfl _ g H3 ((Stp.same s1).trans (s3.mono (by decide))) (A1.setF s3 B3 rfl) hw.sm ?_ ⟨top, rest, tb, Wa, Wb _ R⟩
        show (S.wr f (place % 8).toNat y w xs S.chK S.opK).abs = _
        rw [hw.abs, pages_wr W.inj ei ef, ← e8]
        rfl
    · have A1 := A.same s1
      refine ⟨_, rfl, rfl, _, rfl, iteF ⟨_, rfl, _, rfl, _, rfl, _, rfl, g, S, place, y, k', rfl, hp0, hy, A1, ⟨top, rest, tb, W, R⟩, fun P pg e S' g' H' s' A' m' ea W' => ?_, fun s l e d H' sd nd f => ?_⟩⟩
      · rw [e] at k
        obtain ⟨t2, r2, tb2, W2, R2⟩ := W'
        obtain ⟨b1, ⟨r, b2⟩, b3⟩ := reachP_ok (show 1 ≤ S.abs.most from A.sh.lo) e
        have b3' : pgHas S'.pages pg = true := by
          rw [show S'.pages = S'.abs.pages from rfl, ea]
          show pgHas (pgWr P.pages pg (place % 8) y) pg = true
          rw [has_wr b3]; exact b3
        have b2' : lSeek S'.s.line (place / 8) = some (pg, r) := by rw [show S'.s.line = S'.abs.line from rfl, ea]; exact b2
        obtain ⟨f, hf⟩ : ∃ f, pLead S'.p.leads pg = some f := Option.isSome_iff_exists.mp (by rw [← pgH_w W2.tk]; exact b3')
        obtain ⟨n, hn⟩ : ∃ n : Nat, place / 8 = (n : Int) := ⟨(place / 8).toNat, by omega⟩
        have A'o : IsO K "Shadows" "make_shadow" H' (.ref S.me) := by rw [← m'.me]; exact A'.o
        refine ⟨_, rfl, A'o, _, rfl, _, _, rfl, rfl, ⟨by decide, by decide⟩, g', S', t2, r2, tb2, n, f, pg, r, ?_, A', W2, fun m hm hb => R2 m hm fun z => hb (by omega), by omega, by rw [← hn]; exact b2', hf, fun S5 H5 tb5 s5 A5 O5 W5 R5 => ?_⟩
        · rw [m'.me]
          exact congrArg (fun z : Int => [V.ref S.me, V.int z]) hn
        · refine k _ rfl S5 g' H5 ((Stp.same s1).trans (s'.trans s5)) A5 (m'.trans O5.sm) ?_ ⟨t2, r2, tb5, W5, R5⟩
          exact (O5.wst W2 W5.tab).2.trans ea
      · rw [e] at kE
        exact kE s l rfl d H' (s1.trans sd) (s1.free nd) f
end
end Sp

set_option Elab.async false
set_option linter.all false
set_option maxRecDepth 100000
set_option maxHeartbeats 4000000
namespace Sp
open PySem PySem.Spec PyProof.Rows L2
section
variable {P : Program} {w : World} {K : PySem.W.Frag} {mg : Str → Option Value} {base : Heap}
def peekP (P : Pl) (spot : Int) : Except (Str × Int) Int := if pgHas P.pages (spot / 8) then .ok (pgRd P.pages (spot / 8) (spot % 8)) else .error ("beyond", 0)
def pokeP (P : Pl) (spot x : Int) : Except (Str × Int) Pl := if pgHas P.pages (spot / 8) then .ok { P with pages := pgWr P.pages (spot / 8) (spot % 8) x } else .error ("beyond", 0)
def dropP (P : Pl) (place : Int) : Pl := if 512 ≤ place then P else { P with line := lDrop P.line (place / 8) }
def giveP (P : Pl) (n : Int) : Pl × Bool := if pgHas P.pages n then ({ P with pages := P.pages.set n.toNat none, spare := P.spare + 1 }, true) else (P, false)
def wantP (P : Pl) (n : Int) : Pl × Bool := if (P.pages.length : Int) ≤ n then (P, false) else if pgHas P.pages n then (P, false) else
  if 1 ≤ P.spare then ({ P with pages := P.pages.set n.toNat (some zeros), said := P.said ++ [true], spare := P.spare - 1 }, true) else ({ P with said := P.said ++ [false] }, false)
abbrev N_Shadows_page_at : List Str := ["self", "spot", "page"]
theorem sc_Shadows_page_at : FnScope N_Shadows_page_at ["self", "spot"] (defScope s_Shadows_page_at) := ⟨rfl, rfl, rfl, by decide +kernel, rfl, by decide +kernel, by decide +kernel⟩
def sp_Shadows_page_at (K : PySem.W.Frag) : Sp := fun vs H Q E => ∃ (g : Addr → Nat) (S : Wy) (spot : Int), vs = [.ref S.me, .int spot] ∧ WyAt K g H S ∧ Tk S ∧ (pgHas S.pages (spot / 8) = true → Q (.int (spot / 8)) H) ∧ (pgHas S.pages (spot / 8) = false → Fx K H "beyond" spot 0 E)
theorem ok_Shadows_page_at (T : Txt K mg) : DOk P w K mg base (L2.CX P w) 5 ("Shadows", some "page_at") ["self", "spot"] (sp_Shadows_page_at K) := by
  refine dok T.d_Shadows_page_at sc_Shadows_page_at (fun _ _ _ _ _ _ us hl => match us, hl with | [_, _], _ => rfl) (fun vs H Q E h => ?_) (fun cdv A outer s H vs Q E hr h => ?_)
  · obtain ⟨g, S, spot, rfl, A, tk, k, kE⟩ := h
    rfl
  · obtain ⟨g, S, spot, rfl, A, tk, k, kE⟩ := h
    refine ⟨_, (pss_cons (ps_set (i := 2) sc_Shadows_page_at.nd rfl (Or.inl rfl) (pe_op op_fdivW (pv 1) pe_int))
      (pss_cons (ps_if (pt_not (pt_val (pe_m (pv 0) T.c_Shadows T.m_Shadows_has (ok_Shadows_has T) (hr.mono (by decide)) pass0 (pa_cons (pv 2) pa_nil)))) (pss_one (ps_raise rfl (takes_of rfl rfl rfl rfl) (pmk_fault T (hr.mono (by decide)) (pa_cons pe_str (pa_cons (pv 1) (pa_cons pe_int pa_nil)))))) pss_nil)
      (pss_one (ps_ret (pv 2))))), ?_⟩
    refine ⟨_, rfl, _, _, rfl, rfl, ⟨by decide, by decide⟩, ?_⟩
    refine ⟨_, rfl, A.o, _, rfl, g, S, spot / 8, rfl, A, tk, _, rfl, ?_⟩
    cases h : pgHas S.pages (spot / 8) with
    | false => exact iteT ⟨_, rfl, mkF fun d H' s nd f => kE h d H' s nd f⟩
    | true => exact iteF ⟨_, rfl, k h⟩
abbrev N_Shadows_peek : List Str := ["self", "spot"]
theorem sc_Shadows_peek : FnScope N_Shadows_peek ["self", "spot"] (defScope s_Shadows_peek) := ⟨rfl, rfl, rfl, by decide +kernel, rfl, by decide +kernel, by decide +kernel⟩
def sp_Shadows_peek (K : PySem.W.Frag) : Sp := fun vs H Q E => ∃ (g : Addr → Nat) (S : Wy) (spot : Int), vs = [.ref S.me, .int spot] ∧ WyAt K g H S ∧ Wok S noBad ∧ (∀ v, peekP S.abs spot = .ok v → Q (.int v) H) ∧ (∀ s l, peekP S.abs spot = .error (s, l) → Fx K H s spot l E)
theorem ok_Shadows_peek (T : Txt K mg) : DOk P w K mg base (L2.CX P w) 8 ("Shadows", some "peek") ["self", "spot"] (sp_Shadows_peek K) := by
  refine dok T.d_Shadows_peek sc_Shadows_peek (fun _ _ _ _ _ _ us hl => match us, hl with | [_, _], _ => rfl) (fun vs H Q E h => ?_) (fun cdv A outer s H vs Q E hr h => ?_)
  · obtain ⟨g, S, spot, rfl, A, ⟨top, rest, tb, W, R⟩, k, kE⟩ := h
    rfl
  · obtain ⟨g, S, spot, rfl, A, ⟨top, rest, tb, W, R⟩, k, kE⟩ := h
    refine ⟨_, (pss_one (ps_ret (pe_m (pv 0) T.c_Shadows T.m_Shadows_read (ok_Shadows_read T) (hr.mono (by decide)) pass0 (pa_cons (pe_m (pv 0) T.c_Shadows T.m_Shadows_page_at (ok_Shadows_page_at T) (hr.mono (by decide)) (passes_call (takes_of rfl rfl rfl rfl) (fun _ _ _ _ h => h)) (pa_cons (pv 1) pa_nil)) (pa_cons (pe_op op_mod (pv 1) pe_int) pa_nil))))), ?_⟩
    unfold peekP at k kE
    refine ⟨_, rfl, A.o, _, rfl, A.o, _, rfl, g, S, spot, rfl, A, W.tk, fun h => ?_, fun h => ?_⟩
    · rw [if_pos (show pgHas S.abs.pages (spot / 8) = true from h)] at k
      exact ⟨_, rfl, _, _, rfl, rfl, (by show (0 : Int) < 8; decide), g, S, spot / 8, spot % 8, rfl, A, W.tk, h, by omega, by omega, k _ rfl⟩
    · rw [if_neg (show ¬ pgHas S.abs.pages (spot / 8) = true from by show ¬ pgHas S.pages _ = true; rw [h]; decide)] at kE
      exact kE _ _ rfl
abbrev N_Shadows_poke : List Str := ["self", "spot", "word"]
theorem sc_Shadows_poke : FnScope N_Shadows_poke ["self", "spot", "word"] (defScope s_Shadows_poke) := ⟨rfl, rfl, rfl, by decide +kernel, rfl, by decide +kernel, by decide +kernel⟩
def sp_Shadows_poke (K : PySem.W.Frag) : Sp := fun vs H Q E => ∃ (g : Addr → Nat) (S : Wy) (spot x : Int), vs = [.ref S.me, .int spot, .int x] ∧ IsWord x ∧ WyAt K g H S ∧ Wok S noBad ∧ (∀ P, pokeP S.abs spot x = .ok P → Nx K g H S P (Q .non)) ∧ (∀ s l, pokeP S.abs spot x = .error (s, l) → Fx K H s spot l E)
theorem ok_Shadows_poke (T : Txt K mg) : DOk P w K mg base (L2.CX P w) 13 ("Shadows", some "poke") ["self", "spot", "word"] (sp_Shadows_poke K) := by
  refine dok T.d_Shadows_poke sc_Shadows_poke (fun _ _ _ _ _ _ us hl => match us, hl with | [_, _, _], _ => rfl) (fun vs H Q E h => ?_) (fun cdv A outer s H vs Q E hr h => ?_)
  · obtain ⟨g, S, spot, x, rfl, hx, A, ⟨top, rest, tb, W, R⟩, k, kE⟩ := h
    rfl
  · obtain ⟨g, S, spot, x, rfl, hx, A, ⟨top, rest, tb, W, R⟩, k, kE⟩ := h
    refine ⟨_, (pss_one (ps_expr (pe_m (pv 0) T.c_Shadows T.m_Shadows_write (ok_Shadows_write T) (hr.mono (by decide)) pass0 (pa_cons (pe_m (pv 0) T.c_Shadows T.m_Shadows_page_at (ok_Shadows_page_at T) (hr.mono (by decide)) (passes_call (takes_of rfl rfl rfl rfl) (fun _ _ _ _ h => h)) (pa_cons (pv 1) pa_nil)) (pa_cons (pe_op op_mod (pv 1) pe_int) (pa_cons (pv 2) pa_nil)))))), ?_⟩
    unfold pokeP at k kE
    refine ⟨_, rfl, A.o, _, rfl, A.o, _, rfl, g, S, spot, rfl, A, W.tk, fun h => ?_, fun h => ?_⟩
    · rw [if_pos (show pgHas S.abs.pages (spot / 8) = true from h)] at k
      refine ⟨_, rfl, _, _, rfl, rfl, (by show (0 : Int) < 8; decide), _, rfl, g, S, spot / 8, spot % 8, x, rfl, A, W.tk, h, by omega, by omega, hx, fun i f w xs H3 c o en el ef s3 A3 => ?_⟩
      have hw : Wr S (S.wr f (spot % 8).toNat x w xs c o) := Wr.of el ef
      obtain ⟨Wa, Wb⟩ := hw.wst W
      refine k _ rfl _ g H3 s3 A3 hw.sm ?_ ⟨top, rest, tb, Wa, Wb _ R⟩
      rw [hw.abs, pages_wr W.inj el ef, ← en, Int.toNat_of_nonneg (by omega)]
      rfl
    · rw [if_neg (show ¬ pgHas S.abs.pages (spot / 8) = true from by show ¬ pgHas S.pages _ = true; rw [h]; decide)] at kE
      exact kE _ _ rfl
abbrev N_Shadows_turn_root : List Str := ["self", "root"]
theorem sc_Shadows_turn_root : FnScope N_Shadows_turn_root ["self", "root"] (defScope s_Shadows_turn_root) := ⟨rfl, rfl, rfl, by decide +kernel, rfl, by decide +kernel, by decide +kernel⟩
def sp_Shadows_turn_root (K : PySem.W.Frag) : Sp := fun vs H Q _ => ∃ (g : Addr → Nat) (S : Wy) (z : Int), vs = [.ref S.me, .int z] ∧ WyAt K g H S ∧ Wok S noBad ∧ Nx K g H S { S.abs with base := z, line := [] } (Q .non)
theorem ok_Shadows_turn_root (T : Txt K mg) : DOk P w K mg base CX0 9 ("Shadows", some "turn_root") ["self", "root"] (sp_Shadows_turn_root K) := by
  refine dok T.d_Shadows_turn_root sc_Shadows_turn_root (fun _ _ _ _ _ _ us hl => match us, hl with | [_, _], _ => rfl) (fun vs H Q E h => ?_) (fun cdv A outer s H vs Q E hr h => ?_)
  · obtain ⟨g, S, z, rfl, A, ⟨top, rest, tb, W, R⟩, k⟩ := h
    rfl
  · obtain ⟨g, S, z, rfl, A, ⟨top, rest, tb, W, R⟩, k⟩ := h
    refine ⟨_, (PSs.nox (pss_cons (ps_f (pv 0) (pv 1) T.c_Shadows T.n_Shadows_base)
      (pss_cons (ps_expr (pe_m0 (pe_f (pv 0) T.c_Shadows T.n_Shadows_held) T.c_Shelf T.m_Shelf_empty (ok_Shelf_empty T) (hr.mono (by decide)) pass0))
      (pss_one (ps_expr (pe_m0 (pv 0) T.c_Shadows T.m_Shadows_left_all (ok_Shadows_left_all T) (hr.mono (by decide)) pass0)))))), ?_⟩
    obtain ⟨H1, st1, s1, A1⟩ := A.setB z
    refine ⟨_, rfl, _, rfl, H1, st1, ?_⟩
    refine ⟨_, rfl, _, A1.fl (lk_w1 _), A1.sh.o, g, S.s, rfl, A1.sh, fun l g2 H2 s2 B2 => ?_⟩
    have A2 := A1.setS s2 B2 rfl
    have A2o : IsO K "Shadows" "left_all" H2 (.ref S.me) := A2.o
    have W1 : Wst { S with base := z } top rest tb := ⟨W.mine, W.tab, W.inj, W.tk, W.apart, W.c, W.l, W.ln⟩
    have W2 := W1.setS { S.s with ln := l, rows := [] } ⟨(fun r hr => by cases hr), List.nodup_nil⟩
    refine ⟨_, rfl, A2o, g2, { S with base := z, s := { S.s with ln := l, rows := [] } }, top, rest, tb, rfl, A2, W2.mine, W2.tab, fun S3 H3 s3 A3 O3 T3 => ?_⟩
    obtain ⟨Wa, Wb⟩ := O3.wst W2 T3
    refine k S3 g2 H3 (s1.trans ((s2.mono (by decide)).trans s3)) A3 ⟨O3.sm.me, O3.sm.fr⟩ (Wb.trans rfl) ⟨top, rest, _, Wa, fun m _ _ => .inl rfl⟩
abbrev N_Shadows_drop : List Str := ["self", "place"]
theorem sc_Shadows_drop : FnScope N_Shadows_drop ["self", "place"] (defScope s_Shadows_drop) := ⟨rfl, rfl, rfl, by decide +kernel, rfl, by decide +kernel, by decide +kernel⟩
def sp_Shadows_drop (K : PySem.W.Frag) : Sp := fun vs H Q _ => ∃ (g : Addr → Nat) (S : Wy) (place : Int), vs = [.ref S.me, .int place] ∧ 0 ≤ place ∧ WyAt K g H S ∧ Wok S noBad ∧ Nx K g H S (dropP S.abs place) (Q .non)
theorem ok_Shadows_drop (T : Txt K mg) : DOk P w K mg base CX0 9 ("Shadows", some "drop") ["self", "place"] (sp_Shadows_drop K) := by
  refine dok T.d_Shadows_drop sc_Shadows_drop (fun _ _ _ _ _ _ us hl => match us, hl with | [_, _], _ => rfl) (fun vs H Q E h => ?_) (fun cdv A outer s H vs Q E hr h => ?_)
  · obtain ⟨g, S, place, rfl, hp0, A, ⟨top, rest, tb, W, R⟩, k⟩ := h
    rfl
  · obtain ⟨g, S, place, rfl, hp0, A, ⟨top, rest, tb, W, R⟩, k⟩ := h
    refine ⟨_, (PSs.nox (pss_one (ps_if (PW.pt (pw_and (pt_cmpR op_lt (pv 1) (pe_ic T.i_PLACES) (nomark _)) (pw_and1 (pt_val (pe_m (pe_f (pv 0) T.c_Shadows T.n_Shadows_held) T.c_Shelf T.m_Shelf_drop (ok_Shelf_drop T) (hr.mono (by decide)) pass0 (pa_cons (pe_op op_fdivW (pv 1) pe_int) pa_nil)))))) (pss_one (ps_expr (pe_m (pv 0) T.c_Shadows T.m_Shadows_left (ok_Shadows_left T) (hr.mono (by decide)) pass0 (pa_cons (pe_op op_fdivW (pv 1) pe_int) pa_nil)))) pss_nil))), ?_⟩
    unfold dropP at k
    refine ⟨_, rfl, _, _, rfl, rfl, _, rfl, ?_⟩
    by_cases h1 : 512 ≤ place
    · rw [if_pos h1] at k
      exact ifF (decide_eq_false (by omega)) (iteF (k S g H .refl A .refl rfl ⟨top, rest, tb, W, R⟩))
    rw [if_neg h1] at k
    refine ifT (decide_eq_true (by omega)) ⟨_, rfl, _, A.fl (lk_w1 S), A.sh.o, _, rfl, _, _, rfl, rfl, ⟨by decide, by decide⟩, g, S.s, place / 8, rfl, A.sh, fun Sh' g2 H2 s2 B2 e1 e2 e3 e4 => ⟨_, rfl, ?_⟩⟩
    have A2 := A.setS s2 B2 e1
    have A2o : IsO K "Shadows" "left" H2 (.ref S.me) := A2.o
    have W2 := W.setS Sh' (by rw [e4]; exact lDrop_ok W.ln _)
    have eabs : Wy.abs { S with s := Sh' } = { S.abs with line := lDrop S.abs.line (place / 8) } := by
      have h2 : Wy.abs { S with s := Sh' } = { S.abs with line := Sh'.line, most := Sh'.most } := rfl
      rw [h2, e3, e4]
      rfl
    obtain ⟨n, hn⟩ : ∃ n : Nat, place / 8 = (n : Int) := ⟨(place / 8).toNat, by omega⟩
    have R2 : RowsOk { S with s := Sh' } tb (fun m => m = n) := R.line Sh' fun m hm => ⟨fun z => z, by rw [e4]; exact lDrop_seek (by omega) _⟩
    by_cases h2 : lSeat S.s.line (place / 8) < S.s.line.length
    · rw [decide_eq_true h2]
      refine iteT ⟨_, rfl, A2o, _, rfl, _, _, rfl, rfl, ⟨by decide, by decide⟩, g2, { S with s := Sh' }, top, rest, tb, n, congrArg (fun z : Int => [V.ref S.me, V.int z]) hn, A2, W2.mine, W2.tab, by omega, fun S3 H3 s3 A3 L3 => ?_⟩
      obtain ⟨Wd, We, Wf⟩ := L3.off W2 (bad' := noBad) R2 fun j hj => .inl hj
      exact k S3 g2 H3 ((s2.mono (by decide)).trans (s3.mono (by decide))) A3 ⟨L3.sm.me, L3.sm.fr⟩ (We.trans eabs) ⟨top, rest, tb, Wd, Wf⟩
    · rw [decide_eq_false h2]
      refine iteF (k { S with s := Sh' } g2 H2 (s2.mono (by decide)) A2 ⟨rfl, rfl⟩ eabs ⟨top, rest, tb, W2, fun m hm _ => ?_⟩)
      by_cases hmn : m = n
      · subst hmn
        rcases R m hm (fun z => z) with h | ⟨pg, r, f, wr, q1, _⟩
        · exact .inl h
        · rw [← hn, (lSeek_none _ _).mpr h2] at q1
          cases q1
      · exact R2 m hm hmn
theorem set_get {α : Type} {l : List α} {i j : Nat} {x y : α} (h : (l.set i x)[j]? = some y) : (j = i ∧ y = x ∧ i < l.length) ∨ (j ≠ i ∧ l[j]? = some y) := by
  rw [List.getElem?_set] at h
  by_cases e : i = j
  · subst e
    rw [if_pos rfl] at h
    by_cases hl : i < l.length
    · rw [if_pos hl] at h
      injection h with h
      exact .inl ⟨rfl, h.symm, hl⟩
    · rw [if_neg hl] at h; cases h
  · rw [if_neg e] at h
    exact .inr ⟨fun z => e z.symm, h⟩
theorem pLead_set {leads : List (Option Nat)} {i : Nat} {l : Option Nat} {n : Int} (h : n ≠ (i : Int)) : pLead (leads.set i l) n = pLead leads n := by
  unfold pLead
  by_cases h0 : 0 ≤ n
  · rw [if_pos h0, if_pos h0, List.getElem?_set_ne (by omega)]
  · rw [if_neg h0, if_neg h0]
/-- a page is given up -/
def Wy.giv (S : Wy) (i f : Nat) (c : List (Key × V)) : Wy := { S with f := { S.f with F := S.f.F.set f none, pl := S.f.pl - 1 }, p := { S.p with leads := S.p.leads.set i none }, chK := c }
theorem Wst.giv {S : Wy} {top : Nat} {rest : List Nat} {tb : Nat → Option Nat} (W : Wst S top rest tb) {i f : Nat} {p : Addr × List Int} (e : S.p.leads[i]? = some (some f)) (ef : S.f.F[f]? = some (some p)) (c : List (Key × V)) :
    Wst (S.giv i f c) top rest tb ∧
    (∀ bad, RowsOk S tb bad → RowsOk (S.giv i f c) tb (fun m => bad m ∨ ∃ r, lSeek S.s.line (m : Int) = some ((i : Int), r))) ∧
    (S.giv i f c).abs = { S.abs with pages := S.abs.pages.set i none, spare := S.abs.spare + 1 } := by
  have fm : f ∉ top :: rest := W.apart i f e
  have fw : ∀ t ∈ top :: rest, frW (S.f.F.set f none) t = frW S.f.F t := fun t ht => frW_set_ne fun z => fm (z ▸ ht)
  have lk : ∀ (j f' : Nat), (S.p.leads.set i none)[j]? = some (some f') → S.p.leads[j]? = some (some f') ∧ f' ≠ f := fun j f' h => by
    rcases set_get h with ⟨_, q, _⟩ | ⟨hj, q⟩
    · cases q
    · exact ⟨q, fun z => hj (W.inj j i f (z ▸ q) e)⟩
  refine ⟨⟨W.mine, W.tab.congr fw, fun a b f' h1 h2 => W.inj a b f' (lk a f' h1).1 (lk b f' h2).1, fun j f' h => ?_, fun j f' h => W.apart j f' (lk j f' h).1, ?_, ?_, W.ln⟩, fun bad R m hm hb => ?_, ?_⟩
  · obtain ⟨q1, q2⟩ := lk j f' h
    obtain ⟨p', hp⟩ := W.tk j f' q1
    exact ⟨p', by show (S.f.F.set f none)[f']? = _; rw [List.getElem?_set_ne fun z => q2 z.symm]; exact hp⟩
  · show (cnt (S.f.F.set f none) : Int) ≤ S.f.pl - 1
    have := cnt_set_none _ _ _ ef
    have := W.c
    omega
  · show S.f.pl - 1 ≤ (S.f.F.set f none).length
    rw [List.length_set]
    have := W.l
    omega
  · have hr := R m hm fun z => hb (.inl z)
    have e1 : rowF (S.f.F.set f none) tb m = rowF S.f.F tb m := rowF_congr W.tab fw hm
    unfold RowOk at hr ⊢
    show rowF (S.f.F.set f none) tb m = 0 ∨ _
    rw [e1]
    rcases hr with h | ⟨pg, r, f', wr, q1, q2, q3, q4⟩
    · exact .inl h
    · refine .inr ⟨pg, r, f', wr, q1, ?_, e1.trans q3, q4⟩
      have : pg ≠ (i : Int) := fun z => hb (.inr ⟨r, z ▸ q1⟩)
      show pLead (S.p.leads.set i none) pg = _
      rw [pLead_set this]; exact q2
  · have pe : wPg (S.f.F.set f none) (S.p.leads.set i none) = (wPg S.f.F S.p.leads).set i none := by
      apply List.ext_getElem?
      intro m
      have hi : i < (wPg S.f.F S.p.leads).length := by rw [wPg_len]; exact (List.getElem?_eq_some_iff.mp e).1
      rw [wPg_get, List.getElem?_set, List.getElem?_set]
      by_cases h : i = m
      · subst h
        rw [if_pos rfl, if_pos (by rw [wPg_len] at hi; exact hi), if_pos rfl, if_pos hi]; rfl
      · rw [if_neg h, if_neg h, wPg_get]
        cases e2 : S.p.leads[m]? with
        | none => rfl
        | some l =>
          cases l with
          | none => rfl
          | some f2 =>
            show some (frW _ f2) = some (frW _ f2)
            rw [frW_set_ne fun z : f2 = f => h (W.inj i m f e (z ▸ e2))]
    show Pl.mk (wPg (S.f.F.set f none) (S.p.leads.set i none)) _ _ _ _ (((S.f.F.set f none).length : Int) - (S.f.pl - 1)) = Pl.mk ((wPg S.f.F S.p.leads).set i none) _ _ _ _ ((S.f.F.length : Int) - S.f.pl + 1)
    rw [pe, List.length_set]
    congr 1
    omega
abbrev N_Shadows_yield_up : List Str := ["self", "page"]
theorem sc_Shadows_yield_up : FnScope N_Shadows_yield_up ["self", "page"] (defScope s_Shadows_yield_up) := ⟨rfl, rfl, rfl, by decide +kernel, rfl, by decide +kernel, by decide +kernel⟩
def sp_Shadows_yield_up (K : PySem.W.Frag) : Sp := fun vs H Q _ => ∃ (g : Addr → Nat) (S : Wy) (i f : Nat) (p : Addr × List Int), vs = [.ref S.me, .int (i : Int)] ∧ WyAt K g H S ∧ Wok S noBad ∧ S.p.leads[i]? = some (some f) ∧ S.f.F[f]? = some (some p) ∧
  Nx K g H S { S.abs with pages := S.abs.pages.set i none, spare := S.abs.spare + 1 } (Q .non)
theorem ok_Shadows_yield_up (T : Txt K mg) : DOk P w K mg base CX0 9 ("Shadows", some "yield_up") ["self", "page"] (sp_Shadows_yield_up K) := by
  refine dok T.d_Shadows_yield_up sc_Shadows_yield_up (fun _ _ _ _ _ _ us hl => match us, hl with | [_, _], _ => rfl) (fun vs H Q E h => ?_) (fun cdv A outer s H vs Q E hr h => ?_)
  · obtain ⟨g, S, i, f, p, rfl, A, ⟨top, rest, tb, W, R⟩, e, ef, k⟩ := h
    rfl
  · obtain ⟨g, S, i, f, p, rfl, A, ⟨top, rest, tb, W, R⟩, e, ef, k⟩ := h
    refine ⟨_, (PSs.nox (pss_cons (ps_expr (pe_m (pe_f (pv 0) T.c_Shadows T.n_Shadows_part) T.c_Parts T.m_Parts_give (ok_Parts_give T) (hr.mono (by decide)) pass0 (pa_cons (pv 1) pa_nil)))
      (pss_cons (ps_expr (pe_m (pe_f (pv 0) T.c_Shadows T.n_Shadows_ground) T.c_Frames T.m_Frames_back (ok_Frames_back T) (hr.mono (by decide)) pass0 (pa_cons pe_int pa_nil)))
      (pss_cons (ps_dput (hu_of hr) (pe_f (pv 0) T.c_Shadows T.n_Shadows_changed) (pv 1) pe_bl rfl)
      (pss_one (ps_expr (pe_m (pv 0) T.c_Shadows T.m_Shadows_moved (ok_Shadows_moved T) (hr.mono (by decide)) pass0 (pa_cons (pv 1) pa_nil)))))))), ?_⟩
    have hi : i < 24 := Nat.lt_of_lt_of_le (List.getElem?_eq_some_iff.mp e).1 A.pt.sz
    refine ⟨_, rfl, _, A.fl (lk_w5 S), A.pt.o, _, rfl, g, S.f, S.p, i, f, p, rfl, A.pt, A.fr, e, ef, fun H1 s1 B1 C1 => ?_⟩
    have A1 := A.chg s1 B1 (A.sh.stp s1 (by simp)) C1 rfl rfl rfl
    refine ⟨_, rfl, _, A1.fl (lk_w3 _), A1.fr.o, g, _, 1, rfl, A1.fr, fun H2 s2 B2 => ?_⟩
    have A2 := A1.setF s2 B2 rfl
    have kc := A2.kc.put hi (.bl true)
    obtain ⟨s3, A3⟩ := A2.setCh kc
    refine ⟨_, rfl, _, A2.fl (lk_w6 _), _, rfl, S.ch, _, rfl, DPut.k (k := Sum.inl (i : Int)) A2.ch_ (small1000 (by have := A2.kc.len; omega)), ?_⟩
    obtain ⟨Wa, Wb, Wc⟩ := W.giv e ef (putK S.chK (Sum.inl (i : Int)) (.bl true))
    refine ⟨_, rfl, A3.o, _, rfl, g, S.giv i f (putK S.chK (Sum.inl (i : Int)) (.bl true)), top, rest, tb, i, rfl, A3, Wa, (Wb _ R).mono fun n h => h.elim (fun z => z.elim) id, fun S4 H4 s4 A4 m4 e4 W4 R4 => ?_⟩
    exact k S4 g H4 ((s1.mono (by decide)).trans ((s2.mono (by decide)).trans (s3.trans s4))) A4 ⟨m4.me, m4.fr⟩ (e4.trans Wc) ⟨top, rest, tb, W4, R4⟩
abbrev N_Shadows_give : List Str := ["self", "page"]
theorem sc_Shadows_give : FnScope N_Shadows_give ["self", "page"] (defScope s_Shadows_give) := ⟨rfl, rfl, rfl, by decide +kernel, rfl, by decide +kernel, by decide +kernel⟩
def sp_Shadows_give (K : PySem.W.Frag) : Sp := fun vs H Q _ => ∃ (g : Addr → Nat) (S : Wy) (n : Int), vs = [.ref S.me, .int n] ∧ WyAt K g H S ∧ Wok S noBad ∧ Nx K g H S (giveP S.abs n).1 (Q (.bl (giveP S.abs n).2))
theorem ok_Shadows_give (T : Txt K mg) : DOk P w K mg base CX0 10 ("Shadows", some "give") ["self", "page"] (sp_Shadows_give K) := by
  refine dok T.d_Shadows_give sc_Shadows_give (fun _ _ _ _ _ _ us hl => match us, hl with | [_, _], _ => rfl) (fun vs H Q E h => ?_) (fun cdv A outer s H vs Q E hr h => ?_)
  · obtain ⟨g, S, n, rfl, A, ⟨top, rest, tb, W, R⟩, k⟩ := h
    rfl
  · obtain ⟨g, S, n, rfl, A, ⟨top, rest, tb, W, R⟩, k⟩ := h
    refine ⟨_, (PSs.nox (pss_cons (ps_if (pt_not (pt_val (pe_m (pv 0) T.c_Shadows T.m_Shadows_has (ok_Shadows_has T) (hr.mono (by decide)) pass0 (pa_cons (pv 1) pa_nil)))) (pss_one (ps_ret pe_bl)) pss_nil)
      (pss_cons (ps_expr (pe_m (pv 0) T.c_Shadows T.m_Shadows_yield_up (ok_Shadows_yield_up T) (hr.mono (by decide)) pass0 (pa_cons (pv 1) pa_nil)))
      (pss_one (ps_ret pe_bl))))), ?_⟩
    unfold giveP at k
    refine ⟨_, rfl, A.o, _, rfl, g, S, n, rfl, A, W.tk, _, rfl, ?_⟩
    cases h : pgHas S.pages n with
    | false =>
      rw [if_neg (show ¬ pgHas S.abs.pages n = true from by show ¬ pgHas S.pages n = true; rw [h]; decide)] at k
      exact iteT (k S g H .refl A .refl rfl ⟨top, rest, tb, W, R⟩)
    | true =>
      rw [if_pos (show pgHas S.abs.pages n = true from h)] at k
      obtain ⟨i, f, w, xs, rfl, e, ef, ew⟩ := w_at W.tk h
      refine iteF ⟨_, rfl, A.o, _, rfl, g, S, i, f, _, rfl, A, ⟨top, rest, tb, W, R⟩, e, ef, fun S4 g4 H4 s4 A4 m4 e4 W4 => ?_⟩
      exact k S4 g4 H4 s4 A4 m4 (by rw [Int.toNat_natCast]; exact e4) W4
/-- a page comes -/
def Wy.brg (S : Wy) (i f : Nat) (w : Addr) (c : List (Key × V)) : Wy := { S with f := { S.f with F := S.f.F.set f (some (w, zeros)) }, p := { S.p with leads := S.p.leads.set i (some f) }, chK := c }
theorem Wst.brg {S : Wy} {top : Nat} {rest : List Nat} {tb : Nat → Option Nat} (W : Wst S top rest tb) {i f : Nat} {w : Addr} (e : S.p.leads[i]? = some none) (ef : S.f.F[f]? = some none) (hc : (cnt S.f.F : Int) + 1 ≤ S.f.pl) (c : List (Key × V)) :
    Wst (S.brg i f w c) top rest tb ∧ (∀ bad, RowsOk S tb bad → RowsOk (S.brg i f w c) tb bad) ∧ (S.brg i f w c).abs = { S.abs with pages := S.abs.pages.set i (some zeros) } := by
  have hlt : f < S.f.F.length := (List.getElem?_eq_some_iff.mp ef).1
  have nofr : frW S.f.F f = none := by
    unfold frW fPg
    rw [List.getElem?_map, ef]; rfl
  have fm : f ∉ top :: rest := fun z => by
    obtain ⟨xs, h⟩ := W.tab.tkn f z
    rw [nofr] at h; cases h
  have fl : ∀ j : Nat, S.p.leads[j]? ≠ some (some f) := fun j z => by
    obtain ⟨p, hp⟩ := W.tk j f z
    rw [ef] at hp; cases hp
  have fw : ∀ t, t ≠ f → frW (S.f.F.set f (some (w, zeros))) t = frW S.f.F t := fun t ht => frW_set_ne ht
  have fw2 : ∀ t ∈ top :: rest, frW (S.f.F.set f (some (w, zeros))) t = frW S.f.F t := fun t ht => fw t fun z => fm (z ▸ ht)
  have lk : ∀ (j f' : Nat), (S.p.leads.set i (some f))[j]? = some (some f') → (j = i ∧ f' = f) ∨ (j ≠ i ∧ S.p.leads[j]? = some (some f') ∧ f' ≠ f) := fun j f' h => by
    rcases set_get h with ⟨a, q, _⟩ | ⟨hj, q⟩
    · injection q with q
      exact .inl ⟨a, q⟩
    · exact .inr ⟨hj, q, fun z => fl j (z ▸ q)⟩
  refine ⟨⟨W.mine, W.tab.congr fw2, fun a b f' h1 h2 => ?_, fun j f' h => ?_, fun j f' h => ?_, ?_, ?_, W.ln⟩, fun bad R m hm hb => ?_, ?_⟩
  · rcases lk a f' h1 with ⟨a1, a2⟩ | ⟨a1, a2, a3⟩
    · rcases lk b f' h2 with ⟨b1, b2⟩ | ⟨b1, b2, b3⟩
      · rw [a1, b1]
      · exact absurd a2 b3
    · rcases lk b f' h2 with ⟨b1, b2⟩ | ⟨b1, b2, b3⟩
      · exact absurd b2 a3
      · exact W.inj a b f' a2 b2
  · show ∃ p, (S.f.F.set f (some (w, zeros)))[f']? = some (some p)
    rcases lk j f' h with ⟨a1, a2⟩ | ⟨a1, a2, a3⟩
    · rw [a2]
      exact ⟨_, List.getElem?_set_self hlt⟩
    · rw [List.getElem?_set_ne fun z => a3 z.symm]
      exact W.tk j f' a2
  · rcases lk j f' h with ⟨a1, a2⟩ | ⟨a1, a2, a3⟩
    · rw [a2]; exact fm
    · exact W.apart j f' a2
  · show (cnt (S.f.F.set f (some (w, zeros))) : Int) ≤ S.f.pl
    rw [cnt_set_some _ _ _ ef]
    omega
  · show S.f.pl ≤ (S.f.F.set f (some (w, zeros))).length
    rw [List.length_set]
    exact W.l
  · have hr := R m hm hb
    have e1 : rowF (S.f.F.set f (some (w, zeros))) tb m = rowF S.f.F tb m := rowF_congr W.tab fw2 hm
    rcases hr with h | ⟨pg, r, f', wr, q1, q2, q3, q4⟩
    · exact .inl (e1.trans h)
    · refine .inr ⟨pg, r, f', wr, q1, ?_, e1.trans q3, q4⟩
      have : pg ≠ (i : Int) := fun z => by
        rw [z, pLead_nat e] at q2; cases q2
      show pLead (S.p.leads.set i (some f)) pg = _
      rw [pLead_set this]; exact q2
  · have pe : wPg (S.f.F.set f (some (w, zeros))) (S.p.leads.set i (some f)) = (wPg S.f.F S.p.leads).set i (some zeros) := by
      apply List.ext_getElem?
      intro m
      have hi : i < S.p.leads.length := (List.getElem?_eq_some_iff.mp e).1
      rw [wPg_get, List.getElem?_set, List.getElem?_set]
      by_cases h : i = m
      · subst h
        rw [if_pos rfl, if_pos hi, if_pos rfl, if_pos (by rw [wPg_len]; exact hi)]
        show some (frW (S.f.F.set f (some (w, zeros))) f) = _
        rw [frW_set_eq hlt]
      · rw [if_neg h, if_neg h, wPg_get]
        cases e2 : S.p.leads[m]? with
        | none => rfl
        | some l =>
          cases l with
          | none => rfl
          | some f2 =>
            show some (frW _ f2) = some (frW _ f2)
            rw [fw f2 fun z : f2 = f => fl m (z ▸ e2)]
    show Pl.mk (wPg (S.f.F.set f (some (w, zeros))) (S.p.leads.set i (some f))) _ _ _ _ (((S.f.F.set f (some (w, zeros))).length : Int) - S.f.pl) = Pl.mk ((wPg S.f.F S.p.leads).set i (some zeros)) _ _ _ _ ((S.f.F.length : Int) - S.f.pl)
    rw [pe, List.length_set]
    rfl
abbrev N_Shadows_bring : List Str := ["self", "page"]
theorem sc_Shadows_bring : FnScope N_Shadows_bring ["self", "page"] (defScope s_Shadows_bring) := ⟨rfl, rfl, rfl, by decide +kernel, rfl, by decide +kernel, by decide +kernel⟩
def sp_Shadows_bring (K : PySem.W.Frag) : Sp := fun vs H Q _ => ∃ (g : Addr → Nat) (S : Wy) (i : Nat), vs = [.ref S.me, .int (i : Int)] ∧ WyAt K g H S ∧ Wok S noBad ∧ S.p.leads[i]? = some none ∧ (cnt S.f.F : Int) + 1 ≤ S.f.pl ∧
  Nx K g H S { S.abs with pages := S.abs.pages.set i (some zeros) } (Q .non)
theorem ok_Shadows_bring (T : Txt K mg) : DOk P w K mg base CX0 9 ("Shadows", some "bring") ["self", "page"] (sp_Shadows_bring K) := by
  refine dok T.d_Shadows_bring sc_Shadows_bring (fun _ _ _ _ _ _ us hl => match us, hl with | [_, _], _ => rfl) (fun vs H Q E h => ?_) (fun cdv A outer s H vs Q E hr h => ?_)
  · obtain ⟨g, S, i, rfl, A, ⟨top, rest, tb, W, R⟩, e, hc, k⟩ := h
    rfl
  · obtain ⟨g, S, i, rfl, A, ⟨top, rest, tb, W, R⟩, e, hc, k⟩ := h
    refine ⟨_, (PSs.nox (pss_cons (ps_expr (pe_m (pe_f (pv 0) T.c_Shadows T.n_Shadows_part) T.c_Parts T.m_Parts_fresh (ok_Parts_fresh T) (hr.mono (by decide)) pass0 (pa_cons (pv 1) pa_nil)))
      (pss_cons (ps_dput (hu_of hr) (pe_f (pv 0) T.c_Shadows T.n_Shadows_changed) (pv 1) pe_bl rfl)
      (pss_one (ps_expr (pe_m (pv 0) T.c_Shadows T.m_Shadows_moved (ok_Shadows_moved T) (hr.mono (by decide)) pass0 (pa_cons (pv 1) pa_nil))))))), ?_⟩
    have hi : i < 24 := Nat.lt_of_lt_of_le (List.getElem?_eq_some_iff.mp e).1 A.pt.sz
    have hl := W.l
    refine ⟨_, rfl, _, A.fl (lk_w5 S), A.pt.o, _, rfl, g, S.f, S.p, i, rfl, A.pt, A.fr, e, by omega, fun f w g1 H1 ef s1 B1 C1 => ?_⟩
    have A1 := A.chg s1 B1 (A.sh.stp s1 (by simp)) C1 rfl rfl rfl
    have kc := A1.kc.put hi (.bl true)
    obtain ⟨s3, A3⟩ := A1.setCh kc
    refine ⟨_, rfl, _, A1.fl (lk_w6 _), _, rfl, S.ch, _, rfl, DPut.k (k := Sum.inl (i : Int)) A1.ch_ (small1000 (by have := A1.kc.len; omega)), ?_⟩
    obtain ⟨Wa, Wb, Wc⟩ := W.brg (w := w) e ef hc (putK S.chK (Sum.inl (i : Int)) (.bl true))
    refine ⟨_, rfl, A3.o, _, rfl, g1, S.brg i f w (putK S.chK (Sum.inl (i : Int)) (.bl true)), top, rest, tb, i, rfl, A3, Wa, (Wb _ R).mono fun n h => h.elim, fun S4 H4 s4 A4 m4 e4 W4 R4 => ?_⟩
    exact k S4 g1 H4 ((s1.mono (by decide)).trans (s3.trans s4)) A4 ⟨m4.me, m4.fr⟩ (e4.trans Wc) ⟨top, rest, tb, W4, R4⟩
abbrev N_Shadows_granted : List Str := ["self", "truth"]
theorem sc_Shadows_granted : FnScope N_Shadows_granted ["self"] (defScope s_Shadows_granted) := ⟨rfl, rfl, rfl, by decide +kernel, rfl, by decide +kernel, by decide +kernel⟩
def sp_Shadows_granted (K : PySem.W.Frag) : Sp := fun vs H Q _ => ∃ (g : Addr → Nat) (S : Wy), vs = [.ref S.me] ∧ WyAt K g H S ∧ S.said.length < 1000 ∧
  (S.f.pl + 1 ≤ S.f.F.length → ∀ H', Stp ALL g H g H' → WyAt K g H' { S with f := { S.f with pl := S.f.pl + 1 }, said := S.said ++ [true] } → Q (.bl true) H') ∧
  (¬ S.f.pl + 1 ≤ S.f.F.length → ∀ H', Stp ALL g H g H' → WyAt K g H' { S with said := S.said ++ [false] } → Q (.bl false) H')
theorem ok_Shadows_granted (T : Txt K mg) : DOk P w K mg base CX0 2 ("Shadows", some "granted") ["self"] (sp_Shadows_granted K) := by
  refine dok T.d_Shadows_granted sc_Shadows_granted (fun _ _ _ _ _ _ us hl => match us, hl with | [_], _ => rfl) (fun vs H Q E h => ?_) (fun cdv A outer s H vs Q E hr h => ?_)
  · obtain ⟨g, S, rfl, A, hs, k1, k2⟩ := h
    rfl
  · obtain ⟨g, S, rfl, A, hs, k1, k2⟩ := h
    refine ⟨_, (PSs.nox (pss_cons (ps_set (i := 1) sc_Shadows_granted.nd rfl (Or.inl rfl) (pe_m (pe_f (pv 0) T.c_Shadows T.n_Shadows_ground) T.c_Frames T.m_Frames_ask (ok_Frames_ask T) (hr.mono (by decide)) pass0 (pa_cons pe_int pa_nil)))
      (pss_cons (ps_expr (pe_bm PySem.F.plainAttrs_list PySem.F.slot_list_append PySem.F.type_list_append mt_append (pe_f (pv 0) T.c_Shadows T.n_Shadows_answers) (pa_cons (pv 1) pa_nil)))
      (pss_one (ps_ret (pv 1)))))), ?_⟩
    refine ⟨_, rfl, _, A.fl (lk_w3 S), A.fr.o, g, S.f, 1, rfl, A.fr, fun h H1 s1 B1 => ?_, fun h => ?_⟩
    · have A1 := A.setF s1 B1 rfl
      obtain ⟨s2, A2⟩ := A1.setAn (S.said ++ [true])
      refine ⟨_, rfl, _, A1.fl (lk_w7 _), .inl ⟨rfl, _, SqL.of A1.an_⟩, _, rfl, _, _, _, rfl, rfl, A1.an_, by rw [List.length_map]; exact small1000 (Nat.le_of_lt hs), ?_⟩
      have e : S.said.map V.bl ++ [.bl true] = (S.said ++ [true]).map V.bl := by rw [List.map_append]; rfl
      refine ⟨_, rfl, ?_⟩
      have := k1 h _ ((s1.mono (by decide)).trans s2) A2
      rw [← e] at this
      exact this
    · obtain ⟨s2, A2⟩ := A.setAn (S.said ++ [false])
      refine ⟨_, rfl, _, A.fl (lk_w7 _), .inl ⟨rfl, _, SqL.of A.an_⟩, _, rfl, _, _, _, rfl, rfl, A.an_, by rw [List.length_map]; exact small1000 (Nat.le_of_lt hs), ?_⟩
      have e : S.said.map V.bl ++ [.bl false] = (S.said ++ [false]).map V.bl := by rw [List.map_append]; rfl
      refine ⟨_, rfl, ?_⟩
      have := k2 h _ s2 A2
      rw [← e] at this
      exact this
abbrev N_Shadows_want : List Str := ["self", "page"]
theorem sc_Shadows_want : FnScope N_Shadows_want ["self", "page"] (defScope s_Shadows_want) := ⟨rfl, rfl, rfl, by decide +kernel, rfl, by decide +kernel, by decide +kernel⟩
def sp_Shadows_want (K : PySem.W.Frag) : Sp := fun vs H Q _ => ∃ (g : Addr → Nat) (S : Wy) (n : Int), vs = [.ref S.me, .int n] ∧ 0 ≤ n ∧ WyAt K g H S ∧ Wok S noBad ∧ S.said.length < 1000 ∧ Nx K g H S (wantP S.abs n).1 (Q (.bl (wantP S.abs n).2))
theorem ok_Shadows_want (T : Txt K mg) : DOk P w K mg base CX0 10 ("Shadows", some "want") ["self", "page"] (sp_Shadows_want K) := by
  refine dok T.d_Shadows_want sc_Shadows_want (fun _ _ _ _ _ _ us hl => match us, hl with | [_, _], _ => rfl) (fun vs H Q E h => ?_) (fun cdv A outer s H vs Q E hr h => ?_)
  · obtain ⟨g, S, n, rfl, hn0, A, ⟨top, rest, tb, W, R⟩, hs, k⟩ := h
    rfl
  · obtain ⟨g, S, n, rfl, hn0, A, ⟨top, rest, tb, W, R⟩, hs, k⟩ := h
    refine ⟨_, (PSs.nox (pss_cons (ps_if (PW.pt (pw_or (pt_cmpR op_ge (pv 1) (pe_m0 (pv 0) T.c_Shadows T.m_Shadows_size (ok_Shadows_size T) (hr.mono (by decide)) pass0) (nomark _)) (pw_or (pt_val (pe_m (pv 0) T.c_Shadows T.m_Shadows_has (ok_Shadows_has T) (hr.mono (by decide)) pass0 (pa_cons (pv 1) pa_nil))) (pw_or1 (pt_not (pt_val (pe_m0 (pv 0) T.c_Shadows T.m_Shadows_granted (ok_Shadows_granted T) (hr.mono (by decide)) pass0))))))) (pss_one (ps_ret pe_bl)) pss_nil)
      (pss_cons (ps_expr (pe_m (pv 0) T.c_Shadows T.m_Shadows_bring (ok_Shadows_bring T) (hr.mono (by decide)) pass0 (pa_cons (pv 1) pa_nil)))
      (pss_one (ps_ret pe_bl))))), ?_⟩
    unfold wantP at k
    refine ⟨_, rfl, _, rfl, A.o, g, S, rfl, A, _, _, rfl, rfl, _, rfl, ?_⟩
    by_cases h1 : (S.pages.length : Int) ≤ n
    · rw [if_pos (show (S.abs.pages.length : Int) ≤ n from h1)] at k
      exact ifT (decide_eq_true h1) (iteT (k S g H .refl A .refl rfl ⟨top, rest, tb, W, R⟩))
    rw [if_neg (show ¬ (S.abs.pages.length : Int) ≤ n from h1)] at k
    refine ifF (decide_eq_false h1) ⟨_, rfl, A.o, _, rfl, g, S, n, rfl, A, W.tk, _, rfl, ?_⟩
    cases h : pgHas S.pages n with
    | true =>
      rw [if_pos (show pgHas S.abs.pages n = true from h)] at k
      exact iteT (iteT (k S g H .refl A .refl rfl ⟨top, rest, tb, W, R⟩))
    | false =>
    rw [if_neg (show ¬ pgHas S.abs.pages n = true from by show ¬ pgHas S.pages n = true; rw [h]; decide)] at k
    obtain ⟨i, rfl⟩ := Int.eq_ofNat_of_zero_le hn0
    have hi : i < S.p.leads.length := by
      have : S.pages.length = S.p.leads.length := wPg_len _ _
      omega
    have e : S.p.leads[i]? = some none := by
      rw [pgH_w W.tk] at h
      cases q : S.p.leads[i]? with
      | none =>
        have := List.getElem?_eq_none_iff.mp q
        omega
      | some l =>
        cases l with
        | none => rfl
        | some f => rw [pLead_nat q] at h; cases h
    refine iteF ⟨_, rfl, A.o, g, S, rfl, A, hs, fun hp H1 s1 A1 => ?_, fun hp H1 s1 A1 => ?_⟩
    · rw [if_pos (show 1 ≤ S.abs.spare from (show 1 ≤ (S.f.F.length : Int) - S.f.pl by omega))] at k
      have W1 : Wst { S with f := { S.f with pl := S.f.pl + 1 }, said := S.said ++ [true] } top rest tb := ⟨W.mine, W.tab, W.inj, W.tk, W.apart, by have := W.c; show (cnt S.f.F : Int) ≤ S.f.pl + 1; omega, hp, W.ln⟩
      refine ⟨_, rfl, iteF ⟨_, rfl, A1.o, _, rfl, g, { S with f := { S.f with pl := S.f.pl + 1 }, said := S.said ++ [true] }, i, rfl, A1, ⟨top, rest, tb, W1, R⟩, e, by have := W.c; show (cnt S.f.F : Int) + 1 ≤ S.f.pl + 1; omega, fun S4 g4 H4 s4 A4 m4 e4 W4 => ?_⟩⟩
      refine k S4 g4 H4 (s1.trans s4) A4 ⟨m4.me, m4.fr⟩ ?_ W4
      rw [e4]
      show Pl.mk _ _ _ _ _ ((S.f.F.length : Int) - (S.f.pl + 1)) = Pl.mk _ _ _ _ _ ((S.f.F.length : Int) - S.f.pl - 1)
      congr 1
      omega
    · rw [if_neg (show ¬ 1 ≤ S.abs.spare from (show ¬ 1 ≤ (S.f.F.length : Int) - S.f.pl by omega))] at k
      have W1 : Wst { S with said := S.said ++ [false] } top rest tb := ⟨W.mine, W.tab, W.inj, W.tk, W.apart, W.c, W.l, W.ln⟩
      exact ⟨_, rfl, iteT (k { S with said := S.said ++ [false] } g H1 s1 A1 ⟨rfl, rfl⟩ rfl ⟨top, rest, tb, W1, R⟩)⟩
end
end Sp

set_option Elab.async false
set_option linter.all false
set_option maxRecDepth 100000
set_option maxHeartbeats 4000000
namespace Sp
open PySem PySem.Spec PyProof.Rows L2
section
variable {P : Program} {w : World} {K : PySem.W.Frag} {mg : Str → Option Value} {base : Heap}
section
variable {X : Cx} {CX : CXT} {k : Nat} {ps : List Str} {sp : Sp} {E : XK} {x c m f : Str} {apos pos : Pos} {e o : Expr} {es : List Expr} {ta : TE} {t : TA} {K1 : PySem.W.Frag}
theorem pe_mL (hK : X.K = K1) {pl : Sem Bool} (he : PE X o ta) (hc : Cls X.K (He.ga X.K c)) (hm : Meth X.K (He.ga X.K c) m (He.ma X.K (He.ga X.K c) m)) (G : DOk X.prog X.w X.K X.mg X.base CX k (c, some m) ps sp) (hr : Room k X.A) (hx : Passes CX X E) (ha : PA X (e :: es) t)
    (hst : starEach (e :: es) X.env = (false, eval e X.env) :: starEach es X.env := by rfl) (hpl : (backTo pos (starEach es X.env)).any (·.1) = false := by rfl)
    (ht : eval (.Call (.Attribute o m apos) (e :: es) [] pos) X.env = (do
      let ov ← eval o X.env
      standAt apos.atName
      let (f, first) ← holding [ov] (getMethod ov m pl)
      callWith pos f first (backTo pos (starEach (e :: es) X.env)) (backToKw pos (keywordEach [] X.env))) := by rfl) :
    PE X (.Call (.Attribute o m apos) (e :: es) [] pos) (tM K1 c m sp E ta t) := hK ▸ pe_m he hc hm G hr hx ha hst hpl ht
theorem pe_m0L (hK : X.K = K1) {pl : Sem Bool} (he : PE X o ta) (hc : Cls X.K (He.ga X.K c)) (hm : Meth X.K (He.ga X.K c) m (He.ma X.K (He.ga X.K c) m)) (G : DOk X.prog X.w X.K X.mg X.base CX k (c, some m) ps sp) (hr : Room k X.A) (hx : Passes CX X E)
    (ht : eval (.Call (.Attribute o m apos) [] [] pos) X.env = (do
      let ov ← eval o X.env
      standAt apos.atName
      let (f, first) ← holding [ov] (getMethod ov m pl)
      callWith pos f first (backTo pos (starEach [] X.env)) (backToKw pos (keywordEach [] X.env))) := by rfl) :
    PE X (.Call (.Attribute o m apos) [] [] pos) (tM K1 c m sp E ta tNil) := hK ▸ pe_m0 he hc hm G hr hx ht
end
theorem take_map {α β : Type} (f : α → β) (l : List α) (i : Nat) : (l.take i).map f = (l.map f).take i := by rw [List.map_take]
theorem pgW_nat {ps : List Pg} {i : Nat} {p : Pg} (h : ps[i]? = some p) : pgWords ps (i : Int) = p := by
  unfold pgWords
  rw [if_pos (Int.natCast_nonneg i), Int.toNat_natCast, h]; rfl
/-- pages told: new lists -/
def PgsNew (H0 H : Hp) (l : Addr) (ps : List Pg) : Prop := ∃ xs, H l = some (.lst xs) ∧ xs.length = ps.length ∧ ∀ (i : Nat) p, ps[i]? = some p → ∃ x, xs[i]? = some x ∧ PgAt H x p ∧ ∀ b, x = .ref b → H0 b = none
abbrev N_Shadows_words_of : List Str := ["self", "page", "cell"]
theorem sc_Shadows_words_of : FnScope N_Shadows_words_of ["self", "page"] (defScope s_Shadows_words_of) := ⟨rfl, rfl, rfl, by decide +kernel, rfl, by decide +kernel, by decide +kernel⟩
def sp_Shadows_words_of (K : PySem.W.Frag) : Sp := fun vs H Q _ => ∃ (g : Addr → Nat) (S : Wy) (n : Int), vs = [.ref S.me, .int n] ∧ WyAt K g H S ∧ Tk S ∧ (pgWords S.pages n = none → Q .non H) ∧ (∀ xs, pgWords S.pages n = some xs → ∀ l H', H l = none → Same H H' → WsAt H' l xs → Q (.ref l) H')
theorem ok_Shadows_words_of (T : Txt K mg) : DOk P w K mg base CX0 8 ("Shadows", some "words_of") ["self", "page"] (sp_Shadows_words_of K) := by
  refine dok T.d_Shadows_words_of sc_Shadows_words_of (fun _ _ _ _ _ _ us hl => match us, hl with | [_, _], _ => rfl) (fun vs H Q E h => ?_) (fun cdv A outer s H vs Q E hr h => ?_)
  · obtain ⟨g, S, n, rfl, A, tk, k1, k2⟩ := h
    rfl
  · obtain ⟨g, S, n, rfl, A, tk, k1, k2⟩ := h
    refine ⟨_, (PSs.nox (pss_cons (ps_if (pt_not (pt_val (pe_m (pv 0) T.c_Shadows T.m_Shadows_has (ok_Shadows_has T) (hr.mono (by decide)) pass0 (pa_cons (pv 1) pa_nil)))) (pss_one (ps_ret pe_non)) pss_nil)
      (pss_one (ps_ret (pe_lc (own := [("cell", 2)]) (g := gName 2) rfl sc_Shadows_words_of.nd (pi_range1 rfl T.b_range (pa_cons pe_int pa_nil)) (blkOk_by (own := [("cell", 2)]) (N := N_Shadows_words_of) (sc := defScope s_Shadows_words_of) (by decide +kernel)) (fun _ _ _ _ _ => pg_name (i := 2) sc_Shadows_words_of.nd rfl (Or.inl rfl)) (fun _ _ _ _ _ => pts_nil) (fun _ _ _ _ _ => (pe_mL (K1 := K) rfl (pv 0) T.c_Shadows T.m_Shadows_read (ok_Shadows_read T) (hr.mono (by decide)) pass0 (pa_cons (pv 1) (pa_cons (pv 2) pa_nil))))))))), ?_⟩
    refine ⟨_, rfl, A.o, _, rfl, g, S, n, rfl, A, tk, _, rfl, ?_⟩
    cases h : pgHas S.pages n with
    | false =>
      refine iteT (k1 ?_)
      unfold pgHas at h
      cases q : pgWords S.pages n with
      | none => rfl
      | some xs => rw [q] at h; cases h
    | true =>
      obtain ⟨i, f, w, xs, rfl, e, ef, ew⟩ := w_at tk h
      obtain ⟨_, hl, hw, _⟩ := A.fr.ws f w xs ef
      refine iteF ⟨8, rfl, by decide, by decide, fun D nD => ?_⟩
      refine lc_range (n := 8) (lo := 0) (fun j H' => Same H H' ∧ H' D = some (.lst ((xs.take j).map V.int))) ⟨same_new nD, upd_same⟩ (fun j H' hj p => ?_) (fun H' p => ?_)
      · have A1 := A.same p.1
        have hx : xs[j]? = some (pgRd S.pages (i : Int) ((0 : Int) + (j : Int))) := by
          unfold pgRd
          rw [ew, show ((0 : Int) + (j : Int)).toNat = j by omega]
          show xs[j]? = some (xs.getD j 0)
          rw [List.getD_eq_getElem?_getD, List.getElem?_eq_getElem (by omega)]; rfl
        refine ⟨rfl, _, rfl, A1.o, _, rfl, _, rfl, g, S, (i : Int), (0 : Int) + (j : Int), rfl, A1, tk, h, by omega, by omega, _, p.2, ?_, same_mut p.1 nD, ?_⟩
        · rw [List.length_map, List.length_take]
          exact small1000 (by omega)
        · rw [upd_same, take_snoc hx, List.map_append]; rfl
      · refine k2 xs ew D H' nD p.1 ⟨?_, hl, hw⟩
        have := p.2
        rw [List.take_of_length_le (by omega)] at this
        exact this
abbrev N_Shadows_pages : List Str := ["self", "page"]
theorem sc_Shadows_pages : FnScope N_Shadows_pages ["self"] (defScope s_Shadows_pages) := ⟨rfl, rfl, rfl, by decide +kernel, rfl, by decide +kernel, by decide +kernel⟩
def sp_Shadows_pages (K : PySem.W.Frag) : Sp := fun vs H Q _ => ∃ (g : Addr → Nat) (S : Wy), vs = [.ref S.me] ∧ WyAt K g H S ∧ Tk S ∧ ∀ l H', H l = none → Same H H' → PgsNew H H' l S.pages → Q (.ref l) H'
theorem ok_Shadows_pages (T : Txt K mg) : DOk P w K mg base CX0 9 ("Shadows", some "pages") ["self"] (sp_Shadows_pages K) := by
  refine dok T.d_Shadows_pages sc_Shadows_pages (fun _ _ _ _ _ _ us hl => match us, hl with | [_], _ => rfl) (fun vs H Q E h => ?_) (fun cdv A outer s H vs Q E hr h => ?_)
  · obtain ⟨g, S, rfl, A, tk, k⟩ := h
    rfl
  · obtain ⟨g, S, rfl, A, tk, k⟩ := h
    refine ⟨_, (PSs.nox (pss_one (ps_ret (pe_lc (own := [("page", 1)]) (g := gName 1) rfl sc_Shadows_pages.nd (pi_range1 rfl T.b_range (pa_cons (pe_m0 (pv 0) T.c_Shadows T.m_Shadows_size (ok_Shadows_size T) (hr.mono (by decide)) pass0) pa_nil)) (blkOk_by (own := [("page", 1)]) (N := N_Shadows_pages) (sc := defScope s_Shadows_pages) (by decide +kernel)) (fun _ _ _ _ _ => pg_name (i := 1) sc_Shadows_pages.nd rfl (Or.inl rfl)) (fun _ _ _ _ _ => pts_nil) (fun _ _ _ _ _ => (pe_mL (K1 := K) rfl (pv 0) T.c_Shadows T.m_Shadows_words_of (ok_Shadows_words_of T) (hr.mono (by decide)) pass0 (pa_cons (pv 1) pa_nil))))))), ?_⟩
    have hle : S.pages.length ≤ 24 := by
      have : S.pages.length = S.p.leads.length := wPg_len _ _
      have := A.pt.sz
      omega
    refine ⟨_, rfl, A.o, g, S, rfl, A, _, rfl, ?_, ?_, fun D nD => ?_⟩
    · omega
    · show (S.pages.length : Int) < _
      have := sizeLine_eq
      omega
    refine lc_range (n := S.pages.length) (lo := 0) (fun j H' => Same H H' ∧ ∃ xs, H' D = some (.lst xs) ∧ xs.length = j ∧ ∀ (m : Nat) p, m < j → S.pages[m]? = some p → ∃ x, xs[m]? = some x ∧ PgAt H' x p ∧ ∀ b, x = .ref b → H b = none ∧ b ≠ D)
      ⟨same_new nD, [], upd_same, rfl, fun m p hm => absurd hm (Nat.not_lt_zero _)⟩ (fun j H' hj p => ?_) (fun H' p => ?_)
    · obtain ⟨s, xs, hD, hl, hx⟩ := p
      have A1 := A.same s
      obtain ⟨q, hq⟩ : ∃ q, S.pages[j]? = some q := ⟨S.pages[j], List.getElem?_eq_getElem hj⟩
      have ej : (0 : Int) + (j : Int) = (j : Int) := Int.zero_add _
      have fin : ∀ (y : V) (H2 : Hp), Same H' H2 → PgAt H2 y q → (∀ b, y = .ref b → H' b = none) → ∃ acc, H2 D = some (.lst acc) ∧ acc.length < sizeLine ∧ Same H (upd H2 D (.lst (acc ++ [y]))) ∧ ∃ xs, upd H2 D (.lst (acc ++ [y])) D = some (.lst xs) ∧ xs.length = j + 1 ∧ ∀ (m : Nat) p, m < j + 1 → S.pages[m]? = some p → ∃ x, xs[m]? = some x ∧ PgAt (upd H2 D (.lst (acc ++ [y]))) x p ∧ ∀ b, x = .ref b → H b = none ∧ b ≠ D := by
        intro y H2 s2 hy hb
        have keep : ∀ (x : V) (p : Pg) (o : HO), PgAt H2 x p → (∀ b, x = .ref b → b ≠ D) → PgAt (upd H2 D o) x p := fun x p o h hne => by
          cases p with
          | none => exact h
          | some ws =>
            obtain ⟨b, rfl, w1, w2⟩ := h
            exact ⟨b, rfl, by rw [upd_ne (hne b rfl)]; exact w1, w2⟩
        have hbD : ∀ b, y = .ref b → b ≠ D := fun b e z => by
          have := hb b e
          rw [z, hD] at this; cases this
        refine ⟨xs, s2 _ _ hD, by rw [hl]; exact small1000 (by omega), same_mut (s.trans s2) nD, xs ++ [y], upd_same, by rw [List.length_append, hl]; rfl, fun m p hm hp => ?_⟩
        by_cases hmj : m = j
        · subst hmj
          rw [hq] at hp
          injection hp with hp
          subst hp
          refine ⟨y, by rw [List.getElem?_append_right (by omega), hl, Nat.sub_self]; rfl, keep _ _ _ hy hbD, fun b e => ⟨s.free (hb b e), hbD b e⟩⟩
        · obtain ⟨x, h1, h2, h3⟩ := hx m p (by omega) hp
          refine ⟨x, by rw [List.getElem?_append_left (by omega)]; exact h1, keep _ _ _ (h2.same s2) fun b e => (h3 b e).2, h3⟩
      have hw : pgWords S.pages ((0 : Int) + (j : Int)) = q := by rw [ej]; exact pgW_nat hq
      refine ⟨rfl, _, rfl, A1.o, _, rfl, g, S, (0 : Int) + (j : Int), rfl, A1, tk, fun e => ?_, fun ys e l H2 nl s2 wl => ?_⟩
      · rw [hw] at e
        subst e
        exact fin .non H' (Same.refl _) rfl fun b e => by cases e
      · rw [hw] at e
        subst e
        exact fin (.ref l) H2 s2 ⟨l, rfl, wl⟩ fun b e => by injection e with e; rw [← e]; exact nl
    · obtain ⟨s, xs, hD, hl, hx⟩ := p
      refine k D H' nD s ⟨xs, hD, hl, fun i p hp => ?_⟩
      obtain ⟨x, h1, h2, h3⟩ := hx i p (List.getElem?_eq_some_iff.mp hp).1 hp
      exact ⟨x, h1, h2, fun b e => (h3 b e).1⟩
end
end Sp

set_option Elab.async false
set_option linter.all false
set_option maxRecDepth 100000
set_option maxHeartbeats 4000000
namespace Sp
open PySem PySem.Spec PyProof.Rows L2
section
variable {P : Program} {w : World} {K : PySem.W.Frag} {mg : Str → Option Value} {base : Heap}
theorem WyAt.putAn {g : Addr → Nat} {H : Hp} {S : Wy} (A : WyAt K g H S) {l : Addr} {said : List Bool} (nl : H l = none) :
    ∃ H', Stf K "Shadows" "answers" (upd H l (.lst (said.map V.bl))) (.ref S.me) (.ref l) H' ∧ Stp ALL g H (tg g l 11) H' ∧ WyAt K (tg g l 11) H' { S with an := l, said := said } := by
  obtain ⟨dx, ob⟩ := A.ob
  have s1 : Stp [] g H (tg g l 11) (upd H l (.lst (said.map V.bl))) := .new nl 11
  have A1 := A.stp0 s1 (by simp)
  obtain ⟨dx1, ob1⟩ := A1.ob
  have st : Stp [9] (tg g l 11) (upd H l (.lst (said.map V.bl))) (tg g l 11) (upd (upd H l (.lst (said.map V.bl))) S.me (.ins (He.ga K "Shadows") dx1 (putF "answers" (.ref l) (fsWy S)))) := .put ob1 (by rw [A1.t9]; simp)
  obtain ⟨B, C, D⟩ := A1.keepO (o := .ins (He.ga K "Shadows") dx1 (putF "answers" (.ref l) (fsWy S))) A1.t9 (by decide)
  have lm : l ≠ S.me := fun z => by rw [z, ob] at nl; cases nl
  refine ⟨_, ⟨_, dx1, _, rfl, ob1, by show 9 < 1000; decide, rfl⟩, (s1.mono (by simp)).trans (st.mono (by decide)), st.wf A1.wf, ⟨dx1, by rw [upd_same, pf_w7]; rfl⟩, B, C, D, ?_, ?_, ?_, ?_, ?_, A1.t9, A1.t10, tg_same, A1.t12, A1.t13, A1.t14, A1.kc, A1.ko⟩
  · rw [upd_ne (tne A1.t10 A1.t9)]; exact A1.ch_
  · show upd (upd H l _) S.me _ l = _
    rw [upd_ne lm, upd_same]
  · rw [upd_ne (tne A1.t12 A1.t9)]; exact A1.op_
  · rw [upd_ne (tne A1.t13 A1.t9)]; exact A1.sp_
  · rw [upd_ne (tne A1.t14 A1.t9)]; exact A1.mn_
theorem lKeep_new {most : Int} {l : List Rw} {r : Rw} (h : lSeek l r.1 = none) (hl : (l.length : Int) + 1 ≤ most) : lKeep most l r = (l ++ [r], none) := by
  unfold lKeep
  rw [if_neg ((lSeek_none l r.1).mp h), if_pos (by rw [List.length_append]; show ((l.length + 1 : Nat) : Int) ≤ most; omega)]
theorem nd_take {l : List Rw} (nd : (l.map (·.1)).Nodup) {j : Nat} {r : Rw} (h : l[j]? = some r) : lSeek (l.take j) r.1 = none := by
  refine lSeek_no fun q hq e => ?_
  obtain ⟨m, hm, e2⟩ := List.getElem_of_mem hq
  have hj := (List.getElem?_eq_some_iff.mp h).1
  rw [List.length_take] at hm
  have h1 : (l.map (·.1))[m]? = some r.1 := by
    rw [List.getElem?_map, ← e, ← e2, List.getElem_take, List.getElem?_eq_getElem (by omega)]; rfl
  have h2 : (l.map (·.1))[j]? = some r.1 := by rw [List.getElem?_map, h]; rfl
  have := (List.getElem?_inj (by rw [List.length_map]; omega) nd).mp (h1.trans h2.symm)
  omega
abbrev N_Shadows_resume : List Str := ["self", "root", "shelf", "said", "number", "page", "rights"]
theorem sc_Shadows_resume : FnScope N_Shadows_resume ["self", "root", "shelf", "said"] (defScope s_Shadows_resume) := ⟨rfl, rfl, rfl, by decide +kernel, rfl, by decide +kernel, by decide +kernel⟩
def sp_Shadows_resume (K : PySem.W.Frag) : Sp := fun vs H Q _ => ∃ (g : Addr → Nat) (S : Wy) (z : Int) (a b : Addr) (rows : List (Addr × Rw)) (said : List Bool), vs = [.ref S.me, .int z, .ref a, .ref b] ∧ WyAt K g H S ∧ Wok S noBad ∧ S.s.line = [] ∧
  H a = some (.lst (rows.map fun r => .ref r.1)) ∧ g a = 0 ∧ (∀ r ∈ rows, H r.1 = some (rwV r.2) ∧ g r.1 = 0) ∧ H b = some (.lst (said.map V.bl)) ∧ g b = 0 ∧ LineOk (rows.map (·.2)) ∧ (rows.length : Int) ≤ S.s.most ∧
  Nx K g H S { S.abs with base := z, line := rows.map (·.2), said := said } (Q .non)
theorem ok_Shadows_resume (T : Txt K mg) : DOk P w K mg base CX0 3 ("Shadows", some "resume") ["self", "root", "shelf", "said"] (sp_Shadows_resume K) := by
  refine dok T.d_Shadows_resume sc_Shadows_resume (fun _ _ _ _ _ _ us hl => match us, hl with | [_, _, _, _], _ => rfl) (fun vs H Q E h => ?_) (fun cdv A outer s H vs Q E hr h => ?_)
  · obtain ⟨g, S, z, a, b, rows, said, rfl, A, ⟨top, rest, tb, W, R⟩, hl0, ha, ga, hrw, hb, gb, L, hsz, k⟩ := h
    rfl
  · obtain ⟨g, S, z, a, b, rows, said, rfl, A, ⟨top, rest, tb, W, R⟩, hl0, ha, ga, hrw, hb, gb, L, hsz, k⟩ := h
    refine ⟨_, (PSs.nox (pss_cons (ps_f (pv 0) (pv 1) T.c_Shadows T.n_Shadows_base)
      (pss_cons (ps_for PassesOwn.never rfl (pi_list (pv 2)) (pg_tup rfl (pgs_cons (pg_name (i := 4) sc_Shadows_resume.nd rfl (Or.inl rfl)) (pgs_cons (pg_name (i := 5) sc_Shadows_resume.nd rfl (Or.inl rfl)) (pgs_cons (pg_name (i := 6) sc_Shadows_resume.nd rfl (Or.inl rfl)) pgs_nil)))) (pss_one (ps_expr (pe_m (pe_f (pv 0) T.c_Shadows T.n_Shadows_held) T.c_Shelf T.m_Shelf_keep (ok_Shelf_keep T) (hr.mono (by decide)) pass0 (pa_cons (pv 4) (pa_cons (pv 5) (pa_cons (pv 6) pa_nil)))))))
      (pss_one (ps_f (pv 0) (pe_callTy call_list_of rfl T.b_list (by decide +kernel) (pa_cons (pv 3) pa_nil)) T.c_Shadows T.n_Shadows_answers))))), ?_⟩
    obtain ⟨H1, st1, s1, A1⟩ := A.setB z
    refine ⟨_, rfl, _, rfl, H1, st1, ?_⟩
    have ha1 := s1.at ha (by rw [ga]; decide)
    have zr : ∀ m : Nat, m < 64 → rowF S.f.F tb m = 0 := fun m hm => by
      rcases R m hm (fun z => z) with h | ⟨pg, r, f, wr, q1, _⟩
      · exact h
      · rw [hl0] at q1; cases q1
    refine ⟨_, rfl, a, rfl, ⟨_, SqL.of ha1⟩, ?_⟩
    refine for_list (K := K) (a := a) (xs := rows.map fun r => V.ref r.1) (fun j σ H' => (∃ v1 v2 v3, σ = [some (.ref S.me), some (.int z), some (.ref a), some (.ref b), v1, v2, v3]) ∧ ∃ Sh' g', Stp ALL g H g' H' ∧ WyAt K g' H' { S with base := z, s := Sh' } ∧ Sh'.most = S.s.most ∧ Sh'.line = (rows.map (·.2)).take j)
      ⟨⟨_, _, _, rfl⟩, S.s, g, s1, A1, rfl, by rw [hl0]; rfl⟩ (fun j σ H' _ p => ?_) ?_ ?_
    · obtain ⟨_, Sh', g', s', _⟩ := p
      exact SqL.of (s'.at ha (by rw [ga]; decide))
    · rintro j x σ H2 hx ⟨⟨v1, v2, v3, rfl⟩, Sh', g', s', A', em, el⟩
      rw [List.getElem?_map] at hx
      obtain ⟨⟨t, r⟩, h1, rfl⟩ := Option.map_eq_some_iff.mp hx
      obtain ⟨h2, gt⟩ := hrw _ (List.mem_of_getElem? h1)
      have ht := s'.at h2 (by rw [gt]; decide)
      have hrj : (rows.map (·.2))[j]? = some r := by rw [List.getElem?_map, h1]; rfl
      have hj : j < rows.length := (List.getElem?_eq_some_iff.mp h1).1
      refine ⟨t, _, rfl, SqT.of ht, rfl, _, _, rfl, _, _, rfl, _, _, rfl, rfl, ?_⟩
      refine ⟨_, rfl, _, A'.fl (lk_w1 _), A'.sh.o, _, rfl, _, rfl, _, rfl, g', Sh', r, rfl, A'.sh, fun Sh2 g2 H3 s2 B2 e1 e2 e3 e4 => ?_⟩
      have A2 := A'.setS s2 B2 e1
      refine ⟨⟨_, _, _, rfl⟩, Sh2, g2, s'.trans (s2.mono (by decide)), A2, e3.trans em, ?_⟩
      rw [e4, el, em, lKeep_new (nd_take L.nd hrj) (by rw [List.length_take, List.length_map]; omega), take_snoc hrj]
    · rintro σ H2 ⟨⟨v1, v2, v3, rfl⟩, Sh', g', s', A', em, el⟩
      rw [List.length_map, List.take_of_length_le (by rw [List.length_map]; exact Nat.le_refl _)] at el
      have hb2 := s'.at hb (by rw [gb]; decide)
      refine ⟨_, rfl, _, _, rfl, .inl (SqL.of hb2), fun l nl => ?_⟩
      obtain ⟨H4, st4, s4, A4⟩ := A'.putAn (said := said) nl
      refine ⟨_, rfl, H4, st4, ?_⟩
      have W4 : Wst { S with base := z, s := Sh', an := l, said := said } top rest tb := ⟨W.mine, W.tab, W.inj, W.tk, W.apart, W.c, W.l, by show LineOk Sh'.line; rw [el]; exact L⟩
      refine k { S with base := z, s := Sh', an := l, said := said } _ H4 (s'.trans s4) A4 ⟨rfl, rfl⟩ ?_ ⟨top, rest, tb, W4, fun m hm _ => .inl (zr m hm)⟩
      show Pl.mk _ _ Sh'.line Sh'.most _ _ = Pl.mk _ _ (rows.map (·.2)) S.s.most _ _
      rw [el, em]
      rfl
end
end Sp

set_option Elab.async false
set_option linter.all false
set_option maxRecDepth 100000
set_option maxHeartbeats 4000000
namespace Sp
open PySem PySem.Spec PyProof.Rows L2
section
variable {P : Program} {w : World} {K : PySem.W.Frag} {mg : Str → Option Value} {base : Heap}
/-! ### a way is made -/
structure Pre (K : PySem.W.Frag) (g : Addr → Nat) (H : Hp) (p dx : Addr) (fs : List (Str × V)) (F : Fr) (S : Sh) (a : Addr) (ps : List Pg) : Prop where
  wf : Wf g H
  ob : H p = some (.ins (He.ga K "Shadows") dx fs)
  t9 : g p = 9
  fr : FrAt K g H F
  sh : ShAt K g H S
  img : ImgZ g H a ps
section
variable {g g' : Addr → Nat} {H H' : Hp} {p dx a : Addr} {fs : List (Str × V)} {F F' : Fr} {S : Sh} {ps : List Pg} {T : List Nat}
theorem Pre.chg (A : Pre K g H p dx fs F S a ps) (s : Stp T g H g' H') (B : FrAt K g' H' F') (h : ∀ n ∈ [0, 7, 8, 9, 15], n ∉ T := by decide) : Pre K g' H' p dx fs F' S a ps :=
  ⟨s.wf A.wf, s.at A.ob (by rw [A.t9]; exact h 9 (by simp)), (s.tag A.ob).trans A.t9, B, A.sh.stp s fun n hn => h n (by revert n; decide), A.img.stp s (h 0 (by simp))⟩
theorem Pre.stp (A : Pre K g H p dx fs F S a ps) (s : Stp T g H g' H') (h : ∀ n ∈ [0, 1, 2, 3, 4, 7, 8, 9, 15], n ∉ T := by decide) : Pre K g' H' p dx fs F S a ps :=
  A.chg s (A.fr.stp s fun n hn => h n (by revert n; decide)) fun n hn => h n (by revert n; decide)
theorem Pre.fld (A : Pre K g H p dx fs F S a ps) (f : Str) (v : V) (hl : fs.length < 1000) : ∃ H', Stf K "Shadows" f H (.ref p) v H' ∧ Stp [9] g H g H' ∧ Pre K g H' p dx (putF f v fs) F S a ps := by
  have st : Stp [9] g H g (upd H p (.ins (He.ga K "Shadows") dx (putF f v fs))) := .put A.ob (by rw [A.t9]; simp)
  exact ⟨_, ⟨p, dx, fs, rfl, A.ob, hl, rfl⟩, st, st.wf A.wf, upd_same, A.t9, A.fr.stp st (by simp), A.sh.stp st (by simp), A.img.stp st (by simp)⟩
theorem Stp.mkO {x dx2 C : Addr} {n : Nat} (nx : H x = none) (nd : H dx2 = none) (ne : dx2 ≠ x) : Stp T g H (tg g x n) (upd (upd H dx2 (.own x)) x (.ins C dx2 [])) :=
  (Stp.new0 nd).trans (Stp.new (by rw [upd_ne ne.symm]; exact nx) n)
end
abbrev N_Ways_init : List Str := ["self", "most"]
theorem sc_Ways_init : FnScope N_Ways_init ["self", "most"] (defScope s_Ways_init) := ⟨rfl, rfl, rfl, by decide +kernel, rfl, by decide +kernel, by decide +kernel⟩
def sp_Ways_init (K : PySem.W.Frag) : Sp := fun vs H Q _ => ∃ (p dx : Addr) (m : Int) (g : Addr → Nat), vs = [.ref p, .int m] ∧ 1 ≤ m ∧ m ≤ 12 ∧ H p = some (.ins (He.ga K "Shadows") dx []) ∧ g p = 9 ∧
  ∀ S g' H', Stp [7, 9] g H g' H' → ShAt K g' H' S → S.most = m → S.rows = [] → H' p = some (.ins (He.ga K "Shadows") dx [("held", .ref S.sh), ("base", .int 0)]) → Q .non H'
theorem ok_Ways_init (T : Txt K mg) : DOk P w K mg base CX0 4 ("Ways", some "__init__") ["self", "most"] (sp_Ways_init K) := by
  refine dok T.d_Ways_init sc_Ways_init (fun _ _ _ _ _ _ us hl => match us, hl with | [_, _], _ => rfl) (fun vs H Q E h => ?_) (fun cdv A outer s H vs Q E hr h => ?_)
  · obtain ⟨p, dx, m, g, rfl, h1, h2, hp, t9, k⟩ := h
    rfl
  · obtain ⟨p, dx, m, g, rfl, h1, h2, hp, t9, k⟩ := h
    refine ⟨_, (PSs.nox (pss_cons (ps_f (pv 0) (pe_mk T.mk_Shelf (ok_Shelf_init T) (hr.mono (by decide)) T.g_Shelf pass0 (pa_cons (pv 1) pa_nil)) T.c_Shadows T.n_Shadows_held)
      (pss_one (ps_f (pv 0) pe_int T.c_Shadows T.n_Shadows_base)))), ?_⟩
    refine ⟨_, rfl, fun x dx2 nx ndx nxd => ⟨x, dx2, m, tg g x 7, rfl, h1, h2, upd_same, tg_same, fun l g1 H1 s1 B1 => ⟨rfl, ?_⟩⟩⟩
    have s0 : Stp [9] g H (tg g x 7) (upd (upd H dx2 (.own x)) x (.ins (He.ga K "Shelf") dx2 [])) := Stp.mkO nx ndx nxd
    have hp0 : upd (upd H dx2 (.own x)) x (.ins (He.ga K "Shelf") dx2 []) p = some (.ins (He.ga K "Shadows") dx []) := by rw [upd_ne (ne_of_none hp nx), upd_ne (ne_of_none hp ndx)]; exact hp
    have tp0 : tg g x 7 p = 9 := (s0.tag hp).trans t9
    have hp1 := s1.at hp0 (by rw [tp0]; decide)
    have tp1 : g1 p = 9 := (s1.tag hp0).trans tp0
    refine ⟨_, rfl, _, ⟨p, dx, _, rfl, hp1, (by show 0 < 1000; decide), rfl⟩, ?_⟩
    have s2 : Stp [9] g1 H1 g1 (upd H1 p (.ins (He.ga K "Shadows") dx (putF "held" (.ref x) []))) := .put hp1 (by rw [tp1]; simp)
    have B2 := B1.stp s2 (by simp)
    have hp2 : upd H1 p (.ins (He.ga K "Shadows") dx (putF "held" (.ref x) [])) p = some (.ins (He.ga K "Shadows") dx (putF "held" (.ref x) [])) := upd_same
    refine ⟨_, rfl, _, ⟨p, dx, _, rfl, hp2, (by show 1 < 1000; decide), rfl⟩, ?_⟩
    have s3 : Stp [9] g1 (upd H1 p (.ins (He.ga K "Shadows") dx (putF "held" (.ref x) []))) g1 _ := .put (o' := .ins (He.ga K "Shadows") dx (putF "base" (.int 0) (putF "held" (.ref x) []))) hp2 (by rw [tp1]; simp)
    have s17 : Stp [7, 9] g H g1 H1 := (s0.mono (by decide)).trans (s1.mono (by decide))
    exact k _ g1 _ (s17.trans ((s2.mono (by decide)).trans (s3.mono (by decide)))) (B2.stp s3 (by simp)) rfl rfl (by rw [upd_same]; rfl)
def fsKe (S : Wy) : List (Str × V) := [("held", .ref S.s.sh), ("base", .int S.base), ("ground", .ref S.f.fr), ("mine", .ref S.mn), ("part", .ref S.p.pt), ("changed", .ref S.ch), ("answers", .ref S.an)]
/-- a kept way, before its own fields come -/
structure KeAt (K : PySem.W.Frag) (g : Addr → Nat) (H : Hp) (S : Wy) : Prop where
  wf : Wf g H
  ob : ∃ dx, H S.me = some (.ins (He.ga K "Shadows") dx (fsKe S))
  fr : FrAt K g H S.f
  sh : ShAt K g H S.s
  pt : PtAt K g H S.f.fr S.p
  ch_ : H S.ch = some (.dK S.chK)
  an_ : H S.an = some (.lst (S.said.map V.bl))
  mn_ : H S.mn = some (.lst (S.mine.map natV))
  t9 : g S.me = 9
  t10 : g S.ch = 10
  t11 : g S.an = 11
  t14 : g S.mn = 14
structure KeT (S : Wy) (p : Addr) (F : Fr) (most : Int) (pool : Nat) (ps : List Pg) : Prop where
  me : S.me = p
  fr : S.f.fr = F.fr
  base : S.base = 0
  said : S.said = []
  chK : S.chK = []
  rows : S.s.rows = []
  most : S.s.most = most
  pl : S.f.pl = (pool + there ps : Nat)
  len : S.f.F.length = F.F.length
  ml : S.mine.length = pool
  mnd : S.mine.Nodup
  mz : ∀ t ∈ S.mine, frW S.f.F t = some zeros
  pg : wPg S.f.F S.p.leads = ps
  inj : LInj S.p.leads
  tk : Tk S
  apart : ∀ (j f : Nat), S.p.leads[j]? = some (some f) → f ∉ S.mine
  c : cnt S.f.F = pool + there ps
abbrev N_Kept_init : List Str := ["self", "frames", "pages", "most", "many", "k", "words"]
theorem sc_Kept_init : FnScope N_Kept_init ["self", "frames", "pages", "most", "many"] (defScope s_Kept_init) := ⟨rfl, rfl, rfl, by decide +kernel, rfl, by decide +kernel, by decide +kernel⟩
def sp_Kept_init (K : PySem.W.Frag) : Sp := fun vs H Q _ => ∃ (p dx : Addr) (g : Addr → Nat) (F : Fr) (a : Addr) (ps : List Pg) (most : Int) (pool : Nat), vs = [.ref p, .ref F.fr, .ref a, .int most, .int (pool : Int)] ∧ Wf g H ∧ FrAt K g H F ∧ ImgZ g H a ps ∧ 1 ≤ most ∧ most ≤ 12 ∧ F.pl = 0 ∧ cnt F.F = 0 ∧ pool + there ps ≤ F.F.length ∧ H p = some (.ins (He.ga K "Shadows") dx []) ∧ g p = 9 ∧
  ∀ S g' H', Stp ALL g H g' H' → KeAt K g' H' S → KeT S p F most pool ps → Q .non H'
theorem ok_Kept_init (T : Txt K mg) : DOk P w K mg base CX0 9 ("Kept", some "__init__") ["self", "frames", "pages", "most", "many"] (sp_Kept_init K) := by
  refine dok T.d_Kept_init sc_Kept_init (fun _ _ _ _ _ _ us hl => match us, hl with | [_, _, _, _, _], _ => rfl) (fun vs H Q E h => ?_) (fun cdv A outer s H vs Q E hr h => ?_)
  · obtain ⟨p, dx, g, F, a, ps, most, pool, rfl, wf, A, I, h1, h2, hpl, hcn, hsz, hp, t9, k⟩ := h
    rfl
  · obtain ⟨p, dx, g, F, a, ps, most, pool, rfl, wf, A, I, h1, h2, hpl, hcn, hsz, hp, t9, k⟩ := h
    refine ⟨_, (PSs.nox (pss_cons (ps_if (pt_not (pt_val (pe_g (ok_is_image T) (hr.mono (by decide)) T.g_is_image pass0 (pa_cons (pv 2) pa_nil)))) (pss_one ps_never) pss_nil)
      (pss_cons (ps_expr (pe_k T.y_Ways_init T.g_Ways (ok_Ways_init T) (hr.mono (by decide)) pass0 (pa_cons (pv 0) (pa_cons (pv 3) pa_nil))))
      (pss_cons (ps_if (pt_not (pt_val (pe_m (pv 1) T.c_Frames T.m_Frames_ask (ok_Frames_ask T) (hr.mono (by decide)) pass0 (pa_cons (pe_op op_add (pv 4) (pe_callB call_len_seq rfl T.b_len PySem.boot_len (pa_cons (pe_lc (own := [("words", 6)]) (g := gName 6) rfl sc_Kept_init.nd (pi_list (pv 2)) (blkOk_by (own := [("words", 6)]) (N := N_Kept_init) (sc := defScope s_Kept_init) (by decide +kernel)) (fun _ _ _ _ _ => pg_name (i := 6) sc_Kept_init.nd rfl (Or.inl rfl)) (fun _ _ _ _ _ => (pts_one (pt_cmpR op_notN (pv 6) pe_non (nomark _)))) (fun _ _ _ _ _ => (pv 6))) pa_nil))) pa_nil)))) (pss_one ps_never) pss_nil)
      (pss_cons (ps_f (pv 0) (pv 1) T.c_Shadows T.n_Shadows_ground)
      (pss_cons (ps_f (pv 0) (pe_lc (own := [("k", 5)]) (g := gName 5) rfl sc_Kept_init.nd (pi_range1 rfl T.b_range (pa_cons (pv 4) pa_nil)) (blkOk_by (own := [("k", 5)]) (N := N_Kept_init) (sc := defScope s_Kept_init) (by decide +kernel)) (fun _ _ _ _ _ => pg_name (i := 5) sc_Kept_init.nd rfl (Or.inl rfl)) (fun _ _ _ _ _ => pts_nil) (fun _ _ _ _ _ => (pe_m0L (K1 := K) rfl (pv 1) T.c_Frames T.m_Frames_take (ok_Frames_take T) (hr.mono (by decide)) pass0))) T.c_Shadows T.n_Shadows_mine)
      (pss_cons (ps_f (pv 0) (pe_mk T.mk_Parts (ok_Parts_init T) (hr.mono (by decide)) T.g_Parts pass0 (pa_cons (pv 1) (pa_cons (pv 2) pa_nil))) T.c_Shadows T.n_Shadows_part)
      (pss_cons (ps_f (pv 0) pe_dnewK T.c_Shadows T.n_Shadows_changed)
      (pss_one (ps_f (pv 0) (pe_lst pa_nil) T.c_Shadows T.n_Shadows_answers)))))))))), ?_⟩
    have hF : F.F.length ≤ 200 := A.sz
    refine ⟨_, rfl, a, ps, rfl, I.img, fun H1 s1 => ⟨true, rfl, iteF ?_⟩⟩
    refine ⟨_, rfl, _, rfl, p, dx, most, g, rfl, h1, h2, s1 _ _ hp, t9, fun S g2 H2 s2 B2 em er ob2 => ?_⟩
    have st2 : Stp [7, 9] g H g2 H2 := (Stp.same s1).trans s2
    have P2 : Pre K g2 H2 p dx [("held", .ref S.sh), ("base", .int 0)] F S a ps := ⟨st2.wf wf, ob2, (st2.tag hp).trans t9, A.stp st2 (by decide), B2, I.stp st2 (by decide)⟩
    obtain ⟨xs, x1, x2, x3⟩ := P2.img.ex
    have hi := I.hi
    refine ⟨_, rfl, P2.fr.o, _, rfl, _, rfl, a, rfl, ⟨_, SqL.of x1⟩, fun D nD => ?_⟩
    refine lc_list (K := K) (a := a) (xs := xs) (fun i H' => Same H2 H' ∧ ∃ zs, H' D = some (.lst zs) ∧ zs.length = there (ps.take i)) ⟨same_new nD, [], upd_same, rfl⟩ (fun i H' _ p => SqL.of (p.1 _ _ x1)) (fun i x H' hx q => ?_) (fun H3 q => ?_)
    · have hlt : i < xs.length := (List.getElem?_eq_some_iff.mp hx).1
      obtain ⟨w0, hw⟩ : ∃ w0, ps[i]? = some w0 := ⟨ps[i]'(by omega), List.getElem?_eq_getElem (by omega)⟩
      obtain ⟨y, e1, e2, e3⟩ := x3 i w0 hw
      rw [hx] at e1
      injection e1 with e1
      subst e1
      obtain ⟨q1, zs, q2, q3⟩ := q
      have ht := there_take hw
      cases w0 with
      | none =>
        have ex : x = V.non := e2
        subst ex
        exact ⟨rfl, _, rfl, rfl, _, rfl, q1, zs, q2, by rw [ht, q3]; rfl⟩
      | some ws =>
        obtain ⟨b, rfl, _⟩ := e2
        have hb : there (ps.take i) ≤ 24 := by
          have := there_le ps i
          have h3 : ∀ l : List Pg, there l ≤ l.length := fun l => by
            induction l with
            | nil => exact Nat.le_refl _
            | cons c l ih => cases c <;> simp only [there, List.length_cons] <;> omega
          have := h3 ps
          omega
        refine ⟨rfl, _, rfl, rfl, _, rfl, _, rfl, zs, q2, by rw [q3]; exact small1000 (by omega), same_mut q1 nD, zs ++ [.ref b], upd_same, ?_⟩
        rw [List.length_append, q3, ht]; rfl
    · obtain ⟨q1, zs, q2, q3⟩ := q
      rw [x2, List.take_length] at q3
      have P3 := P2.stp (T := []) (.same q1) (by simp)
      have hok : F.pl + ((pool : Int) + (zs.length : Int)) ≤ F.F.length := by rw [hpl, q3]; omega
      refine ⟨_, _, rfl, .inl (SqL.of q2), _, _, rfl, rfl, g2, F, _, rfl, P3.fr, fun hc H4 s4 B4 => ?_, fun hc => absurd hok hc⟩
      have P4 := P3.chg s4 B4
      refine ⟨_, rfl, iteF ?_⟩
      obtain ⟨H5, st5, s5, P5⟩ := P4.fld "ground" (.ref F.fr) (by show 2 < 1000; decide)
      refine ⟨_, rfl, _, rfl, H5, st5, ?_⟩
      have sA : Stp ALL g H g2 H5 := (st2.mono (by decide)).trans ((Stp.same q1).trans ((s4.mono (by decide)).trans (s5.mono (by decide))))
      have epl : F.pl + ((pool : Int) + (zs.length : Int)) = (pool + there ps : Nat) := by rw [hpl, q3]; omega
      rw [epl] at P5
      refine ⟨_, rfl, _, rfl, ?_, ?_, fun D2 nD2 => ?_⟩
      · omega
      · have := sizeLine_eq
        omega
      refine lc_range (n := pool) (lo := 0) (fun i H' => ∃ F' mine g', Stp ALL g2 H5 g' H' ∧ Pre K g' H' p dx (putF "ground" (.ref F.fr) [("held", .ref S.sh), ("base", .int 0)]) { F with F := F', pl := (pool + there ps : Nat) } S a ps ∧ H' D2 = some (.lst (mine.map natV)) ∧ g' D2 = 14 ∧ mine.length = i ∧ mine.Nodup ∧ (∀ t ∈ mine, frW F' t = some zeros) ∧ cnt F' = i ∧ F'.length = F.F.length)
        ⟨F.F, [], tg g2 D2 14, .new nD2 14, P5.stp (T := []) (.new nD2 14) (by simp), upd_same, tg_same, rfl, List.nodup_nil, (fun t ht => by cases ht), hcn, rfl⟩ (fun i H' hi2 q => ?_) (fun H6 q => ?_)
      · obtain ⟨F', mine, g', s', P', m1, m2, m3, m4, m5, m6, m7⟩ := q
        refine ⟨rfl, _, rfl, P'.fr.o, g', { F with F := F', pl := (pool + there ps : Nat) }, rfl, P'.fr, ?_, fun f w g3 H3 hf nw s3 B3 => ?_⟩
        · show cnt F' < F'.length
          omega
        · have m1' := s3.at m1 (by rw [m2]; decide)
          have m2' : g3 D2 = 14 := (s3.tag m1).trans m2
          have P3' := P'.chg s3 B3
          have s4 : Stp [14] g3 H3 g3 (upd H3 D2 (.lst (mine.map natV ++ [natV f]))) := .put m1' (by rw [m2']; simp)
          have hlt : f < F'.length := (List.getElem?_eq_some_iff.mp hf).1
          have nofr : frW F' f = none := by
            unfold frW fPg
            rw [List.getElem?_map, hf]; rfl
          have hnm : f ∉ mine := fun z => by
            have := m5 f z
            rw [nofr] at this; cases this
          refine ⟨_, m1', by rw [List.length_map, m3]; exact small1000 (by omega), F'.set f (some (w, zeros)), mine ++ [f], g3, s'.trans ((s3.mono (by decide)).trans (s4.mono (by decide))), P3'.stp s4, ?_, m2', by rw [List.length_append, m3]; rfl, nd_snoc m4 hnm, fun t ht => ?_, by rw [cnt_set_some _ _ _ hf, m6], by rw [List.length_set]; exact m7⟩
          · show upd H3 D2 (.lst (mine.map natV ++ [natV f])) D2 = _
            rw [upd_same, List.map_append]; rfl
          · rcases List.mem_append.mp ht with z | z
            · rw [frW_set_ne fun e : t = f => hnm (e ▸ z)]; exact m5 t z
            · rw [List.mem_singleton.mp z]; exact frW_set_eq hlt
      · obtain ⟨F', mine, g6, s6, P6, m1, m2, m3, m4, m5, m6, m7⟩ := q
        obtain ⟨H7, st7, s7, P7⟩ := P6.fld "mine" (.ref D2) (by show 3 < 1000; decide)
        refine ⟨_, rfl, H7, st7, ?_⟩
        have m17 := s7.at m1 (by rw [m2]; decide)
        refine ⟨_, rfl, _, rfl, fun x dx2 nx ndx nxd => ?_⟩
        have s8 : Stp [] g6 H7 (tg g6 x 5) (upd (upd H7 dx2 (.own x)) x (.ins (He.ga K "Parts") dx2 [])) := Stp.mkO nx ndx nxd
        have P8 := P7.stp s8
        have m18 := s8.at m17 (by simp)
        have m28 : tg g6 x 5 D2 = 14 := (s8.tag m17).trans m2
        refine ⟨x, dx2, tg g6 x 5, { F with F := F', pl := (pool + there ps : Nat) }, a, ps, rfl, P8.wf, P8.fr, P8.img, ?_, upd_same, tg_same, fun ll F2 leads g9 H9 s9 B9 C9 L9 => ⟨rfl, ?_⟩⟩
        · show cnt F' + there ps ≤ F'.length
          omega
        · have P9 := P8.chg s9 B9
          have m19 := s9.at m18 (by rw [m28]; decide)
          have m29 : g9 D2 = 14 := (s9.tag m18).trans m28
          obtain ⟨H10, st10, s10, P10⟩ := P9.fld "part" (.ref x) (by show 4 < 1000; decide)
          refine ⟨_, rfl, H10, st10, fun c nc => ?_⟩
          have C10 := C9.stp s10 (by simp)
          have m110 := s10.at m19 (by rw [m29]; decide)
          have s11 : Stp [] g9 H10 (tg g9 c 10) (upd H10 c (.dK [])) := .new nc 10
          have P11 := P10.stp s11
          obtain ⟨H12, st12, s12, P12⟩ := P11.fld "changed" (.ref c) (by show 5 < 1000; decide)
          refine ⟨_, rfl, H12, st12, by show 0 ≤ sizeLine; omega, fun l nl => ?_⟩
          have c12 : H12 c = some (.dK []) := s12.at upd_same (by rw [tg_same]; decide)
          have gc12 : tg g9 c 10 c = 10 := tg_same
          have s13 : Stp [] (tg g9 c 10) H12 (tg (tg g9 c 10) l 11) (upd H12 l (.lst [])) := .new nl 11
          have P13 := P12.stp s13
          obtain ⟨H14, st14, s14, P14⟩ := P13.fld "answers" (.ref l) (by show 6 < 1000; decide)
          refine ⟨_, rfl, H14, st14, ?_⟩
          have sB : Stp ALL g9 H10 (tg (tg g9 c 10) l 11) H14 := (s11.mono (by decide)).trans ((s12.mono (by decide)).trans ((s13.mono (by decide)).trans (s14.mono (by decide))))
          have sC : Stp [9] g9 H10 (tg (tg g9 c 10) l 11) H14 := (s11.mono (by decide)).trans ((s12.mono (by decide)).trans ((s13.mono (by decide)).trans (s14.mono (by decide))))
          have C14 := C10.stp sC (by simp)
          have m114 := sC.at m110 (by rw [m29]; decide)
          have m214 : tg (tg g9 c 10) l 11 D2 = 14 := (sC.tag m110).trans m29
          have sD : Stp [9] (tg g9 c 10) H12 (tg (tg g9 c 10) l 11) H14 := (s13.mono (by decide)).trans (s14.mono (by decide))
          have c14 := sD.at c12 (by rw [gc12]; decide)
          have gc14 : tg (tg g9 c 10) l 11 c = 10 := (sD.tag c12).trans gc12
          have l14 := s14.at (upd_same (H := H12) (a := l) (o := .lst [])) (by rw [tg_same]; decide)
          have sE : Stp ALL g H (tg (tg g9 c 10) l 11) H14 := sA.trans (s6.trans ((s7.mono (by decide)).trans ((s8.mono (by decide)).trans ((s9.mono (by decide)).trans ((s10.mono (by decide)).trans sB)))))
          refine k ⟨p, c, l, l, l, D2, { F with F := F2, pl := (pool + there ps : Nat) }, S, ⟨x, ll, leads⟩, 0, [], [], [], [], mine⟩ _ H14 sE ⟨P14.wf, ⟨dx, P14.ob⟩, P14.fr, P14.sh, C14, c14, l14, m114, P14.t9, gc14, tg_same, m214⟩ ⟨rfl, rfl, rfl, rfl, rfl, er, em, rfl, ?_, m3, m4, fun t ht => ?_, ?_, L9.inj, ?_, fun j f hj hm => ?_, ?_⟩
          · show F2.length = _
            have := L9.fl
            exact this.trans m7
          · show frW F2 t = _
            have : F2[t]? = F'[t]? := L9.old t fun j hj => by
              have h3 := L9.new j t hj
              have h4 := m5 t ht
              unfold frW fPg at h4
              rw [List.getElem?_map, show F'[t]? = some none from h3] at h4
              cases h4
            have h5 := m5 t ht
            unfold frW fPg at h5 ⊢
            rw [List.getElem?_map] at h5 ⊢
            rw [this]; exact h5
          · have := L9.pg
            rw [List.take_length] at this
            exact this
          · exact L9.tk
          · have h3 := L9.new j f hj
            have h4 := m5 f hm
            unfold frW fPg at h4
            rw [List.getElem?_map, show F'[f]? = some none from h3] at h4
            cases h4
          · have := L9.c
            rw [List.take_length] at this
            show cnt F2 = _
            rw [this]
            show cnt F' + there ps = _
            rw [m6]
abbrev N_look_at_shadows : List Str := ["pages", "most", "pool"]
theorem sc_look_at_shadows : FnScope N_look_at_shadows ["pages", "most", "pool"] (defScope s_look_at_shadows) := ⟨rfl, rfl, rfl, by decide +kernel, rfl, by decide +kernel, by decide +kernel⟩
def sp_look_at_shadows (K : PySem.W.Frag) : Sp := fun vs H Q _ => ∃ (a : Addr) (ps : List Pg) (most pool : Int), vs = [.ref a, .int most, .int pool] ∧ ImgAt H a ps ∧ 1 ≤ most ∧ most ≤ 12 ∧ 2 ≤ pool ∧ pool ≤ 9 ∧ ∀ H', Same H H' → Q .non H'
theorem ok_look_at_shadows (T : Txt K mg) : DOk P w K mg base CX0 5 ("look_at_shadows", none) ["pages", "most", "pool"] (sp_look_at_shadows K) := by
  refine dok T.d_look_at_shadows sc_look_at_shadows (fun _ _ _ _ _ _ us hl => match us, hl with | [_, _, _], _ => rfl) (fun vs H Q E h => ?_) (fun cdv A outer s H vs Q E hr h => ?_)
  · obtain ⟨a, ps, most, pool, rfl, I, h1, h2, h3, h4, k⟩ := h
    rfl
  · obtain ⟨a, ps, most, pool, rfl, I, h1, h2, h3, h4, k⟩ := h
    refine ⟨_, (PSs.nox (pss_cons (ps_if (pt_not (pt_val (pe_g (ok_is_image T) (hr.mono (by decide)) T.g_is_image pass0 (pa_cons (pv 0) pa_nil)))) (pss_one ps_never) pss_nil)
      (pss_cons (ps_expr (pe_mk T.mk_Shelf (ok_Shelf_init T) (hr.mono (by decide)) T.g_Shelf pass0 (pa_cons (pv 1) pa_nil)))
      (pss_one (ps_if (PW.pt (pw_or (pt_not (pt_val (pe_g (ok_is_whole T) (hr.mono (by decide)) T.g_is_whole pass0 (pa_cons (pv 2) pa_nil)))) (pw_or1 (pt_not (pt_chain op_le op_le pe_int (pv 2) pe_int))))) (pss_one ps_never) pss_nil))))), ?_⟩
    refine ⟨_, rfl, a, ps, rfl, I, fun H1 s1 => ⟨true, rfl, iteF ?_⟩⟩
    refine ⟨_, rfl, fun x dx2 nx ndx nxd => ⟨x, dx2, most, tg (fun _ => 0) x 7, rfl, h1, h2, upd_same, tg_same, fun l g1 H2 s2 B2 => ⟨rfl, ?_⟩⟩⟩
    have sm : Same H H2 := fun b o e => by
      have e1 := s1 _ _ e
      have n1 : b ≠ x := ne_of_none e1 nx
      have n2 : b ≠ dx2 := ne_of_none e1 ndx
      refine s2.at (by rw [upd_ne n1, upd_ne n2]; exact e1) ?_
      rw [tg_ne n1]; decide
    refine ⟨_, rfl, pool, rfl, true, rfl, iteF ⟨_, rfl, _, _, rfl, rfl, _, rfl, ifT (decide_eq_true h3) ⟨_, _, rfl, rfl, _, rfl, ifF (by rw [decide_eq_true h4]; rfl) (k H2 sm)⟩⟩⟩
theorem cutV1 {x : V} {xs : List V} : cutV (x :: xs) (some 1) none = xs := by
  unfold cutV
  have e1 : HT.sIx (x :: xs).length 0 (some 1) = 1 := by
    rw [show (some 1 : Option Int) = some ((1 : Nat) : Int) from rfl, HT.sIx_nat, List.length_cons]
    omega
  have e2 : HT.sIx (x :: xs).length (x :: xs).length none = (x :: xs).length := by simp [HT.sIx]
  rw [e1, e2]
  show (xs.take (xs.length + 1 - 1)) = xs
  rw [Nat.add_sub_cancel]
  exact List.take_length
theorem ke_done {g2 : Addr → Nat} {H2 H3 H5 : Hp} {S : Wy} {p dx2 c q : Addr} {F : Fr} {most : Int} {pool : Nat} {ps : List Pg} (ob2 : H2 S.me = some (.ins (He.ga K "Shadows") dx2 (fsKe S))) (B : KeAt K g2 H2 S) (T2 : KeT S p F most pool ps) (h3 : 2 ≤ pool) (hsz : pool + there ps ≤ F.F.length) (nc : H2 c = none)
    (e3 : H3 = upd (upd H2 c (.dK [])) S.me (.ins (He.ga K "Shadows") dx2 (putF "opened" (.ref c) (fsKe S)))) (nq : H3 q = none)
    (e5 : H5 = upd (upd H3 q (.lst (S.mine.tail.map natV))) S.me (.ins (He.ga K "Shadows") dx2 (putF "spare" (.ref q) (putF "opened" (.ref c) (fsKe S))))) :
    ∃ g' S', Stp ALL g2 H2 g' H5 ∧ WyAt K g' H5 S' ∧ S'.me = p ∧ S'.f.fr = F.fr ∧ S'.abs = ⟨ps, 0, [], most, [], (F.F.length : Int) - (pool + there ps : Nat)⟩ ∧ Wok S' noBad := by
  have n1 : Stp [9] g2 H2 (tg g2 c 12) (upd H2 c (.dK [])) := .new nc 12
  have ob3 : upd H2 c (.dK []) S.me = some (.ins (He.ga K "Shadows") dx2 (fsKe S)) := by rw [upd_ne (ne_of_none ob2 nc)]; exact ob2
  have t93 : tg g2 c 12 S.me = 9 := (n1.tag ob2).trans B.t9
  have n2 : Stp [9] (tg g2 c 12) (upd H2 c (.dK [])) (tg g2 c 12) H3 := by rw [e3]; exact .put ob3 (by rw [t93]; simp)
  have s3 := n1.trans n2
  have c3 := n2.at (upd_same (H := H2) (a := c) (o := .dK [])) (by rw [tg_same]; decide)
  have ob33 : H3 S.me = some (.ins (He.ga K "Shadows") dx2 (putF "opened" (.ref c) (fsKe S))) := by rw [e3]; exact upd_same
  have n3 : Stp [9] (tg g2 c 12) H3 (tg (tg g2 c 12) q 13) (upd H3 q (.lst (S.mine.tail.map natV))) := .new nq 13
  have ob4 : upd H3 q (.lst (S.mine.tail.map natV)) S.me = some (.ins (He.ga K "Shadows") dx2 (putF "opened" (.ref c) (fsKe S))) := by rw [upd_ne (ne_of_none ob33 nq)]; exact ob33
  have t94 : tg (tg g2 c 12) q 13 S.me = 9 := (n3.tag ob33).trans t93
  have n4 : Stp [9] (tg (tg g2 c 12) q 13) (upd H3 q (.lst (S.mine.tail.map natV))) (tg (tg g2 c 12) q 13) H5 := by rw [e5]; exact .put ob4 (by rw [t94]; simp)
  have s5 := s3.trans (n3.trans n4)
  have c5 := (n3.trans n4).at c3 (by rw [tg_same]; decide)
  have gc5 : tg (tg g2 c 12) q 13 c = 12 := ((n3.trans n4).tag c3).trans tg_same
  have q5 := n4.at (upd_same (H := H3) (a := q) (o := .lst (S.mine.tail.map natV))) (by rw [tg_same]; decide)
  obtain ⟨top, rest, hm⟩ : ∃ top rest, S.mine = top :: rest := by
    have := T2.ml
    cases e : S.mine with
    | nil => rw [e] at this; simp at this; omega
    | cons x r => exact ⟨x, r, rfl⟩
  refine ⟨_, { S with op := c, sp := q, opK := [], spare := S.mine.tail }, s5.mono (by decide), ⟨s5.wf B.wf, ⟨dx2, by rw [e5, upd_same]; rfl⟩, B.fr.stp s5 (by decide), B.sh.stp s5 (by decide), B.pt.stp s5 (by decide), s5.at B.ch_ (by rw [B.t10]; decide), s5.at B.an_ (by rw [B.t11]; decide), c5, q5, s5.at B.mn_ (by rw [B.t14]; decide), (s5.tag ob2).trans B.t9, (s5.tag B.ch_).trans B.t10, (s5.tag B.an_).trans B.t11, gc5, tg_same, (s5.tag B.mn_).trans B.t14, ?_, .nil⟩, T2.me, T2.fr, ?_, top, rest, fun _ => none, ⟨hm, ⟨⟨zeros, T2.mz top (by rw [hm]; exact List.mem_cons_self), fun o ho => ?_⟩, (fun o t _ z => by cases z), (fun o o' t _ _ z => by cases z), ?_, ?_, ?_, .inr ?_, by rw [← hm]; exact T2.mnd, fun t ht => ⟨zeros, T2.mz t (by rw [hm]; exact ht)⟩⟩, T2.inj, T2.tk, fun j f hj => by rw [← hm]; exact T2.apart j f hj, ?_, ?_, ?_⟩, fun m _ _ => .inl rfl⟩
  · show KOk S.chK
    rw [T2.chK]; exact .nil
  · have el : S.s.line = [] := by unfold Sh.line; rw [T2.rows]; rfl
    show Pl.mk (wPg S.f.F S.p.leads) S.base S.s.line S.s.most S.said ((S.f.F.length : Int) - S.f.pl) = _
    rw [T2.pg, T2.base, el, T2.most, T2.said, T2.pl, T2.len]
  · have : ∀ o : Fin 8, zeros.getD o.val 0 = 0 := by decide
    exact this ⟨o, ho⟩
  · show ∀ t ∈ S.mine.tail, t ∈ rest
    rw [hm]; exact fun t ht => ht
  · show S.mine.tail.Nodup
    have := T2.mnd
    rw [hm] at this ⊢
    exact (List.nodup_cons.mp this).2
  · show ∀ t ∈ S.mine.tail, frW S.f.F t = some zeros
    intro t ht
    exact T2.mz t (List.mem_of_mem_tail ht)
  · show S.mine.tail ≠ []
    have := T2.ml
    rw [hm] at this ⊢
    intro z
    have z : rest = [] := z
    rw [z] at this
    simp at this
    omega
  · show (cnt S.f.F : Int) ≤ S.f.pl
    rw [T2.c, T2.pl]
    exact Int.le_refl _
  · show S.f.pl ≤ S.f.F.length
    rw [T2.pl, T2.len]
    omega
  · have el : S.s.line = [] := by unfold Sh.line; rw [T2.rows]; rfl
    show LineOk S.s.line
    rw [el]
    exact ⟨fun r hr => by (cases hr), List.nodup_nil⟩
abbrev N_Shadows_init : List Str := ["self", "frames", "pages", "most", "pool"]
theorem sc_Shadows_init : FnScope N_Shadows_init ["self", "frames", "pages", "most", "pool"] (defScope s_Shadows_init) := ⟨rfl, rfl, rfl, by decide +kernel, rfl, by decide +kernel, by decide +kernel⟩
def sp_Shadows_init (K : PySem.W.Frag) : Sp := fun vs H Q _ => ∃ (p dx : Addr) (g : Addr → Nat) (F : Fr) (a : Addr) (ps : List Pg) (most : Int) (pool : Nat), vs = [.ref p, .ref F.fr, .ref a, .int most, .int (pool : Int)] ∧ Wf g H ∧ FrAt K g H F ∧ ImgZ g H a ps ∧ 1 ≤ most ∧ most ≤ 12 ∧ 2 ≤ pool ∧ pool ≤ 9 ∧ F.pl = 0 ∧ cnt F.F = 0 ∧ pool + there ps ≤ F.F.length ∧ H p = some (.ins (He.ga K "Shadows") dx []) ∧ g p = 9 ∧
  ∀ S g' H', Stp ALL g H g' H' → WyAt K g' H' S → S.me = p → S.f.fr = F.fr → S.abs = ⟨ps, 0, [], most, [], (F.F.length : Int) - (pool + there ps : Nat)⟩ → Wok S noBad → Q .non H'
theorem ok_Shadows_init (T : Txt K mg) : DOk P w K mg base CX0 10 ("Shadows", some "__init__") ["self", "frames", "pages", "most", "pool"] (sp_Shadows_init K) := by
  refine dok T.d_Shadows_init sc_Shadows_init (fun _ _ _ _ _ _ us hl => match us, hl with | [_, _, _, _, _], _ => rfl) (fun vs H Q E h => ?_) (fun cdv A outer s H vs Q E hr h => ?_)
  · obtain ⟨p, dx, g, F, a, ps, most, pool, rfl, wf, A, I, h1, h2, h3, h4, hpl, hcn, hsz, hp, t9, k⟩ := h
    rfl
  · obtain ⟨p, dx, g, F, a, ps, most, pool, rfl, wf, A, I, h1, h2, h3, h4, hpl, hcn, hsz, hp, t9, k⟩ := h
    refine ⟨_, (PSs.nox (pss_cons (ps_expr (pe_g (ok_look_at_shadows T) (hr.mono (by decide)) T.g_look_at_shadows pass0 (pa_cons (pv 2) (pa_cons (pv 3) (pa_cons (pv 4) pa_nil)))))
      (pss_cons (ps_expr (pe_k T.y_Kept_init T.g_Kept (ok_Kept_init T) (hr.mono (by decide)) pass0 (pa_cons (pv 0) (pa_cons (pv 1) (pa_cons (pv 2) (pa_cons (pv 3) (pa_cons (pv 4) pa_nil)))))))
      (pss_cons (ps_f (pv 0) pe_dnewK T.c_Shadows T.n_Shadows_opened)
      (pss_one (ps_f (pv 0) (pe_slice sl_list (pe_f (pv 0) T.c_Shadows T.n_Shadows_mine) (po_some pe_int) po_none) T.c_Shadows T.n_Shadows_spare)))))), ?_⟩
    refine ⟨_, rfl, _, rfl, _, rfl, a, ps, most, (pool : Int), rfl, I.img, h1, h2, by omega, by omega, fun H1 s1 => ?_⟩
    have st1 : Stp ALL g H g H1 := .same s1
    refine ⟨_, rfl, _, rfl, _, rfl, _, rfl, _, rfl, p, dx, g, F, a, ps, most, pool, rfl, st1.wf wf, A.same s1, I.stp (T := []) (.same s1) (by simp), h1, h2, hpl, hcn, hsz, s1 _ _ hp, t9, fun S g2 H2 s2 B2 T2 => ?_⟩
    obtain ⟨dx2, ob2⟩ := B2.ob
    obtain rfl : S.me = p := T2.me
    refine fun c nc => ⟨_, rfl, _, ⟨S.me, dx2, fsKe S, rfl, by rw [upd_ne (ne_of_none ob2 nc)]; exact ob2, by show 7 < 1000; decide, rfl⟩, ?_⟩
    have mn3 : upd (upd H2 c (.dK [])) S.me (.ins (He.ga K "Shadows") dx2 (putF "opened" (.ref c) (fsKe S))) S.mn = some (.lst (S.mine.map natV)) := by
      rw [upd_ne (tne B2.t14 B2.t9), upd_ne (ne_of_none B2.mn_ nc)]; exact B2.mn_
    refine ⟨_, rfl, _, ⟨S.me, dx2, _, rfl, upd_same, rfl⟩, 1, rfl, S.mn, _, rfl, SqL.of mn3, fun q nq => ?_⟩
    have qme : q ≠ S.me := fun z => by rw [z, upd_same] at nq; cases nq
    have ecut : cutV (S.mine.map natV) (some 1) none = S.mine.tail.map natV := by
      have := T2.ml
      cases e : S.mine with
      | nil => rw [e] at this; simp at this; omega
      | cons x r => exact cutV1
    refine ⟨_, rfl, _, ⟨S.me, dx2, putF "opened" (.ref c) (fsKe S), rfl, by rw [upd_ne qme.symm]; exact upd_same, by show 8 < 1000; decide, rfl⟩, ?_⟩
    obtain ⟨g5, S5, s5, A5, m5, f5, a5, w5⟩ := ke_done ob2 B2 T2 h3 hsz nc rfl nq rfl
    rw [← ecut] at s5 A5
    exact k S5 g5 _ (st1.trans (s2.trans s5)) A5 m5 f5 a5 w5
end
end Sp

set_option Elab.async false
set_option linter.all false
set_option maxRecDepth 100000
set_option maxHeartbeats 4000000
namespace Sp
open PySem PySem.Spec PyProof.Rows L2
section
variable {P : Program} {w : World} {K : PySem.W.Frag} {mg : Str → Option Value} {base : Heap}
abbrev N_law_cell_at : List Str := ["_law_script", "_law_k"]
theorem sc_law_cell_at : FnScope N_law_cell_at ["_law_script", "_law_k"] (defScope s_law_cell_at) := ⟨rfl, rfl, rfl, by decide +kernel, rfl, by decide +kernel, by decide +kernel⟩
def sp_law_cell_at (K : PySem.W.Frag) : Sp := fun vs H Q _ => ∃ (a : Addr) (xs : List Int) (k : Nat), vs = [.ref a, .int (k : Int)] ∧ SqL K H a (xs.map V.int) ∧ Q (.int (xs.getD k 0)) H
theorem ok_law_cell_at (T : Txt K mg) : DOk P w K mg base CX0 1 ("_law_cell_at", none) ["_law_script", "_law_k"] (sp_law_cell_at K) := by
  refine dok T.d_law_cell_at sc_law_cell_at (fun _ _ _ _ _ _ us hl => match us, hl with | [_, _], _ => rfl) (fun vs H Q E h => ?_) (fun cdv A outer s H vs Q E hr h => ?_)
  · obtain ⟨a, xs, n, rfl, hq, k⟩ := h
    rfl
  · obtain ⟨a, xs, n, rfl, hq, k⟩ := h
    refine ⟨_, (PSs.nox (pss_cons (ps_if (pt_cmpR op_lt (pv 1) (pe_callB call_len_seq rfl T.b_len PySem.boot_len (pa_cons (pv 0) pa_nil)) (nomark _)) (pss_one (ps_ret (pe_ix (r := rIxL K) ix_list (pv 0) (pv 1) (fun _ _ => rfl)))) pss_nil)
      (pss_one (ps_ret pe_int)))), ?_⟩
    refine ⟨_, rfl, _, rfl, _, _, rfl, .inl hq, _, _, rfl, rfl, _, rfl, ?_⟩
    rw [List.length_map]
    rw [List.getD_eq_getElem?_getD] at k
    by_cases h : n < xs.length
    · refine ifT (decide_eq_true (by omega)) ⟨_, rfl, _, rfl, _, _, _, _, rfl, rfl, hq, atI_nat (v := .int xs[n]) (by rw [List.getElem?_map, List.getElem?_eq_getElem h]; rfl), ?_⟩
      rw [List.getElem?_eq_getElem h] at k
      exact k
    · refine ifF (decide_eq_false (by omega)) ?_
      rw [List.getElem?_eq_none (by omega)] at k
      exact k
abbrev N_law_whole : List Str := ["_law_found"]
theorem sc_law_whole : FnScope N_law_whole ["_law_found"] (defScope s_law_whole) := ⟨rfl, rfl, rfl, by decide +kernel, rfl, by decide +kernel, by decide +kernel⟩
def sp_law_whole : Sp := fun vs H Q _ => ∃ i : Int, vs = [.int i] ∧ Q (.bl true) H
theorem ok_law_whole (T : Txt K mg) : DOk P w K mg base CX0 1 ("_law_whole", none) ["_law_found"] (sp_law_whole) := by
  refine dok T.d_law_whole sc_law_whole (fun _ _ _ _ _ _ us hl => match us, hl with | [_], _ => rfl) (fun vs H Q E h => ?_) (fun cdv A outer s H vs Q E hr h => ?_)
  · obtain ⟨i, rfl, k⟩ := h
    rfl
  · obtain ⟨i, rfl, k⟩ := h
    refine ⟨_, (PSs.nox (pss_one (ps_ret (pe_and (pe_isi (ty := "int") T.b_isinstance T.b_int (pv 0)) (pe_one (pe_not (pe_isi (ty := "bool") T.b_isinstance T.b_bool (pv 0)))))))), ?_⟩
    exact ⟨_, rfl, _, _, _, _, true, rfl, .ty "int", .base (.int i), k_int_int, _, rfl, iteT ⟨_, rfl, _, _, _, _, false, rfl, .ty "bool", .base (.int i), k_int_bool, _, rfl, k⟩⟩
abbrev N_law_by : List Str := ["_law_cell", "_law_by_here", "_law_digits", "_law_turn", "_law_one"]
theorem sc_law_by : FnScope N_law_by ["_law_cell", "_law_by_here"] (defScope s_law_by) := ⟨rfl, rfl, rfl, by decide +kernel, rfl, by decide +kernel, by decide +kernel⟩
def sp_law_by : Sp := fun vs H Q _ => ∃ c h : Int, vs = [.int c, .int h] ∧ ∀ r : Int, 0 ≤ r → r < 1000000000000 → Q (.int r) H
theorem ok_law_by (T : Txt K mg) : DOk P w K mg base CX0 1 ("_law_by", none) ["_law_cell", "_law_by_here"] (sp_law_by) := by
  refine dok T.d_law_by sc_law_by (fun _ _ _ _ _ _ us hl => match us, hl with | [_, _], _ => rfl) (fun vs H Q E h => ?_) (fun cdv A outer s H vs Q E hr h => ?_)
  · obtain ⟨c, h, rfl, k⟩ := h
    rfl
  · obtain ⟨c, h, rfl, k⟩ := h
    refine ⟨_, (PSs.nox (pss_cons (ps_if (pt_cmpR op_ge (pv 0) (pe_op op_pow pe_int pe_int) (nomark _)) (pss_cons (ps_set (i := 2) sc_law_by.nd rfl (Or.inl rfl) (pe_op op_fdivW (pv 0) pe_int))
      (pss_cons (ps_for PassesOwn.never rfl (pi_range1 rfl T.b_range (pa_cons (pe_op op_mod (pv 1) pe_int) pa_nil)) (pg_name (i := 3) sc_law_by.nd rfl (Or.inl rfl)) (pss_one (ps_set (i := 2) sc_law_by.nd rfl (Or.inl rfl) (pe_op op_fdivW (pv 2) (pe_op op_pow pe_int pe_int)))))
      (pss_one (ps_ret (pe_op op_mod (pv 2) (pe_op op_pow pe_int pe_int)))))) pss_nil)
      (pss_cons (ps_set (i := 4) sc_law_by.nd rfl (Or.inl rfl) (pe_op op_mod (pe_op op_mulX (pe_op op_add (pe_op op_mod (pv 0) pe_int) (pe_op op_mod (pv 1) pe_int)) pe_int) pe_int))
      (pss_one (ps_ret (pe_op op_mod (pe_op op_mulX (pv 4) (pv 4)) pe_int)))))), ?_⟩
    refine ⟨_, rfl, _, _, rfl, rfl, ⟨by decide, by decide, by decide⟩, _, _, rfl, rfl, _, rfl, ?_⟩
    by_cases h1 : (10 : Int) ^ (18 : Int).toNat ≤ c
    · refine ifT (decide_eq_true h1) ⟨_, rfl, _, _, rfl, rfl, ⟨by decide, by decide⟩, _, rfl, _, _, rfl, rfl, (by show (0 : Int) < 14; decide), _, rfl, by omega, ?_, ?_⟩
      · have := sizeLine_eq
        omega
      · refine for_range (n := (h % 14).toNat) (lo := 0) (fun i σ H' => H' = H ∧ ∃ (d : Int) (v1 v2 : Option V), σ = [some (.int c), some (.int h), some (.int d), v1, v2]) ⟨rfl, _, _, _, rfl⟩ ?_ ?_
        · rintro i σ H' hi ⟨rfl, d, v1, v2, rfl⟩
          exact ⟨_, rfl, _, _, rfl, rfl, ⟨by decide, by decide, by decide⟩, _, _, rfl, rfl, ⟨by decide, by decide⟩, rfl, _, _, _, rfl⟩
        · rintro σ H' ⟨rfl, d, v1, v2, rfl⟩
          have e12 : (10 : Int) ^ (12 : Int).toNat = 1000000000000 := by decide
          refine ⟨_, rfl, _, _, rfl, rfl, ⟨by decide, by decide, by decide⟩, _, _, rfl, rfl, (by show (0 : Int) < _; decide), ?_⟩
          rw [e12]
          exact k _ (by omega) (by omega)
    · have a1 : 0 ≤ c % 1000003 := by omega
      have a2 : c % 1000003 < 1000003 := by omega
      have b1 : 0 ≤ h % 65521 := by omega
      have b2 : h % 65521 < 65521 := by omega
      refine ifF (decide_eq_false h1) ⟨_, rfl, _, _, rfl, rfl, (by show (0 : Int) < 1000003; decide), _, rfl, _, _, rfl, rfl, (by show (0 : Int) < 65521; decide), _, _, rfl, rfl, _, _, rfl, rfl, mulx_ok (a := 21) (b := 16) (by omega) (by decide) (by decide), _, _, rfl, rfl, (by show (0 : Int) < 2147483647; decide), ?_⟩
      have c1 : 0 ≤ (c % 1000003 + h % 65521) * 48271 % 2147483647 := by omega
      have c2 : (c % 1000003 + h % 65521) * 48271 % 2147483647 < 2147483647 := by omega
      refine ⟨_, rfl, _, rfl, _, _, rfl, rfl, mulx_ok (a := 31) (b := 31) (by omega) (by omega) (by decide), _, _, rfl, rfl, (by show (0 : Int) < 2147483629; decide), k _ (by omega) (by omega)⟩
def marks16 : List Int := [3, 3, 3, 1, 7, 3, 19, 3, 11, 27, 31, 5, 2, 3, 0, 227]
theorem marks16_ok : ∀ i : Fin 16, 0 ≤ marks16.getD i.val 0 ∧ marks16.getD i.val 0 ≤ 255 ∧ (marks16.map V.int)[i.val]? = some (.int (marks16.getD i.val 0)) := by
  intro i
  refine ⟨?_, ?_, ?_⟩
  · revert i; decide
  · revert i; decide
  · rw [List.getElem?_map, List.getElem?_eq_getElem (show i.val < marks16.length from i.isLt), List.getD_eq_getElem?_getD, List.getElem?_eq_getElem (show i.val < marks16.length from i.isLt)]; rfl
theorem there_len : ∀ l : List Pg, there l ≤ l.length
  | [] => Nat.le_refl _
  | none :: l => Nat.le_succ_of_le (there_len l)
  | some _ :: l => Nat.succ_le_succ (there_len l)
abbrev N_law_row_by : List Str := ["_law_mixed", "_law_many", "_law_marks", "_law_page"]
theorem sc_law_row_by : FnScope N_law_row_by ["_law_mixed", "_law_many"] (defScope s_law_row_by) := ⟨rfl, rfl, rfl, by decide +kernel, rfl, by decide +kernel, by decide +kernel⟩
def sp_law_row_by : Sp := fun vs H Q _ => ∃ m n : Int, vs = [.int m, .int n] ∧ 0 ≤ m ∧ m < 1000000000001 ∧ 0 ≤ n ∧ n ≤ 24 ∧ ∀ r H', Same H H' → IsWord r → Q (.int r) H'
theorem ok_law_row_by (T : Txt K mg) : DOk P w K mg base CX0 1 ("_law_row_by", none) ["_law_mixed", "_law_many"] (sp_law_row_by) := by
  refine dok T.d_law_row_by sc_law_row_by (fun _ _ _ _ _ _ us hl => match us, hl with | [_, _], _ => rfl) (fun vs H Q E h => ?_) (fun cdv A outer s H vs Q E hr h => ?_)
  · obtain ⟨m, n, rfl, m0, m1, n0, n1, k⟩ := h
    rfl
  · obtain ⟨m, n, rfl, m0, m1, n0, n1, k⟩ := h
    refine ⟨_, (PSs.nox (pss_cons (ps_set (i := 2) sc_law_row_by.nd rfl (Or.inl rfl) (pe_ix (r := rIxL K) ix_list (pe_lst (pa_cons pe_int (pa_cons pe_int (pa_cons pe_int (pa_cons pe_int (pa_cons pe_int (pa_cons pe_int (pa_cons pe_int (pa_cons pe_int (pa_cons pe_int (pa_cons pe_int (pa_cons pe_int (pa_cons pe_int (pa_cons pe_int (pa_cons pe_int (pa_cons pe_int (pa_cons pe_int pa_nil))))))))))))))))) (pe_op op_mod (pe_op op_fdivW (pv 0) pe_int) pe_int) (fun _ _ => rfl)))
      (pss_cons (ps_set (i := 3) sc_law_row_by.nd rfl (Or.inl rfl) (pe_op op_mod (pe_op op_fdivW (pv 0) pe_int) (pe_op op_add (pv 1) pe_int)))
      (pss_cons (ps_if (pt_cmpR op_eq (pe_op op_mod (pv 0) pe_int) pe_int (nomark _)) (pss_one (ps_set (i := 3) sc_law_row_by.nd rfl (Or.inl rfl) (pe_op op_sub (pe_op op_sub (pe_op op_pow pe_int pe_int) pe_int) (pv 3)))) pss_nil)
      (pss_cons (ps_if (pt_cmpR op_eq (pe_op op_mod (pv 0) pe_int) pe_int (nomark _)) (pss_one (ps_ret (pe_op op_mod (pe_op op_mulX (pv 0) (pv 0)) (pe_op op_pow pe_int pe_int)))) pss_nil)
      (pss_one (ps_ret (pe_op op_add (pe_op op_mulX (pv 3) pe_int) (pv 2))))))))), ?_⟩
    refine ⟨by show 16 ≤ sizeLine; decide, fun l nl => ?_⟩
    obtain ⟨j, hj, hj16⟩ : ∃ j : Nat, m / 16 % 16 = (j : Int) ∧ j < 16 := ⟨(m / 16 % 16).toNat, by omega, by omega⟩
    obtain ⟨q1, q2, q3⟩ := marks16_ok ⟨j, hj16⟩
    have s1 : Same H (upd H l (.lst (marks16.map V.int))) := same_new nl
    refine ⟨_, rfl, _, _, rfl, rfl, ⟨by decide, by decide⟩, _, _, rfl, rfl, (by show (0 : Int) < 16; decide), l, marks16.map V.int, m / 16 % 16, _, rfl, rfl, SqL.of upd_same, by rw [hj]; exact atI_nat (j := j) q3, ?_⟩
    refine ⟨_, rfl, _, _, rfl, rfl, ⟨by decide, by decide⟩, _, rfl, _, _, rfl, rfl, _, _, rfl, rfl, (by show (0 : Int) < n + 1; omega), ?_⟩
    have g1 : 0 ≤ m / 256 % (n + 1) := Int.emod_nonneg _ (by omega)
    have g2 : m / 256 % (n + 1) < n + 1 := Int.emod_lt_of_pos _ (by omega)
    generalize hmk : marks16.getD j 0 = mk at q1 q2 q3 ⊢
    have e40 : (2 : Int) ^ (40 : Int).toNat = 1099511627776 := by decide
    have e48 : (2 : Int) ^ (48 : Int).toNat = 281474976710656 := by decide
    have back : ∀ (pg : Int) (D : Ends), D.rt = Q → 0 ≤ pg → pg < 1099511627776 → tRet (tOp (rI0 fun i j => .int (i + j)) (tOp (rI CMulX fun i j => .int (i * j)) (tVar 3) (tC (.int 256))) (tVar 2)) D [some (.int m), some (.int n), some (.int mk), some (.int pg)] (upd H l (.lst (marks16.map V.int))) := by
      rintro pg D rfl h0 h1
      exact ⟨_, rfl, _, _, rfl, rfl, mulx_ok (a := 40) (b := 9) (by omega) (by decide) (by decide), _, rfl, _, _, rfl, rfl, k _ _ s1 ⟨by omega, by omega⟩⟩
    refine ⟨_, rfl, _, _, rfl, rfl, (by show (0 : Int) < 16; decide), rfl, _, rfl, ?_⟩
    by_cases h0 : m % 16 = 0
    · refine ifT (decide_eq_true (congrArg V.int h0)) ⟨_, _, rfl, rfl, ⟨by decide, by decide, by decide⟩, _, _, rfl, rfl, _, rfl, _, _, rfl, rfl, ?_⟩
      refine ⟨_, rfl, _, _, rfl, rfl, (by show (0 : Int) < 16; decide), rfl, _, rfl, ?_⟩
      refine ifF (decide_eq_false fun z => by injection z with z; omega) ?_
      refine back _ _ rfl ?_ ?_
      · rw [e40]; omega
      · rw [e40]; omega
    · refine ifF (decide_eq_false fun z => h0 (by injection z)) ?_
      refine ⟨_, rfl, _, _, rfl, rfl, (by show (0 : Int) < 16; decide), rfl, _, rfl, ?_⟩
      by_cases h1 : m % 16 = 1
      · refine ifT (decide_eq_true (congrArg V.int h1)) ⟨_, rfl, _, rfl, _, _, rfl, rfl, mulx_ok (a := 40) (b := 40) (by omega) (by omega) (by decide), _, _, rfl, rfl, ⟨by decide, by decide, by decide⟩, _, _, rfl, rfl, (by show (0 : Int) < _; decide), ?_⟩
        rw [e48]
        exact k _ _ s1 ⟨by omega, by omega⟩
      · refine ifF (decide_eq_false fun z => h1 (by injection z)) ?_
        exact back _ _ rfl g1 (by omega)
abbrev N_law_there : List Str := ["_law_pages_here", "_law_words"]
theorem sc_law_there : FnScope N_law_there ["_law_pages_here"] (defScope s_law_there) := ⟨rfl, rfl, rfl, by decide +kernel, rfl, by decide +kernel, by decide +kernel⟩
def sp_law_there (K : PySem.W.Frag) : Sp := fun vs H Q _ => ∃ (a : Addr) (ps : List Pg), vs = [.ref a] ∧ ImgAt H a ps ∧ ∀ H', Same H H' → Q (.int (there ps : Nat)) H'
theorem ok_law_there (T : Txt K mg) : DOk P w K mg base CX0 1 ("_law_there", none) ["_law_pages_here"] (sp_law_there K) := by
  refine dok T.d_law_there sc_law_there (fun _ _ _ _ _ _ us hl => match us, hl with | [_], _ => rfl) (fun vs H Q E h => ?_) (fun cdv A outer s H vs Q E hr h => ?_)
  · obtain ⟨a, ps, rfl, I, k⟩ := h
    rfl
  · obtain ⟨a, ps, rfl, I, k⟩ := h
    refine ⟨_, (PSs.nox (pss_one (ps_ret (pe_callB call_len_seq rfl T.b_len PySem.boot_len (pa_cons (pe_lc (own := [("_law_words", 1)]) (g := gName 1) rfl sc_law_there.nd (pi_list (pv 0)) (blkOk_by (own := [("_law_words", 1)]) (N := N_law_there) (sc := defScope s_law_there) (by decide +kernel)) (fun _ _ _ _ _ => pg_name (i := 1) sc_law_there.nd rfl (Or.inl rfl)) (fun _ _ _ _ _ => (pts_one (pt_cmpR op_notN (pv 1) pe_non (nomark _)))) (fun _ _ _ _ _ => (pv 1))) pa_nil))))), ?_⟩
    obtain ⟨xs, x1, x2, x3⟩ := I.ex
    have hi := I.hi
    refine ⟨_, rfl, a, rfl, ⟨_, SqL.of x1⟩, fun D nD => ?_⟩
    refine lc_list (K := K) (a := a) (xs := xs) (fun i H' => Same H H' ∧ ∃ zs, H' D = some (.lst zs) ∧ zs.length = there (ps.take i)) ⟨same_new nD, [], upd_same, rfl⟩ (fun i H' _ p => SqL.of (p.1 _ _ x1)) (fun i x H' hx q => ?_) (fun H3 q => ?_)
    · have hlt : i < xs.length := (List.getElem?_eq_some_iff.mp hx).1
      obtain ⟨w0, hw⟩ : ∃ w0, ps[i]? = some w0 := ⟨ps[i]'(by omega), List.getElem?_eq_getElem (by omega)⟩
      obtain ⟨y, e1, e2⟩ := x3 i w0 hw
      rw [hx] at e1
      injection e1 with e1
      subst e1
      obtain ⟨q1, zs, q2, q3⟩ := q
      have ht := there_take hw
      cases w0 with
      | none =>
        have ex : x = V.non := e2
        subst ex
        exact ⟨rfl, _, rfl, rfl, _, rfl, q1, zs, q2, by rw [ht, q3]; rfl⟩
      | some ws =>
        obtain ⟨b, rfl, _⟩ := e2
        have hb : there (ps.take i) ≤ 24 := by
          have := there_le ps i
          have := there_len ps
          omega
        refine ⟨rfl, _, rfl, rfl, _, rfl, _, rfl, zs, q2, by rw [q3]; exact small1000 (by omega), same_mut q1 nD, zs ++ [.ref b], upd_same, ?_⟩
        rw [List.length_append, q3, ht]; rfl
    · obtain ⟨q1, zs, q2, q3⟩ := q
      rw [x2, List.take_length] at q3
      refine ⟨_, _, rfl, .inl (SqL.of q2), ?_⟩
      rw [q3]
      exact k H3 q1
abbrev N_law_place : List Str := ["_law_cell", "_law_pick"]
theorem sc_law_place : FnScope N_law_place ["_law_cell"] (defScope s_law_place) := ⟨rfl, rfl, rfl, by decide +kernel, rfl, by decide +kernel, by decide +kernel⟩
def sp_law_place : Sp := fun vs H Q _ => ∃ c : Int, vs = [.int c] ∧ ∀ r H', Same H H' → 0 ≤ r → Q (.int r) H'
theorem ok_law_place (T : Txt K mg) : DOk P w K mg base CX0 2 ("_law_place", none) ["_law_cell"] (sp_law_place) := by
  refine dok T.d_law_place sc_law_place (fun _ _ _ _ _ _ us hl => match us, hl with | [_], _ => rfl) (fun vs H Q E h => ?_) (fun cdv A outer s H vs Q E hr h => ?_)
  · obtain ⟨c, rfl, k⟩ := h
    rfl
  · obtain ⟨c, rfl, k⟩ := h
    refine ⟨_, (PSs.nox (pss_cons (ps_set (i := 1) sc_law_place.nd rfl (Or.inl rfl) (pe_g (ok_law_by T) (hr.mono (by decide)) T.g_law_by pass0 (pa_cons (pv 0) (pa_cons pe_int pa_nil))))
      (pss_cons (ps_if (pt_cmpR op_eq (pe_op op_mod (pv 1) pe_int) pe_int (nomark _)) (pss_one (ps_ret (pe_op op_mod (pe_op op_fdivW (pv 1) pe_int) pe_int))) pss_nil)
      (pss_cons (ps_if (pt_cmpR op_eq (pe_op op_mod (pv 1) pe_int) pe_int (nomark _)) (pss_one (ps_ret (pe_ix (r := rIxL K) ix_list (pe_lst (pa_cons pe_int (pa_cons (pe_op op_sub (pe_op op_pow pe_int pe_int) pe_int) (pa_cons pe_int (pa_cons pe_int pa_nil))))) (pe_op op_mod (pe_op op_fdivW (pv 1) pe_int) pe_int) (fun _ _ => rfl)))) pss_nil)
      (pss_cons (ps_if (pt_cmpR op_lt (pe_op op_mod (pv 1) pe_int) pe_int (nomark _)) (pss_one (ps_ret (pe_op op_mod (pe_op op_fdivW (pv 1) pe_int) pe_int))) pss_nil)
      (pss_one (ps_ret (pe_op op_add (pe_op op_mulX (pe_op op_mod (pe_op op_fdivW (pv 1) pe_int) pe_int) pe_int) (pe_op op_mod (pe_op op_fdivW (pv 1) pe_int) pe_int))))))))), ?_⟩
    refine ⟨_, rfl, c, 742938285, rfl, fun p p0 p1 => ?_⟩
    refine ⟨_, rfl, _, _, rfl, rfl, (by show (0 : Int) < 8; decide), rfl, _, rfl, ?_⟩
    refine ifB (fun _ => ?_) fun _ => ?_
    · exact ⟨_, rfl, _, _, rfl, rfl, ⟨by decide, by decide⟩, _, _, rfl, rfl, (by show (0 : Int) < 512; decide), k _ _ (Same.refl H) (by omega)⟩
    refine ⟨_, rfl, _, _, rfl, rfl, (by show (0 : Int) < 8; decide), rfl, _, rfl, ?_⟩
    refine ifB (fun _ => ?_) fun _ => ?_
    · refine ⟨_, _, rfl, rfl, ⟨by decide, by decide, by decide⟩, _, _, rfl, rfl, by show 4 ≤ sizeLine; decide, fun l nl => ?_⟩
      obtain ⟨j, hj, hj4⟩ : ∃ j : Nat, p / 8 % 4 = (j : Int) ∧ j < 4 := ⟨(p / 8 % 4).toNat, by omega, by omega⟩
      have h4 : ∀ i : Fin 4, ∃ r : Int, 0 ≤ r ∧ ([V.int 512, V.int ((2 : Int) ^ (48 : Int).toNat - 1), V.int 511, V.int 1000000] : List V)[i.val]? = some (.int r) := by
        intro i
        match i with
        | ⟨0, _⟩ => exact ⟨512, by decide, rfl⟩
        | ⟨1, _⟩ => exact ⟨_, by decide, rfl⟩
        | ⟨2, _⟩ => exact ⟨511, by decide, rfl⟩
        | ⟨3, _⟩ => exact ⟨1000000, by decide, rfl⟩
      obtain ⟨r, r0, r1⟩ := h4 ⟨j, hj4⟩
      refine ⟨_, rfl, _, _, rfl, rfl, ⟨by decide, by decide⟩, _, _, rfl, rfl, (by show (0 : Int) < 4; decide), l, _, p / 8 % 4, _, rfl, rfl, SqL.of upd_same, by rw [hj]; exact atI_nat (j := j) r1, k _ _ (same_new nl) r0⟩
    refine ⟨_, rfl, _, _, rfl, rfl, (by show (0 : Int) < 8; decide), _, _, rfl, rfl, _, rfl, ?_⟩
    refine ifB (fun _ => ?_) fun _ => ?_
    · exact ⟨_, rfl, _, _, rfl, rfl, ⟨by decide, by decide⟩, _, _, rfl, rfl, (by show (0 : Int) < 24; decide), k _ _ (Same.refl H) (by omega)⟩
    · exact ⟨_, rfl, _, _, rfl, rfl, ⟨by decide, by decide⟩, _, _, rfl, rfl, (by show (0 : Int) < 4; decide), _, _, rfl, rfl, mulx_ok (a := 8) (b := 8) (by omega) (by decide) (by decide), _, rfl, _, _, rfl, rfl, ⟨by decide, by decide⟩, _, _, rfl, rfl, (by show (0 : Int) < 16; decide), _, _, rfl, rfl, k _ _ (Same.refl H) (by omega)⟩
end
end Sp

set_option Elab.async false
set_option linter.all false
set_option maxRecDepth 100000
set_option maxHeartbeats 4000000
namespace Sp
open PySem PySem.Spec PyProof.Rows L2
section
variable {P : Program} {w : World} {K : PySem.W.Frag} {mg : Str → Option Value} {base : Heap}
theorem sqL_mono {H H' : Hp} {a : Addr} {xs : List V} (h : SqL K H a xs) (s : Same H H') : SqL K H' a xs := by
  rcases h with h | h
  · rcases h with h | ⟨o, h⟩
    · exact .inl (.inl (s _ _ h))
    · exact .inl (.inr ⟨o, s _ _ h⟩)
  · exact .inr h
/-- pages in new lists, listed at L -/
def PgL (H H' : Hp) (L : Addr) (ps : List Pg) : Prop := ∃ xs, H' L = some (.lst xs) ∧ xs.length = ps.length ∧ ∀ (i : Nat) p, ps[i]? = some p → ∃ x, xs[i]? = some x ∧ PgAt H' x p ∧ ∀ b, x = .ref b → H b = none ∧ b ≠ L
theorem PgL.snoc {H H' H2 : Hp} {L : Addr} {ps : List Pg} {xs : List V} {y : V} {q : Pg} (hL : H' L = some (.lst xs)) (hl : xs.length = ps.length) (hx : ∀ (i : Nat) p, ps[i]? = some p → ∃ x, xs[i]? = some x ∧ PgAt H' x p ∧ ∀ b, x = .ref b → H b = none ∧ b ≠ L)
    (s0 : Same H H') (s : Same H' H2) (hy : PgAt H2 y q) (hb : ∀ b, y = .ref b → H' b = none) : PgL H (upd H2 L (.lst (xs ++ [y]))) L (ps ++ [q]) := by
  have keep : ∀ (x : V) (p : Pg) (o : HO), PgAt H2 x p → (∀ b, x = .ref b → b ≠ L) → PgAt (upd H2 L o) x p := fun x p o h hne => by
    cases p with
    | none => exact h
    | some ws =>
      obtain ⟨b, rfl, w1, w2⟩ := h
      exact ⟨b, rfl, by rw [upd_ne (hne b rfl)]; exact w1, w2⟩
  have hbL : ∀ b, y = .ref b → b ≠ L := fun b e z => by
    have := hb b e
    rw [z, hL] at this; cases this
  refine ⟨xs ++ [y], upd_same, by rw [List.length_append, List.length_append, hl]; rfl, fun i p hp => ?_⟩
  rcases snoc_get hp with ⟨e, rfl⟩ | hp
  · refine ⟨y, by rw [e, ← hl, List.getElem?_append_right (Nat.le_refl _), Nat.sub_self]; rfl, keep _ _ _ hy hbL, fun b e => ⟨s0.free (hb b e), hbL b e⟩⟩
  · obtain ⟨x, h1, h2, h3⟩ := hx i p hp
    exact ⟨x, get_left h1, keep _ _ _ (h2.same s) fun b e => (h3 b e).2, h3⟩
def tP2 (K : PySem.W.Frag) : TS := tSeq (tIfS (tAnd (tTest (tOp (rI0 fun i j => V.bl (decide (j < i))) (tVar 5) (tC (V.int 0)))) (tTest (tOp rEq (tOp (rI (fun x j => 0 < j) fun i j => V.int (i % j)) (tVar 3) (tC (V.int 8))) (tC (V.int 2))))) (tAsg (tC V.non) (gName 6)) tNext)
  (tDrop (tBM K "list" rAppend (tVar 4) (tCons (tVar 6) tNil)))
def tP1 (K : PySem.W.Frag) : TS := tSeq (tIfS (tAnd (tTest (tOp (rI0 fun i j => V.bl (decide (j < i))) (tVar 5) (tC (V.int 0)))) (tAnd (tTest (tOp rEq (tOp (rI (fun x j => 0 < j) fun i j => V.int (i % j)) (tVar 3) (tC (V.int 4))) (tC (V.int 1))))
    (tTest (tOp (fun x y H Q => y = V.non ∧ Q (V.bl !decide (x = V.non)) H) (tOp (rIxL K) (tVar 4) (tOp (rI0 fun i j => V.int (i - j)) (tVar 5) (tC (V.int 1)))) (tC V.non)))))
  (tAsg (tCB (fun xs H_1 Q => ∃ p ys, xs = [V.ref p] ∧ (SqL K H_1 p ys ∨ SqT K H_1 p ys) ∧ ∀ (l : Addr), H_1 l = none → Q (V.ref l) (upd H_1 l (HO.lst ys))) (tCons (tOp (rIxL K) (tVar 4) (tOp (rI0 fun i j => V.int (i - j)) (tVar 5) (tC (V.int 1)))) tNil)) (gName 6)) tNext) (tP2 K)
section
variable {H0 H' H2 : Hp} {L a : Addr} {ps : List Pg} {xs : List V} {x v7 : V} {q : Pg} {cell many mixed pgv : Int} {D : Ends} {o7 : Option V}
theorem p2_ok (nL : H0 L = none) (s0 : Same H0 H') (hL : H' L = some (.lst xs)) (hl : xs.length = ps.length) (hx : ∀ (i : Nat) p, ps[i]? = some p → ∃ x, xs[i]? = some x ∧ PgAt H' x p ∧ ∀ b, x = .ref b → H0 b = none ∧ b ≠ L) (hz : ps.length < 24)
    (s : Same H' H2) (hy : PgAt H2 x q) (hb : ∀ b, x = .ref b → H' b = none) (hD : ∀ x' q' H3, PgL H0 H3 L (ps ++ [q']) → Same H0 H3 → D.nx [some (.ref a), some (.int cell), some (.int many), some (.int mixed), some (.ref L), some (.int pgv), x', o7] H3) :
    tP2 K D [some (.ref a), some (.int cell), some (.int many), some (.int mixed), some (.ref L), some (.int pgv), some x, o7] H2 := by
  have app : ∀ (y : V) (q' : Pg), PgAt H2 y q' → (∀ b, y = .ref b → H' b = none) → tDrop (tBM K "list" rAppend (tVar 4) (tCons (tVar 6) tNil)) D [some (.ref a), some (.int cell), some (.int many), some (.int mixed), some (.ref L), some (.int pgv), some y, o7] H2 := fun y q' hy' hb' => by
    refine ⟨_, rfl, .inl ⟨rfl, _, SqL.of (s _ _ hL)⟩, _, rfl, _, _, _, rfl, rfl, s _ _ hL, small1000 (by omega), ?_⟩
    exact hD _ q' _ (PgL.snoc hL hl hx s0 s hy' hb') (same_mut (s0.trans s) nL)
  refine ⟨_, rfl, _, _, rfl, rfl, _, rfl, ?_⟩
  refine ifB (fun _ => ?_) fun _ => ?_
  · refine ⟨_, rfl, _, _, rfl, rfl, (by show (0 : Int) < 8; decide), rfl, _, rfl, ?_⟩
    refine ifB (fun _ => ?_) fun _ => ?_
    · exact app .non none rfl fun b e => by cases e
    · exact app x q hy hb
  · exact iteF (app x q hy hb)
theorem p1_ok (nL : H0 L = none) (s0 : Same H0 H') (hL : H' L = some (.lst xs)) (hl : xs.length = ps.length) (hx : ∀ (i : Nat) p, ps[i]? = some p → ∃ x, xs[i]? = some x ∧ PgAt H' x p ∧ ∀ b, x = .ref b → H0 b = none ∧ b ≠ L) (hz : ps.length < 24) (hpv : pgv = (ps.length : Int))
    (s : Same H' H2) (hy : PgAt H2 x q) (hb : ∀ b, x = .ref b → H' b = none) (hD : ∀ x' q' H3, PgL H0 H3 L (ps ++ [q']) → Same H0 H3 → D.nx [some (.ref a), some (.int cell), some (.int many), some (.int mixed), some (.ref L), some (.int pgv), x', o7] H3) :
    tP1 K D [some (.ref a), some (.int cell), some (.int many), some (.int mixed), some (.ref L), some (.int pgv), some x, o7] H2 := by
  have stay : tP2 K D [some (.ref a), some (.int cell), some (.int many), some (.int mixed), some (.ref L), some (.int pgv), some x, o7] H2 := p2_ok nL s0 hL hl hx hz s hy hb hD
  refine ⟨_, rfl, _, _, rfl, rfl, _, rfl, ?_⟩
  refine ifB (fun h0 => ?_) fun _ => iteF stay
  have h0 : (0 : Int) < pgv := of_decide_eq_true h0
  refine ⟨_, rfl, _, _, rfl, rfl, (by show (0 : Int) < 4; decide), rfl, _, rfl, ?_⟩
  refine ifB (fun _ => ?_) fun _ => iteF stay
  obtain ⟨j, hj⟩ : ∃ j : Nat, pgv - 1 = (j : Int) := ⟨(pgv - 1).toNat, by omega⟩
  have hjl : j < ps.length := by omega
  obtain ⟨y, y1, y2, y3⟩ := hx j _ (List.getElem?_eq_getElem hjl)
  have hat : atI xs (pgv - 1) = some y := by rw [hj]; exact atI_nat y1
  have hL2 := s _ _ hL
  refine ⟨_, rfl, _, rfl, _, _, rfl, rfl, _, xs, _, y, rfl, rfl, SqL.of hL2, hat, rfl, _, rfl, ?_⟩
  have y2' := y2.same s
  cases hp : ps[j] with
  | none =>
    rw [hp] at y2'
    obtain rfl : y = V.non := y2'
    exact iteF stay
  | some ws =>
    rw [hp] at y2'
    obtain ⟨b, rfl, w1, w2, w3⟩ := y2'
    refine iteT ⟨_, rfl, _, rfl, _, _, rfl, rfl, _, xs, _, _, rfl, rfl, SqL.of hL2, hat, b, _, rfl, .inl (SqL.of w1), fun l nl => ?_⟩
    exact p2_ok (q := some ws) nL s0 hL hl hx hz (s.trans (same_new nl)) ⟨l, rfl, upd_same, w2, w3⟩ (fun b' e => by injection e with e; rw [← e]; exact s.free nl) hD
end
def tPIn (K : PySem.W.Frag) : TS := tSeq (tAsg (tOp (rI (fun x j => 0 < j) fun i j => V.int (i % j)) (tOp (rI0 fun i j => V.int (i + j)) (tOp (rI CMulX fun i j => V.int (i * j)) (tVar 3) (tC (V.int 48271)))
    (tG (sp_law_cell_at K) E0 (tCons (tVar 0) (tCons (tOp (rI0 fun i j => V.int (i + j)) (tC (V.int 2)) (tOp (rI (fun x j => 0 < j) fun i j => V.int (i % j)) (tOp (rI0 fun i j => V.int (i + j)) (tOp (rI CMulX fun i j => V.int (i * j)) (tVar 5) (tC (V.int 8))) (tVar 7)) (tC (V.int 60)))) tNil)))) (tC (V.int 2147483647))) (gName 3))
  (tDrop (tBM K "list" rAppend (tVar 6) (tCons (tG sp_law_row_by E0 (tCons (tVar 3) (tCons (tVar 2) tNil))) tNil)))
def tPOut (K : PySem.W.Frag) : TS := tSeq (tAsg (tLst tNil) (gName 6)) (tSeq (tFor (iRng1 (tCons (tC (V.int 8)) tNil)) (gName 7) (tPIn K)) (tP1 K))
def tPR (K : PySem.W.Frag) : TS := tSeq (tAsg (tOp (rI0 fun i j => V.int (i + j)) (tC (V.int 1)) (tG sp_law_by E0 (tCons (tG (sp_law_cell_at K) E0 (tCons (tVar 0) (tCons (tC (V.int 1)) tNil))) (tCons (tC (V.int 1226874159)) tNil)))) (gName 3))
  (tSeq (tAsg (tLst tNil) (gName 4)) (tSeq (tFor (iRng1 (tCons (tVar 2) tNil)) (gName 5) (tPOut K)) (tRet (tVar 4))))
theorem pr_ok {H : Hp} {a : Addr} {ns : List Int} {cell many : Int} {Q : VK} {nx : L2.St → Hp → Prop} {o3 o4 o5 o6 o7 : Option V} (hq : SqL K H a (ns.map V.int)) (h1 : 1 ≤ many) (h2 : many ≤ 24)
    (k : ∀ l H' ps, H l = none → Same H H' → PgL H H' l ps → 1 ≤ ps.length → ps.length ≤ 24 → Q (.ref l) H') : tPR K { nx := nx, rt := Q } [some (.ref a), some (.int cell), some (.int many), o3, o4, o5, o6, o7] H := by
  refine ⟨_, rfl, a, ns, 1, rfl, hq, _, _, rfl, fun r r0 r1 => ⟨_, _, rfl, rfl, ?_⟩⟩
  refine ⟨by show 0 ≤ sizeLine; omega, fun L nL => ?_⟩
  refine ⟨_, rfl, many, rfl, by omega, by have := sizeLine_eq; omega, ?_⟩
  refine for_range (n := many.toNat) (lo := 0) (fun i σ H' => (∃ (mixed : Int) (v5 v6 v7 : Option V), σ = [some (.ref a), some (.int cell), some (.int many), some (.int mixed), some (.ref L), v5, v6, v7] ∧ 0 ≤ mixed ∧ mixed < 1000000000001) ∧ Same H H' ∧ ∃ ps : List Pg, ps.length = i ∧ PgL H H' L ps)
    ⟨⟨1 + r, _, _, _, rfl, by omega, by omega⟩, same_new nL, [], rfl, [], upd_same, rfl, fun i p hp => by cases hp⟩ ?_ ?_
  · rintro i σ H' hi ⟨⟨mixed, v5, v6, v7, rfl, m0, m1⟩, s0, ps, hpl, xs, hL, hl, hx⟩
    have hi24 : i < 24 := by omega
    have eI : (0 : Int) + (i : Int) = (i : Int) := Int.zero_add _
    refine ⟨by show 0 ≤ sizeLine; omega, fun W nW => ?_⟩
    refine ⟨8, rfl, by decide, by decide, ?_⟩
    refine for_range (n := 8) (lo := 0) (fun j σ H2 => (∃ (mixed : Int) (v7 : Option V), σ = [some (.ref a), some (.int cell), some (.int many), some (.int mixed), some (.ref L), some (.int ((0 : Int) + (i : Int))), some (.ref W), v7] ∧ 0 ≤ mixed ∧ mixed < 1000000000001) ∧ Same H' H2 ∧ ∃ ws : List Int, ws.length = j ∧ (∀ x ∈ ws, IsWord x) ∧ H2 W = some (.lst (ws.map V.int)))
      ⟨⟨mixed, _, rfl, m0, m1⟩, same_new nW, [], rfl, (fun x hx => by cases hx), upd_same⟩ ?_ ?_
    · rintro j σ H2 hj ⟨⟨mx, w7, rfl, n0, n1⟩, s2, ws, wl, ww, hW⟩
      have hq2 := sqL_mono hq (s0.trans s2)
      obtain ⟨c, hc⟩ : ∃ c : Nat, (2 : Int) + ((0 + (i : Int)) * 8 + (0 + (j : Int))) % 60 = (c : Int) := ⟨((2 : Int) + ((0 + (i : Int)) * 8 + (0 + (j : Int))) % 60).toNat, by omega⟩
      refine ⟨_, rfl, _, _, rfl, rfl, mulx_ok (a := 40) (b := 16) (by omega) (by decide) (by decide), _, rfl, _, rfl, _, _, rfl, rfl, mulx_ok (a := 8) (b := 8) (by omega) (by decide) (by decide), _, rfl, _, _, rfl, rfl, _, _, rfl, rfl, (by show (0 : Int) < 60; decide), _, _, rfl, rfl, a, ns, c, congrArg (fun z : Int => [V.ref a, V.int z]) hc, hq2, _, _, rfl, rfl, _, _, rfl, rfl, (by show (0 : Int) < 2147483647; decide), ?_⟩
      have p0 : 0 ≤ (mx * 48271 + ns.getD c 0) % 2147483647 := by omega
      have p1 : (mx * 48271 + ns.getD c 0) % 2147483647 < 2147483647 := by omega
      refine ⟨_, rfl, .inl ⟨rfl, _, SqL.of hW⟩, _, rfl, _, rfl, (mx * 48271 + ns.getD c 0) % 2147483647, many, rfl, p0, by omega, by omega, by omega, fun z H3 s3 hz => ?_⟩
      have hW3 := s3 _ _ hW
      refine ⟨_, _, _, rfl, rfl, hW3, by rw [List.length_map, wl]; exact small1000 (by omega), ⟨(mx * 48271 + ns.getD c 0) % 2147483647, _, rfl, p0, by omega⟩, same_mut (s2.trans s3) nW, ws ++ [z], by rw [List.length_append, wl]; rfl, fun x hx => ?_, ?_⟩
      · rcases List.mem_append.mp hx with m | m
        · exact ww x m
        · rw [List.mem_singleton.mp m]; exact hz
      · rw [upd_same, List.map_append]; rfl
    · rintro σ H2 ⟨⟨mx, w7, rfl, n0, n1⟩, s2, ws, wl, ww, hW⟩
      refine p1_ok (q := some ws) nL s0 hL hl hx (by omega) (by rw [eI, hpl]) s2 ⟨W, rfl, hW, wl, ww⟩ (fun b e => by injection e with e; rw [← e]; exact nW) fun x' q' H3 hp3 s3 => ?_
      exact ⟨⟨mx, _, _, _, rfl, n0, n1⟩, s3, ps ++ [q'], by rw [List.length_append, hpl]; rfl, hp3⟩
  · rintro σ H' ⟨⟨mixed, v5, v6, v7, rfl, m0, m1⟩, s0, ps, hpl, hP⟩
    exact ⟨_, rfl, k L H' ps nL s0 hP (by omega) (by omega)⟩
abbrev N_law_pages : List Str := ["_law_script", "_law_cell", "_law_many", "_law_mixed", "_law_pages_here", "_law_page", "_law_words", "_law_k"]
theorem sc_law_pages : FnScope N_law_pages ["_law_script"] (defScope s_law_pages) := ⟨rfl, rfl, rfl, by decide +kernel, rfl, by decide +kernel, by decide +kernel⟩
def sp_law_pages (K : PySem.W.Frag) : Sp := fun vs H Q _ => ∃ (a : Addr) (ns : List Int), vs = [.ref a] ∧ SqL K H a (ns.map V.int) ∧ ∀ l H' ps, H l = none → Same H H' → PgL H H' l ps → 1 ≤ ps.length → ps.length ≤ 24 → Q (.ref l) H'
theorem ok_law_pages (T : Txt K mg) : DOk P w K mg base CX0 2 ("_law_pages", none) ["_law_script"] (sp_law_pages K) := by
  refine dok T.d_law_pages sc_law_pages (fun _ _ _ _ _ _ us hl => match us, hl with | [_], _ => rfl) (fun vs H Q E h => ?_) (fun cdv A outer s H vs Q E hr h => ?_)
  · obtain ⟨a, ns, rfl, hq, k⟩ := h
    rfl
  · obtain ⟨a, ns, rfl, hq, k⟩ := h
    refine ⟨_, (PSs.nox (pss_cons (ps_set (i := 1) sc_law_pages.nd rfl (Or.inl rfl) (pe_g (ok_law_cell_at T) (hr.mono (by decide)) T.g_law_cell_at pass0 (pa_cons (pv 0) (pa_cons pe_int pa_nil))))
      (pss_cons (ps_set (i := 2) sc_law_pages.nd rfl (Or.inl rfl) (pe_op op_add pe_int (pe_op op_mod (pe_g (ok_law_by T) (hr.mono (by decide)) T.g_law_by pass0 (pa_cons (pv 1) (pa_cons pe_int pa_nil))) pe_int)))
      (pss_cons (ps_if (pt_cmpR op_eq (pe_op op_mod (pv 1) pe_int) pe_int (nomark _)) (pss_one (ps_set (i := 2) sc_law_pages.nd rfl (Or.inl rfl) (pe_op op_add pe_int (pe_op op_mod (pe_g (ok_law_by T) (hr.mono (by decide)) T.g_law_by pass0 (pa_cons (pv 1) (pa_cons pe_int pa_nil))) pe_int)))) pss_nil)
      (pss_cons (ps_set (i := 3) sc_law_pages.nd rfl (Or.inl rfl) (pe_op op_add pe_int (pe_g (ok_law_by T) (hr.mono (by decide)) T.g_law_by pass0 (pa_cons (pe_g (ok_law_cell_at T) (hr.mono (by decide)) T.g_law_cell_at pass0 (pa_cons (pv 0) (pa_cons pe_int pa_nil))) (pa_cons pe_int pa_nil)))))
      (pss_cons (ps_set (i := 4) sc_law_pages.nd rfl (Or.inl rfl) (pe_lst pa_nil))
      (pss_cons (ps_for PassesOwn.never rfl (pi_range1 rfl T.b_range (pa_cons (pv 2) pa_nil)) (pg_name (i := 5) sc_law_pages.nd rfl (Or.inl rfl)) (pss_cons (ps_set (i := 6) sc_law_pages.nd rfl (Or.inl rfl) (pe_lst pa_nil))
      (pss_cons (ps_for PassesOwn.never rfl (pi_range1 rfl T.b_range (pa_cons pe_int pa_nil)) (pg_name (i := 7) sc_law_pages.nd rfl (Or.inl rfl)) (pss_cons (ps_set (i := 3) sc_law_pages.nd rfl (Or.inl rfl) (pe_op op_mod (pe_op op_add (pe_op op_mulX (pv 3) pe_int) (pe_g (ok_law_cell_at T) (hr.mono (by decide)) T.g_law_cell_at pass0 (pa_cons (pv 0) (pa_cons (pe_op op_add pe_int (pe_op op_mod (pe_op op_add (pe_op op_mulX (pv 5) pe_int) (pv 7)) pe_int)) pa_nil)))) pe_int))
      (pss_one (ps_expr (pe_bm PySem.F.plainAttrs_list PySem.F.slot_list_append PySem.F.type_list_append mt_append (pv 6) (pa_cons (pe_g (ok_law_row_by T) (hr.mono (by decide)) T.g_law_row_by pass0 (pa_cons (pv 3) (pa_cons (pv 2) pa_nil))) pa_nil))))))
      (pss_cons (ps_if (PW.pt (pw_and (pt_cmpR op_gt (pv 5) pe_int (nomark _)) (pw_and (pt_cmpR op_eq (pe_op op_mod (pv 3) pe_int) pe_int (nomark _)) (pw_and1 (pt_cmpR op_notN (pe_ix (r := rIxL K) ix_list (pv 4) (pe_op op_sub (pv 5) pe_int) (fun _ _ => rfl)) pe_non (nomark _)))))) (pss_one (ps_set (i := 6) sc_law_pages.nd rfl (Or.inl rfl) (pe_callTy call_list_of rfl T.b_list (by decide +kernel) (pa_cons (pe_ix (r := rIxL K) ix_list (pv 4) (pe_op op_sub (pv 5) pe_int) (fun _ _ => rfl)) pa_nil)))) pss_nil)
      (pss_cons (ps_if (PW.pt (pw_and (pt_cmpR op_gt (pv 5) pe_int (nomark _)) (pw_and1 (pt_cmpR op_eq (pe_op op_mod (pv 3) pe_int) pe_int (nomark _))))) (pss_one (ps_set (i := 6) sc_law_pages.nd rfl (Or.inl rfl) pe_non)) pss_nil)
      (pss_one (ps_expr (pe_bm PySem.F.plainAttrs_list PySem.F.slot_list_append PySem.F.type_list_append mt_append (pv 4) (pa_cons (pv 6) pa_nil)))))))))
      (pss_one (ps_ret (pv 4)))))))))), ?_⟩
    refine ⟨_, rfl, a, ns, 0, rfl, hq, ?_⟩
    generalize ns.getD 0 0 = cell
    refine ⟨_, rfl, cell, 950706376, rfl, fun r r0 r1 => ?_⟩
    refine ⟨_, _, rfl, rfl, (by show (0 : Int) < 5; decide), _, _, rfl, rfl, ?_⟩
    refine ⟨_, rfl, _, _, rfl, rfl, (by show (0 : Int) < 16; decide), rfl, _, rfl, ?_⟩
    refine ifB (fun _ => ?_) fun _ => ?_
    · refine ⟨_, rfl, cell, 742938285, rfl, fun q q0 q1 => ⟨_, _, rfl, rfl, (by show (0 : Int) < 24; decide), _, _, rfl, rfl, ?_⟩⟩
      exact pr_ok (many := 1 + q % 24) hq (by omega) (by omega) k
    · exact pr_ok (many := 2 + r % 5) hq (by omega) (by omega) k
end
end Sp

set_option Elab.async false
set_option linter.all false
set_option maxRecDepth 100000
set_option maxHeartbeats 4000000
namespace Sp
open PySem PySem.Spec PyProof.Rows L2
section
variable {P : Program} {w : World} {K : PySem.W.Frag} {mg : Str → Option Value} {base : Heap}
def deeds : List Str := ["load", "save", "peek", "poke", "drop", "give", "want", "root"]
def some16 : List Str := ["load", "load", "load", "load", "save", "save", "save", "save", "peek", "poke", "poke", "drop", "drop", "give", "want", "root"]
theorem some16_ok (j : Nat) (h : j < 16) : ∃ wd ∈ deeds, (some16.map V.str)[j]? = some (.str wd) := by
  have : ∀ i : Fin 16, ∃ wd ∈ deeds, some16[i.val]? = some wd := by
    intro i
    have h1 : ∀ i : Fin 16, (some16[i.val]?.map fun w => decide (w ∈ deeds)) = some true := by decide +kernel
    have := h1 i
    cases e : some16[i.val]? with
    | none => rw [e] at this; cases this
    | some w =>
      rw [e] at this
      injection this with this
      exact ⟨w, of_decide_eq_true this, rfl⟩
  obtain ⟨wd, h1, h2⟩ := this ⟨j, h⟩
  exact ⟨wd, h1, by rw [List.getElem?_map, h2]; rfl⟩
def tDr : TS := tSeq (tIfS (tOr (tTest (tOp rEq (tVar 3) (tC (V.str (Str.ofString "load"))))) (tTest (tOp rEq (tVar 3) (tC (V.str (Str.ofString "save"))))))
    (tSeq (tAsg (tOp (rI0 fun i j => V.bl (decide (j < i))) (tOp (rI (fun x j => 0 < j) fun i j => V.int (i % j)) (tG sp_law_by E0 (tCons (tVar 0) (tCons (tC (V.int 62089911)) tNil))) (tC (V.int 3))) (tC (V.int 0))) (gName 6))
      (tRet (tTup (tCons (tVar 3) (tCons (tG sp_law_place E0 (tCons (tVar 0) tNil)) (tCons (tG sp_law_row_by E0 (tCons (tVar 4) (tCons (tVar 1) tNil))) (tCons (tVar 6) tNil))))))) tNext)
  (tSeq (tIfS (tOr (tTest (tOp rEq (tVar 3) (tC (V.str (Str.ofString "peek"))))) (tTest (tOp rEq (tVar 3) (tC (V.str (Str.ofString "poke"))))))
      (tRet (tTup (tCons (tVar 3) (tCons (tOp (rI0 fun i j => V.int (i + j)) (tOp (rI CMulX fun i j => V.int (i * j)) (tVar 5) (tC (V.int 8))) (tOp (rI (fun x j => 0 < j) fun i j => V.int (i % j)) (tOp (rI CDivW fun i j => V.int (i / j)) (tVar 4) (tC (V.int 400))) (tC (V.int 8))))
        (tCons (tG sp_law_row_by E0 (tCons (tG sp_law_by E0 (tCons (tVar 0) (tCons (tC (V.int 62089911)) tNil))) (tCons (tVar 1) tNil))) (tCons (tC (V.bl true)) tNil)))))) tNext)
    (tSeq (tIfS (tTest (tOp rEq (tVar 3) (tC (V.str (Str.ofString "drop"))))) (tRet (tTup (tCons (tVar 3) (tCons (tG sp_law_place E0 (tCons (tVar 0) tNil)) (tCons (tC (V.int 0)) (tCons (tC (V.bl true)) tNil)))))) tNext)
      (tSeq (tIfS (tAnd (tTest (tOp rEq (tVar 3) (tC (V.str (Str.ofString "root"))))) (tTest (tOp (rI0 fun i j => V.bl (decide (j < i))) (tOp (rI (fun x j => 0 < j) fun i j => V.int (i % j)) (tVar 4) (tC (V.int 3))) (tC (V.int 0))))) (tAsg (tC (V.int 0)) (gName 5)) tNext)
        (tRet (tTup (tCons (tVar 3) (tCons (tVar 5) (tCons (tC (V.int 0)) (tCons (tC (V.bl true)) tNil)))))))))
theorem dr_ok {H0 H : Hp} {c n mx nv : Int} {x2 : Option V} {wd : Str} {Q : VK} {nx : L2.St → Hp → Prop} (s0 : Same H0 H) (n0 : 0 ≤ n) (n1 : n ≤ 24) (hw : wd ∈ deeds) (m0 : 0 ≤ mx) (m1 : mx < 1000000000000) (v0 : 0 ≤ nv) (v1 : nv < 1000000000000000)
    (k : ∀ t H' wd f s k', H0 t = none → Same H0 H' → H' t = some (.tup [.str wd, .int f, .int s, .bl k']) → wd ∈ deeds → 0 ≤ f → IsWord s → Q (.ref t) H') :
    tDr { nx := nx, rt := Q } [some (.int c), some (.int n), x2, some (.str wd), some (.int mx), some (.int nv), none] H := by
  have fin : ∀ (H1 : Hp) (f s : Int) (k' : Bool), Same H H1 → 0 ≤ f → IsWord s → ([V.str wd, V.int f, V.int s, V.bl k'].length ≤ sizeLine ∧ ∀ p, H1 p = none → Q (.ref p) (upd H1 p (.tup [V.str wd, V.int f, V.int s, V.bl k']))) := fun H1 f s k' s1 hf hs =>
    ⟨by show 4 ≤ sizeLine; decide, fun p np => k p _ wd f s k' ((s0.trans s1).free np) ((s0.trans s1).trans (same_new np)) upd_same hw hf hs⟩
  have load : (tSeq (tAsg (tOp (rI0 fun i j => V.bl (decide (j < i))) (tOp (rI (fun x j => 0 < j) fun i j => V.int (i % j)) (tG sp_law_by E0 (tCons (tVar 0) (tCons (tC (V.int 62089911)) tNil))) (tC (V.int 3))) (tC (V.int 0))) (gName 6))
      (tRet (tTup (tCons (tVar 3) (tCons (tG sp_law_place E0 (tCons (tVar 0) tNil)) (tCons (tG sp_law_row_by E0 (tCons (tVar 4) (tCons (tVar 1) tNil))) (tCons (tVar 6) tNil))))))) { nx := fun σ H => True, rt := Q } [some (.int c), some (.int n), x2, some (.str wd), some (.int mx), some (.int nv), none] H := by
    refine ⟨_, rfl, c, 62089911, rfl, fun r r0 r1 => ⟨_, _, rfl, rfl, (by show (0 : Int) < 3; decide), _, _, rfl, rfl, ?_⟩⟩
    refine ⟨_, rfl, _, rfl, c, rfl, fun f H1 s1 f0 => ⟨_, rfl, _, rfl, mx, n, rfl, m0, by omega, n0, n1, fun s H2 s2 hs => ⟨_, rfl, ?_⟩⟩⟩
    exact fin H2 f s _ (s1.trans s2) f0 hs
  have peek : (tRet (tTup (tCons (tVar 3) (tCons (tOp (rI0 fun i j => V.int (i + j)) (tOp (rI CMulX fun i j => V.int (i * j)) (tVar 5) (tC (V.int 8))) (tOp (rI (fun x j => 0 < j) fun i j => V.int (i % j)) (tOp (rI CDivW fun i j => V.int (i / j)) (tVar 4) (tC (V.int 400))) (tC (V.int 8))))
        (tCons (tG sp_law_row_by E0 (tCons (tG sp_law_by E0 (tCons (tVar 0) (tCons (tC (V.int 62089911)) tNil))) (tCons (tVar 1) tNil))) (tCons (tC (V.bl true)) tNil)))))) { nx := fun σ H => True, rt := Q } [some (.int c), some (.int n), x2, some (.str wd), some (.int mx), some (.int nv), none] H := by
    refine ⟨_, rfl, _, rfl, _, _, rfl, rfl, mulx_ok (a := 50) (b := 8) (by omega) (by decide) (by decide), _, rfl, _, _, rfl, rfl, ⟨by decide, by decide⟩, _, _, rfl, rfl, (by show (0 : Int) < 8; decide), _, _, rfl, rfl, ?_⟩
    refine ⟨_, rfl, c, 62089911, rfl, fun r r0 r1 => ⟨_, rfl, r, n, rfl, r0, by omega, n0, n1, fun s H2 s2 hs => ?_⟩⟩
    exact fin H2 _ s _ s2 (by omega) hs
  have tail : ∀ nv2 : Int, 0 ≤ nv2 → (tRet (tTup (tCons (tVar 3) (tCons (tVar 5) (tCons (tC (V.int 0)) (tCons (tC (V.bl true)) tNil)))))) { nx := fun σ H => True, rt := Q } [some (.int c), some (.int n), x2, some (.str wd), some (.int mx), some (.int nv2), none] H := fun nv2 h0 =>
    ⟨_, rfl, _, rfl, fin H nv2 0 true (Same.refl H) h0 ⟨by decide, by decide⟩⟩
  refine ⟨_, rfl, rfl, _, rfl, ?_⟩
  refine ifB (fun _ => iteT load) fun _ => ⟨_, rfl, rfl, _, rfl, ifB (fun _ => load) fun _ => ?_⟩
  refine ⟨_, rfl, rfl, _, rfl, ?_⟩
  refine ifB (fun _ => iteT peek) fun _ => ⟨_, rfl, rfl, _, rfl, ifB (fun _ => peek) fun _ => ?_⟩
  refine ⟨_, rfl, rfl, _, rfl, ifB (fun _ => ?_) fun _ => ?_⟩
  · exact ⟨_, rfl, _, rfl, c, rfl, fun f H1 s1 f0 => fin H1 f 0 true s1 f0 ⟨by decide, by decide⟩⟩
  refine ⟨_, rfl, rfl, _, rfl, ifB (fun _ => ?_) fun _ => iteF (tail nv v0)⟩
  exact ⟨_, rfl, _, _, rfl, rfl, (by show (0 : Int) < 3; decide), _, _, rfl, rfl, _, rfl, ifB (fun _ => tail 0 (by decide)) fun _ => tail nv v0⟩
abbrev N_law_deed : List Str := ["_law_cell", "_law_many", "_law_some", "_law_word", "_law_mixed", "_law_number", "_law_kernel"]
theorem sc_law_deed : FnScope N_law_deed ["_law_cell", "_law_many"] (defScope s_law_deed) := ⟨rfl, rfl, rfl, by decide +kernel, rfl, by decide +kernel, by decide +kernel⟩
def sp_law_deed (K : PySem.W.Frag) : Sp := fun vs H Q _ => ∃ c n : Int, vs = [.int c, .int n] ∧ 0 ≤ n ∧ n ≤ 24 ∧ ∀ t H' wd f s k', H t = none → Same H H' → H' t = some (.tup [.str wd, .int f, .int s, .bl k']) → wd ∈ deeds → 0 ≤ f → IsWord s → Q (.ref t) H'
theorem ok_law_deed (T : Txt K mg) : DOk P w K mg base CX0 3 ("_law_deed", none) ["_law_cell", "_law_many"] (sp_law_deed K) := by
  refine dok T.d_law_deed sc_law_deed (fun _ _ _ _ _ _ us hl => match us, hl with | [_, _], _ => rfl) (fun vs H Q E h => ?_) (fun cdv A outer s H vs Q E hr h => ?_)
  · obtain ⟨c, n, rfl, n0, n1, k⟩ := h
    rfl
  · obtain ⟨c, n, rfl, n0, n1, k⟩ := h
    refine ⟨_, (PSs.nox (pss_cons (ps_set (i := 2) sc_law_deed.nd rfl (Or.inl rfl) (pe_lst (pa_cons pe_str (pa_cons pe_str (pa_cons pe_str (pa_cons pe_str (pa_cons pe_str (pa_cons pe_str (pa_cons pe_str (pa_cons pe_str pa_nil))))))))))
      (pss_cons (ps_set (i := 2) sc_law_deed.nd rfl (Or.inl rfl) (pe_op op_cat (pv 2) (pe_lst (pa_cons pe_str (pa_cons pe_str (pa_cons pe_str (pa_cons pe_str (pa_cons pe_str (pa_cons pe_str (pa_cons pe_str (pa_cons pe_str pa_nil)))))))))))
      (pss_cons (ps_set (i := 3) sc_law_deed.nd rfl (Or.inl rfl) (pe_ix (r := rIxL K) ix_list (pv 2) (pe_op op_mod (pe_g (ok_law_by T) (hr.mono (by decide)) T.g_law_by pass0 (pa_cons (pv 0) (pa_cons pe_int pa_nil))) pe_int) (fun _ _ => rfl)))
      (pss_cons (ps_set (i := 4) sc_law_deed.nd rfl (Or.inl rfl) (pe_g (ok_law_by T) (hr.mono (by decide)) T.g_law_by pass0 (pa_cons (pv 0) (pa_cons pe_int pa_nil))))
      (pss_cons (ps_set (i := 5) sc_law_deed.nd rfl (Or.inl rfl) (pe_op op_mod (pe_op op_fdivW (pv 4) pe_int) (pe_op op_add (pv 1) pe_int)))
      (pss_cons (ps_if (pt_cmpR op_eq (pe_op op_mod (pv 4) pe_int) pe_int (nomark _)) (pss_one (ps_set (i := 5) sc_law_deed.nd rfl (Or.inl rfl) (pe_op op_sub (pe_op op_sub (pe_op op_pow pe_int pe_int) pe_int) (pe_op op_mod (pe_op op_fdivW (pv 4) pe_int) pe_int)))) pss_nil)
      (pss_cons (ps_if (PW.pt (pw_or (pt_cmpR op_eq (pv 3) pe_str (nomark _)) (pw_or1 (pt_cmpR op_eq (pv 3) pe_str (nomark _))))) (pss_cons (ps_set (i := 6) sc_law_deed.nd rfl (Or.inl rfl) (pe_cmpR op_gt (pe_op op_mod (pe_g (ok_law_by T) (hr.mono (by decide)) T.g_law_by pass0 (pa_cons (pv 0) (pa_cons pe_int pa_nil))) pe_int) pe_int (nomark _)))
      (pss_one (ps_ret (pe_tup (pa_cons (pv 3) (pa_cons (pe_g (ok_law_place T) (hr.mono (by decide)) T.g_law_place pass0 (pa_cons (pv 0) pa_nil)) (pa_cons (pe_g (ok_law_row_by T) (hr.mono (by decide)) T.g_law_row_by pass0 (pa_cons (pv 4) (pa_cons (pv 1) pa_nil))) (pa_cons (pv 6) pa_nil)))))))) pss_nil)
      (pss_cons (ps_if (PW.pt (pw_or (pt_cmpR op_eq (pv 3) pe_str (nomark _)) (pw_or1 (pt_cmpR op_eq (pv 3) pe_str (nomark _))))) (pss_one (ps_ret (pe_tup (pa_cons (pv 3) (pa_cons (pe_op op_add (pe_op op_mulX (pv 5) pe_int) (pe_op op_mod (pe_op op_fdivW (pv 4) pe_int) pe_int)) (pa_cons (pe_g (ok_law_row_by T) (hr.mono (by decide)) T.g_law_row_by pass0 (pa_cons (pe_g (ok_law_by T) (hr.mono (by decide)) T.g_law_by pass0 (pa_cons (pv 0) (pa_cons pe_int pa_nil))) (pa_cons (pv 1) pa_nil))) (pa_cons pe_bl pa_nil))))))) pss_nil)
      (pss_cons (ps_if (pt_cmpR op_eq (pv 3) pe_str (nomark _)) (pss_one (ps_ret (pe_tup (pa_cons (pv 3) (pa_cons (pe_g (ok_law_place T) (hr.mono (by decide)) T.g_law_place pass0 (pa_cons (pv 0) pa_nil)) (pa_cons pe_int (pa_cons pe_bl pa_nil))))))) pss_nil)
      (pss_cons (ps_if (PW.pt (pw_and (pt_cmpR op_eq (pv 3) pe_str (nomark _)) (pw_and1 (pt_cmpR op_gt (pe_op op_mod (pv 4) pe_int) pe_int (nomark _))))) (pss_one (ps_set (i := 5) sc_law_deed.nd rfl (Or.inl rfl) pe_int)) pss_nil)
      (pss_one (ps_ret (pe_tup (pa_cons (pv 3) (pa_cons (pv 5) (pa_cons pe_int (pa_cons pe_bl pa_nil)))))))))))))))))), ?_⟩
    refine ⟨by show 8 ≤ sizeLine; decide, fun l nl => ?_⟩
    refine ⟨_, rfl, by show 8 ≤ sizeLine; decide, fun l2 nl2 => ?_⟩
    have hl0 : upd (upd H l (.lst ((some16.take 8).map V.str))) l2 (.lst ((some16.drop 8).map V.str)) l = some (.lst ((some16.take 8).map V.str)) := by
      rw [upd_ne (ne_of_none upd_same nl2)]; exact upd_same
    refine ⟨l, l2, (some16.take 8).map V.str, (some16.drop 8).map V.str, rfl, rfl, hl0, upd_same, by show 16 ≤ sizeLine; decide, fun l3 nl3 => ?_⟩
    have s3 : Same H (upd (upd (upd H l (.lst ((some16.take 8).map V.str))) l2 (.lst ((some16.drop 8).map V.str))) l3 (.lst (some16.map V.str))) := ((same_new nl).trans (same_new nl2)).trans (same_new nl3)
    refine ⟨_, rfl, _, rfl, c, 950706376, rfl, fun r r0 r1 => ?_⟩
    obtain ⟨j, hj, hj16⟩ : ∃ j : Nat, r % 16 = (j : Int) ∧ j < 16 := ⟨(r % 16).toNat, by omega, by omega⟩
    obtain ⟨wd, hw, hwj⟩ := some16_ok j hj16
    refine ⟨_, _, rfl, rfl, (by show (0 : Int) < 16; decide), l3, some16.map V.str, r % 16, _, rfl, rfl, SqL.of upd_same, by rw [hj]; exact atI_nat (j := j) hwj, ?_⟩
    refine ⟨_, rfl, c, 1226874159, rfl, fun mx m0 m1 => ?_⟩
    refine ⟨_, rfl, _, _, rfl, rfl, ⟨by decide, by decide⟩, _, rfl, _, _, rfl, rfl, _, _, rfl, rfl, (by show (0 : Int) < n + 1; omega), ?_⟩
    have g1 : 0 ≤ mx / 13 % (n + 1) := Int.emod_nonneg _ (by omega)
    have g2 : mx / 13 % (n + 1) < n + 1 := Int.emod_lt_of_pos _ (by omega)
    have e45 : (2 : Int) ^ (45 : Int).toNat = 35184372088832 := by decide
    refine ⟨_, rfl, _, _, rfl, rfl, (by show (0 : Int) < 13; decide), rfl, _, rfl, ifB (fun _ => ?_) fun _ => ?_⟩
    · refine ⟨_, _, rfl, rfl, ⟨by decide, by decide, by decide⟩, _, _, rfl, rfl, _, rfl, _, _, rfl, rfl, ⟨by decide, by decide⟩, _, _, rfl, rfl, (by show (0 : Int) < 3; decide), _, _, rfl, rfl, ?_⟩
      exact dr_ok s3 n0 n1 hw m0 m1 (by rw [e45]; omega) (by rw [e45]; omega) k
    · exact dr_ok s3 n0 n1 hw m0 m1 g1 (by omega) k
end
end Sp

set_option Elab.async false
set_option linter.all false
set_option maxRecDepth 100000
set_option maxHeartbeats 4000000
namespace Sp
open PySem PySem.Spec PyProof.Rows L2
section
variable {P : Program} {w : World} {K : PySem.W.Frag} {mg : Str → Option Value} {base : Heap}
def callP (P : Pl) (wd : Str) (f s : Int) (k : Bool) : Except (Str × Int) (Pl × V) :=
  if wd = "load" then (match loadP P f k with | .error e => .error e | .ok (P', v) => .ok (P', .int v))
  else if wd = "save" then (match saveP P f s k with | .error e => .error e | .ok P' => .ok (P', .non))
  else if wd = "peek" then (match peekP P f with | .error e => .error e | .ok v => .ok (P, .int v))
  else if wd = "poke" then (match pokeP P f s with | .error e => .error e | .ok P' => .ok (P', .non))
  else if wd = "root" then .ok ({ P with base := f, line := [] }, .non)
  else if wd = "drop" then .ok (dropP P f, .non)
  else if wd = "give" then .ok ((giveP P f).1, .bl (giveP P f).2)
  else .ok ((wantP P f).1, .bl (wantP P f).2)
theorem str_ne {a b : Str} (h : a ≠ b) : decide (V.str a = V.str b) = false := decide_eq_false fun z => h (by injection z)
abbrev N_law_call : List Str := ["_law_way", "_law_deed_here", "_law_word", "_law_first", "_law_second", "_law_kernel"]
theorem sc_law_call : FnScope N_law_call ["_law_way", "_law_deed_here"] (defScope s_law_call) := ⟨rfl, rfl, rfl, by decide +kernel, rfl, by decide +kernel, by decide +kernel⟩
def sp_law_call (K : PySem.W.Frag) : Sp := fun vs H Q E => ∃ (g : Addr → Nat) (S : Wy) (t : Addr) (wd : Str) (f s : Int) (k' : Bool), vs = [.ref S.me, .ref t] ∧ H t = some (.tup [.str wd, .int f, .int s, .bl k']) ∧ wd ∈ deeds ∧ 0 ≤ f ∧ IsWord s ∧ WyAt K g H S ∧ Wok S noBad ∧ S.said.length < 1000 ∧
  (∀ P v, callP S.abs wd f s k' = .ok (P, v) → Nx K g H S P (Q v)) ∧ (∀ e l, callP S.abs wd f s k' = .error (e, l) → Fx K H e f l E)
theorem ok_law_call (T : Txt K mg) : DOk P w K mg base (L2.CX P w) 18 ("_law_call", none) ["_law_way", "_law_deed_here"] (sp_law_call K) := by
  refine dok T.d_law_call sc_law_call (fun _ _ _ _ _ _ us hl => match us, hl with | [_, _], _ => rfl) (fun vs H Q E h => ?_) (fun cdv A outer s H vs Q E hr h => ?_)
  · obtain ⟨g, S, t, wd, f, s0, k', rfl, ht, hw, hf, hs, A, W, hsd, k, kE⟩ := h
    rfl
  · obtain ⟨g, S, t, wd, f, s0, k', rfl, ht, hw, hf, hs, A, W, hsd, k, kE⟩ := h
    refine ⟨_, (pss_cons (ps_asg (pv 1) (pg_tup rfl (pgs_cons (pg_name (i := 2) sc_law_call.nd rfl (Or.inl rfl)) (pgs_cons (pg_name (i := 3) sc_law_call.nd rfl (Or.inl rfl)) (pgs_cons (pg_name (i := 4) sc_law_call.nd rfl (Or.inl rfl)) (pgs_cons (pg_name (i := 5) sc_law_call.nd rfl (Or.inl rfl)) pgs_nil))))))
      (pss_cons (ps_if (pt_cmpR op_eq (pv 2) pe_str (nomark _)) (pss_one (ps_ret (pe_m (pv 0) T.c_Shadows T.m_Shadows_load (ok_Shadows_load T) (hr.mono (by decide)) (passes_call (takes_of rfl rfl rfl rfl) (fun _ _ _ _ h => h)) (pa_cons (pv 3) (pa_cons (pv 5) pa_nil))))) pss_nil)
      (pss_cons (ps_if (pt_cmpR op_eq (pv 2) pe_str (nomark _)) (pss_one (ps_ret (pe_m (pv 0) T.c_Shadows T.m_Shadows_save (ok_Shadows_save T) (hr.mono (by decide)) (passes_call (takes_of rfl rfl rfl rfl) (fun _ _ _ _ h => h)) (pa_cons (pv 3) (pa_cons (pv 4) (pa_cons (pv 5) pa_nil)))))) pss_nil)
      (pss_cons (ps_if (pt_cmpR op_eq (pv 2) pe_str (nomark _)) (pss_one (ps_ret (pe_m (pv 0) T.c_Shadows T.m_Shadows_peek (ok_Shadows_peek T) (hr.mono (by decide)) (passes_call (takes_of rfl rfl rfl rfl) (fun _ _ _ _ h => h)) (pa_cons (pv 3) pa_nil)))) pss_nil)
      (pss_cons (ps_if (pt_cmpR op_eq (pv 2) pe_str (nomark _)) (pss_one (ps_ret (pe_m (pv 0) T.c_Shadows T.m_Shadows_poke (ok_Shadows_poke T) (hr.mono (by decide)) (passes_call (takes_of rfl rfl rfl rfl) (fun _ _ _ _ h => h)) (pa_cons (pv 3) (pa_cons (pv 4) pa_nil))))) pss_nil)
      (pss_cons (ps_if (pt_cmpR op_eq (pv 2) pe_str (nomark _)) (pss_one (ps_ret (pe_m (pv 0) T.c_Shadows T.m_Shadows_turn_root (ok_Shadows_turn_root T) (hr.mono (by decide)) pass0 (pa_cons (pv 3) pa_nil)))) pss_nil)
      (pss_cons (ps_if (pt_cmpR op_eq (pv 2) pe_str (nomark _)) (pss_one (ps_ret (pe_m (pv 0) T.c_Shadows T.m_Shadows_drop (ok_Shadows_drop T) (hr.mono (by decide)) pass0 (pa_cons (pv 3) pa_nil)))) pss_nil)
      (pss_cons (ps_if (pt_cmpR op_eq (pv 2) pe_str (nomark _)) (pss_one (ps_ret (pe_m (pv 0) T.c_Shadows T.m_Shadows_give (ok_Shadows_give T) (hr.mono (by decide)) pass0 (pa_cons (pv 3) pa_nil)))) pss_nil)
      (pss_one (ps_ret (pe_m (pv 0) T.c_Shadows T.m_Shadows_want (ok_Shadows_want T) (hr.mono (by decide)) pass0 (pa_cons (pv 3) pa_nil)))))))))))), ?_⟩
    refine ⟨_, rfl, t, _, rfl, SqT.of ht, rfl, _, _, rfl, _, _, rfl, _, _, rfl, _, _, rfl, rfl, ?_⟩
    unfold callP at k kE
    by_cases h1 : wd = "load"
    · subst h1
      rw [if_pos rfl] at k kE
      refine ⟨_, rfl, rfl, _, rfl, ifT (decide_eq_true rfl) ⟨_, rfl, A.o, _, rfl, _, rfl, g, S, f, k', rfl, hf, A, W, fun P v e => ?_, fun e l h => ?_⟩⟩
      · rw [e] at k; exact k _ _ rfl
      · rw [h] at kE; exact kE _ _ rfl
    rw [if_neg h1] at k kE
    refine ⟨_, rfl, rfl, _, rfl, ifF (str_ne h1) ?_⟩
    by_cases h2 : wd = "save"
    · subst h2
      rw [if_pos rfl] at k kE
      refine ⟨_, rfl, rfl, _, rfl, ifT (decide_eq_true rfl) ⟨_, rfl, A.o, _, rfl, _, rfl, _, rfl, g, S, f, s0, k', rfl, hf, hs, A, W, fun P e => ?_, fun e l h => ?_⟩⟩
      · rw [e] at k; exact k _ _ rfl
      · rw [h] at kE; exact kE _ _ rfl
    rw [if_neg h2] at k kE
    refine ⟨_, rfl, rfl, _, rfl, ifF (str_ne h2) ?_⟩
    by_cases h3 : wd = "peek"
    · subst h3
      rw [if_pos rfl] at k kE
      refine ⟨_, rfl, rfl, _, rfl, ifT (decide_eq_true rfl) ⟨_, rfl, A.o, _, rfl, g, S, f, rfl, A, W, fun v e => ?_, fun e l h => ?_⟩⟩
      · rw [e] at k; exact k _ _ rfl S g H .refl A .refl rfl W
      · rw [h] at kE; exact kE _ _ rfl
    rw [if_neg h3] at k kE
    refine ⟨_, rfl, rfl, _, rfl, ifF (str_ne h3) ?_⟩
    by_cases h4 : wd = "poke"
    · subst h4
      rw [if_pos rfl] at k kE
      refine ⟨_, rfl, rfl, _, rfl, ifT (decide_eq_true rfl) ⟨_, rfl, A.o, _, rfl, _, rfl, g, S, f, s0, rfl, hs, A, W, fun P e => ?_, fun e l h => ?_⟩⟩
      · rw [e] at k; exact k _ _ rfl
      · rw [h] at kE; exact kE _ _ rfl
    rw [if_neg h4] at k kE
    refine ⟨_, rfl, rfl, _, rfl, ifF (str_ne h4) ?_⟩
    by_cases h5 : wd = "root"
    · subst h5
      rw [if_pos rfl] at k kE
      exact ⟨_, rfl, rfl, _, rfl, ifT (decide_eq_true rfl) ⟨_, rfl, A.o, _, rfl, g, S, f, rfl, A, W, k _ _ rfl⟩⟩
    rw [if_neg h5] at k kE
    refine ⟨_, rfl, rfl, _, rfl, ifF (str_ne h5) ?_⟩
    by_cases h6 : wd = "drop"
    · subst h6
      rw [if_pos rfl] at k kE
      exact ⟨_, rfl, rfl, _, rfl, ifT (decide_eq_true rfl) ⟨_, rfl, A.o, _, rfl, g, S, f, rfl, hf, A, W, k _ _ rfl⟩⟩
    rw [if_neg h6] at k kE
    refine ⟨_, rfl, rfl, _, rfl, ifF (str_ne h6) ?_⟩
    by_cases h7 : wd = "give"
    · subst h7
      rw [if_pos rfl] at k kE
      exact ⟨_, rfl, rfl, _, rfl, ifT (decide_eq_true rfl) ⟨_, rfl, A.o, _, rfl, g, S, f, rfl, A, W, k _ _ rfl⟩⟩
    rw [if_neg h7] at k kE
    refine ⟨_, rfl, rfl, _, rfl, ifF (str_ne h7) ?_⟩
    exact ⟨_, rfl, A.o, _, rfl, g, S, f, rfl, hf, A, W, hsd, k _ _ rfl⟩
abbrev N_law_do : List Str := ["_law_way", "_law_deed_here", "_law_told", "_law_fault", "e"]
theorem sc_law_do : FnScope N_law_do ["_law_way", "_law_deed_here"] (defScope s_law_do) := ⟨rfl, rfl, rfl, by decide +kernel, rfl, by decide +kernel, by decide +kernel⟩
def sp_law_do (K : PySem.W.Frag) : Sp := fun vs H Q _ => ∃ (g : Addr → Nat) (S : Wy) (t : Addr) (wd : Str) (f s : Int) (k' : Bool), vs = [.ref S.me, .ref t] ∧ H t = some (.tup [.str wd, .int f, .int s, .bl k']) ∧ wd ∈ deeds ∧ 0 ≤ f ∧ IsWord s ∧ WyAt K g H S ∧ Wok S noBad ∧ S.said.length < 1000 ∧
  (∀ P v, callP S.abs wd f s k' = .ok (P, v) → Nx K g H S P (Q v)) ∧ (∀ e l, callP S.abs wd f s k' = .error (e, l) → ∀ u H', H u = none → Same H H' → H' u = some (.tup [.str "fault", .str e, .int f, .int l]) → Q (.ref u) H')
theorem ok_law_do (T : Txt K mg) : DOk P w K mg base CX0 19 ("_law_do", none) ["_law_way", "_law_deed_here"] (sp_law_do K) := by
  refine dok T.d_law_do sc_law_do (fun _ _ _ _ _ _ us hl => match us, hl with | [_, _], _ => rfl) (fun vs H Q E h => ?_) (fun cdv A outer s H vs Q E hr h => ?_)
  · obtain ⟨g, S, t, wd, f, s0, k', rfl, ht, hw, hf, hs, A, W, hsd, k, kE⟩ := h
    rfl
  · obtain ⟨g, S, t, wd, f, s0, k', rfl, ht, hw, hf, hs, A, W, hsd, k, kE⟩ := h
    refine ⟨_, (PSs.nox (pss_cons (ps_set (i := 2) sc_law_do.nd rfl (Or.inl rfl) pe_non)
      (pss_cons (ps_set (i := 3) sc_law_do.nd rfl (Or.inl rfl) pe_non)
      (pss_cons (ps_try_as (tb := fun W => tAsg (tGS (sp_law_call K) (WE W) (tCons (tVar 0) (tCons (tVar 1) tNil))) (gName 2)) (ts := fun a cls d => tAsg (tTup (tCons (tC (.str "fault")) (tCons (tXf a cls d (He.ga K "Fault") "kind" (tVar 4)) (tCons (tXf a cls d (He.ga K "Fault") "place" (tVar 4)) (tCons (tXf a cls d (He.ga K "Fault") "level" (tVar 4)) tNil))))) (gName 3)) (Wout := fun _ _ _ _ => False) (i := 4) rfl rfl sc_law_do.nd rfl rfl ⟨rfl, by decide +kernel, .inl T.g_Fault⟩ takes0 (fun W pn xe tk _ => (pss_one (ps_set (i := 2) sc_law_do.nd rfl (Or.inl rfl) (pe_gS (ok_law_call T) (hr.mono (by decide)) T.g_law_call (fun σ => passAt tk σ) (pa_cons (pv 0) (pa_cons (pv 1) pa_nil)))))) (fun a oe cls d pn hz hf => (pss_one (ps_set (i := 3) sc_law_do.nd rfl (Or.inl rfl) (pe_tup (pa_cons pe_str (pa_cons (pe_xf T.xf T.n_Fault_kind hz hf (pv 4)) (pa_cons (pe_xf T.xf T.n_Fault_place hz hf (pv 4)) (pa_cons (pe_xf T.xf T.n_Fault_level hz hf (pv 4)) pa_nil)))))))))
      (pss_cons (ps_if (pt_cmpR op_notN (pv 3) pe_non (nomark _)) (pss_one (ps_ret (pv 3))) pss_nil)
      (pss_one (ps_ret (pv 2)))))))), ?_⟩
    refine ⟨_, rfl, _, rfl, g, S, t, wd, f, s0, k', rfl, ht, hw, hf, hs, A, W, hsd, fun P v e S' g' H' s' A' m' ea W' => ?_, fun e l h d H' sd nd fl => ?_⟩
    · exact ⟨_, rfl, rfl, _, rfl, iteF ⟨_, rfl, k P v e S' g' H' s' A' m' ea W'⟩⟩
    · refine ⟨true, T.x_Fault, fun _ a na => ?_, fun z => by cases z⟩
      refine ⟨_, rfl, rfl, rfl, d, _, _, rfl, fl, rfl, _, rfl, rfl, rfl, d, _, _, rfl, fl, rfl, _, rfl, rfl, rfl, d, _, _, rfl, fl, rfl, by show 4 ≤ sizeLine; decide, fun u nu => ?_⟩
      exact ⟨_, rfl, rfl, _, rfl, iteT ⟨_, rfl, kE e l h u _ (sd.free nu) (sd.trans (same_new nu)) upd_same⟩⟩
theorem k_bool_bool {K : PySem.W.Frag} : PySem.W.kitOne K (.type "bool") (.type "bool") = some true := kit_ty (by decide +kernel)
theorem k_tuple_bool {K : PySem.W.Frag} : PySem.W.kitOne K (.type "tuple") (.type "bool") = some false := kit_ty (by decide +kernel)
theorem k_tuple_tuple {K : PySem.W.Frag} : PySem.W.kitOne K (.type "tuple") (.type "tuple") = some true := kit_ty (by decide +kernel)
theorem k_int_tuple {K : PySem.W.Frag} : PySem.W.kitOne K (.type "int") (.type "tuple") = some false := kit_ty (by decide +kernel)
theorem eqD_same {x y : V} {H : Hp} {Q : VK} {d : PyData} {k : Nat} (hx : Dp K H x d) (hy : Dp K H y d) (hs : Shp d k) (hk : k ≤ 64) (q : Q (.bl true) H) : rEqD K x y H Q := ⟨d, d, hx, hy, hs.ok hk, hs.ok hk, by rw [SeqAt.eqv_refl d hs.lay]; exact q⟩
theorem neD_same {x y : V} {H : Hp} {Q : VK} {d : PyData} {k : Nat} (hx : Dp K H x d) (hy : Dp K H y d) (hs : Shp d k) (hk : k ≤ 64) (q : Q (.bl false) H) : rNeD K x y H Q := ⟨d, d, hx, hy, hs.ok hk, hs.ok hk, by rw [SeqAt.eqv_refl d hs.lay]; exact q⟩
theorem Shp.str (x : Str) (h : PyData.strOk x = true) : Shp (.str x) 0 := ⟨by simp only [PyData.canLay0]; exact h, by simp [PyData.depth]⟩
def kinds : List Str := ["absent", "beyond", "kernel", "fixed", "far"]
theorem kinds_ok {e : Str} (h : e ∈ kinds) : PyData.strOk e = true := by
  have : ∀ e ∈ kinds, PyData.strOk e = true := by decide +kernel
  exact this e h
theorem lookBy_err {ps : List Pg} {row : Int} {w k : Bool} {e : Str} (h : lookBy ps row w k = .error e) : e ∈ kinds := by
  unfold lookBy at h
  unfold kinds
  split at h
  · injection h with h; rw [← h]; simp
  split at h
  · injection h with h; rw [← h]; simp
  split at h
  · injection h with h; rw [← h]; simp
  split at h
  · injection h with h; rw [← h]; simp
  cases h
theorem lookP_err {ps : List Pg} {root place : Int} {w k : Bool} {e : Str} {l : Int} (h : lookP ps root place w k = .error (e, l)) : e ∈ kinds := by
  unfold lookP at h
  split at h
  · injection h with h; injection h with h _; rw [← h]; unfold kinds; simp
  split at h
  · injection h with h; injection h with h _; rw [← h]; unfold kinds; simp
  cases e1 : lookBy ps (pgRd ps root (place / 8 / 8)) w k with
  | error s =>
    rw [e1] at h
    injection h with h; injection h with h _
    rw [← h]; exact lookBy_err e1
  | ok t =>
    rw [e1] at h
    dsimp only at h
    cases e2 : lookBy ps (pgRd ps t (place / 8 % 8)) w k with
    | error s =>
      rw [e2] at h
      injection h with h; injection h with h _
      rw [← h]; exact lookBy_err e2
    | ok t2 => rw [e2] at h; cases h
theorem reachP_err {P : Pl} {place : Int} {w k : Bool} {e : Str} {l : Int} (h : reachP P place w k = .error (e, l)) : e ∈ kinds := by
  unfold reachP at h
  cases e1 : onShelf P place w k with
  | some pg => rw [e1] at h; cases h
  | none =>
    rw [e1] at h
    dsimp only at h
    cases e2 : lookP P.pages P.base place w k with
    | error q =>
      obtain ⟨s, l2⟩ := q
      rw [e2] at h
      injection h with h; injection h with h _
      rw [← h]; exact lookP_err e2
    | ok x => rw [e2] at h; cases h
theorem callP_err {P : Pl} {wd : Str} {f s : Int} {k : Bool} {e : Str} {l : Int} (h : callP P wd f s k = .error (e, l)) : e ∈ kinds := by
  unfold callP at h
  split at h
  · unfold loadP at h
    cases e1 : reachP P f false k with
    | error q =>
      obtain ⟨s, l2⟩ := q
      rw [e1] at h
      injection h with h; injection h with h _
      rw [← h]; exact reachP_err e1
    | ok q => rw [e1] at h; cases h
  split at h
  · unfold saveP at h
    cases e1 : reachP P f true k with
    | error q =>
      obtain ⟨s, l2⟩ := q
      rw [e1] at h
      injection h with h; injection h with h _
      rw [← h]; exact reachP_err e1
    | ok q => rw [e1] at h; cases h
  split at h
  · unfold peekP at h
    by_cases hp : pgHas P.pages (f / 8) = true
    · rw [if_pos hp] at h; cases h
    · rw [if_neg hp] at h
      injection h with h; injection h with h _
      rw [← h]; unfold kinds; simp
  split at h
  · unfold pokeP at h
    by_cases hp : pgHas P.pages (f / 8) = true
    · rw [if_pos hp] at h; cases h
    · rw [if_neg hp] at h
      injection h with h; injection h with h _
      rw [← h]; unfold kinds; simp
  split at h
  · cases h
  split at h
  · cases h
  split at h
  · cases h
  cases h
/-- two answers that are alike -/
def Alk (H : Hp) (x y : V) : Prop := (x = .non ∧ y = .non) ∨ (∃ b, x = .bl b ∧ y = .bl b) ∨ (∃ i, x = .int i ∧ y = .int i) ∨ ∃ (a b : Addr) (e : Str) (p l : Int), e ∈ kinds ∧ x = .ref a ∧ y = .ref b ∧ H a = some (.tup [.str "fault", .str e, .int p, .int l]) ∧ H b = some (.tup [.str "fault", .str e, .int p, .int l])
abbrev N_law_alike : List Str := ["_law_found", "_law_due"]
theorem sc_law_alike : FnScope N_law_alike ["_law_found", "_law_due"] (defScope s_law_alike) := ⟨rfl, rfl, rfl, by decide +kernel, rfl, by decide +kernel, by decide +kernel⟩
def sp_law_alike (K : PySem.W.Frag) : Sp := fun vs H Q _ => ∃ x y : V, vs = [x, y] ∧ Alk H x y ∧ Q (.bl true) H
theorem ok_law_alike (T : Txt K mg) : DOk P w K mg base CX0 2 ("_law_alike", none) ["_law_found", "_law_due"] (sp_law_alike K) := by
  refine dok T.d_law_alike sc_law_alike (fun _ _ _ _ _ _ us hl => match us, hl with | [_, _], _ => rfl) (fun vs H Q E h => ?_) (fun cdv A outer s H vs Q E hr h => ?_)
  · obtain ⟨x, y, rfl, h, k⟩ := h
    rfl
  · obtain ⟨x, y, rfl, h, k⟩ := h
    refine ⟨_, (PSs.nox (pss_cons (ps_if (pt_cmpR op_isN (pv 1) pe_non (nomark _)) (pss_one (ps_ret (pe_cmpR op_isN (pv 0) pe_non (nomark _)))) pss_nil)
      (pss_cons (ps_if (pt_val (pe_isi (ty := "bool") T.b_isinstance T.b_bool (pv 1))) (pss_one (ps_ret (pe_and (pe_isi (ty := "bool") T.b_isinstance T.b_bool (pv 0)) (pe_one (pe_cmpR (op_eqD hr.units) (pv 0) (pv 1) (nomark _)))))) pss_nil)
      (pss_cons (ps_if (pt_val (pe_isi (ty := "tuple") T.b_isinstance T.b_tuple (pv 1))) (pss_one (ps_ret (pe_and (pe_isi (ty := "tuple") T.b_isinstance T.b_tuple (pv 0)) (pe_and (pe_g (ok_law_whole T) (hr.mono (by decide)) T.g_law_whole pass0 (pa_cons (pe_ix (r := rIxT K) ix_tup (pv 0) pe_int (fun _ _ => rfl)) pa_nil)) (pe_and (pe_g (ok_law_whole T) (hr.mono (by decide)) T.g_law_whole pass0 (pa_cons (pe_ix (r := rIxT K) ix_tup (pv 0) pe_int (fun _ _ => rfl)) pa_nil)) (pe_one (pe_cmpR (op_eqD hr.units) (pv 0) (pv 1) (nomark _)))))))) pss_nil)
      (pss_one (ps_ret (pe_and (pe_g (ok_law_whole T) (hr.mono (by decide)) T.g_law_whole pass0 (pa_cons (pv 0) pa_nil)) (pe_one (pe_cmpR (op_eqD hr.units) (pv 0) (pv 1) (nomark _)))))))))), ?_⟩
    rcases h with ⟨rfl, rfl⟩ | ⟨b, rfl, rfl⟩ | ⟨i, rfl, rfl⟩ | ⟨a, b, e, p, l, he, rfl, rfl, ha, hb⟩
    · exact ⟨_, rfl, rfl, _, rfl, iteT ⟨_, rfl, rfl, k⟩⟩
    · refine ⟨_, rfl, rfl, _, rfl, iteF ⟨_, rfl, _, _, _, _, true, rfl, .ty "bool", .base (.bl b), k_bool_bool, _, rfl, iteT ⟨_, rfl, _, _, _, _, true, rfl, .ty "bool", .base (.bl b), k_bool_bool, _, rfl, iteT ⟨_, rfl, _, rfl, ?_⟩⟩⟩⟩
      exact eqD_same (.bl b) (.bl b) (Shp.bl b) (by decide) k
    · refine ⟨_, rfl, rfl, _, rfl, iteF ⟨_, rfl, _, _, _, _, false, rfl, .ty "bool", .base (.int i), k_int_bool, _, rfl, iteF ⟨_, rfl, _, _, _, _, false, rfl, .ty "tuple", .base (.int i), k_int_tuple, _, rfl, iteF ⟨_, rfl, i, rfl, _, rfl, iteT ⟨_, rfl, _, rfl, ?_⟩⟩⟩⟩⟩
      exact eqD_same (.int i) (.int i) (Shp.int i) (by decide) k
    · refine ⟨_, rfl, rfl, _, rfl, iteF ⟨_, rfl, _, _, _, _, false, rfl, .ty "bool", .base (.tup hb), k_tuple_bool, _, rfl, iteF ⟨_, rfl, _, _, _, _, true, rfl, .ty "tuple", .base (.tup hb), k_tuple_tuple, _, rfl, iteT ?_⟩⟩⟩
      refine ⟨_, rfl, _, _, _, _, true, rfl, .ty "tuple", .base (.tup ha), k_tuple_tuple, _, rfl, iteT ⟨_, rfl, a, _, 2, _, rfl, rfl, SqT.of ha, atI_nat (j := 2) rfl, p, rfl, _, rfl, iteT ⟨_, rfl, a, _, 3, _, rfl, rfl, SqT.of ha, atI_nat (j := 3) rfl, l, rfl, _, rfl, iteT ⟨_, rfl, _, rfl, ?_⟩⟩⟩⟩
      have sd : Shp (.tuple [.str "fault", .str e, .int p, .int l]) 1 := Shp.tup (k := 0) fun d hd => by
        rcases List.mem_cons.mp hd with rfl | hd
        · exact Shp.str _ (by decide +kernel)
        rcases List.mem_cons.mp hd with rfl | hd
        · exact Shp.str _ (kinds_ok he)
        rcases List.mem_cons.mp hd with rfl | hd
        · exact Shp.int _
        rcases List.mem_cons.mp hd with rfl | hd
        · exact Shp.int _
        cases hd
      have dp : ∀ c : Addr, H c = some (.tup [.str "fault", .str e, .int p, .int l]) → Dp K H (.ref c) (.tuple [.str "fault", .str e, .int p, .int l]) := fun c hc => .tup (SqT.of hc) (.cons (.str _) (.cons (.str _) (.cons (.int _) (.cons (.int _) .nil))))
      exact eqD_same (dp a ha) (dp b hb) sd (by decide) k
def rwD (r : Rw) : PyData := .tuple [.int r.1, .int r.2.1, .int r.2.2]
theorem shp_rw (r : Rw) : Shp (rwD r) 1 := Shp.tup (k := 0) fun d hd => by
  simp only [List.mem_cons, List.not_mem_nil, or_false] at hd
  rcases hd with rfl | rfl | rfl <;> exact Shp.int _
theorem dp_rows {H : Hp} : ∀ rows : List (Addr × Rw), (∀ r ∈ rows, H r.1 = some (rwV r.2)) → DpAll K H (rows.map fun r => V.ref r.1) ((rows.map (·.2)).map rwD)
  | [], _ => .nil
  | r :: rows, h => .cons (.tup (SqT.of (h r List.mem_cons_self)) (.cons (.int _) (.cons (.int _) (.cons (.int _) .nil)))) (dp_rows rows fun q hq => h q (List.mem_cons_of_mem _ hq))
theorem dp_said {H : Hp} : ∀ l : List Bool, DpAll K H (l.map V.bl) (l.map PyData.bool)
  | [] => .nil
  | b :: l => .cons (.bl b) (dp_said l)
theorem shp_line (l : List Rw) : Shp (.list (l.map rwD)) 2 := Shp.lst (k := 1) fun d hd => by
  obtain ⟨r, _, rfl⟩ := List.mem_map.mp hd
  exact shp_rw r
theorem shp_said (l : List Bool) : Shp (.list (l.map PyData.bool)) 1 := Shp.lst (k := 0) fun d hd => by
  obtain ⟨r, _, rfl⟩ := List.mem_map.mp hd
  exact Shp.bl r
theorem ShAt.dp {g : Addr → Nat} {H H' : Hp} {S : Sh} {l : Addr} (A : ShAt K g H S) (s : Same H H') (h : H' l = some (.lst (S.rows.map fun r => .ref r.1))) : Dp K H' (.ref l) (.list (S.line.map rwD)) :=
  .lst (SqL.of h) (dp_rows S.rows fun r hr => s _ _ (A.rw r hr).1)
abbrev N_law_like : List Str := ["_law_way", "_law_other_here"]
theorem sc_law_like : FnScope N_law_like ["_law_way", "_law_other_here"] (defScope s_law_like) := ⟨rfl, rfl, rfl, by decide +kernel, rfl, by decide +kernel, by decide +kernel⟩
def sp_law_like (K : PySem.W.Frag) : Sp := fun vs H Q _ => ∃ (g g2 : Addr → Nat) (S S2 : Wy), vs = [.ref S.me, .ref S2.me] ∧ WyAt K g H S ∧ WyAt K g2 H S2 ∧ S2.base = S.base ∧ S2.s.line = S.s.line ∧ S2.said = S.said ∧ ∀ H', Same H H' → Q (.bl true) H'
theorem ok_law_like (T : Txt K mg) : DOk P w K mg base CX0 3 ("_law_like", none) ["_law_way", "_law_other_here"] (sp_law_like K) := by
  refine dok T.d_law_like sc_law_like (fun _ _ _ _ _ _ us hl => match us, hl with | [_, _], _ => rfl) (fun vs H Q E h => ?_) (fun cdv A outer s H vs Q E hr h => ?_)
  · obtain ⟨g, g2, S, S2, rfl, A, B, e1, e2, e3, k⟩ := h
    rfl
  · obtain ⟨g, g2, S, S2, rfl, A, B, e1, e2, e3, k⟩ := h
    refine ⟨_, (PSs.nox (pss_cons (ps_if (PW.pt (pw_or (pt_cmpR op_ne (pe_m0 (pv 1) T.c_Shadows T.m_Shadows_root (ok_Shadows_root T) (hr.mono (by decide)) pass0) (pe_m0 (pv 0) T.c_Shadows T.m_Shadows_root (ok_Shadows_root T) (hr.mono (by decide)) pass0) (nomark _)) (pw_or (pt_cmpR (op_neD hr.units) (pe_m0 (pv 1) T.c_Shadows T.m_Shadows_shelf (ok_Shadows_shelf T) (hr.mono (by decide)) pass0) (pe_m0 (pv 0) T.c_Shadows T.m_Shadows_shelf (ok_Shadows_shelf T) (hr.mono (by decide)) pass0) (nomark _)) (pw_or1 (pt_cmpR (op_neD hr.units) (pe_m0 (pv 1) T.c_Shadows T.m_Shadows_said (ok_Shadows_said T) (hr.mono (by decide)) pass0) (pe_m0 (pv 0) T.c_Shadows T.m_Shadows_said (ok_Shadows_said T) (hr.mono (by decide)) pass0) (nomark _)))))) (pss_one (ps_ret pe_bl)) pss_nil)
      (pss_one (ps_ret (pe_g (ok_law_whole T) (hr.mono (by decide)) T.g_law_whole pass0 (pa_cons (pe_m0 (pv 1) T.c_Shadows T.m_Shadows_root (ok_Shadows_root T) (hr.mono (by decide)) pass0) pa_nil)))))), ?_⟩
    refine ⟨_, rfl, B.o, g2, S2, rfl, B, _, rfl, A.o, g, S, rfl, A, rfl, _, rfl, ?_⟩
    refine ifF (by rw [e1]; simp) ?_
    refine ⟨_, rfl, B.o, g2, S2, rfl, B, fun l1 H1 n1 s1 h1 => ⟨_, rfl, (A.same s1).o, g, S, rfl, A.same s1, fun l2 H2 n2 s2 h2 => ?_⟩⟩
    have h1' : H2 l1 = _ := s2 _ _ h1
    have d1 := (B.sh.same s1).dp s2 h1'
    have d2 := (A.sh.same s1).dp s2 h2
    rw [e2] at d1
    refine neD_same d1 d2 (shp_line _) (by decide) ⟨_, rfl, iteF ?_⟩
    have B2 := (B.same s1).same s2
    have A2 := (A.same s1).same s2
    refine ⟨_, rfl, B2.o, g2, S2, rfl, B2, fun l3 H3 n3 s3 h3 => ⟨_, rfl, (A2.same s3).o, g, S, rfl, A2.same s3, fun l4 H4 n4 s4 h4 => ?_⟩⟩
    rw [e3] at h3
    refine neD_same (.lst (SqL.of (s4 _ _ h3)) (dp_said _)) (.lst (SqL.of h4) (dp_said _)) (shp_said _) (by decide) ⟨_, rfl, iteF ?_⟩
    have B4 := (B2.same s3).same s4
    exact ⟨_, rfl, B4.o, g2, S2, rfl, B4, _, rfl, k H4 (s1.trans (s2.trans (s3.trans s4)))⟩
end
end Sp

set_option Elab.async false
set_option linter.all false
set_option maxRecDepth 100000
set_option maxHeartbeats 4000000
namespace Sp
open PySem PySem.Spec PyProof.Rows L2
section
variable {P : Program} {w : World} {K : PySem.W.Frag} {mg : Str → Option Value} {base : Heap}
theorem PgL.imgZ {g g' : Addr → Nat} {H H' H2 : Hp} {L : Addr} {ps : List Pg} {T : List Nat} (wf : Wf g H) (h : PgL H H2 L ps) (nL : H L = none) (s : Same H H2) (h1 : 1 ≤ ps.length) (h2 : ps.length ≤ 24) : ImgZ g H2 L ps := by
  obtain ⟨xs, x1, x2, x3⟩ := h
  exact ⟨⟨xs, x1, x2, fun i p hp => by
    obtain ⟨x, a, b, c⟩ := x3 i p hp
    exact ⟨x, a, b, fun b' e => tag0 wf (c b' e).1⟩⟩, tag0 wf nL, h1, h2⟩
/-- the pages while they are written: i are done, of the next one j words -/
structure Wtn (ps P : List Pg) (i : Nat) : Prop where
  len : P.length = ps.length
  lo : ∀ m : Nat, m < i → P[m]? = ps[m]?
  hi : ∀ m : Nat, i ≤ m → m < ps.length → P[m]? = some (some zeros)
structure WtnJ (ps P : List Pg) (i j : Nat) (ws : List Int) : Prop where
  len : P.length = ps.length
  lo : ∀ m : Nat, m < i → P[m]? = ps[m]?
  hi : ∀ m : Nat, i + 1 ≤ m → m < ps.length → P[m]? = some (some zeros)
  mid : ∃ ys, P[i]? = some (some ys) ∧ ys.length = 8 ∧ ∀ c : Nat, c < j → ys[c]? = ws[c]?
theorem Wtn.set {ps P : List Pg} {i : Nat} {p : Pg} (h : Wtn ps P i) (e : ps[i]? = some p) (hi : i < P.length) : Wtn ps (P.set i p) (i + 1) := by
  refine ⟨by rw [List.length_set]; exact h.len, fun m hm => ?_, fun m h1 h2 => ?_⟩
  · rw [List.getElem?_set]
    by_cases hmi : i = m
    · subst hmi; rw [if_pos rfl, if_pos hi, e]
    · rw [if_neg hmi]; exact h.lo m (by omega)
  · rw [List.getElem?_set_ne (by omega)]; exact h.hi m (by omega) h2
theorem there_set : ∀ (P : List Pg) (i : Nat) (ws : List Int), P[i]? = some (some ws) → there (P.set i none) + 1 = there P
  | [], i, ws, h => by simp at h
  | p :: r, 0, ws, h => by
    have : p = some ws := by simpa using h
    subst this; rfl
  | p :: r, i + 1, ws, h => by
    have ih := there_set r i ws (by simpa using h)
    cases p <;> simp only [List.set_cons_succ, there] <;> omega
theorem nones_take {ps : List Pg} {i : Nat} {p : Pg} (h : ps[i]? = some p) : ((i + 1 : Nat) : Int) - there (ps.take (i + 1)) = (i : Int) - there (ps.take i) + (if p.isNone then 1 else 0) := by
  rw [there_take h]
  cases p <;> simp [one] <;> omega
abbrev N_law_written : List Str := ["_law_frames", "_law_pages_here", "_law_most", "_law_pool", "_law_way", "_law_page", "_law_cell", "_law_words"]
theorem sc_law_written : FnScope N_law_written ["_law_frames", "_law_pages_here", "_law_most", "_law_pool"] (defScope s_law_written) := ⟨rfl, rfl, rfl, by decide +kernel, rfl, by decide +kernel, by decide +kernel⟩
def sp_law_written (K : PySem.W.Frag) : Sp := fun vs H Q _ => ∃ (g : Addr → Nat) (F : Fr) (a : Addr) (ps : List Pg) (most : Int) (pool : Nat), vs = [.ref F.fr, .ref a, .int most, .int (pool : Int)] ∧ Wf g H ∧ FrAt K g H F ∧ ImgZ g H a ps ∧ 1 ≤ most ∧ most ≤ 12 ∧ 2 ≤ pool ∧ pool ≤ 9 ∧ F.pl = 0 ∧ cnt F.F = 0 ∧ pool + ps.length ≤ F.F.length ∧
  ∀ S g' H', Stp ALL g H g' H' → WyAt K g' H' S → S.f.fr = F.fr → S.abs = ⟨ps, 0, [], most, [], (F.F.length : Int) - (pool + ps.length : Nat) + ((ps.length : Int) - there ps)⟩ → Wok S noBad → Q (.ref S.me) H'
theorem ok_law_written (T : Txt K mg) : DOk P w K mg base CX0 13 ("_law_written", none) ["_law_frames", "_law_pages_here", "_law_most", "_law_pool"] (sp_law_written K) := by
  refine dok T.d_law_written sc_law_written (fun _ _ _ _ _ _ us hl => match us, hl with | [_, _, _, _], _ => rfl) (fun vs H Q E h => ?_) (fun cdv A outer s H vs Q E hr h => ?_)
  · obtain ⟨g, F, a, ps, most, pool, rfl, wf, A, I, h1, h2, h3, h4, hpl, hcn, hsz, k⟩ := h
    rfl
  · obtain ⟨g, F, a, ps, most, pool, rfl, wf, A, I, h1, h2, h3, h4, hpl, hcn, hsz, k⟩ := h
    refine ⟨_, (PSs.nox (pss_cons (ps_set (i := 4) sc_law_written.nd rfl (Or.inl rfl) (pe_mk T.mk_Shadows (ok_Shadows_init T) (hr.mono (by decide)) T.g_Shadows pass0 (pa_cons (pv 0) (pa_cons (pe_lc (own := [("_law_words", 7)]) (g := gName 7) rfl sc_law_written.nd (pi_list (pv 1)) (blkOk_by (own := [("_law_words", 7)]) (N := N_law_written) (sc := defScope s_law_written) (by decide +kernel)) (fun _ _ _ _ _ => pg_name (i := 7) sc_law_written.nd rfl (Or.inl rfl)) (fun _ _ _ _ _ => pts_nil) (fun _ _ _ _ _ => (pe_op op_rep (pe_lst (pa_cons pe_int pa_nil)) pe_int))) (pa_cons (pv 2) (pa_cons (pv 3) pa_nil))))))
      (pss_cons (ps_for PassesOwn.never rfl (pi_range1 rfl T.b_range (pa_cons (pe_callB call_len_seq rfl T.b_len PySem.boot_len (pa_cons (pv 1) pa_nil)) pa_nil)) (pg_name (i := 5) sc_law_written.nd rfl (Or.inl rfl)) (pss_one (ps_if (pt_cmpR op_isN (pe_ix (r := rIxL K) ix_list (pv 1) (pv 5) (fun _ _ => rfl)) pe_non (nomark _)) (pss_one (ps_expr (pe_m (pv 4) T.c_Shadows T.m_Shadows_give (ok_Shadows_give T) (hr.mono (by decide)) pass0 (pa_cons (pv 5) pa_nil)))) (pss_one (ps_for PassesOwn.never rfl (pi_range1 rfl T.b_range (pa_cons pe_int pa_nil)) (pg_name (i := 6) sc_law_written.nd rfl (Or.inl rfl)) (pss_one (ps_expr (pe_m (pv 4) T.c_Shadows T.m_Shadows_write (ok_Shadows_write T) (hr.mono (by decide)) pass0 (pa_cons (pv 5) (pa_cons (pv 6) (pa_cons (pe_ix (r := rIxL K) ix_list (pe_ix (r := rIxL K) ix_list (pv 1) (pv 5) (fun _ _ => rfl)) (pv 6) (fun _ _ => rfl)) pa_nil)))))))))))
      (pss_one (ps_ret (pv 4)))))), ?_⟩
    obtain ⟨xs, x1, x2, x3⟩ := I.ex
    have hi := I.hi
    have hlo := I.lo
    refine ⟨_, rfl, _, rfl, a, rfl, ⟨_, SqL.of x1⟩, fun D nD => ?_⟩
    refine lc_list (K := K) (a := a) (xs := xs) (fun i H' => Same H H' ∧ PgL H H' D (List.replicate i (some zeros))) ⟨same_new nD, [], upd_same, rfl, fun i p hp => by cases hp⟩ (fun i H' _ p => SqL.of (p.1 _ _ x1)) (fun i x H' hx q => ?_) (fun H3 q => ?_)
    · obtain ⟨s0, ys, y1, y2, y3⟩ := q
      have hlt : i < xs.length := (List.getElem?_eq_some_iff.mp hx).1
      refine ⟨rfl, by show 1 ≤ sizeLine; decide, fun l0 n0 => ⟨l0, _, _, rfl, rfl, upd_same, by decide, by decide, by show 8 ≤ sizeLine; decide, fun l nl => ?_⟩⟩
      have s2 : Same H' (upd (upd H' l0 (.lst [V.int 0])) l (.lst (List.replicate (8 : Int).toNat [V.int 0]).flatten)) := (same_new n0).trans (same_new nl)
      refine ⟨ys, s2 _ _ y1, by rw [y2, List.length_replicate]; exact small1000 (by omega), same_mut (s0.trans s2) nD, ?_⟩
      have := PgL.snoc (q := some zeros) (y := .ref l) y1 y2 y3 s0 s2 ⟨l, rfl, by rw [upd_same]; rfl, rfl, zeros_w⟩ fun b e => by injection e with e; rw [← e]; exact (upd_none nl).2
      rw [rep_snoc] at this
      exact this
    obtain ⟨s0, hPL⟩ := q
    rw [x2] at hPL
    have IL : ImgZ g H3 D (List.replicate ps.length (some zeros)) := hPL.imgZ (g' := g) (H' := H3) (T := []) wf nD s0 (by rw [List.length_replicate]; exact hlo) (by rw [List.length_replicate]; exact hi)
    have tz : ∀ n : Nat, there (List.replicate n (some zeros : Pg)) = n := fun n => by
      induction n with
      | zero => rfl
      | succ n ih => rw [List.replicate_succ]; show there _ + 1 = _; rw [ih]
    refine ⟨_, rfl, _, rfl, fun x dx nx ndx nxd => ?_⟩
    have sM : Stp [] g H3 (tg g x 9) (upd (upd H3 dx (.own x)) x (.ins (He.ga K "Shadows") dx [])) := Stp.mkO nx ndx nxd
    have st3 : Stp [] g H g H3 := .same s0
    have stM := st3.trans sM
    refine ⟨x, dx, tg g x 9, F, D, List.replicate ps.length (some zeros), most, pool, rfl, stM.wf wf, A.stp stM (by simp), IL.stp sM (by simp), h1, h2, h3, h4, hpl, hcn, by rw [tz]; exact hsz, upd_same, tg_same, fun S0 g4 H4 s4 A4 me4 fr4 ab4 W4 => ⟨rfl, ?_⟩⟩
    rw [tz] at ab4
    have sA : Stp ALL g H g4 H4 := (stM.mono (by simp)).trans s4
    have I4 := I.stp sA (by decide)
    obtain ⟨xs4, z1, z2, z3⟩ := I4.ex
    refine ⟨_, rfl, _, _, rfl, .inl (SqL.of z1), _, rfl, by omega, by have := sizeLine_eq; omega, ?_⟩
    refine for_range (n := xs4.length) (lo := 0) (fun i σ H' => (∃ v5 v6, σ = [some (.ref F.fr), some (.ref a), some (.int most), some (.int (pool : Int)), some (.ref x), v5, v6, none]) ∧ ∃ S g', Stp ALL g H g' H' ∧ WyAt K g' H' S ∧ S.me = x ∧ S.f.fr = F.fr ∧ Wok S noBad ∧ ∃ P, Wtn ps P i ∧ S.abs = ⟨P, 0, [], most, [], (F.F.length : Int) - (pool + ps.length : Nat) + ((i : Int) - there (ps.take i))⟩)
      ⟨⟨_, _, rfl⟩, S0, g4, sA, A4, me4, fr4, W4, List.replicate ps.length (some zeros), ⟨List.length_replicate, fun m hm => absurd hm (Nat.not_lt_zero _), fun m _ hm => by rw [List.getElem?_replicate, if_pos hm]⟩, by rw [ab4]; simp [there]⟩ ?_ ?_
    · rintro i σ H' hi2 ⟨⟨v5, v6, rfl⟩, S, g', s', A', me', fr', W', P, hP, ab⟩
      have hip : i < ps.length := by omega
      obtain ⟨q, hq⟩ : ∃ q, ps[i]? = some q := ⟨_, List.getElem?_eq_getElem hip⟩
      have Ii := I.stp s' (by decide)
      obtain ⟨ys, y1, y2, y3⟩ := Ii.ex
      obtain ⟨v, w1, w2, w3⟩ := y3 i q hq
      have eI : (0 : Int) + (i : Int) = (i : Int) := Int.zero_add _
      have hat : atI ys ((0 : Int) + (i : Int)) = some v := by rw [eI]; exact atI_nat w1
      have hPi : P[i]? = some (some zeros) := hP.hi i (Nat.le_refl _) hip
      have hiP : i < P.length := (List.getElem?_eq_some_iff.mp hPi).1
      have hn := nones_take hq
      have Ao : ∀ {m : Str}, (["held", "base", "ground", "mine", "part", "changed", "answers", "opened", "spare"] : List Str).contains m = false → IsO K "Shadows" m H' (.ref x) := fun hm => by rw [← me']; exact A'.o hm
      refine ⟨_, rfl, _, rfl, a, ys, _, v, rfl, rfl, SqL.of y1, hat, rfl, _, rfl, ?_⟩
      cases q with
      | none =>
        obtain rfl : v = V.non := w2
        refine iteT ⟨_, rfl, Ao (by decide +kernel), _, rfl, g', S, (0 : Int) + (i : Int), by rw [me'], A', W', fun S2 g2 H2 s2 A2 m2 e2 W2 => ?_⟩
        refine ⟨⟨_, _, rfl⟩, S2, g2, s'.trans s2, A2, m2.me.trans me', m2.fr.trans fr', W2, P.set i none, hP.set hq hiP, ?_⟩
        have hh : pgHas P ((0 : Int) + (i : Int)) = true := by
          unfold pgHas
          rw [eI, pgW_nat hPi]; rfl
        rw [e2, ab]
        unfold giveP
        rw [if_pos hh, eI, Int.toNat_natCast]
        simp only [Option.isNone_none, if_true] at hn
        rw [hn]
        show Pl.mk _ _ _ _ _ (_ + _ + 1) = Pl.mk _ _ _ _ _ (_ + (_ + 1))
        rw [Int.add_assoc]
      | some ws =>
        obtain ⟨b, rfl, u1, u2, u3⟩ := w2
        have gb : g' b = 0 := w3 b rfl
        have hn' : ((i + 1 : Nat) : Int) - there (ps.take (i + 1)) = (i : Int) - there (ps.take i) := by rw [hn]; simp
        refine iteF ⟨8, rfl, by decide, by decide, ?_⟩
        refine for_range (n := 8) (lo := 0) (fun j σ H2 => (∃ v6, σ = [some (.ref F.fr), some (.ref a), some (.int most), some (.int (pool : Int)), some (.ref x), some (.int ((0 : Int) + (i : Int))), v6, none]) ∧ ∃ S2 g2, Stp ALL g' H' g2 H2 ∧ WyAt K g2 H2 S2 ∧ S2.me = x ∧ S2.f.fr = F.fr ∧ Wok S2 noBad ∧ ∃ P2, WtnJ ps P2 i j ws ∧ S2.abs = ⟨P2, 0, [], most, [], (F.F.length : Int) - (pool + ps.length : Nat) + ((i : Int) - there (ps.take i))⟩)
          ⟨⟨_, rfl⟩, S, g', .refl, A', me', fr', W', P, ⟨hP.len, hP.lo, fun m h1 h2 => hP.hi m (by omega) h2, zeros, hPi, rfl, fun c hc => absurd hc (Nat.not_lt_zero _)⟩, ab⟩ ?_ ?_
        · rintro j σ H2 hj ⟨⟨v6, rfl⟩, S2, g2, s2, A2, me2, fr2, ⟨top, rest, tb, W2, R2⟩, P2, hP2, ab2⟩
          obtain ⟨zs, p1, p2, p3⟩ := hP2.mid
          have hiP2 : i < P2.length := (List.getElem?_eq_some_iff.mp p1).1
          have I2 := I.stp (s'.trans s2) (by decide)
          have y1' := s2.at y1 (by rw [show g' a = 0 from Ii.z]; decide)
          have u1' := s2.at u1 (by rw [gb]; decide)
          have eJ : (0 : Int) + (j : Int) = (j : Int) := Int.zero_add _
          have hws : ws[j]? = some ws[j] := List.getElem?_eq_getElem (by omega)
          have hat2 : atI (ws.map V.int) ((0 : Int) + (j : Int)) = some (.int ws[j]) := by rw [eJ]; exact atI_nat (by rw [List.getElem?_map, hws]; rfl)
          have Ao2 : IsO K "Shadows" "write" H2 (.ref x) := by rw [← me2]; exact A2.o
          have hh : pgHas S2.pages ((0 : Int) + (i : Int)) = true := by
            rw [show S2.pages = S2.abs.pages from rfl, ab2]
            unfold pgHas
            rw [eI, pgW_nat p1]; rfl
          refine ⟨_, rfl, Ao2, _, rfl, _, rfl, _, rfl, _, rfl, a, ys, _, _, rfl, rfl, SqL.of y1', hat, _, rfl, b, _, _, _, rfl, rfl, SqL.of u1', hat2, ?_⟩
          refine ⟨g2, S2, (0 : Int) + (i : Int), (0 : Int) + (j : Int), ws[j], by rw [me2], A2, W2.tk, hh, by omega, by omega, u3 _ (List.getElem_mem _), fun i' f w' xs' H3 c1 c2 en el ef s3 A3 => ?_⟩
          have hw : Wr S2 (S2.wr f ((0 : Int) + (j : Int)).toNat ws[j] w' xs' c1 c2) := Wr.of el ef
          obtain ⟨Wa, Wb⟩ := hw.wst W2
          refine ⟨⟨_, rfl⟩, _, g2, s2.trans s3, A3, hw.sm.me.trans me2, hw.sm.fr.trans fr2, ⟨top, rest, tb, Wa, Wb _ R2⟩, P2.set i (some (zs.set j ws[j])), ⟨by rw [List.length_set]; exact hP2.len, fun m hm => ?_, fun m h1 h2 => ?_, zs.set j ws[j], List.getElem?_set_self hiP2, by rw [List.length_set]; exact p2, fun c hc => ?_⟩, ?_⟩
          · rw [List.getElem?_set_ne (by omega)]; exact hP2.lo m hm
          · rw [List.getElem?_set_ne (by omega)]; exact hP2.hi m h1 h2
          · rw [List.getElem?_set]
            by_cases hcj : j = c
            · subst hcj
              rw [if_pos rfl, if_pos (by omega), hws]
            · rw [if_neg hcj]; exact p3 c (by omega)
          · rw [hw.abs, pages_wr W2.inj el ef, ← en, show S2.pages = S2.abs.pages from rfl, ab2]
            unfold pgWr
            rw [eI, eJ, pgW_nat p1, Int.toNat_natCast, Int.toNat_natCast, Int.toNat_natCast]
            rfl
        · rintro σ H2 ⟨⟨v6, rfl⟩, S2, g2, s2, A2, me2, fr2, W2, P2, hP2, ab2⟩
          obtain ⟨zs, p1, p2, p3⟩ := hP2.mid
          have ez : zs = ws := by
            apply List.ext_getElem?
            intro c
            by_cases hc : c < 8
            · exact p3 c hc
            · rw [List.getElem?_eq_none (by omega), List.getElem?_eq_none (by omega)]
          rw [ez] at p1
          refine ⟨⟨_, _, rfl⟩, S2, g2, s'.trans s2, A2, me2, fr2, W2, P2, ⟨hP2.len, fun m hm => ?_, fun m h1 h2 => hP2.hi m h1 h2⟩, by rw [ab2, hn']⟩
          by_cases hmi : m = i
          · rw [hmi, p1, hq]
          · exact hP2.lo m (by omega)
    · rintro σ H' ⟨⟨v5, v6, rfl⟩, S, g', s', A', me', fr', W', P, hP, ab⟩
      rw [z2, List.take_length] at ab
      have eP : P = ps := by
        apply List.ext_getElem?
        intro m
        by_cases hm : m < ps.length
        · exact hP.lo m (by rw [z2]; exact hm)
        · rw [List.getElem?_eq_none (by rw [hP.len]; omega), List.getElem?_eq_none (by omega)]
      rw [eP] at ab
      rw [← me']
      exact ⟨_, rfl, k S g' H' s' A' fr' ab W'⟩
end
end Sp

set_option Elab.async false
set_option linter.all false
set_option maxRecDepth 100000
set_option maxHeartbeats 4000000
namespace Sp
open PySem PySem.Spec PyProof.Rows L2
section
variable {P : Program} {w : World} {K : PySem.W.Frag} {mg : Str → Option Value} {base : Heap}
def tLs (K : PySem.W.Frag) (i : Nat) : TE := tCB (fun xs H_1 Q => ∃ p ys, xs = [V.ref p] ∧ (SqL K H_1 p ys ∨ SqT K H_1 p ys) ∧ ∀ (l : Addr), H_1 l = none → Q (V.ref l) (upd H_1 l (HO.lst ys))) (tCons (tVar i) tNil)
def tShl (K : PySem.W.Frag) (i : Nat) : TE := tM K (Str.ofString "Shadows") (Str.ofString "shelf") (sp_Shadows_shelf K) E0 (tVar i) tNil
def tSai (K : PySem.W.Frag) (i : Nat) : TE := tM K (Str.ofString "Shadows") (Str.ofString "said") (sp_Shadows_said K) E0 (tVar i) tNil
def tOt (K : PySem.W.Frag) : TS := tSeq (tAsg (tShl K 0) (gName 9)) (tSeq (tAsg (tSai K 0) (gName 10)) (tSeq (tAsg (tTup (tCons (tLs K 9) (tCons (tLs K 10) tNil))) (gName 11))
  (tSeq (tDrop (tM K (Str.ofString "Shadows") (Str.ofString "resume") (sp_Shadows_resume K) E0 (tVar 7) (tCons (tM K (Str.ofString "Shadows") (Str.ofString "root") (sp_Shadows_root K) E0 (tVar 0) tNil) (tCons (tVar 9) (tCons (tVar 10) tNil)))))
    (tSeq (tDrop (tBM K "list" rAppend (tVar 9) (tCons (tTup (tCons (tC (V.int 0)) (tCons (tC (V.int 0)) (tCons (tC (V.int 0)) tNil)))) tNil)))
      (tSeq (tDrop (tBM K "list" rAppend (tVar 10) (tCons (tC (V.bl true)) tNil)))
        (tSeq (tIfS (tOr (tTest (tOp (rNeD K) (tTup (tCons (tShl K 0) (tCons (tSai K 0) tNil))) (tVar 11))) (tTest (tOp (rNeD K) (tTup (tCons (tShl K 7) (tCons (tSai K 7) tNil))) (tVar 11)))) (tRet (tC V.non)) tNext) (tRet (tVar 7))))))))
theorem ot_ok {g g2 : Addr → Nat} {H H2 : Hp} {S S2 : Wy} {Q : VK} {nx : L2.St → Hp → Prop} {o1 o2 o3 o4 o5 o6 o8 : Option V} (A : WyAt K g H S) (s : Same H H2) (B : WyAt K g2 H2 S2) (W2 : Wok S2 noBad) (hd : ∀ a, g2 a ≠ 0 → H a = none) (ab : S2.abs = { S.abs with base := 0, line := [], said := [] }) (hsd : S.said.length < 1000) (L : LineOk S.s.line)
    (k : ∀ S2 g2 H', Same H H' → WyAt K g2 H' S2 → (∀ a, g2 a ≠ 0 → H a = none) → S2.abs = S.abs → Wok S2 noBad → Q (.ref S2.me) H') :
    tOt K { nx := nx, rt := Q } [some (.ref S.me), o1, o2, o3, o4, o5, o6, some (.ref S2.me), o8, none, none, none] H2 := by
  have z0 : ∀ a o, H a = some o → g2 a = 0 := fun a o e => by
    by_cases h : g2 a = 0
    · exact h
    · have := hd a h
      rw [e] at this; cases this
  have A2 := A.same s
  refine ⟨_, rfl, A2.o, g, S, rfl, A2, fun sh H3 n3 s3 h3 => ?_⟩
  have A3 := A2.same s3
  refine ⟨_, rfl, A3.o, g, S, rfl, A3, fun sd H4 n4 s4 h4 => ?_⟩
  have h34 := s4 _ _ h3
  have hne : sh ≠ sd := fun z => by rw [← z, h3] at n4; cases n4
  refine ⟨_, rfl, sh, _, rfl, .inl (SqL.of h34), fun k1 m1 => ⟨_, rfl, sd, _, rfl, .inl (SqL.of (by rw [upd_ne (ne_of_none h4 m1)]; exact h4)), fun k2 m2 => ⟨by show 2 ≤ sizeLine; decide, fun kt m3 => ?_⟩⟩⟩
  obtain ⟨k21, m2'⟩ := upd_none m2
  obtain ⟨kt2, m3'⟩ := upd_none m3
  obtain ⟨kt1, m3''⟩ := upd_none m3'
  have s5 := ((same_new (o := .lst (S.s.rows.map fun r => .ref r.1)) m1).trans (same_new (o := .lst (S.said.map V.bl)) m2)).trans (same_new (o := .tup [.ref k1, .ref k2]) m3)
  have q1 : upd (upd (upd H4 k1 (.lst (S.s.rows.map fun r => .ref r.1))) k2 (.lst (S.said.map V.bl))) kt (.tup [.ref k1, .ref k2]) k1 = some (.lst (S.s.rows.map fun r => .ref r.1)) := by
    rw [upd_ne kt1.symm, upd_ne k21.symm, upd_same]
  have q2 : upd (upd (upd H4 k1 (.lst (S.s.rows.map fun r => .ref r.1))) k2 (.lst (S.said.map V.bl))) kt (.tup [.ref k1, .ref k2]) k2 = some (.lst (S.said.map V.bl)) := by
    rw [upd_ne kt2.symm, upd_same]
  have q3 : upd (upd (upd H4 k1 (.lst (S.s.rows.map fun r => .ref r.1))) k2 (.lst (S.said.map V.bl))) kt (.tup [.ref k1, .ref k2]) kt = some (.tup [.ref k1, .ref k2]) := upd_same
  generalize hH5 : upd (upd (upd H4 k1 (.lst (S.s.rows.map fun r => .ref r.1))) k2 (.lst (S.said.map V.bl))) kt (.tup [.ref k1, .ref k2]) = H5 at s5 q1 q2 q3 ⊢
  have s25 : Same H2 H5 := s3.trans (s4.trans s5)
  have A5 := A2.same s25
  have B5 := B.same s25
  have gsh : g2 sh = 0 := tag0 B.wf n3
  have gsd : g2 sd = 0 := tag0 B.wf (s3.free n4)
  have g1 : g2 k1 = 0 := tag0 B.wf ((s3.trans s4).free m1)
  have g22 : g2 k2 = 0 := tag0 B.wf ((s3.trans s4).free m2')
  have g3k : g2 kt = 0 := tag0 B.wf ((s3.trans s4).free m3'')
  have e1 : S2.s.line = [] := by rw [show S2.s.line = S2.abs.line from rfl, ab]
  have e2 : S2.s.most = S.s.most := by rw [show S2.s.most = S2.abs.most from rfl, ab]; rfl
  have hsh5 := s5 _ _ h34
  have hsd5 := s5 _ _ h4
  refine ⟨_, rfl, B5.o, _, rfl, A5.o, g, S, rfl, A5, _, rfl, _, rfl, g2, S2, S.base, sh, sd, S.s.rows, S.said, rfl, B5, W2, e1, hsh5, gsh, fun r hr => ⟨s25 _ _ (s _ _ (A.sh.rw r hr).1), z0 _ _ (A.sh.rw r hr).1⟩, hsd5, gsd, L, by rw [e2]; exact A.sh.sz, fun S3 g3 H6 s6 B6 m6 e6 W6 => ?_⟩
  have ab3 : S3.abs = S.abs := by rw [e6, ab]; rfl
  have sH6 : Same H H6 := fun b o e => s6.at (s25 _ _ (s _ _ e)) (by rw [z0 b o e]; decide)
  have t0 : ∀ {a : Addr} {o : HO}, H5 a = some o → g2 a = 0 → H6 a = some o ∧ g3 a = 0 := fun {a o} e h => ⟨s6.at e (by rw [h]; decide), (s6.tag e).trans h⟩
  obtain ⟨sh6, gsh6⟩ := t0 hsh5 gsh
  obtain ⟨sd6, gsd6⟩ := t0 hsd5 gsd
  obtain ⟨k16, gk1⟩ := t0 q1 g1
  obtain ⟨k26, gk2⟩ := t0 q2 g22
  obtain ⟨kt6, gkt⟩ := t0 q3 g3k
  have hlen : S.s.rows.length ≤ 12 := by
    have := A.sh.sz
    have := A.sh.hi
    omega
  have me3 : S3.me = S2.me := m6.me
  refine ⟨_, rfl, .inl ⟨rfl, _, SqL.of sh6⟩, by show 3 ≤ sizeLine; decide, fun z nz => ?_⟩
  have zsh : sh ≠ z := ne_of_none sh6 nz
  have zsd : sd ≠ z := ne_of_none sd6 nz
  refine ⟨_, _, _, rfl, rfl, by rw [upd_ne zsh]; exact sh6, by rw [List.length_map]; exact small1000 (by omega), ?_⟩
  refine ⟨_, rfl, .inl ⟨rfl, _, SqL.of (by rw [upd_ne hne.symm, upd_ne zsd]; exact sd6)⟩, _, _, _, rfl, rfl, by rw [upd_ne hne.symm, upd_ne zsd]; exact sd6, by rw [List.length_map]; exact small1000 (by omega), ?_⟩
  have nsh : H sh = none := s.free n3
  have nsd : H sd = none := s.free (s3.free n4)
  have w1 : Stp [0] g3 H6 g3 (upd H6 z (.tup [.int 0, .int 0, .int 0])) := .new0 nz
  have w2 : Stp [0] g3 (upd H6 z (.tup [.int 0, .int 0, .int 0])) g3 (upd (upd H6 z (.tup [.int 0, .int 0, .int 0])) sh (.lst (S.s.rows.map (fun r => V.ref r.1) ++ [.ref z]))) := .put (by rw [upd_ne zsh]; exact sh6) (by rw [gsh6]; simp)
  have w3 : Stp [0] g3 (upd (upd H6 z (.tup [.int 0, .int 0, .int 0])) sh (.lst (S.s.rows.map (fun r => V.ref r.1) ++ [.ref z]))) g3 (upd (upd (upd H6 z (.tup [.int 0, .int 0, .int 0])) sh (.lst (S.s.rows.map (fun r => V.ref r.1) ++ [.ref z]))) sd (.lst (S.said.map V.bl ++ [.bl true]))) := .put (by rw [upd_ne hne.symm, upd_ne zsd]; exact sd6) (by rw [gsd6]; simp)
  have sH9 : Same H (upd (upd (upd H6 z (.tup [.int 0, .int 0, .int 0])) sh (.lst (S.s.rows.map (fun r => V.ref r.1) ++ [.ref z]))) sd (.lst (S.said.map V.bl ++ [.bl true]))) := same_mut (same_mut (sH6.trans (same_new nz)) nsh) nsd
  have B9 := B6.stp0 (w1.trans (w2.trans w3)) (by decide)
  have keep : ∀ {a : Addr} {o : HO}, H6 a = some o → a ≠ sh → a ≠ sd → upd (upd (upd H6 z (.tup [.int 0, .int 0, .int 0])) sh (.lst (S.s.rows.map (fun r => V.ref r.1) ++ [.ref z]))) sd (.lst (S.said.map V.bl ++ [.bl true])) a = some o := fun {a o} e h1 h2 => by
    rw [upd_ne h2, upd_ne h1, upd_ne (ne_of_none e nz)]; exact e
  have k19 := keep k16 (fun z => by rw [z, h34] at m1; cases m1) (fun z => by rw [z, h4] at m1; cases m1)
  have k29 := keep k26 (fun z => by rw [z, h34] at m2'; cases m2') (fun z => by rw [z, h4] at m2'; cases m2')
  have kt9 := keep kt6 (fun z => by rw [z, h34] at m3''; cases m3'') (fun z => by rw [z, h4] at m3''; cases m3'')
  generalize upd (upd (upd H6 z (.tup [.int 0, .int 0, .int 0])) sh (.lst (S.s.rows.map (fun r => V.ref r.1) ++ [.ref z]))) sd (.lst (S.said.map V.bl ++ [.bl true])) = H9 at sH9 B9 k19 k29 kt9 ⊢
  have A9 := A.same sH9
  have e3 : S3.s.line = S.s.line := by rw [show S3.s.line = S3.abs.line from rfl, ab3]; rfl
  have e4 : S3.said = S.said := by rw [show S3.said = S3.abs.said from rfl, ab3]; rfl
  have shp : Shp (.tuple [.list (S.s.line.map rwD), .list (S.said.map PyData.bool)]) 3 := Shp.tup (k := 2) fun d hd => by
    simp only [List.mem_cons, List.not_mem_nil, or_false] at hd
    rcases hd with rfl | rfl
    · exact shp_line _
    · exact (shp_said _).mono (by decide)
  have dk : ∀ {Hf : Hp}, Same H9 Hf → Dp K Hf (.ref kt) (.tuple [.list (S.s.line.map rwD), .list (S.said.map PyData.bool)]) := fun {Hf} sf =>
    .tup (SqT.of (sf _ _ kt9)) (.cons (A9.sh.dp sf (sf _ _ k19)) (.cons (.lst (SqL.of (sf _ _ k29)) (dp_said _)) .nil))
  refine ⟨_, rfl, A9.o, g, S, rfl, A9, fun l1 H10 n10 s10 h10 => ⟨_, rfl, (A9.same s10).o, g, S, rfl, A9.same s10, fun l2 H11 n11 s11 h11 => ⟨by show 2 ≤ sizeLine; decide, fun t1 n12 => ⟨_, rfl, ?_⟩⟩⟩⟩
  have s12 := (s10.trans s11).trans (same_new (o := .tup [.ref l1, .ref l2]) n12)
  have d1 : Dp K (upd H11 t1 (.tup [.ref l1, .ref l2])) (.ref t1) (.tuple [.list (S.s.line.map rwD), .list (S.said.map PyData.bool)]) :=
    .tup (SqT.of upd_same) (.cons (A9.sh.dp s12 (same_new n12 _ _ (s11 _ _ h10))) (.cons (.lst (SqL.of (same_new n12 _ _ h11)) (dp_said _)) .nil))
  refine neD_same d1 (dk s12) shp (by decide) ⟨_, rfl, iteF ?_⟩
  have B12 := B9.same s12
  rw [← me3]
  refine ⟨_, rfl, B12.o, g3, S3, rfl, B12, fun l3 H13 n13 s13 h13 => ⟨_, rfl, (B12.same s13).o, g3, S3, rfl, B12.same s13, fun l4 H14 n14 s14 h14 => ⟨by show 2 ≤ sizeLine; decide, fun t2 n15 => ⟨_, rfl, ?_⟩⟩⟩⟩
  have s15 := (s13.trans s14).trans (same_new (o := .tup [.ref l3, .ref l4]) n15)
  have d2 : Dp K (upd H14 t2 (.tup [.ref l3, .ref l4])) (.ref t2) (.tuple [.list (S3.s.line.map rwD), .list (S3.said.map PyData.bool)]) :=
    .tup (SqT.of upd_same) (.cons (B12.sh.dp s15 (same_new n15 _ _ (s14 _ _ h13))) (.cons (.lst (SqL.of (same_new n15 _ _ h14)) (dp_said _)) .nil))
  rw [e3, e4] at d2
  refine neD_same d2 (dk (s12.trans s15)) shp (by decide) ⟨_, rfl, iteF ⟨_, rfl, ?_⟩⟩
  refine k S3 g3 _ (sH9.trans (s12.trans s15)) (B12.same s15) (fun a ha => ?_) ab3 W6
  cases e : H a with
  | none => rfl
  | some o => exact absurd ((s6.tag (s25 _ _ (s _ _ e))).trans (z0 a o e)) ha
abbrev N_law_other : List Str := ["_law_way", "_law_frames", "_law_most", "_law_cell", "_law_pages_here", "_law_pool", "_law_spare", "_law_other_here", "_law_ground", "_law_shelf", "_law_said", "_law_kept"]
theorem sc_law_other : FnScope N_law_other ["_law_way", "_law_frames", "_law_most", "_law_cell"] (defScope s_law_other) := ⟨rfl, rfl, rfl, by decide +kernel, rfl, by decide +kernel, by decide +kernel⟩
def sp_law_other (K : PySem.W.Frag) : Sp := fun vs H Q _ => ∃ (g : Addr → Nat) (S : Wy) (cell : Int), vs = [.ref S.me, .ref S.f.fr, .int S.s.most, .int cell] ∧ WyAt K g H S ∧ Wok S noBad ∧ S.abs.spare ≤ 70 ∧ S.said.length < 1000 ∧ 1 ≤ S.pages.length ∧
  ∀ S2 g2 H', Same H H' → WyAt K g2 H' S2 → (∀ a, g2 a ≠ 0 → H a = none) → S2.abs = S.abs → Wok S2 noBad → Q (.ref S2.me) H'
theorem ok_law_other (T : Txt K mg) : DOk P w K mg base CX0 14 ("_law_other", none) ["_law_way", "_law_frames", "_law_most", "_law_cell"] (sp_law_other K) := by
  refine dok T.d_law_other sc_law_other (fun _ _ _ _ _ _ us hl => match us, hl with | [_, _, _, _], _ => rfl) (fun vs H Q E h => ?_) (fun cdv A outer s H vs Q E hr h => ?_)
  · obtain ⟨g, S, cell, rfl, A, ⟨top, rest, tb, W, R⟩, hF, hsd, hp1, k⟩ := h
    rfl
  · obtain ⟨g, S, cell, rfl, A, ⟨top, rest, tb, W, R⟩, hF, hsd, hp1, k⟩ := h
    refine ⟨_, (PSs.nox (pss_cons (ps_set (i := 4) sc_law_other.nd rfl (Or.inl rfl) (pe_m0 (pv 0) T.c_Shadows T.m_Shadows_pages (ok_Shadows_pages T) (hr.mono (by decide)) pass0))
      (pss_cons (ps_set (i := 5) sc_law_other.nd rfl (Or.inl rfl) (pe_op op_add pe_int (pe_op op_mod (pe_op op_fdivW (pv 3) pe_int) pe_int)))
      (pss_cons (ps_set (i := 6) sc_law_other.nd rfl (Or.inl rfl) (pe_op op_sub (pe_m0 (pv 1) T.c_Frames T.m_Frames_size (ok_Frames_size T) (hr.mono (by decide)) pass0) (pe_m0 (pv 1) T.c_Frames T.m_Frames_promised (ok_Frames_promised T) (hr.mono (by decide)) pass0)))
      (pss_cons (ps_if (pt_cmpR op_eq (pe_op op_mod (pv 3) pe_int) pe_int (nomark _)) (pss_one (ps_set (i := 7) sc_law_other.nd rfl (Or.inl rfl) (pe_mk T.mk_Shadows (ok_Shadows_init T) (hr.mono (by decide)) T.g_Shadows pass0 (pa_cons (pe_mk T.mk_Frames (ok_Frames_init T) (hr.mono (by decide)) T.g_Frames pass0 (pa_cons (pe_op op_add (pe_op op_add (pe_g (ok_law_there T) (hr.mono (by decide)) T.g_law_there pass0 (pa_cons (pv 4) pa_nil)) (pv 5)) (pv 6)) pa_nil)) (pa_cons (pv 4) (pa_cons (pv 2) (pa_cons (pv 5) pa_nil))))))) (pss_cons (ps_set (i := 8) sc_law_other.nd rfl (Or.inl rfl) (pe_mk T.mk_Frames (ok_Frames_init T) (hr.mono (by decide)) T.g_Frames pass0 (pa_cons (pe_op op_add (pe_op op_add (pe_callB call_len_seq rfl T.b_len PySem.boot_len (pa_cons (pv 4) pa_nil)) (pv 5)) (pv 6)) pa_nil)))
      (pss_cons (ps_set (i := 7) sc_law_other.nd rfl (Or.inl rfl) (pe_g (ok_law_written T) (hr.mono (by decide)) T.g_law_written pass0 (pa_cons (pv 8) (pa_cons (pv 4) (pa_cons (pv 2) (pa_cons (pv 5) pa_nil))))))
      (pss_one (ps_expr (pe_m (pv 8) T.c_Frames T.m_Frames_ask (ok_Frames_ask T) (hr.mono (by decide)) pass0 (pa_cons (pe_op op_sub (pe_callB call_len_seq rfl T.b_len PySem.boot_len (pa_cons (pv 4) pa_nil)) (pe_g (ok_law_there T) (hr.mono (by decide)) T.g_law_there pass0 (pa_cons (pv 4) pa_nil))) pa_nil)))))))
      (pss_cons (ps_set (i := 9) sc_law_other.nd rfl (Or.inl rfl) (pe_m0 (pv 0) T.c_Shadows T.m_Shadows_shelf (ok_Shadows_shelf T) (hr.mono (by decide)) pass0))
      (pss_cons (ps_set (i := 10) sc_law_other.nd rfl (Or.inl rfl) (pe_m0 (pv 0) T.c_Shadows T.m_Shadows_said (ok_Shadows_said T) (hr.mono (by decide)) pass0))
      (pss_cons (ps_set (i := 11) sc_law_other.nd rfl (Or.inl rfl) (pe_tup (pa_cons (pe_callTy call_list_of rfl T.b_list (by decide +kernel) (pa_cons (pv 9) pa_nil)) (pa_cons (pe_callTy call_list_of rfl T.b_list (by decide +kernel) (pa_cons (pv 10) pa_nil)) pa_nil))))
      (pss_cons (ps_expr (pe_m (pv 7) T.c_Shadows T.m_Shadows_resume (ok_Shadows_resume T) (hr.mono (by decide)) pass0 (pa_cons (pe_m0 (pv 0) T.c_Shadows T.m_Shadows_root (ok_Shadows_root T) (hr.mono (by decide)) pass0) (pa_cons (pv 9) (pa_cons (pv 10) pa_nil)))))
      (pss_cons (ps_expr (pe_bm PySem.F.plainAttrs_list PySem.F.slot_list_append PySem.F.type_list_append mt_append (pv 9) (pa_cons (pe_tup (pa_cons pe_int (pa_cons pe_int (pa_cons pe_int pa_nil)))) pa_nil)))
      (pss_cons (ps_expr (pe_bm PySem.F.plainAttrs_list PySem.F.slot_list_append PySem.F.type_list_append mt_append (pv 10) (pa_cons pe_bl pa_nil)))
      (pss_cons (ps_if (PW.pt (pw_or (pt_cmpR (op_neD hr.units) (pe_tup (pa_cons (pe_m0 (pv 0) T.c_Shadows T.m_Shadows_shelf (ok_Shadows_shelf T) (hr.mono (by decide)) pass0) (pa_cons (pe_m0 (pv 0) T.c_Shadows T.m_Shadows_said (ok_Shadows_said T) (hr.mono (by decide)) pass0) pa_nil))) (pv 11) (nomark _)) (pw_or1 (pt_cmpR (op_neD hr.units) (pe_tup (pa_cons (pe_m0 (pv 7) T.c_Shadows T.m_Shadows_shelf (ok_Shadows_shelf T) (hr.mono (by decide)) pass0) (pa_cons (pe_m0 (pv 7) T.c_Shadows T.m_Shadows_said (ok_Shadows_said T) (hr.mono (by decide)) pass0) pa_nil))) (pv 11) (nomark _))))) (pss_one (ps_ret pe_non)) pss_nil)
      (pss_one (ps_ret (pv 7))))))))))))))), ?_⟩
    refine ⟨_, rfl, A.o, g, S, rfl, A, W.tk, fun L H1 nL s1 hP => ?_⟩
    have A1 := A.same s1
    obtain ⟨pool, hpool, hp2, hp9⟩ : ∃ pool : Nat, (2 : Int) + cell / 2 % 8 = (pool : Int) ∧ 2 ≤ pool ∧ pool ≤ 9 := ⟨((2 : Int) + cell / 2 % 8).toNat, by omega, by omega, by omega⟩
    have hl24 : S.pages.length ≤ 24 := by
      have : S.pages.length = S.p.leads.length := wPg_len _ _
      have := A.pt.sz
      omega
    have hth := there_len S.pages
    have hWl := W.l
    have hWc := W.c
    obtain ⟨sp, hsp⟩ : ∃ sp : Nat, (S.f.F.length : Int) - S.f.pl = (sp : Int) := ⟨((S.f.F.length : Int) - S.f.pl).toNat, by omega⟩
    have hsp50 : sp ≤ 70 := by have hF : (S.f.F.length : Int) - S.f.pl ≤ 70 := hF; omega
    obtain ⟨xs, x1, x2, x3⟩ := hP
    have IZ : ImgZ (fun _ => 0) H1 L S.pages := ⟨⟨xs, x1, x2, fun i p hp => by
      obtain ⟨x, a, b, _⟩ := x3 i p hp
      exact ⟨x, a, b, fun _ _ => rfl⟩⟩, rfl, hp1, hl24⟩
    have wf0 : Wf (fun _ => 0) H1 := fun b hb => absurd rfl hb
    have of0 : ∀ {g' : Addr → Nat} {H' : Hp}, Stp ALL (fun _ => 0) H1 g' H' → Same H H' ∧ ∀ a, g' a ≠ 0 → H a = none := fun {g' H'} st => ⟨s1.trans fun b o e => st.at e (by decide), fun a ha => by
      cases e : H a with
      | none => rfl
      | some o => exact absurd (st.tag (s1 _ _ e)) ha⟩
    refine ⟨_, rfl, _, _, rfl, rfl, ⟨by decide, by decide⟩, _, _, rfl, rfl, (by show (0 : Int) < 8; decide), _, _, rfl, rfl, ?_⟩
    refine ⟨_, rfl, A1.fr.o, g, S.f, rfl, A1.fr, _, rfl, A1.fr.o, g, S.f, rfl, A1.fr, _, _, rfl, rfl, ?_⟩
    refine ⟨_, rfl, _, _, rfl, rfl, (by show (0 : Int) < 2; decide), rfl, _, rfl, ifB (fun _ => ?_) fun _ => ?_⟩
    · refine ⟨_, rfl, L, S.pages, rfl, IZ.img, fun H2 s2 => ⟨_, rfl, _, _, rfl, rfl, _, rfl, _, _, rfl, rfl, fun x dx nx ndx nxd => ?_⟩⟩
      have st2 : Stp ALL (fun _ => 0) H1 (fun _ => 0) H2 := .same s2
      have stx : Stp [] (fun _ => 0) H2 (tg (fun _ => 0) x 1) (upd (upd H2 dx (.own x)) x (.ins (He.ga K "Frames") dx [])) := Stp.mkO nx ndx nxd
      have em : ((there S.pages : Nat) : Int) + (2 + cell / 2 % 8) + ((S.f.F.length : Int) - S.f.pl) = ((there S.pages + pool + sp : Nat) : Int) := by rw [hpool, hsp]; omega
      refine ⟨x, dx, there S.pages + pool + sp, tg (fun _ => 0) x 1, congrArg (fun z : Int => [V.ref x, V.int z]) em, by omega, by omega, upd_same, tg_same, fun hl ol g3 H3 s3 B3 => ⟨rfl, ?_⟩⟩
      have st3 : Stp ALL (fun _ => 0) H1 g3 H3 := st2.trans ((stx.mono (by simp)).trans (s3.mono (by decide)))
      have I3 : ImgZ g3 H3 L S.pages := IZ.stp st3 (by decide)
      refine ⟨_, rfl, _, rfl, _, rfl, fun y dy ny ndy nyd => ?_⟩
      have sty : Stp [] g3 H3 (tg g3 y 9) (upd (upd H3 dy (.own y)) y (.ins (He.ga K "Shadows") dy [])) := Stp.mkO ny ndy nyd
      have hlen : (List.replicate (there S.pages + pool + sp) (none : Fm)).length = there S.pages + pool + sp := List.length_replicate
      refine ⟨y, dy, tg g3 y 9, ⟨x, hl, ol, List.replicate (there S.pages + pool + sp) none, 0⟩, L, S.pages, S.s.most, pool, congrArg (fun z : Int => [V.ref y, V.ref x, V.ref L, V.int S.s.most, V.int z]) hpool, (st3.trans (sty.mono (by simp))).wf wf0, B3.stp sty (by simp), I3.stp sty (by simp), A.sh.lo, A.sh.hi, hp2, hp9, rfl, cnt_none _, by show _ ≤ (List.replicate (there S.pages + pool + sp) (none : Fm)).length; rw [hlen]; omega, upd_same, tg_same, fun S2 g4 H4 s4 A4 m4 f4 a4 W4 => ⟨rfl, ?_⟩⟩
      obtain ⟨sH, hd⟩ := of0 (st3.trans ((sty.mono (by simp)).trans s4))
      rw [← m4]
      refine ot_ok A sH A4 W4 hd ?_ hsd W.ln k
      rw [a4]
      show Pl.mk _ _ _ _ _ (((List.replicate (there S.pages + pool + sp) (none : Fm)).length : Int) - _) = Pl.mk _ _ _ _ _ ((S.f.F.length : Int) - S.f.pl)
      rw [hlen, hsp]
      congr 1
      omega
    · refine ⟨_, rfl, _, _, rfl, .inl (SqL.of x1), _, rfl, _, _, rfl, rfl, _, rfl, _, _, rfl, rfl, fun x dx nx ndx nxd => ?_⟩
      have stx : Stp [] (fun _ => 0) H1 (tg (fun _ => 0) x 1) (upd (upd H1 dx (.own x)) x (.ins (He.ga K "Frames") dx [])) := Stp.mkO nx ndx nxd
      have em : ((xs.length : Nat) : Int) + (2 + cell / 2 % 8) + ((S.f.F.length : Int) - S.f.pl) = ((S.pages.length + pool + sp : Nat) : Int) := by rw [hpool, hsp, x2]; omega
      refine ⟨x, dx, S.pages.length + pool + sp, tg (fun _ => 0) x 1, congrArg (fun z : Int => [V.ref x, V.int z]) em, by omega, by omega, upd_same, tg_same, fun hl ol g3 H3 s3 B3 => ⟨rfl, ?_⟩⟩
      have st3 : Stp ALL (fun _ => 0) H1 g3 H3 := (stx.mono (by simp)).trans (s3.mono (by decide))
      have I3 : ImgZ g3 H3 L S.pages := IZ.stp st3 (by decide)
      have hlen : (List.replicate (S.pages.length + pool + sp) (none : Fm)).length = S.pages.length + pool + sp := List.length_replicate
      refine ⟨_, rfl, _, rfl, _, rfl, _, rfl, g3, ⟨x, hl, ol, List.replicate (S.pages.length + pool + sp) none, 0⟩, L, S.pages, S.s.most, pool, congrArg (fun z : Int => [V.ref x, V.ref L, V.int S.s.most, V.int z]) hpool, st3.wf wf0, B3, I3, A.sh.lo, A.sh.hi, hp2, hp9, rfl, cnt_none _, by show _ ≤ (List.replicate (S.pages.length + pool + sp) (none : Fm)).length; rw [hlen]; omega, fun S2 g4 H4 s4 A4 f4 a4 W4 => ?_⟩
      have st4 := st3.trans s4
      have I4 : ImgZ g4 H4 L S.pages := IZ.stp st4 (by decide)
      obtain ⟨ys, y1, y2, _⟩ := I4.ex
      have f4 : S2.f.fr = x := f4
      have A4f : IsO K "Frames" "ask" H4 (.ref x) := by rw [← f4]; exact A4.fr.o
      have a4s : (S2.f.F.length : Int) - S2.f.pl = (sp : Int) + ((S.pages.length : Int) - there S.pages) := by
        have : S2.abs.spare = _ := congrArg Pl.spare a4
        refine Eq.trans this ?_
        show (((List.replicate (S.pages.length + pool + sp) (none : Fm)).length : Nat) : Int) - _ + _ = _
        rw [hlen]
        show ((S.pages.length + pool + sp : Nat) : Int) - ((pool + S.pages.length : Nat) : Int) + ((S.pages.length : Int) - there S.pages) = _
        omega
      refine ⟨_, rfl, A4f, _, rfl, _, _, rfl, .inl (SqL.of y1), _, rfl, L, S.pages, rfl, I4.img, fun H5 s5 => ⟨_, _, rfl, rfl, g4, S2.f, _, by rw [f4], (A4.fr).same s5, fun hok H6 s6 B6 => ?_, fun hno => ?_⟩⟩
      · have A6 := (A4.same s5).setF s6 B6 rfl
        obtain ⟨sH, hd⟩ := of0 (st4.trans ((Stp.same s5).trans (s6.mono (by decide))))
        obtain ⟨t2, r2, tb2, W2, R2⟩ := W4
        have W6 : Wst { S2 with f := { S2.f with pl := S2.f.pl + ((ys.length : Int) - there S.pages) } } t2 r2 tb2 := ⟨W2.mine, W2.tab, W2.inj, W2.tk, W2.apart, by have := W2.c; show (cnt S2.f.F : Int) ≤ S2.f.pl + ((ys.length : Int) - there S.pages); omega, hok, W2.ln⟩
        refine ot_ok (S2 := { S2 with f := { S2.f with pl := S2.f.pl + ((ys.length : Int) - there S.pages) } }) A sH A6 ⟨t2, r2, tb2, W6, R2⟩ hd ?_ hsd W.ln k
        have h2 : Wy.abs { S2 with f := { S2.f with pl := S2.f.pl + ((ys.length : Int) - there S.pages) } } = { S2.abs with spare := (S2.f.F.length : Int) - (S2.f.pl + ((ys.length : Int) - there S.pages)) } := rfl
        rw [h2, a4]
        show Pl.mk _ _ _ _ _ _ = Pl.mk _ _ _ _ _ ((S.f.F.length : Int) - S.f.pl)
        congr 1
        omega
      · exact absurd (show S2.f.pl + ((ys.length : Int) - there S.pages) ≤ S2.f.F.length by omega) hno
end
end Sp

set_option Elab.async false
set_option linter.all false
set_option maxRecDepth 100000
set_option maxHeartbeats 4000000
namespace Sp
open PySem PySem.Spec PyProof.Rows L2
section
variable {P : Program} {w : World} {K : PySem.W.Frag} {mg : Str → Option Value} {base : Heap}
/-! ### two ways side by side -/
theorem Stp.side {g1 g1' g2 : Addr → Nat} {H H' : Hp} (s : Stp ALL g1 H g1' H') (d : ∀ a, g1 a ≠ 0 → g2 a = 0) (w : Wf g2 H) : Stp [0] g2 H g2 H' ∧ (∀ a, g1' a ≠ 0 → g2 a = 0) := by
  refine ⟨⟨fun b o e hn => s.keep b o e ?_, fun b o e => ⟨(s.stay b o e).1, rfl⟩, fun w2 b hb => ?_⟩, fun a ha => ?_⟩
  · have h2 : g2 b ≠ 0 := fun z => hn (by rw [z]; simp)
    have : g1 b = 0 := by
      by_cases h : g1 b = 0
      · exact h
      · exact absurd (d b h) h2
    rw [this]; decide
  · obtain ⟨o, e⟩ := w2 b hb
    exact (s.stay b o e).1
  · cases e : H a with
    | none => exact tag0 w e
    | some o => exact d a (by rw [← (s.stay a o e).2]; exact ha)
theorem callP_inv {P P' : Pl} {wd : Str} {f s : Int} {k : Bool} {v : V} (h : callP P wd f s k = .ok (P', v)) : P'.most = P.most ∧ P'.pages.length = P.pages.length ∧ P'.said.length ≤ P.said.length + 1 ∧ P'.spare ≤ P.spare + 1 ∧ (v = .non ∨ (∃ b, v = .bl b) ∨ ∃ i, v = .int i) := by
  have wl : ∀ (ps : List Pg) (n c x : Int), (pgWr ps n c x).length = ps.length := fun ps n c x => List.length_set ..
  have sl : ∀ (ps : List Pg) (t : Int × Int) (m : Int), (stampP ps t m).length = ps.length := fun ps t m => by
    unfold stampP
    split
    · rfl
    · exact wl ..
  have ml : ∀ (ps : List Pg) (x : Trail) (w : Bool), (markP ps x w).1.length = ps.length := fun ps x w => by
    unfold markP
    cases w
    · show (stampP (stampP ps x.1 8) x.2.1 8).length = _
      rw [sl, sl]
    · show (stampP (stampP ps x.1 8) x.2.1 24).length = _
      rw [sl, sl]
  have rl : ∀ (pl : Int) (w : Bool) (P2 : Pl) (pg : Int), reachP P pl w k = .ok (P2, pg) → P2.most = P.most ∧ P2.pages.length = P.pages.length ∧ P2.said = P.said ∧ P2.spare = P.spare := fun pl w P2 pg e => by
    unfold reachP at e
    cases e1 : onShelf P pl w k with
    | some q =>
      rw [e1] at e
      injection e with e
      injection e with e _
      rw [← e]; exact ⟨rfl, rfl, rfl, rfl⟩
    | none =>
      rw [e1] at e
      dsimp only at e
      cases e2 : lookP P.pages P.base pl w k with
      | error s => rw [e2] at e; cases e
      | ok x =>
        rw [e2] at e
        injection e with e
        injection e with e _
        rw [← e]; exact ⟨rfl, ml _ _ _, rfl, rfl⟩
  unfold callP at h
  split at h
  · unfold loadP at h
    cases e1 : reachP P f false k with
    | error q => rw [e1] at h; cases h
    | ok q =>
      obtain ⟨P2, pg⟩ := q
      rw [e1] at h
      injection h with h
      injection h with h1 h2
      obtain ⟨a, b, c, d⟩ := rl _ _ _ _ e1
      rw [← h1, ← h2]
      exact ⟨a, b, by rw [c]; omega, by rw [d]; omega, .inr (.inr ⟨_, rfl⟩)⟩
  split at h
  · unfold saveP at h
    cases e1 : reachP P f true k with
    | error q => rw [e1] at h; cases h
    | ok q =>
      obtain ⟨P2, pg⟩ := q
      rw [e1] at h
      injection h with h
      injection h with h1 h2
      obtain ⟨a, b, c, d⟩ := rl _ _ _ _ e1
      rw [← h1, ← h2]
      exact ⟨a, by show (pgWr _ _ _ _).length = _; rw [wl]; exact b, by show P2.said.length ≤ _; rw [c]; omega, by show P2.spare ≤ _; rw [d]; omega, .inl rfl⟩
  split at h
  · unfold peekP at h
    by_cases hp : pgHas P.pages (f / 8) = true
    · rw [if_pos hp] at h
      injection h with h
      injection h with h1 h2
      rw [← h1, ← h2]
      exact ⟨rfl, rfl, by omega, by omega, .inr (.inr ⟨_, rfl⟩)⟩
    · rw [if_neg hp] at h; cases h
  split at h
  · unfold pokeP at h
    by_cases hp : pgHas P.pages (f / 8) = true
    · rw [if_pos hp] at h
      injection h with h
      injection h with h1 h2
      rw [← h1, ← h2]
      exact ⟨rfl, wl .., by show P.said.length ≤ _; omega, by show P.spare ≤ _; omega, .inl rfl⟩
    · rw [if_neg hp] at h; cases h
  split at h
  · injection h with h
    injection h with h1 h2
    rw [← h1, ← h2]
    exact ⟨rfl, rfl, by show P.said.length ≤ _; omega, by show P.spare ≤ _; omega, .inl rfl⟩
  split at h
  · injection h with h
    injection h with h1 h2
    rw [← h1, ← h2]
    unfold dropP
    split
    · exact ⟨rfl, rfl, by omega, by omega, .inl rfl⟩
    · exact ⟨rfl, rfl, by show P.said.length ≤ _; omega, by show P.spare ≤ _; omega, .inl rfl⟩
  split at h
  · injection h with h
    injection h with h1 h2
    rw [← h1, ← h2]
    unfold giveP
    split
    · exact ⟨rfl, List.length_set .., by show P.said.length ≤ _; omega, by show P.spare + 1 ≤ _; omega, .inr (.inl ⟨_, rfl⟩)⟩
    · exact ⟨rfl, rfl, by show P.said.length ≤ _; omega, by show P.spare ≤ _; omega, .inr (.inl ⟨_, rfl⟩)⟩
  · injection h with h
    injection h with h1 h2
    rw [← h1, ← h2]
    unfold wantP
    split
    · exact ⟨rfl, rfl, by show P.said.length ≤ _; omega, by show P.spare ≤ _; omega, .inr (.inl ⟨_, rfl⟩)⟩
    split
    · exact ⟨rfl, rfl, by show P.said.length ≤ _; omega, by show P.spare ≤ _; omega, .inr (.inl ⟨_, rfl⟩)⟩
    split
    · exact ⟨rfl, List.length_set .., by show (P.said ++ [true]).length ≤ _; rw [List.length_append]; exact Nat.le_refl _, by show P.spare - 1 ≤ _; omega, .inr (.inl ⟨_, rfl⟩)⟩
    · exact ⟨rfl, rfl, by show (P.said ++ [false]).length ≤ _; rw [List.length_append]; exact Nat.le_refl _, by show P.spare ≤ _; omega, .inr (.inl ⟨_, rfl⟩)⟩
def pgD : Pg → PyData
  | none => .none
  | some ws => .list (ws.map PyData.int)
theorem dp_ints {H : Hp} : ∀ ws : List Int, DpAll K H (ws.map V.int) (ws.map PyData.int)
  | [] => .nil
  | i :: ws => .cons (.int i) (dp_ints ws)
theorem dp_pages {H : Hp} : ∀ (xs : List V) (ps : List Pg), xs.length = ps.length → (∀ (i : Nat) p, ps[i]? = some p → ∃ x, xs[i]? = some x ∧ PgAt H x p) → DpAll K H xs (ps.map pgD)
  | [], [], _, _ => .nil
  | [], _ :: _, h, _ => by cases h
  | _ :: _, [], h, _ => by cases h
  | x :: xs, p :: ps, h, k => by
    obtain ⟨y, h1, h2⟩ := k 0 p rfl
    obtain rfl : x = y := by injection h1
    have tl := dp_pages xs ps (by simpa using h) fun i q hq => k (i + 1) q (by simpa using hq)
    refine .cons ?_ tl
    cases p with
    | none =>
      have e : x = V.non := h2
      rw [e]; exact .non
    | some ws =>
      obtain ⟨b, rfl, w1, _⟩ := h2
      exact .lst (SqL.of w1) (dp_ints ws)
theorem shp_pages (ps : List Pg) : Shp (.list (ps.map pgD)) 2 := Shp.lst (k := 1) fun d hd => by
  obtain ⟨p, _, rfl⟩ := List.mem_map.mp hd
  cases p with
  | none => exact Shp.non.mono (by decide)
  | some ws =>
    refine Shp.lst (k := 0) fun e he => ?_
    obtain ⟨i, _, rfl⟩ := List.mem_map.mp he
    exact Shp.int _
theorem PgsNew.dp {H0 H H' : Hp} {l : Addr} {ps : List Pg} (h : PgsNew H0 H l ps) (s : Same H H') : Dp K H' (.ref l) (.list (ps.map pgD)) := by
  obtain ⟨xs, x1, x2, x3⟩ := h
  exact .lst (SqL.of (s _ _ x1)) (dp_pages xs ps x2 fun i p hp => by
    obtain ⟨x, a, b, _⟩ := x3 i p hp
    exact ⟨x, a, b.same s⟩)
theorem cut_ints (ns : List Int) (lo hi : Option Int) : ∃ ms : List Int, cutV (ns.map V.int) lo hi = ms.map V.int ∧ ms.length ≤ ns.length := by
  unfold cutV
  refine ⟨(ns.drop (HT.sIx (ns.map V.int).length 0 lo)).take (HT.sIx (ns.map V.int).length (ns.map V.int).length hi - HT.sIx (ns.map V.int).length 0 lo), by rw [List.map_take, List.map_drop], ?_⟩
  rw [List.length_take, List.length_drop]
  omega
theorem cut_60 (ns : List Int) : ∃ ms : List Int, cutV (ns.map V.int) (some 3) (some 63) = ms.map V.int ∧ ms.length ≤ 60 := by
  unfold cutV
  refine ⟨(ns.drop (HT.sIx (ns.map V.int).length 0 (some 3))).take (HT.sIx (ns.map V.int).length (ns.map V.int).length (some 63) - HT.sIx (ns.map V.int).length 0 (some 3)), by rw [List.map_take, List.map_drop], ?_⟩
  rw [show (some 3 : Option Int) = some ((3 : Nat) : Int) from rfl, show (some 63 : Option Int) = some ((63 : Nat) : Int) from rfl, HT.sIx_nat, HT.sIx_nat, List.length_take, List.length_drop]
  omega
/-- an answer of a deed -/
def Ans (H : Hp) (f : Int) (r : Except (Str × Int) (Pl × V)) (y : V) : Prop := match r with
  | .ok (_, v) => y = v
  | .error (e, l) => ∃ u, y = .ref u ∧ H u = some (.tup [.str "fault", .str e, .int f, .int l])
def aft (P : Pl) (r : Except (Str × Int) (Pl × V)) : Pl := match r with
  | .ok (P', _) => P'
  | .error _ => P
theorem Ans.alk {H : Hp} {P : Pl} {wd : Str} {f s : Int} {k : Bool} {x y : V} (h1 : Ans H f (callP P wd f s k) x) (h2 : Ans H f (callP P wd f s k) y) : Alk H x y := by
  cases e : callP P wd f s k with
  | ok q =>
    obtain ⟨P', v⟩ := q
    rw [e] at h1 h2
    have h1 : x = v := h1
    have h2 : y = v := h2
    subst h1
    subst h2
    rcases (callP_inv e).2.2.2.2 with h | ⟨b, h⟩ | ⟨i, h⟩
    · exact .inl ⟨h, h⟩
    · exact .inr (.inl ⟨b, h, h⟩)
    · exact .inr (.inr (.inl ⟨i, h, h⟩))
  | error q =>
    obtain ⟨e1, l⟩ := q
    have hk := callP_err e
    rw [e] at h1 h2
    obtain ⟨u, a1, a2⟩ := h1
    obtain ⟨w, b1, b2⟩ := h2
    exact .inr (.inr (.inr ⟨u, w, e1, f, l, hk, a1, b1, a2, b2⟩))
/-- one deed's doing, either way it ends -/
theorem do_one {g : Addr → Nat} {H : Hp} {S : Wy} {t : Addr} {wd : Str} {f s : Int} {k' : Bool} {Q : VK} {E : XK} (ht : H t = some (.tup [.str wd, .int f, .int s, .bl k'])) (hw : wd ∈ deeds) (hf : 0 ≤ f) (hs : IsWord s) (A : WyAt K g H S) (W : Wok S noBad) (hsd : S.said.length < 1000)
    (k : ∀ y S' g' H', Stp ALL g H g' H' → WyAt K g' H' S' → Sm S S' → S'.abs = aft S.abs (callP S.abs wd f s k') → Wok S' noBad → Ans H' f (callP S.abs wd f s k') y → (∀ u, y = .ref u → H u = none) → Q y H') : sp_law_do K [.ref S.me, .ref t] H Q E := by
  refine ⟨g, S, t, wd, f, s, k', rfl, ht, hw, hf, hs, A, W, hsd, fun P v e S' g' H' s' A' m' ea W' => ?_, fun e l h u H' nu s' hu => ?_⟩
  · refine k v S' g' H' s' A' m' (by rw [e]; exact ea) W' (by rw [e]; rfl) fun u z => ?_
    rcases (callP_inv e).2.2.2.2 with h | ⟨b, h⟩ | ⟨i, h⟩ <;> (rw [h] at z; cases z)
  · exact k (.ref u) S g H' (.same s') (A.same s') .refl (by rw [h]; rfl) W (by rw [h]; exact ⟨u, rfl, hu⟩) fun u' z => by injection z with z; rw [← z]; exact nu
abbrev N_law : List Str := ["_law_script", "_law_pages_here", "_law_most", "_law_pool", "_law_frames", "_law_way", "_law_cells", "_law_cut", "_law_cell", "_law_other_here", "_law_deed_here", "_law_due"]
theorem sc_law : FnScope N_law ["_law_script"] (defScope s_law) := ⟨rfl, rfl, rfl, by decide +kernel, rfl, by decide +kernel, by decide +kernel⟩
def sp_law (K : PySem.W.Frag) : Sp := fun vs H Q _ => ∃ (a : Addr) (ns : List Int), vs = [.ref a] ∧ SqL K H a (ns.map V.int) ∧ ∀ H', Q (.bl true) H'
theorem fn_law (T : Txt K mg) {fd : FuncData} (F : FunD K "law" "law" (defArgs s_law) (defBody s_law) (defScope s_law) [] [] (He.fAd K ("law", none)) fd) : FnOk P w K mg base CX0 20 (He.fAd K ("law", none)) fd ["_law_script"] (sp_law K) := by
  refine FunD.ok (k := 19) F sc_law (fun vs H Q E h => ?_) (fun cdv A outer s H vs Q E hr h => ?_)
  · obtain ⟨a, ns, rfl, hq, k⟩ := h
    rfl
  · obtain ⟨a, ns, rfl, hq, k⟩ := h
    refine ⟨_, (PSs.nox (pss_cons (ps_set (i := 1) sc_law.nd rfl (Or.inl rfl) (pe_g (ok_law_pages T) (hr.mono (by decide)) T.g_law_pages pass0 (pa_cons (pv 0) pa_nil)))
      (pss_cons (ps_set (i := 2) sc_law.nd rfl (Or.inl rfl) (pe_op op_add pe_int (pe_op op_mod (pe_op op_fdivW (pe_g (ok_law_cell_at T) (hr.mono (by decide)) T.g_law_cell_at pass0 (pa_cons (pv 0) (pa_cons pe_int pa_nil))) pe_int) pe_int)))
      (pss_cons (ps_set (i := 3) sc_law.nd rfl (Or.inl rfl) (pe_op op_add pe_int (pe_op op_mod (pe_g (ok_law_cell_at T) (hr.mono (by decide)) T.g_law_cell_at pass0 (pa_cons (pv 0) (pa_cons pe_int pa_nil))) pe_int)))
      (pss_cons (ps_set (i := 4) sc_law.nd rfl (Or.inl rfl) (pe_mk T.mk_Frames (ok_Frames_init T) (hr.mono (by decide)) T.g_Frames pass0 (pa_cons (pe_op op_add (pe_op op_add (pe_g (ok_law_there T) (hr.mono (by decide)) T.g_law_there pass0 (pa_cons (pv 1) pa_nil)) (pv 3)) (pe_op op_mod (pe_g (ok_law_cell_at T) (hr.mono (by decide)) T.g_law_cell_at pass0 (pa_cons (pv 0) (pa_cons pe_int pa_nil))) pe_int)) pa_nil)))
      (pss_cons (ps_set (i := 5) sc_law.nd rfl (Or.inl rfl) (pe_mk T.mk_Shadows (ok_Shadows_init T) (hr.mono (by decide)) T.g_Shadows pass0 (pa_cons (pv 4) (pa_cons (pv 1) (pa_cons (pv 2) (pa_cons (pv 3) pa_nil))))))
      (pss_cons (ps_set (i := 6) sc_law.nd rfl (Or.inl rfl) (pe_slice sl_list (pv 0) (po_some pe_int) (po_some pe_int)))
      (pss_cons (ps_set (i := 7) sc_law.nd rfl (Or.inl rfl) (pe_op op_mod (pe_g (ok_law_by T) (hr.mono (by decide)) T.g_law_by pass0 (pa_cons (pe_g (ok_law_cell_at T) (hr.mono (by decide)) T.g_law_cell_at pass0 (pa_cons (pv 0) (pa_cons pe_int pa_nil))) (pa_cons pe_int pa_nil))) (pe_op op_add (pe_callB call_len_seq rfl T.b_len PySem.boot_len (pa_cons (pv 6) pa_nil)) pe_int)))
      (pss_cons (ps_for PassesOwn.never rfl (pi_list (pe_slice sl_list (pv 6) po_none (po_some (pv 7)))) (pg_name (i := 8) sc_law.nd rfl (Or.inl rfl)) (pss_one (ps_expr (pe_g (ok_law_do T) (hr.mono (by decide)) T.g_law_do pass0 (pa_cons (pv 5) (pa_cons (pe_g (ok_law_deed T) (hr.mono (by decide)) T.g_law_deed pass0 (pa_cons (pv 8) (pa_cons (pe_callB call_len_seq rfl T.b_len PySem.boot_len (pa_cons (pv 1) pa_nil)) pa_nil))) pa_nil))))))
      (pss_cons (ps_set (i := 9) sc_law.nd rfl (Or.inl rfl) (pe_g (ok_law_other T) (hr.mono (by decide)) T.g_law_other pass0 (pa_cons (pv 5) (pa_cons (pv 4) (pa_cons (pv 2) (pa_cons (pe_g (ok_law_cell_at T) (hr.mono (by decide)) T.g_law_cell_at pass0 (pa_cons (pv 0) (pa_cons pe_int pa_nil))) pa_nil))))))
      (pss_cons (ps_if (PW.pt (pw_or (pt_cmpR op_isN (pv 9) pe_non (nomark _)) (pw_or (pt_not (pt_val (pe_g (ok_law_like T) (hr.mono (by decide)) T.g_law_like pass0 (pa_cons (pv 5) (pa_cons (pv 9) pa_nil))))) (pw_or1 (pt_cmpR (op_neD hr.units) (pe_m0 (pv 9) T.c_Shadows T.m_Shadows_pages (ok_Shadows_pages T) (hr.mono (by decide)) pass0) (pe_m0 (pv 5) T.c_Shadows T.m_Shadows_pages (ok_Shadows_pages T) (hr.mono (by decide)) pass0) (nomark _)))))) (pss_one (ps_ret pe_bl)) pss_nil)
      (pss_cons (ps_for PassesOwn.never rfl (pi_list (pe_slice sl_list (pv 6) (po_some (pv 7)) po_none)) (pg_name (i := 8) sc_law.nd rfl (Or.inl rfl)) (pss_cons (ps_set (i := 10) sc_law.nd rfl (Or.inl rfl) (pe_g (ok_law_deed T) (hr.mono (by decide)) T.g_law_deed pass0 (pa_cons (pv 8) (pa_cons (pe_callB call_len_seq rfl T.b_len PySem.boot_len (pa_cons (pv 1) pa_nil)) pa_nil))))
      (pss_cons (ps_set (i := 11) sc_law.nd rfl (Or.inl rfl) (pe_g (ok_law_do T) (hr.mono (by decide)) T.g_law_do pass0 (pa_cons (pv 5) (pa_cons (pv 10) pa_nil))))
      (pss_one (ps_if (PW.pt (pw_or (pt_not (pt_val (pe_g (ok_law_alike T) (hr.mono (by decide)) T.g_law_alike pass0 (pa_cons (pe_g (ok_law_do T) (hr.mono (by decide)) T.g_law_do pass0 (pa_cons (pv 9) (pa_cons (pv 10) pa_nil))) (pa_cons (pv 11) pa_nil))))) (pw_or1 (pt_not (pt_val (pe_g (ok_law_like T) (hr.mono (by decide)) T.g_law_like pass0 (pa_cons (pv 5) (pa_cons (pv 9) pa_nil)))))))) (pss_one (ps_ret pe_bl)) pss_nil)))))
      (pss_one (ps_ret (pe_cmpR (op_eqD hr.units) (pe_m0 (pv 9) T.c_Shadows T.m_Shadows_pages (ok_Shadows_pages T) (hr.mono (by decide)) pass0) (pe_m0 (pv 5) T.c_Shadows T.m_Shadows_pages (ok_Shadows_pages T) (hr.mono (by decide)) pass0) (nomark _)))))))))))))))), ?_⟩
    refine ⟨_, rfl, a, ns, rfl, hq, fun L H1 ps nL s1 hP hl1 hl24 => ?_⟩
    have hq1 := sqL_mono hq s1
    refine ⟨_, rfl, a, ns, 2, rfl, hq1, _, _, rfl, rfl, ⟨by decide, by decide⟩, _, _, rfl, rfl, (by show (0 : Int) < 12; decide), _, _, rfl, rfl, ?_⟩
    obtain ⟨most, hm, hm1, hm12⟩ : ∃ z, (1 : Int) + ns.getD 2 0 / 4 % 12 = z ∧ 1 ≤ z ∧ z ≤ 12 := ⟨_, rfl, by omega, by omega⟩
    refine ⟨_, rfl, a, ns, 3, rfl, hq1, _, _, rfl, rfl, (by show (0 : Int) < 8; decide), _, _, rfl, rfl, ?_⟩
    obtain ⟨pool, hpo, hp2, hp9⟩ : ∃ pool : Nat, (2 : Int) + ns.getD 3 0 % 8 = (pool : Int) ∧ 2 ≤ pool ∧ pool ≤ 9 := ⟨((2 : Int) + ns.getD 3 0 % 8).toNat, by omega, by omega, by omega⟩
    have wf0 : Wf (fun _ => 0) H1 := fun b hb => absurd rfl hb
    have IZ : ImgZ (fun _ => 0) H1 L ps := by
      obtain ⟨xs, x1, x2, x3⟩ := hP
      exact ⟨⟨xs, x1, x2, fun i p hp => by
        obtain ⟨x, a, b, _⟩ := x3 i p hp
        exact ⟨x, a, b, fun _ _ => rfl⟩⟩, rfl, hl1, hl24⟩
    have hth := there_len ps
    refine ⟨_, rfl, L, ps, rfl, IZ.img, fun H2 s2 => ⟨_, rfl, _, _, rfl, rfl, _, rfl, a, ns, 2, rfl, sqL_mono hq1 s2, _, _, rfl, rfl, (by show (0 : Int) < 4; decide), _, _, rfl, rfl, fun x dx nx ndx nxd => ?_⟩⟩
    obtain ⟨ex, hex, hex4⟩ : ∃ ex : Nat, ns.getD 2 0 % 4 = (ex : Int) ∧ ex < 4 := ⟨(ns.getD 2 0 % 4).toNat, by omega, by omega⟩
    have st2 : Stp ALL (fun _ => 0) H1 (fun _ => 0) H2 := .same s2
    have stx : Stp [] (fun _ => 0) H2 (tg (fun _ => 0) x 1) (upd (upd H2 dx (.own x)) x (.ins (He.ga K "Frames") dx [])) := Stp.mkO nx ndx nxd
    have em : ((there ps : Nat) : Int) + (2 + ns.getD 3 0 % 8) + ns.getD 2 0 % 4 = ((there ps + pool + ex : Nat) : Int) := by rw [hpo, hex]; omega
    refine ⟨x, dx, there ps + pool + ex, tg (fun _ => 0) x 1, congrArg (fun z : Int => [V.ref x, V.int z]) em, by omega, by omega, upd_same, tg_same, fun hl ol g3 H3 s3 B3 => ⟨rfl, ?_⟩⟩
    have st3 : Stp ALL (fun _ => 0) H1 g3 H3 := st2.trans ((stx.mono (by simp)).trans (s3.mono (by decide)))
    have I3 : ImgZ g3 H3 L ps := IZ.stp st3 (by decide)
    refine ⟨_, rfl, _, rfl, _, rfl, _, rfl, fun y dy ny ndy nyd => ?_⟩
    have sty : Stp [] g3 H3 (tg g3 y 9) (upd (upd H3 dy (.own y)) y (.ins (He.ga K "Shadows") dy [])) := Stp.mkO ny ndy nyd
    have hlen : (List.replicate (there ps + pool + ex) (none : Fm)).length = there ps + pool + ex := List.length_replicate
    refine ⟨y, dy, tg g3 y 9, ⟨x, hl, ol, List.replicate (there ps + pool + ex) none, 0⟩, L, ps, 1 + ns.getD 2 0 / 4 % 12, pool, congrArg (fun z : Int => [V.ref y, V.ref x, V.ref L, V.int (1 + ns.getD 2 0 / 4 % 12), V.int z]) hpo, (st3.trans (sty.mono (by simp))).wf wf0, B3.stp sty (by simp), I3.stp sty (by simp), by omega, by omega, hp2, hp9, rfl, cnt_none _, by show _ ≤ (List.replicate (there ps + pool + ex) (none : Fm)).length; rw [hlen]; omega, upd_same, tg_same, fun S0 g4 H4 s4 A4 m4 f4 a4 W4 => ⟨rfl, ?_⟩⟩
    have st4 := st3.trans ((sty.mono (by simp)).trans s4)
    have hq4 : SqL K H4 a (ns.map V.int) := sqL_mono hq1 fun b o e => st4.at e (by decide)
    have f4 : S0.f.fr = x := f4
    rw [← m4]
    refine ⟨_, rfl, 3, rfl, 63, rfl, a, _, rfl, hq4, fun cl ncl => ?_⟩
    obtain ⟨cs, hcs, hcs60⟩ := cut_60 ns
    rw [hcs]
    have hcl : upd H4 cl (.lst (cs.map V.int)) cl = some (.lst (cs.map V.int)) := upd_same
    have sc : Same H4 (upd H4 cl (.lst (cs.map V.int))) := same_new ncl
    generalize upd H4 cl (.lst (cs.map V.int)) = H5 at hcl sc ⊢
    have hq5 := sqL_mono hq4 sc
    have A5 := A4.same sc
    refine ⟨_, rfl, a, ns, 1, rfl, hq5, ns.getD 1 0, 742938285, rfl, fun r r0 r1 => ⟨_, rfl, _, _, rfl, .inl (SqL.of hcl), _, _, rfl, rfl, _, _, rfl, rfl, (by show (0 : Int) < _; omega), ?_⟩⟩
    obtain ⟨c1, hc1, hc1l⟩ := cut_ints cs none (some (r % (((cs.map V.int).length : Int) + 1)))
    refine ⟨_, rfl, _, rfl, (r % (((cs.map V.int).length : Int) + 1)), rfl, cl, _, rfl, SqL.of hcl, fun sl nsl => ?_⟩
    rw [hc1]
    have hsl : upd H5 sl (.lst (c1.map V.int)) sl = some (.lst (c1.map V.int)) := upd_same
    have ss : Same H5 (upd H5 sl (.lst (c1.map V.int))) := same_new nsl
    generalize upd H5 sl (.lst (c1.map V.int)) = H6 at hsl ss ⊢
    have A6 := A5.same ss
    have st6 : Stp ALL (fun _ => 0) H1 g4 H6 := st4.trans (.same (sc.trans ss))
    have I6 : ImgZ g4 H6 L ps := IZ.stp st6 (by decide)
    obtain ⟨xs, hL, hLl, _⟩ := I6.ex
    have gL : g4 L = 0 := I6.z
    have gsl : g4 sl = 0 := tag0 A5.wf nsl
    have gcl : g4 cl = 0 := tag0 A4.wf ncl
    have hcl6 := ss _ _ hcl
    have hq6 := sqL_mono hq5 ss
    refine ⟨sl, rfl, ⟨_, SqL.of hsl⟩, ?_⟩
    refine for_list (K := K) (a := sl) (xs := c1.map V.int) (fun j σ H' => (∃ v8, σ = [some (.ref a), some (.ref L), some (.int (1 + ns.getD 2 0 / 4 % 12)), some (.int (2 + ns.getD 3 0 % 8)), some (.ref x), some (.ref S0.me), some (.ref cl), some (.int (r % (((cs.map V.int).length : Int) + 1))), v8, none, none, none]) ∧ ∃ S g', Stp ALL g4 H6 g' H' ∧ WyAt K g' H' S ∧ Sm S0 S ∧ Wok S noBad ∧ S.abs.most = 1 + ns.getD 2 0 / 4 % 12 ∧ S.abs.pages.length = ps.length ∧ S.abs.said.length ≤ j ∧ S.abs.spare ≤ 3 + (j : Int))
      ⟨⟨_, rfl⟩, S0, g4, .refl, A6, .refl, W4, by rw [a4], by rw [a4], by rw [a4]; exact Nat.le_refl _, by rw [a4]; show (((List.replicate (there ps + pool + ex) (none : Fm)).length : Nat) : Int) - _ ≤ _; rw [hlen]; omega⟩ (fun j σ H' _ p => ?_) ?_ ?_
    · obtain ⟨_, S, g', s', _⟩ := p
      exact SqL.of (s'.at hsl (by rw [gsl]; decide))
    · rintro j v σ H7 hv ⟨⟨v8, rfl⟩, S, g', s', A', m', W', e1, e2, e3, e4⟩
      rw [List.getElem?_map] at hv
      obtain ⟨c, hc, rfl⟩ := Option.map_eq_some_iff.mp hv
      have hj : j < c1.length := (List.getElem?_eq_some_iff.mp hc).1
      refine ⟨_, rfl, _, rfl, _, rfl, _, _, rfl, .inl (SqL.of (s'.at hL (by rw [gL]; decide))), c, _, rfl, by omega, by omega, fun t H8 wd f sw k' nt s8 ht hw hf hs => ?_⟩
      have := do_one (K := K) (E := E0) (Q := fun y H' => (∃ v8, [some (V.ref a), some (.ref L), some (.int (1 + ns.getD 2 0 / 4 % 12)), some (.int (2 + ns.getD 3 0 % 8)), some (.ref x), some (.ref S0.me), some (.ref cl), some (.int (r % (((cs.map V.int).length : Int) + 1))), some (.int c), none, none, none] = [some (.ref a), some (.ref L), some (.int (1 + ns.getD 2 0 / 4 % 12)), some (.int (2 + ns.getD 3 0 % 8)), some (.ref x), some (.ref S0.me), some (.ref cl), some (.int (r % (((cs.map V.int).length : Int) + 1))), v8, none, none, none]) ∧ ∃ S g', Stp ALL g4 H6 g' H' ∧ WyAt K g' H' S ∧ Sm S0 S ∧ Wok S noBad ∧ S.abs.most = 1 + ns.getD 2 0 / 4 % 12 ∧ S.abs.pages.length = ps.length ∧ S.abs.said.length ≤ j + 1 ∧ S.abs.spare ≤ 3 + ((j + 1 : Nat) : Int)) ht hw hf hs (A'.same s8) W' (by show S.abs.said.length < 1000; omega) fun y S' g'' H' s9 A9 m9 ea W9 _ _ => ⟨⟨_, rfl⟩, S', g'', s'.trans ((Stp.same s8).trans s9), A9, m'.trans m9, W9, ?_⟩
      · rw [m'.me] at this
        exact this
      · rw [ea]
        unfold aft
        cases e : callP S.abs wd f sw k' with
        | error q => exact ⟨e1, e2, by show S.abs.said.length ≤ _; omega, by show S.abs.spare ≤ _; omega⟩
        | ok q =>
          obtain ⟨P', v'⟩ := q
          obtain ⟨i1, i2, i3, i4, _⟩ := callP_inv e
          exact ⟨i1.trans e1, i2.trans e2, by show P'.said.length ≤ _; omega, by show P'.spare ≤ _; omega⟩
    · rintro σ H7 ⟨⟨v8, rfl⟩, S, g', s', A', m', W', e1, e2, e3, e4⟩
      rw [List.length_map] at e3 e4
      have sm7 : Same H1 H7 := fun b o e => (st6.trans s').at e (by decide)
      have hq7 := sqL_mono hq1 sm7
      have mS : S.me = S0.me := m'.me
      have fS : S.f.fr = x := m'.fr.trans f4
      have L7 := s'.at hL (by rw [gL]; decide)
      have gL7 : g' L = 0 := (s'.tag hL).trans gL
      have cl7 := s'.at hcl6 (by rw [gcl]; decide)
      have gcl7 : g' cl = 0 := (s'.tag hcl6).trans gcl
      rw [← mS]
      refine ⟨_, rfl, _, rfl, _, rfl, _, rfl, a, ns, 0, rfl, hq7, g', S, ns.getD 0 0, ?_, A', W', by omega, by show S.abs.said.length < 1000; omega, by show 1 ≤ S.abs.pages.length; omega, fun S2 g2 H8 s8 B8 hd ab W2 => ?_⟩
      · rw [fS, show S.s.most = S.abs.most from rfl, e1]
      have A8 := A'.same s8
      have ab' : S2.base = S.base ∧ S2.s.line = S.s.line ∧ S2.said = S.said := ⟨congrArg Pl.base ab, congrArg Pl.line ab, congrArg Pl.said ab⟩
      have dis : ∀ b, g' b ≠ 0 → g2 b = 0 := fun b hb => by
        by_cases h : g2 b = 0
        · exact h
        · obtain ⟨o, e⟩ := A'.wf b hb
          have := hd b h
          rw [e] at this; cases this
      have g2z : ∀ {b : Addr} {o : HO}, H7 b = some o → g2 b = 0 := fun {b o} e => by
        by_cases h : g2 b = 0
        · exact h
        · have := hd b h
          rw [e] at this; cases this
      refine ⟨_, rfl, rfl, _, rfl, iteF ⟨_, rfl, _, rfl, g', g2, S, S2, rfl, A8, B8, ab'.1, ab'.2.1, ab'.2.2, fun H9 s9 => ⟨_, rfl, iteF ?_⟩⟩⟩
      have B9 := B8.same s9
      have A9 := A8.same s9
      obtain ⟨t1, r1, tb1, W1, _⟩ := id W'
      obtain ⟨t2, r2, tb2, W22, _⟩ := id W2
      have epg : S2.pages = S.pages := congrArg Pl.pages ab
      refine ⟨_, rfl, B9.o, g2, S2, rfl, B9, W22.tk, fun p1 H10 n10 s10 h10 => ⟨_, rfl, (A9.same s10).o, g', S, rfl, A9.same s10, W1.tk, fun p2 H11 n11 s11 h11 => ?_⟩⟩
      rw [epg] at h10
      refine neD_same (h10.dp s11) (h11.dp (Same.refl _)) (shp_pages _) (by decide) ⟨_, rfl, iteF ?_⟩
      have s811 : Same H8 H11 := s9.trans (s10.trans s11)
      have A11 := A8.same s811
      have B11 := B8.same s811
      have s711 : Same H7 H11 := s8.trans s811
      obtain ⟨c2, hc2, hc2l⟩ := cut_ints cs (some (r % (((cs.map V.int).length : Int) + 1))) none
      refine ⟨_, rfl, _, rfl, (r % (((cs.map V.int).length : Int) + 1)), rfl, cl, _, rfl, SqL.of (s711 _ _ cl7), fun sm nsm => ?_⟩
      rw [hc2]
      have hsm : upd H11 sm (.lst (c2.map V.int)) sm = some (.lst (c2.map V.int)) := upd_same
      have s12 : Same H11 (upd H11 sm (.lst (c2.map V.int))) := same_new nsm
      have gsm : g' sm = 0 := tag0 A11.wf nsm
      have gsm2 : g2 sm = 0 := tag0 B11.wf nsm
      generalize upd H11 sm (.lst (c2.map V.int)) = H12 at hsm s12 ⊢
      refine ⟨sm, rfl, ⟨_, SqL.of hsm⟩, ?_⟩
      refine for_list (K := K) (a := sm) (xs := c2.map V.int) (fun j σ H' => ∃ T1 T2 h1 h2, (∃ v8 v10 v11, σ = [some (.ref a), some (.ref L), some (.int (1 + ns.getD 2 0 / 4 % 12)), some (.int (2 + ns.getD 3 0 % 8)), some (.ref x), some (.ref T1.me), some (.ref cl), some (.int (r % (((cs.map V.int).length : Int) + 1))), v8, some (.ref T2.me), v10, v11]) ∧ WyAt K h1 H' T1 ∧ WyAt K h2 H' T2 ∧ Wok T1 noBad ∧ Wok T2 noBad ∧ (∀ b, h1 b ≠ 0 → h2 b = 0) ∧ T2.abs = T1.abs ∧ T1.abs.said.length ≤ 60 + j ∧ H' L = some (.lst xs) ∧ h1 L = 0 ∧ h2 L = 0 ∧ H' sm = some (.lst (c2.map V.int)) ∧ h1 sm = 0 ∧ h2 sm = 0)
        ⟨S, S2, g', g2, ⟨_, _, _, rfl⟩, A11.same s12, B11.same s12, W', W2, dis, ab, by omega, s12 _ _ (s711 _ _ L7), gL7, g2z L7, hsm, gsm, gsm2⟩ (fun j σ H' _ p => ?_) ?_ ?_
      · obtain ⟨_, _, _, _, _, _, _, _, _, _, _, _, _, _, _, h, _⟩ := p
        exact SqL.of h
      · rintro j v σ H13 hv ⟨T1, T2, h1, h2, ⟨v8, v10, v11, rfl⟩, A13, B13, V1, V2, dis, ab, hsd, L13, gl1, gl2, m13, gm1, gm2⟩
        rw [List.getElem?_map] at hv
        obtain ⟨c, hc, rfl⟩ := Option.map_eq_some_iff.mp hv
        have hj : j < c2.length := (List.getElem?_eq_some_iff.mp hc).1
        refine ⟨_, rfl, _, rfl, _, _, rfl, .inl (SqL.of L13), c, _, rfl, by omega, by omega, fun t H14 wd f sw k' nt s14 ht hw hf hs => ?_⟩
        have A14 := A13.same s14
        have B14 := B13.same s14
        have gt1 : h1 t = 0 := tag0 A13.wf nt
        have gt2 : h2 t = 0 := tag0 B13.wf nt
        refine ⟨_, rfl, _, rfl, ?_⟩
        refine do_one (E := E0) ht hw hf hs A14 V1 (by show T1.abs.said.length < 1000; omega) fun y T1' h1' H15 s15 A15 m15 ea V1' ans hy => ?_
        obtain ⟨sd15, dis15⟩ := s15.side dis B14.wf
        have B15 := B14.stp0 sd15 (by decide)
        have t15 := s15.at ht (by rw [gt1]; decide)
        have L14 := s14 _ _ L13
        have m14 := s14 _ _ m13
        have L15 := s15.at L14 (by rw [gl1]; decide)
        have m15' := s15.at m14 (by rw [gm1]; decide)
        have abT : T2.abs.said.length < 1000 := by rw [ab]; omega
        refine ⟨_, rfl, _, rfl, ?_⟩
        refine do_one (E := E0) t15 hw hf hs B15 V2 (by show T2.abs.said.length < 1000; exact abT) fun y2 T2' h2' H16 s16 B16 m16 eb V2' ans2 hy2 => ?_
        obtain ⟨sd16, dis16⟩ := s16.side (g2 := h1') (fun b hb => by
          by_cases h : h1' b = 0
          · exact h
          · exact absurd (dis15 b h) hb) A15.wf
        have A16 := A15.stp0 sd16 (by decide)
        rw [ab] at ans2 eb
        have ans' : Ans H16 f (callP T1.abs wd f sw k') y := by
          cases e : callP T1.abs wd f sw k' with
          | ok q => rw [e] at ans; exact ans
          | error q =>
            rw [e] at ans
            obtain ⟨u, e1, e2⟩ := ans
            exact ⟨u, e1, s16.at e2 (by rw [show h2 u = 0 from tag0 B14.wf (hy u e1)]; decide)⟩
        refine ⟨_, rfl, y2, y, rfl, ans2.alk ans', _, rfl, iteF ?_⟩
        have ab16 : T2'.abs = T1'.abs := eb.trans ea.symm
        rw [← m15.me, ← m16.me]
        refine ⟨_, rfl, _, rfl, h1', h2', T1', T2', rfl, A16, B16, congrArg Pl.base ab16, congrArg Pl.line ab16, congrArg Pl.said ab16, fun H17 s17 => ⟨_, rfl, iteF ?_⟩⟩
        have sd1 : T1'.abs.said.length ≤ 60 + (j + 1) := by
          rw [ea]
          unfold aft
          cases e : callP T1.abs wd f sw k' with
          | error q => show T1.abs.said.length ≤ _; omega
          | ok q =>
            obtain ⟨P', v'⟩ := q
            have := (callP_inv e).2.2.1
            show P'.said.length ≤ _
            omega
        refine ⟨T1', T2', h1', h2', ⟨_, _, _, rfl⟩, A16.same s17, B16.same s17, V1', V2', fun b hb => ?_, ab16, sd1, s17 _ _ (s16.at L15 (by rw [gl2]; decide)), (s15.tag L14).trans gl1, (s16.tag L15).trans gl2, s17 _ _ (s16.at m15' (by rw [gm2]; decide)), (s15.tag m14).trans gm1, (s16.tag m15').trans gm2⟩
        by_cases h : h2' b = 0
        · exact h
        · exact absurd (dis16 b h) hb
      · rintro σ H13 ⟨T1, T2, h1, h2, ⟨v8, v10, v11, rfl⟩, A13, B13, ⟨u1, q1, w1, V1, _⟩, ⟨u2, q2, w2, V2, _⟩, dis, ab, _⟩
        have epg : T2.pages = T1.pages := congrArg Pl.pages ab
        refine ⟨_, rfl, B13.o, h2, T2, rfl, B13, V2.tk, fun p1 H14 n14 s14 h14 => ⟨_, rfl, (A13.same s14).o, h1, T1, rfl, A13.same s14, V1.tk, fun p2 H15 n15 s15 h15 => ?_⟩⟩
        rw [epg] at h14
        exact eqD_same (h14.dp s15) (h15.dp (Same.refl _)) (shp_pages _) (by decide) (k _)
end
end Sp

set_option Elab.async false
set_option linter.all false
set_option maxRecDepth 100000
set_option maxHeartbeats 4000000
open PySem PySem.W PySem.Calls PyProof.Rows
theorem PySem.Challenge.cw_shadowpages_k56_whole_resumed_holds : PySem.Challenge.rw_shadowpages_k56_whole_resumed.Holds := by
  w_on; o_law
  refine HandSHeadRun.head_any (r := OpenLaw.row PySem.Challenge.rw_shadowpages_k56_whole_resumed) (q := view (OpenLaw.row PySem.Challenge.rw_shadowpages_k56_whole_resumed).prog [81]) (H := Sp.hk) (ob := Sp.ob) (M := 15000) (loose := Sp.names) (d := HandSHeadRun.topDef (OpenLaw.row PySem.Challenge.rw_shadowpages_k56_whole_resumed).prog 81) (kwd := []) Sp.ob_eq
    (by kernel_rfl) (fun s => by kernel_rfl) Sp.run (by kernel_rfl) (by kernel_rfl) (by kernel_rfl) (by rfl) (by first | assumption | decide +kernel) (by decide +kernel) ⟨rfl, rfl, rfl, rfl, rfl, by decide +kernel⟩ ?hw ?hc
  case hw => w_witness2
  case hc =>
    refine L2.walk_ofE (l := PySem.Challenge.rw_shadowpages_k56_whole_resumed) (n := 63) (k := 20) (x := "_law_script") (CX := L2.CX0) rfl (by decide) (by kernel_rfl) ⟨rfl, by decide, by decide⟩ ?F (fun _ _ _ _ z => z)
    intro w mg fa h Y G hmg0
    obtain ⟨K, KX, c⟩ := Y
    have T := Sp.txt_of KX G c
    have hmg : mg ("law" : PySem.Str) = some (.ref fa) := by
      have e : (HandSHeadRun.topDef (OpenLaw.row PySem.Challenge.rw_shadowpages_k56_whole_resumed).prog 81).name = ("law" : PySem.Str) := by kernel_rfl
      rw [← e]
      exact hmg0
    have ef := hmg.symm.trans T.g_law
    cases ef
    obtain ⟨fd, F⟩ := T.d_law
    have b := L2.FunD.bindsA (ps := ["_law_script"]) F fun _ _ _ _ _ _ us hl => match us, hl with | [_], _ => rfl
    exact ⟨K, fd, Sp.sp_law K, KX, fun s v => b s [v] rfl, fun H a ns _ _ hS => ⟨a, ns, rfl, hS, fun _ => rfl⟩, fun base _ _ => Sp.fn_law T F⟩

