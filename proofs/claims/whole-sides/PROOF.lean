import PyProof.Rows.All
import Wide.All
import OpenK.AllK
import Wide.FinOn
import KE.KStateDown
import Lean
import HandS.Base
import HandS.Call
import HandS.Ends
import HandS.More
import HandS.Words
import HandS.WordsExc
import HandS.Defaults
import HandS.Head0
import HandS.Head1
import HandS.Head2
import HandS.HeadEnd
import HandS.HeadHook1
import HandS.HeadHook2
import HandS.ForMost
import HandS.Deep
import HandS.TupAny
import HandS.TupSets
import HandS.IsInst
import HandS.Style
import HandS.Flt
import HandS.Iter
import HandS.DictComp
import HandS.TupLen
import KE.GoesMore
import KE.GoesEnum
import HandS.Sort
import HandS.SetFor
import HandS.Strs
import KE.KDictSum
import PySem.Challenge.RW_strokeonce_k11_whole_sides
set_option Elab.async false
set_option linter.all false
set_option maxRecDepth 100000
set_option maxHeartbeats 4000000
namespace SW
open PySem PySem.Spec PyProof.Rows L2
def top (i : Nat) : Stmt := PySem.Challenge.pw_strokeonce_k11_whole_sides.main.body.getD i (.Pass ⟨0, 0, 0, 0⟩)
abbrev s_far : Stmt := top 16
abbrev N_far : List Str := ["found", "turn"]
abbrev P_far : List Str := []
theorem sc_far : FnScope N_far P_far (defScope s_far) := ⟨rfl, rfl, rfl, by decide +kernel, rfl, by decide +kernel, by decide +kernel⟩
abbrev s_is_in : Stmt := top 17
abbrev N_is_in : List Str := ["value", "least", "most"]
abbrev P_is_in : List Str := ["value", "least", "most"]
theorem sc_is_in : FnScope N_is_in P_is_in (defScope s_is_in) := ⟨rfl, rfl, rfl, by decide +kernel, rfl, by decide +kernel, by decide +kernel⟩
abbrev s_is_letter : Stmt := top 18
abbrev N_is_letter : List Str := ["item"]
abbrev P_is_letter : List Str := ["item"]
theorem sc_is_letter : FnScope N_is_letter P_is_letter (defScope s_is_letter) := ⟨rfl, rfl, rfl, by decide +kernel, rfl, by decide +kernel, by decide +kernel⟩
abbrev s_are_branches : Stmt := top 19
abbrev N_are_branches : List Str := ["word", "depth", "item"]
abbrev P_are_branches : List Str := ["word"]
theorem sc_are_branches : FnScope N_are_branches P_are_branches (defScope s_are_branches) := ⟨rfl, rfl, rfl, by decide +kernel, rfl, by decide +kernel, by decide +kernel⟩
abbrev s_is_word : Stmt := top 20
abbrev N_is_word : List Str := ["letters", "value", "item"]
abbrev P_is_word : List Str := ["letters", "value"]
theorem sc_is_word : FnScope N_is_word P_is_word (defScope s_is_word) := ⟨rfl, rfl, rfl, by decide +kernel, rfl, by decide +kernel, by decide +kernel⟩
abbrev s_need_book : Stmt := top 21
abbrev N_need_book : List Str := ["book", "letter", "word"]
abbrev P_need_book : List Str := ["book"]
theorem sc_need_book : FnScope N_need_book P_need_book (defScope s_need_book) := ⟨rfl, rfl, rfl, by decide +kernel, rfl, by decide +kernel, by decide +kernel⟩
abbrev s_need_word : Stmt := top 22
abbrev N_need_word : List Str := ["letters", "value"]
abbrev P_need_word : List Str := ["letters", "value"]
theorem sc_need_word : FnScope N_need_word P_need_word (defScope s_need_word) := ⟨rfl, rfl, rfl, by decide +kernel, rfl, by decide +kernel, by decide +kernel⟩
abbrev s_need_number : Stmt := top 23
abbrev N_need_number : List Str := ["value", "least", "most"]
abbrev P_need_number : List Str := ["value", "least", "most"]
theorem sc_need_number : FnScope N_need_number P_need_number (defScope s_need_number) := ⟨rfl, rfl, rfl, by decide +kernel, rfl, by decide +kernel, by decide +kernel⟩
abbrev s_need_place : Stmt := top 24
abbrev N_need_place : List Str := ["value"]
abbrev P_need_place : List Str := ["value"]
theorem sc_need_place : FnScope N_need_place P_need_place (defScope s_need_place) := ⟨rfl, rfl, rfl, by decide +kernel, rfl, by decide +kernel, by decide +kernel⟩
abbrev s_Pen___init__ : Stmt := inClass (top 25) 0
abbrev N_Pen___init__ : List Str := ["self", "place", "heading"]
abbrev P_Pen___init__ : List Str := ["self", "place", "heading"]
theorem sc_Pen___init__ : FnScope N_Pen___init__ P_Pen___init__ (defScope s_Pen___init__) := ⟨rfl, rfl, rfl, by decide +kernel, rfl, by decide +kernel, by decide +kernel⟩
abbrev s_Pen_mark : Stmt := inClass (top 25) 1
abbrev N_Pen_mark : List Str := ["self", "item"]
abbrev P_Pen_mark : List Str := ["self", "item"]
theorem sc_Pen_mark : FnScope N_Pen_mark P_Pen_mark (defScope s_Pen_mark) := ⟨rfl, rfl, rfl, by decide +kernel, rfl, by decide +kernel, by decide +kernel⟩
abbrev s_Pen_go : Stmt := inClass (top 25) 2
abbrev N_Pen_go : List Str := ["self", "way", "turns"]
abbrev P_Pen_go : List Str := ["self", "way", "turns"]
theorem sc_Pen_go : FnScope N_Pen_go P_Pen_go (defScope s_Pen_go) := ⟨rfl, rfl, rfl, by decide +kernel, rfl, by decide +kernel, by decide +kernel⟩
abbrev s_quarters : Stmt := top 26
abbrev N_quarters : List Str := ["item"]
abbrev P_quarters : List Str := ["item"]
theorem sc_quarters : FnScope N_quarters P_quarters (defScope s_quarters) := ⟨rfl, rfl, rfl, by decide +kernel, rfl, by decide +kernel, by decide +kernel⟩
abbrev s_turned : Stmt := top 27
abbrev N_turned : List Str := ["place", "many", "x", "y"]
abbrev P_turned : List Str := ["place", "many"]
theorem sc_turned : FnScope N_turned P_turned (defScope s_turned) := ⟨rfl, rfl, rfl, by decide +kernel, rfl, by decide +kernel, by decide +kernel⟩
abbrev s_times : Stmt := top 28
abbrev N_times : List Str := ["one", "other"]
abbrev P_times : List Str := ["one", "other"]
theorem sc_times : FnScope N_times P_times (defScope s_times) := ⟨rfl, rfl, rfl, by decide +kernel, rfl, by decide +kernel, by decide +kernel⟩
abbrev s_plus : Stmt := top 29
abbrev N_plus : List Str := ["one", "other"]
abbrev P_plus : List Str := ["one", "other"]
theorem sc_plus : FnScope N_plus P_plus (defScope s_plus) := ⟨rfl, rfl, rfl, by decide +kernel, rfl, by decide +kernel, by decide +kernel⟩
abbrev s_letters_that_come : Stmt := top 30
abbrev N_letters_that_come : List Str := ["book", "found", "layer", "age", "item", "letter", "later"]
abbrev P_letters_that_come : List Str := ["book"]
theorem sc_letters_that_come : FnScope N_letters_that_come P_letters_that_come (defScope s_letters_that_come) := ⟨rfl, rfl, rfl, by decide +kernel, rfl, by decide +kernel, by decide +kernel⟩
abbrev s_Sum___init__ : Stmt := inClass (top 32) 0
abbrev N_Sum___init__ : List Str := ["self", "many", "end", "turns", "ways", "area"]
abbrev P_Sum___init__ : List Str := ["self", "many", "end", "turns", "ways", "area"]
theorem sc_Sum___init__ : FnScope N_Sum___init__ P_Sum___init__ (defScope s_Sum___init__) := ⟨rfl, rfl, rfl, by decide +kernel, rfl, by decide +kernel, by decide +kernel⟩
abbrev s_Sum_then : Stmt := inClass (top 32) 1
abbrev N_Sum_then : List Str := ["self", "other", "moved", "ways", "area", "end", "turns"]
abbrev P_Sum_then : List Str := ["self", "other"]
theorem sc_Sum_then : FnScope N_Sum_then P_Sum_then (defScope s_Sum_then) := ⟨rfl, rfl, rfl, by decide +kernel, rfl, by decide +kernel, by decide +kernel⟩
abbrev s_Sum_turning : Stmt := inClass (top 32) 2
abbrev N_Sum_turning : List Str := ["self", "item", "turns"]
abbrev P_Sum_turning : List Str := ["self", "item"]
theorem sc_Sum_turning : FnScope N_Sum_turning P_Sum_turning (defScope s_Sum_turning) := ⟨rfl, rfl, rfl, by decide +kernel, rfl, by decide +kernel, by decide +kernel⟩
abbrev s_Sum_back_at : Stmt := inClass (top 32) 3
abbrev N_Sum_back_at : List Str := ["self", "stand"]
abbrev P_Sum_back_at : List Str := ["self", "stand"]
theorem sc_Sum_back_at : FnScope N_Sum_back_at P_Sum_back_at (defScope s_Sum_back_at) := ⟨rfl, rfl, rfl, by decide +kernel, rfl, by decide +kernel, by decide +kernel⟩
abbrev s_nothing : Stmt := top 33
abbrev N_nothing : List Str := []
abbrev P_nothing : List Str := []
theorem sc_nothing : FnScope N_nothing P_nothing (defScope s_nothing) := ⟨rfl, rfl, rfl, by decide +kernel, rfl, by decide +kernel, by decide +kernel⟩
abbrev s_joined : Stmt := top 34
abbrev N_joined : List Str := ["sums", "word", "found", "stands", "item"]
abbrev P_joined : List Str := ["sums", "word"]
theorem sc_joined : FnScope N_joined P_joined (defScope s_joined) := ⟨rfl, rfl, rfl, by decide +kernel, rfl, by decide +kernel, by decide +kernel⟩
abbrev s_Ages___init__ : Stmt := inClass (top 35) 0
abbrev N_Ages___init__ : List Str := ["self", "book", "last", "letter", "age", "word"]
abbrev P_Ages___init__ : List Str := ["self", "book", "last"]
theorem sc_Ages___init__ : FnScope N_Ages___init__ P_Ages___init__ (defScope s_Ages___init__) := ⟨rfl, rfl, rfl, by decide +kernel, rfl, by decide +kernel, by decide +kernel⟩
abbrev s_is_still : Stmt := top 37
abbrev N_is_still : List Str := ["book", "sums", "letter"]
abbrev P_is_still : List Str := ["book"]
theorem sc_is_still : FnScope N_is_still P_is_still (defScope s_is_still) := ⟨rfl, rfl, rfl, by decide +kernel, rfl, by decide +kernel, by decide +kernel⟩
abbrev s_multiple_of : Stmt := top 38
abbrev N_multiple_of : List Str := ["book", "sums", "ends", "letter"]
abbrev P_multiple_of : List Str := ["book"]
theorem sc_multiple_of : FnScope N_multiple_of P_multiple_of (defScope s_multiple_of) := ⟨rfl, rfl, rfl, by decide +kernel, rfl, by decide +kernel, by decide +kernel⟩
abbrev s_size : Stmt := top 39
abbrev N_size : List Str := ["place"]
abbrev P_size : List Str := ["place"]
theorem sc_size : FnScope N_size P_size (defScope s_size) := ⟨rfl, rfl, rfl, by decide +kernel, rfl, by decide +kernel, by decide +kernel⟩
abbrev s_longer : Stmt := top 40
abbrev N_longer : List Str := ["book", "found"]
abbrev P_longer : List Str := ["book"]
theorem sc_longer : FnScope N_longer P_longer (defScope s_longer) := ⟨rfl, rfl, rfl, by decide +kernel, rfl, by decide +kernel, by decide +kernel⟩
abbrev s_strokes_of : Stmt := top 42
abbrev N_strokes_of : List Str := ["word", "pen", "found", "item"]
abbrev P_strokes_of : List Str := ["word"]
theorem sc_strokes_of : FnScope N_strokes_of P_strokes_of (defScope s_strokes_of) := ⟨rfl, rfl, rfl, by decide +kernel, rfl, by decide +kernel, by decide +kernel⟩
abbrev s_least_root : Stmt := top 45
abbrev N_least_root : List Str := ["number", "found"]
abbrev P_least_root : List Str := ["number"]
theorem sc_least_root : FnScope N_least_root P_least_root (defScope s_least_root) := ⟨rfl, rfl, rfl, by decide +kernel, rfl, by decide +kernel, by decide +kernel⟩
abbrev s_far_enough : Stmt := top 46
abbrev N_far_enough : List Str := ["book", "move", "reach", "letter", "stroke", "wide", "found"]
abbrev P_far_enough : List Str := ["book", "move"]
theorem sc_far_enough : FnScope N_far_enough P_far_enough (defScope s_far_enough) := ⟨rfl, rfl, rfl, by decide +kernel, rfl, by decide +kernel, by decide +kernel⟩
abbrev s_pair_of : Stmt := top 47
abbrev N_pair_of : List Str := ["one", "other", "way"]
abbrev P_pair_of : List Str := ["one", "other"]
theorem sc_pair_of : FnScope N_pair_of P_pair_of (defScope s_pair_of) := ⟨rfl, rfl, rfl, by decide +kernel, rfl, by decide +kernel, by decide +kernel⟩
abbrev s_Web___init__ : Stmt := inClass (top 48) 0
abbrev N_Web___init__ : List Str := ["self", "book", "move", "letter"]
abbrev P_Web___init__ : List Str := ["self", "book", "move"]
theorem sc_Web___init__ : FnScope N_Web___init__ P_Web___init__ (defScope s_Web___init__) := ⟨rfl, rfl, rfl, by decide +kernel, rfl, by decide +kernel, by decide +kernel⟩
abbrev s_Web_is_near : Stmt := inClass (top 48) 1
abbrev N_Web_is_near : List Str := ["self", "pair"]
abbrev P_Web_is_near : List Str := ["self", "pair"]
theorem sc_Web_is_near : FnScope N_Web_is_near P_Web_is_near (defScope s_Web_is_near) := ⟨rfl, rfl, rfl, by decide +kernel, rfl, by decide +kernel, by decide +kernel⟩
abbrev s_Web_laid : Stmt := inClass (top 48) 3
abbrev N_Web_laid : List Str := ["self", "letter", "place", "heading", "begin", "found", "x", "y", "way", "child"]
abbrev P_Web_laid : List Str := ["self", "letter", "place", "heading"]
theorem sc_Web_laid : FnScope N_Web_laid P_Web_laid (defScope s_Web_laid) := ⟨rfl, rfl, rfl, by decide +kernel, rfl, by decide +kernel, by decide +kernel⟩
abbrev s_Web_children : Stmt := inClass (top 48) 4
abbrev N_Web_children : List Str := ["self", "pair", "ones", "others", "found", "first", "one", "later", "other", "child"]
abbrev P_Web_children : List Str := ["self", "pair"]
theorem sc_Web_children : FnScope N_Web_children P_Web_children (defScope s_Web_children) := ⟨rfl, rfl, rfl, by decide +kernel, rfl, by decide +kernel, by decide +kernel⟩
abbrev s_Web_grow : Stmt := inClass (top 48) 6
abbrev N_Web_grow : List Str := ["self", "start", "has_births", "found", "layer", "age", "last", "fresh", "pair", "how", "child", "first", "later"]
abbrev P_Web_grow : List Str := ["self", "start", "has_births"]
theorem sc_Web_grow : FnScope N_Web_grow P_Web_grow (defScope s_Web_grow) := ⟨rfl, rfl, rfl, by decide +kernel, rfl, by decide +kernel, by decide +kernel⟩
abbrev s_is_clash : Stmt := top 49
abbrev N_is_clash : List Str := ["pair"]
abbrev P_is_clash : List Str := ["pair"]
theorem sc_is_clash : FnScope N_is_clash P_is_clash (defScope s_is_clash) := ⟨rfl, rfl, rfl, by decide +kernel, rfl, by decide +kernel, by decide +kernel⟩
abbrev s_laid_at : Stmt := top 51
abbrev N_laid_at : List Str := ["word", "place", "heading", "found", "x", "y", "way", "letter"]
abbrev P_laid_at : List Str := ["word", "place", "heading"]
theorem sc_laid_at : FnScope N_laid_at P_laid_at (defScope s_laid_at) := ⟨rfl, rfl, rfl, by decide +kernel, rfl, by decide +kernel, by decide +kernel⟩
abbrev s_touches : Stmt := top 52
abbrev N_touches : List Str := ["pair", "ends", "end"]
abbrev P_touches : List Str := ["pair"]
theorem sc_touches : FnScope N_touches P_touches (defScope s_touches) := ⟨rfl, rfl, rfl, by decide +kernel, rfl, by decide +kernel, by decide +kernel⟩
abbrev s_side_web : Stmt := top 53
abbrev N_side_web : List Str := ["book", "word", "place", "heading", "move", "kept", "start", "one", "other", "pair"]
abbrev P_side_web : List Str := ["book", "word", "place", "heading"]
theorem sc_side_web : FnScope N_side_web P_side_web (defScope s_side_web) := ⟨rfl, rfl, rfl, by decide +kernel, rfl, by decide +kernel, by decide +kernel⟩
abbrev s_letters_of : Stmt := top 54
abbrev N_letters_of : List Str := ["book", "word"]
abbrev P_letters_of : List Str := ["book", "word"]
theorem sc_letters_of : FnScope N_letters_of P_letters_of (defScope s_letters_of) := ⟨rfl, rfl, rfl, by decide +kernel, rfl, by decide +kernel, by decide +kernel⟩
abbrev s_need_both : Stmt := top 55
abbrev N_need_both : List Str := ["book", "word", "place", "heading"]
abbrev P_need_both : List Str := ["book", "word", "place", "heading"]
theorem sc_need_both : FnScope N_need_both P_need_both (defScope s_need_both) := ⟨rfl, rfl, rfl, by decide +kernel, rfl, by decide +kernel, by decide +kernel⟩
abbrev s_share_age : Stmt := top 56
abbrev N_share_age : List Str := ["book", "word", "place", "heading", "found", "ages", "pair"]
abbrev P_share_age : List Str := ["book", "word", "place", "heading"]
theorem sc_share_age : FnScope N_share_age P_share_age (defScope s_share_age) := ⟨rfl, rfl, rfl, by decide +kernel, rfl, by decide +kernel, by decide +kernel⟩
abbrev s_touch_age : Stmt := top 57
abbrev N_touch_age : List Str := ["book", "word", "place", "heading", "found", "ages", "pair"]
abbrev P_touch_age : List Str := ["book", "word", "place", "heading"]
theorem sc_touch_age : FnScope N_touch_age P_touch_age (defScope s_touch_age) := ⟨rfl, rfl, rfl, by decide +kernel, rfl, by decide +kernel, by decide +kernel⟩
abbrev s_never_share : Stmt := top 58
abbrev N_never_share : List Str := ["book", "word", "place", "heading"]
abbrev P_never_share : List Str := ["book", "word", "place", "heading"]
theorem sc_never_share : FnScope N_never_share P_never_share (defScope s_never_share) := ⟨rfl, rfl, rfl, by decide +kernel, rfl, by decide +kernel, by decide +kernel⟩
abbrev s__law_taken : Stmt := top 60
abbrev N__law_taken : List Str := ["_law_row", "_law_many", "_law_found", "_law_cell"]
abbrev P__law_taken : List Str := ["_law_row", "_law_many"]
theorem sc__law_taken : FnScope N__law_taken P__law_taken (defScope s__law_taken) := ⟨rfl, rfl, rfl, by decide +kernel, rfl, by decide +kernel, by decide +kernel⟩
abbrev s__law_pick : Stmt := top 61
abbrev N__law_pick : List Str := ["_law_row", "_law_things"]
abbrev P__law_pick : List Str := ["_law_row", "_law_things"]
theorem sc__law_pick : FnScope N__law_pick P__law_pick (defScope s__law_pick) := ⟨rfl, rfl, rfl, by decide +kernel, rfl, by decide +kernel, by decide +kernel⟩
abbrev s__law_kit : Stmt := top 62
abbrev N__law_kit : List Str := ["_law_row", "_law_dragon", "_law_square", "_law_levy", "_law_wide"]
abbrev P__law_kit : List Str := ["_law_row"]
theorem sc__law_kit : FnScope N__law_kit P__law_kit (defScope s__law_kit) := ⟨rfl, rfl, rfl, by decide +kernel, rfl, by decide +kernel, by decide +kernel⟩
abbrev s__law_branched : Stmt := top 63
abbrev N__law_branched : List Str := ["_law_row", "_law_word", "_law_letters", "_law_found", "_law_at", "_law_turn"]
abbrev P__law_branched : List Str := ["_law_row", "_law_word", "_law_letters"]
theorem sc__law_branched : FnScope N__law_branched P__law_branched (defScope s__law_branched) := ⟨rfl, rfl, rfl, by decide +kernel, rfl, by decide +kernel, by decide +kernel⟩
abbrev s__law_even_word : Stmt := top 64
abbrev N__law_even_word : List Str := ["_law_row", "_law_letters", "_law_move", "_law_steps", "_law_way", "_law_found", "_law_heading", "_law_step", "_law_many"]
abbrev P__law_even_word : List Str := ["_law_row", "_law_letters", "_law_move"]
theorem sc__law_even_word : FnScope N__law_even_word P__law_even_word (defScope s__law_even_word) := ⟨rfl, rfl, rfl, by decide +kernel, rfl, by decide +kernel, by decide +kernel⟩
abbrev s__law_even_book : Stmt := top 65
abbrev N__law_even_book : List Str := ["_law_row", "_law_letters", "_law_move", "_law_words", "_law_k", "_law_start"]
abbrev P__law_even_book : List Str := ["_law_row"]
theorem sc__law_even_book : FnScope N__law_even_book P__law_even_book (defScope s__law_even_book) := ⟨rfl, rfl, rfl, by decide +kernel, rfl, by decide +kernel, by decide +kernel⟩
abbrev s__law_unit : Stmt := top 66
abbrev N__law_unit : List Str := ["_law_heading"]
abbrev P__law_unit : List Str := ["_law_heading"]
theorem sc__law_unit : FnScope N__law_unit P__law_unit (defScope s__law_unit) := ⟨rfl, rfl, rfl, by decide +kernel, rfl, by decide +kernel, by decide +kernel⟩
abbrev s__law_drawn : Stmt := top 67
abbrev N__law_drawn : List Str := ["_law_word", "_law_x", "_law_y", "_law_heading", "_law_found", "_law_stands", "_law_item"]
abbrev P__law_drawn : List Str := ["_law_word"]
theorem sc__law_drawn : FnScope N__law_drawn P__law_drawn (defScope s__law_drawn) := ⟨rfl, rfl, rfl, by decide +kernel, rfl, by decide +kernel, by decide +kernel⟩
abbrev s__law_some_even : Stmt := top 68
abbrev N__law_some_even : List Str := ["_law_row", "_law_book"]
abbrev P__law_some_even : List Str := ["_law_row"]
theorem sc__law_some_even : FnScope N__law_some_even P__law_some_even (defScope s__law_some_even) := ⟨rfl, rfl, rfl, by decide +kernel, rfl, by decide +kernel, by decide +kernel⟩
abbrev s__law_grown : Stmt := top 69
abbrev N__law_grown : List Str := ["_law_book", "_law_age_here", "_law_word", "_law_turn", "_law_found", "_law_item"]
abbrev P__law_grown : List Str := ["_law_book", "_law_age_here"]
theorem sc__law_grown : FnScope N__law_grown P__law_grown (defScope s__law_grown) := ⟨rfl, rfl, rfl, by decide +kernel, rfl, by decide +kernel, by decide +kernel⟩
abbrev s__law_farness : Stmt := top 70
abbrev N__law_farness : List Str := ["_law_book", "_law_move", "_law_reach", "_law_come", "_law_age_here", "_law_item", "_law_letter", "_law_x", "_law_y", "_law_heading", "_law_other", "_law_unit_here", "_law_place", "_law_wide", "_law_far"]
abbrev P__law_farness : List Str := ["_law_book", "_law_move"]
theorem sc__law_farness : FnScope N__law_farness P__law_farness (defScope s__law_farness) := ⟨rfl, rfl, rfl, by decide +kernel, rfl, by decide +kernel, by decide +kernel⟩
abbrev s__law_age : Stmt := top 71
abbrev N__law_age : List Str := ["_law_book", "_law_most", "_law_found", "_law_item"]
abbrev P__law_age : List Str := ["_law_book", "_law_most"]
theorem sc__law_age : FnScope N__law_age P__law_age (defScope s__law_age) := ⟨rfl, rfl, rfl, by decide +kernel, rfl, by decide +kernel, by decide +kernel⟩
abbrev s__law_product : Stmt := top 72
abbrev N__law_product : List Str := ["_law_one", "_law_other"]
abbrev P__law_product : List Str := ["_law_one", "_law_other"]
theorem sc__law_product : FnScope N__law_product P__law_product (defScope s__law_product) := ⟨rfl, rfl, rfl, by decide +kernel, rfl, by decide +kernel, by decide +kernel⟩
abbrev s__law_quarter : Stmt := top 73
abbrev N__law_quarter : List Str := ["_law_place", "_law_many", "_law_x", "_law_y"]
abbrev P__law_quarter : List Str := ["_law_place", "_law_many"]
theorem sc__law_quarter : FnScope N__law_quarter P__law_quarter (defScope s__law_quarter) := ⟨rfl, rfl, rfl, by decide +kernel, rfl, by decide +kernel, by decide +kernel⟩
abbrev s__law_beside : Stmt := top 74
abbrev N__law_beside : List Str := ["_law_book", "_law_word", "_law_place", "_law_heading", "_law_move", "_law_age_here", "_law_turn", "_law_found", "_law_lots", "_law_stroke", "_law_ahead", "_law_way", "_law_unit_here"]
abbrev P__law_beside : List Str := ["_law_book", "_law_word", "_law_place", "_law_heading", "_law_move", "_law_age_here"]
theorem sc__law_beside : FnScope N__law_beside P__law_beside (defScope s__law_beside) := ⟨rfl, rfl, rfl, by decide +kernel, rfl, by decide +kernel, by decide +kernel⟩
abbrev s_law : Stmt := top 75
abbrev N_law : List Str := ["_law_script", "_law_row", "_law_book", "_law_move", "_law_word", "_law_heading", "_law_place", "_law_told", "_law_age_here", "_law_mine", "_law_own", "_law_others", "_law_lots", "_law_shared", "_law_touched", "_law_one", "_law_spot"]
abbrev P_law : List Str := ["_law_script"]
theorem sc_law : FnScope N_law P_law (defScope s_law) := ⟨rfl, rfl, rfl, by decide +kernel, rfl, by decide +kernel, by decide +kernel⟩
end SW
set_option Elab.async false
set_option linter.all false
set_option maxRecDepth 100000
set_option maxHeartbeats 0
namespace SW
open PySem PySem.Spec PyProof.Rows L2
/-! the head: each def by its place, the facts, the run of the top -/
def D_plus : He.DefD := ⟨("plus", none), "plus", "plus", defArgs s_plus, defBody s_plus, defScope s_plus, [], []⟩
def D_times : He.DefD := ⟨("times", none), "times", "times", defArgs s_times, defBody s_times, defScope s_times, [], []⟩
def D_size : He.DefD := ⟨("size", none), "size", "size", defArgs s_size, defBody s_size, defScope s_size, [], []⟩
def D_turned : He.DefD := ⟨("turned", none), "turned", "turned", defArgs s_turned, defBody s_turned, defScope s_turned, [], []⟩
def D_quarters : He.DefD := ⟨("quarters", none), "quarters", "quarters", defArgs s_quarters, defBody s_quarters, defScope s_quarters, [], []⟩
def D_is_letter : He.DefD := ⟨("is_letter", none), "is_letter", "is_letter", defArgs s_is_letter, defBody s_is_letter, defScope s_is_letter, [], []⟩
def D_is_in : He.DefD := ⟨("is_in", none), "is_in", "is_in", defArgs s_is_in, defBody s_is_in, defScope s_is_in, [], []⟩
def D_far : He.DefD := ⟨("far", none), "far", "far", defArgs s_far, defBody s_far, defScope s_far, [], []⟩
def D_pair_of : He.DefD := ⟨("pair_of", none), "pair_of", "pair_of", defArgs s_pair_of, defBody s_pair_of, defScope s_pair_of, [], []⟩
def D_is_clash : He.DefD := ⟨("is_clash", none), "is_clash", "is_clash", defArgs s_is_clash, defBody s_is_clash, defScope s_is_clash, [], []⟩
def D_least_root : He.DefD := ⟨("least_root", none), "least_root", "least_root", defArgs s_least_root, defBody s_least_root, defScope s_least_root, [], []⟩
def D_need_number : He.DefD := ⟨("need_number", none), "need_number", "need_number", defArgs s_need_number, defBody s_need_number, defScope s_need_number, [], []⟩
def D_need_place : He.DefD := ⟨("need_place", none), "need_place", "need_place", defArgs s_need_place, defBody s_need_place, defScope s_need_place, [], []⟩
def D_Pen___init__ : He.DefD := ⟨("Pen", some "__init__"), "__init__", "Pen.__init__", defArgs s_Pen___init__, defBody s_Pen___init__, defScope s_Pen___init__, [], []⟩
def D_Pen_mark : He.DefD := ⟨("Pen", some "mark"), "mark", "Pen.mark", defArgs s_Pen_mark, defBody s_Pen_mark, defScope s_Pen_mark, [], []⟩
def D_Pen_go : He.DefD := ⟨("Pen", some "go"), "go", "Pen.go", defArgs s_Pen_go, defBody s_Pen_go, defScope s_Pen_go, [], []⟩
def D_are_branches : He.DefD := ⟨("are_branches", none), "are_branches", "are_branches", defArgs s_are_branches, defBody s_are_branches, defScope s_are_branches, [], []⟩
def D_is_word : He.DefD := ⟨("is_word", none), "is_word", "is_word", defArgs s_is_word, defBody s_is_word, defScope s_is_word, [], []⟩
def D_need_word : He.DefD := ⟨("need_word", none), "need_word", "need_word", defArgs s_need_word, defBody s_need_word, defScope s_need_word, [], []⟩
def D_need_book : He.DefD := ⟨("need_book", none), "need_book", "need_book", defArgs s_need_book, defBody s_need_book, defScope s_need_book, [], []⟩
def D_strokes_of : He.DefD := ⟨("strokes_of", none), "strokes_of", "strokes_of", defArgs s_strokes_of, defBody s_strokes_of, defScope s_strokes_of, [], []⟩
def D_laid_at : He.DefD := ⟨("laid_at", none), "laid_at", "laid_at", defArgs s_laid_at, defBody s_laid_at, defScope s_laid_at, [], []⟩
def D_letters_of : He.DefD := ⟨("letters_of", none), "letters_of", "letters_of", defArgs s_letters_of, defBody s_letters_of, defScope s_letters_of, [], []⟩
def D_touches : He.DefD := ⟨("touches", none), "touches", "touches", defArgs s_touches, defBody s_touches, defScope s_touches, [], []⟩
def D_Web_is_near : He.DefD := ⟨("Web", some "is_near"), "is_near", "Web.is_near", defArgs s_Web_is_near, defBody s_Web_is_near, defScope s_Web_is_near, [], []⟩
def D_Web_laid : He.DefD := ⟨("Web", some "laid"), "laid", "Web.laid", defArgs s_Web_laid, defBody s_Web_laid, defScope s_Web_laid, [], []⟩
def D_Web_children : He.DefD := ⟨("Web", some "children"), "children", "Web.children", defArgs s_Web_children, defBody s_Web_children, defScope s_Web_children, [], []⟩
def D_letters_that_come : He.DefD := ⟨("letters_that_come", none), "letters_that_come", "letters_that_come", defArgs s_letters_that_come, defBody s_letters_that_come, defScope s_letters_that_come, [], []⟩
def D_Web_grow : He.DefD := ⟨("Web", some "grow"), "grow", "Web.grow", defArgs s_Web_grow, defBody s_Web_grow, defScope s_Web_grow, [], []⟩
def D_Sum___init__ : He.DefD := ⟨("Sum", some "__init__"), "__init__", "Sum.__init__", defArgs s_Sum___init__, defBody s_Sum___init__, defScope s_Sum___init__, [], []⟩
def D_nothing : He.DefD := ⟨("nothing", none), "nothing", "nothing", defArgs s_nothing, defBody s_nothing, defScope s_nothing, [], []⟩
def D_Sum_then : He.DefD := ⟨("Sum", some "then"), "then", "Sum.then", defArgs s_Sum_then, defBody s_Sum_then, defScope s_Sum_then, [], []⟩
def D_Sum_turning : He.DefD := ⟨("Sum", some "turning"), "turning", "Sum.turning", defArgs s_Sum_turning, defBody s_Sum_turning, defScope s_Sum_turning, [], []⟩
def D_Sum_back_at : He.DefD := ⟨("Sum", some "back_at"), "back_at", "Sum.back_at", defArgs s_Sum_back_at, defBody s_Sum_back_at, defScope s_Sum_back_at, [], []⟩
def D_joined : He.DefD := ⟨("joined", none), "joined", "joined", defArgs s_joined, defBody s_joined, defScope s_joined, [], []⟩
def D_Ages___init__ : He.DefD := ⟨("Ages", some "__init__"), "__init__", "Ages.__init__", defArgs s_Ages___init__, defBody s_Ages___init__, defScope s_Ages___init__, [], []⟩
def D_is_still : He.DefD := ⟨("is_still", none), "is_still", "is_still", defArgs s_is_still, defBody s_is_still, defScope s_is_still, [], []⟩
def D_multiple_of : He.DefD := ⟨("multiple_of", none), "multiple_of", "multiple_of", defArgs s_multiple_of, defBody s_multiple_of, defScope s_multiple_of, [], []⟩
def D_longer : He.DefD := ⟨("longer", none), "longer", "longer", defArgs s_longer, defBody s_longer, defScope s_longer, [], []⟩
def D_far_enough : He.DefD := ⟨("far_enough", none), "far_enough", "far_enough", defArgs s_far_enough, defBody s_far_enough, defScope s_far_enough, [], []⟩
def D_Web___init__ : He.DefD := ⟨("Web", some "__init__"), "__init__", "Web.__init__", defArgs s_Web___init__, defBody s_Web___init__, defScope s_Web___init__, [], []⟩
def D_need_both : He.DefD := ⟨("need_both", none), "need_both", "need_both", defArgs s_need_both, defBody s_need_both, defScope s_need_both, [], []⟩
def D_side_web : He.DefD := ⟨("side_web", none), "side_web", "side_web", defArgs s_side_web, defBody s_side_web, defScope s_side_web, [], []⟩
def D_share_age : He.DefD := ⟨("share_age", none), "share_age", "share_age", defArgs s_share_age, defBody s_share_age, defScope s_share_age, [], []⟩
def D_touch_age : He.DefD := ⟨("touch_age", none), "touch_age", "touch_age", defArgs s_touch_age, defBody s_touch_age, defScope s_touch_age, [], []⟩
def D_never_share : He.DefD := ⟨("never_share", none), "never_share", "never_share", defArgs s_never_share, defBody s_never_share, defScope s_never_share, [], []⟩
def D__law_taken : He.DefD := ⟨("_law_taken", none), "_law_taken", "_law_taken", defArgs s__law_taken, defBody s__law_taken, defScope s__law_taken, [], []⟩
def D__law_pick : He.DefD := ⟨("_law_pick", none), "_law_pick", "_law_pick", defArgs s__law_pick, defBody s__law_pick, defScope s__law_pick, [], []⟩
def D__law_unit : He.DefD := ⟨("_law_unit", none), "_law_unit", "_law_unit", defArgs s__law_unit, defBody s__law_unit, defScope s__law_unit, [], []⟩
def D__law_quarter : He.DefD := ⟨("_law_quarter", none), "_law_quarter", "_law_quarter", defArgs s__law_quarter, defBody s__law_quarter, defScope s__law_quarter, [], []⟩
def D__law_product : He.DefD := ⟨("_law_product", none), "_law_product", "_law_product", defArgs s__law_product, defBody s__law_product, defScope s__law_product, [], []⟩
def D__law_drawn : He.DefD := ⟨("_law_drawn", none), "_law_drawn", "_law_drawn", defArgs s__law_drawn, defBody s__law_drawn, defScope s__law_drawn, [], []⟩
def D__law_grown : He.DefD := ⟨("_law_grown", none), "_law_grown", "_law_grown", defArgs s__law_grown, defBody s__law_grown, defScope s__law_grown, [], []⟩
def D__law_age : He.DefD := ⟨("_law_age", none), "_law_age", "_law_age", defArgs s__law_age, defBody s__law_age, defScope s__law_age, [], []⟩
def D__law_farness : He.DefD := ⟨("_law_farness", none), "_law_farness", "_law_farness", defArgs s__law_farness, defBody s__law_farness, defScope s__law_farness, [], []⟩
def D__law_beside : He.DefD := ⟨("_law_beside", none), "_law_beside", "_law_beside", defArgs s__law_beside, defBody s__law_beside, defScope s__law_beside, [], []⟩
def D__law_branched : He.DefD := ⟨("_law_branched", none), "_law_branched", "_law_branched", defArgs s__law_branched, defBody s__law_branched, defScope s__law_branched, [], []⟩
def D__law_even_word : He.DefD := ⟨("_law_even_word", none), "_law_even_word", "_law_even_word", defArgs s__law_even_word, defBody s__law_even_word, defScope s__law_even_word, [], []⟩
def D__law_kit : He.DefD := ⟨("_law_kit", none), "_law_kit", "_law_kit", defArgs s__law_kit, defBody s__law_kit, defScope s__law_kit, [], []⟩
def D__law_even_book : He.DefD := ⟨("_law_even_book", none), "_law_even_book", "_law_even_book", defArgs s__law_even_book, defBody s__law_even_book, defScope s__law_even_book, [], []⟩
def D__law_some_even : He.DefD := ⟨("_law_some_even", none), "_law_some_even", "_law_some_even", defArgs s__law_some_even, defBody s__law_some_even, defScope s__law_some_even, [], []⟩
def D_law : He.DefD := ⟨("law", none), "law", "law", defArgs s_law, defBody s_law, defScope s_law, [], []⟩
def hFn0 : List He.DefD := [D_plus, D_times, D_size, D_turned, D_quarters, D_is_letter, D_is_in, D_far, D_pair_of, D_is_clash, D_least_root, D_need_number, D_need_place, D_Pen___init__, D_Pen_mark, D_Pen_go]
def hFn1 : List He.DefD := [D_are_branches, D_is_word, D_need_word, D_need_book, D_strokes_of, D_laid_at, D_letters_of, D_touches, D_Web_is_near, D_Web_laid, D_Web_children, D_letters_that_come, D_Web_grow, D_Sum___init__, D_nothing, D_Sum_then]
def hFn2 : List He.DefD := [D_Sum_turning, D_Sum_back_at, D_joined, D_Ages___init__, D_is_still, D_multiple_of, D_longer, D_far_enough, D_Web___init__, D_need_both, D_side_web, D_share_age, D_touch_age, D_never_share, D__law_taken, D__law_pick]
def hFn3 : List He.DefD := [D__law_unit, D__law_quarter, D__law_product, D__law_drawn, D__law_grown, D__law_age, D__law_farness, D__law_beside, D__law_branched, D__law_even_word, D__law_kit, D__law_even_book, D__law_some_even, D_law]
def hFn : List He.DefD := hFn0 ++ hFn1 ++ hFn2 ++ hFn3
def hFa0 : List He.Fa := [.glo "plus", .glo "times", .glo "size", .glo "turned", .glo "quarters", .glo "is_letter", .glo "is_in", .glo "far", .glo "pair_of", .glo "is_clash", .glo "least_root", .glo "need_number", .glo "need_place", .glo "are_branches", .glo "is_word", .glo "need_word"]
def hFa1 : List He.Fa := [.glo "need_book", .glo "strokes_of", .glo "laid_at", .glo "letters_of", .glo "touches", .glo "letters_that_come", .glo "nothing", .glo "joined", .glo "is_still", .glo "multiple_of", .glo "longer", .glo "far_enough", .glo "need_both", .glo "side_web", .glo "share_age", .glo "touch_age"]
def hFa2 : List He.Fa := [.glo "never_share", .glo "_law_taken", .glo "_law_pick", .glo "_law_unit", .glo "_law_quarter", .glo "_law_product", .glo "_law_drawn", .glo "_law_grown", .glo "_law_age", .glo "_law_farness", .glo "_law_beside", .glo "_law_branched", .glo "_law_even_word", .glo "_law_kit", .glo "_law_even_book", .glo "_law_some_even"]
def hFa3 : List He.Fa := [.glo "law", .glo "Pen", .cls "Pen", .mkr "Pen", .glo "Sum", .cls "Sum", .mkr "Sum", .glo "Ages", .cls "Ages", .mkr "Ages", .glo "Web", .cls "Web", .mkr "Web", .glo "HEADINGS", .int "MOST_LETTERS" 8, .int "MOST_WORD" 40]
def hFa4 : List He.Fa := [.int "MOST_PAIRS" 20000, .str "LEFT" "+", .str "RIGHT" "-", .str "OUT" "[", .str "BACK" "]", .free "isinstance", .free "int", .free "bool", .free "str", .free "tuple", .free "len", .free "range", .free "enumerate", .free "list", .free "sorted", .free "set"]
def hFa5 : List He.Fa := [.free "max", .free "min", .free "abs", .noat "Pen" "place", .noat "Pen" "heading", .noat "Pen" "stands", .noat "Sum" "many", .noat "Sum" "end", .noat "Sum" "turns", .noat "Sum" "ways", .noat "Sum" "area", .noat "Ages" "book", .noat "Ages" "rows", .noat "Web" "book", .noat "Web" "move", .noat "Web" "far"]
def hFa6 : List He.Fa := [.noat "Web" "words", .meth "Pen" "mark", .meth "Pen" "go", .meth "Web" "is_near", .meth "Web" "laid", .meth "Web" "children", .meth "Web" "grow", .meth "Sum" "then", .meth "Sum" "turning", .meth "Sum" "back_at"]
def hFa : List He.Fa := hFa0 ++ hFa1 ++ hFa2 ++ hFa3 ++ hFa4 ++ hFa5 ++ hFa6
/-- the i-th thing of a row of things at an address -/
def itemAt (K : PySem.W.Frag) (a : Addr) (i : Nat) : Addr := match K.lookup a with
  | some o => (match o.data with
    | .seq its _ => (match its.toList[i]? with
      | some (.ref b) => b
      | _ => 0)
    | _ => 0)
  | none => 0
/-- a tuple of these values stands at an address -/
def tupHere (K : PySem.W.Frag) (a : Addr) (vs : List V) : Bool := match K.lookup a with
  | some o => (match o.cls, o.data with
    | .type c, .seq its _ => decide (c = "tuple") && decide (its.size ≤ sizeLine) && He.relAll vs its.toList
    | _, _ => false)
  | none => false
theorem tupHere_ok {K : PySem.W.Frag} {a : Addr} {vs : List V} (h : tupHere K a vs = true) (H : Hp) : SqT K H a vs := by
  unfold tupHere at h
  split at h
  · rename_i o q
    split at h
    · rename_i c its n e1 e2
      simp only [Bool.and_eq_true, decide_eq_true_eq] at h
      obtain ⟨⟨h1, h2⟩, h3⟩ := h
      subst h1
      exact .inr ⟨o, its, n, q, e1, e2, h2, He.relAll_ok h3⟩
    · cases h
  · cases h
abbrev hdAt (K : PySem.W.Frag) (i : Nat) : Addr := itemAt K (He.ga K "HEADINGS") i
def hEx (K : PySem.W.Frag) : Bool := tupHere K (He.ga K "HEADINGS") [.ref (hdAt K 0), .ref (hdAt K 1), .ref (hdAt K 2), .ref (hdAt K 3)] &&
  (tupHere K (hdAt K 0) [.int 1, .int 0] && (tupHere K (hdAt K 1) [.int 0, .int 1] && (tupHere K (hdAt K 2) [.int (-1), .int 0] && tupHere K (hdAt K 3) [.int 0, .int (-1)])))
/-- what is looked at: the facts, and one thing more -/
def rings (g : Addr → Option Obj) : Nat → List Addr → List Addr
  | 0, _ => []
  | n + 1, as => as ++ rings g n (as.flatMap fun a => match g a with
    | some o => He.refsD o
    | none => [])
def obsS (n : Nat) (g : Addr → Option Obj) : He.AlD × Bool := (fun K : PySem.W.Frag => (He.obsD hFa hFn K, hEx K)) (He.frG g (rings g n [mainGlobals]))
def hookS (n : Nat) : PySem.W.Hook where
  α := He.AlD × Bool
  obs := fun s => obsS n s.heap.get?
  val := fun _ => (He.valD hFn, true)
  says := fun _ h => ∃ K : PySem.W.Frag, K.In h ∧ He.SaysD hFa hFn K ∧ hEx K = true
  of := fun _ _ e => ⟨_, He.frG_in, congrArg Prod.fst e, congrArg Prod.snd e⟩
  keeps := fun _ _ _ ⟨K, hK, c⟩ k => ⟨K, PySem.W.Frag.In.keeps hK k, c⟩
abbrev hRow : PySem.W.OpenRow := PySem.W.OpenLaw.row PySem.Challenge.rw_strokeonce_k11_whole_sides
abbrev hHk : PySem.W.Hook := hookS 5
def hOb (s : PySem.W.SharedT) : He.AlD × Bool := obsS 5 (HandSHeadRun.getT s)
theorem hOb_eq (s : PySem.W.SharedT) : hOb s = hHk.obs s.abs := by
  have e : HandSHeadRun.getT s = s.abs.heap.get? := funext (HandSHeadRun.getT_eq s)
  unfold hOb
  rw [e]
  rfl
def hLoose0 : List PySem.Str := [("StrokeError" : PySem.Str), ("BadBook" : PySem.Str), ("BadNumber" : PySem.Str), ("BadPlace" : PySem.Str), ("BadWord" : PySem.Str), ("NotEven" : PySem.Str), ("TooMany" : PySem.Str), ("MOST_LETTERS" : PySem.Str), ("MOST_WORD" : PySem.Str), ("LEFT" : PySem.Str), ("RIGHT" : PySem.Str), ("OUT" : PySem.Str), ("BACK" : PySem.Str), ("HEADINGS" : PySem.Str), ("far" : PySem.Str), ("is_in" : PySem.Str)]
def hLoose1 : List PySem.Str := [("is_letter" : PySem.Str), ("are_branches" : PySem.Str), ("is_word" : PySem.Str), ("need_book" : PySem.Str), ("need_word" : PySem.Str), ("need_number" : PySem.Str), ("need_place" : PySem.Str), ("Pen" : PySem.Str), ("quarters" : PySem.Str), ("turned" : PySem.Str), ("times" : PySem.Str), ("plus" : PySem.Str), ("letters_that_come" : PySem.Str), ("Sum" : PySem.Str), ("nothing" : PySem.Str), ("joined" : PySem.Str)]
def hLoose2 : List PySem.Str := [("Ages" : PySem.Str), ("is_still" : PySem.Str), ("multiple_of" : PySem.Str), ("size" : PySem.Str), ("longer" : PySem.Str), ("strokes_of" : PySem.Str), ("MOST_PAIRS" : PySem.Str), ("least_root" : PySem.Str), ("far_enough" : PySem.Str), ("pair_of" : PySem.Str), ("Web" : PySem.Str), ("is_clash" : PySem.Str), ("laid_at" : PySem.Str), ("touches" : PySem.Str), ("side_web" : PySem.Str), ("letters_of" : PySem.Str)]
def hLoose3 : List PySem.Str := [("need_both" : PySem.Str), ("share_age" : PySem.Str), ("touch_age" : PySem.Str), ("never_share" : PySem.Str), ("_law_taken" : PySem.Str), ("_law_pick" : PySem.Str), ("_law_kit" : PySem.Str), ("_law_branched" : PySem.Str), ("_law_even_word" : PySem.Str), ("_law_even_book" : PySem.Str), ("_law_unit" : PySem.Str), ("_law_drawn" : PySem.Str), ("_law_some_even" : PySem.Str), ("_law_grown" : PySem.Str), ("_law_farness" : PySem.Str), ("_law_age" : PySem.Str)]
def hLoose4 : List PySem.Str := [("_law_product" : PySem.Str), ("_law_quarter" : PySem.Str), ("_law_beside" : PySem.Str)]
def hLoose : List PySem.Str := hLoose0 ++ hLoose1 ++ hLoose2 ++ hLoose3 ++ hLoose4
theorem hRun (w : World) : HandSHeadRun.RunEq hRow (PySem.W.view hRow.prog [75]) hHk hOb 6000 hLoose w := by
  intro os
  kernel_rfl
end SW
set_option linter.all false
/-! plain mathematics: words, pens, strokes -/
namespace SW
/-- a part of a word -/
inductive It where
  | L (i : Nat) | tl | tr | op | cl
  deriving DecidableEq
/-- a stroke -/
structure Stk where
  x : Int
  y : Int
  h : Int
  l : Nat
  deriving DecidableEq
/-- (x, y) turned by k quarters -/
def rx (x y k : Int) : Int := if k % 4 = 0 then x else if k % 4 = 1 then -y else if k % 4 = 2 then -x else y
def ry (x y k : Int) : Int := if k % 4 = 0 then y else if k % 4 = 1 then x else if k % 4 = 2 then -y else -x
structure Pn where
  x : Int
  y : Int
  h : Int
  st : List (Int × Int × Int)
  deriving DecidableEq
def Pn.mark (p : Pn) : It → Pn
  | .tl => { p with h := (p.h + 1) % 4 }
  | .tr => { p with h := (p.h + 3) % 4 }
  | .op => { p with st := (p.x, p.y, p.h) :: p.st }
  | .cl => (match p.st with
    | (x, y, h) :: r => ⟨x, y, h, r⟩
    | [] => p)
  | .L _ => p
def Pn.go (p : Pn) : Pn := { p with x := p.x + rx 1 0 p.h, y := p.y + ry 1 0 p.h }
def Pn.step (p : Pn) : It → Pn
  | .L _ => p.go
  | s => p.mark s
def run (p : Pn) (w : List It) : Pn := w.foldl Pn.step p
def p0 : Pn := ⟨0, 0, 0, []⟩
def strokesFrom : Pn → List It → List Stk
  | _, [] => []
  | p, .L i :: r => ⟨p.x, p.y, p.h, i⟩ :: strokesFrom p.go r
  | p, s :: r => strokesFrom (p.mark s) r
def strokes (w : List It) : List Stk := strokesFrom p0 w
def isL : It → Bool
  | .L _ => true
  | _ => false
/-- how many branches are open behind a word -/
def dep : List It → Int
  | [] => 0
  | .op :: r => 1 + dep r
  | .cl :: r => dep r - 1
  | _ :: r => dep r
/-- each branch is closed, from a depth -/
def bal : Nat → List It → Bool
  | n, [] => n == 0
  | n, .op :: r => bal (n + 1) r
  | 0, .cl :: _ => false
  | n + 1, .cl :: r => bal n r
  | n, _ :: r => bal n r
/-- a word of n letters -/
structure OkW (n : Nat) (w : List It) : Prop where
  ne : 1 ≤ w.length
  le : w.length ≤ 40
  lt : ∀ i, It.L i ∈ w → i < n
  bal : bal 0 w = true
  has : ∃ i, It.L i ∈ w
structure Bk where
  ws : List (List It)
  st : List It
structure OkB (b : Bk) : Prop where
  n1 : 1 ≤ b.ws.length
  n8 : b.ws.length ≤ 8
  ws : ∀ w ∈ b.ws, OkW b.ws.length w
  st : OkW b.ws.length b.st
theorem h_mod (k : Int) : k % 4 = 0 ∨ k % 4 = 1 ∨ k % 4 = 2 ∨ k % 4 = 3 := by omega
/-- headings stay from 0 to 3 -/
def Hd (h : Int) : Prop := 0 ≤ h ∧ h < 4
structure PnOk (p : Pn) : Prop where
  h : Hd p.h
  st : ∀ q ∈ p.st, Hd q.2.2
theorem PnOk.mark {p : Pn} (k : PnOk p) (s : It) : PnOk (p.mark s) := by
  cases s with
  | L i => exact k
  | tl => exact ⟨⟨by show 0 ≤ (p.h + 1) % 4; omega, by show (p.h + 1) % 4 < 4; omega⟩, k.st⟩
  | tr => exact ⟨⟨by show 0 ≤ (p.h + 3) % 4; omega, by show (p.h + 3) % 4 < 4; omega⟩, k.st⟩
  | op => exact ⟨k.h, fun q hq => by
      rcases List.mem_cons.mp hq with e | hq
      · rw [e]; exact k.h
      · exact k.st q hq⟩
  | cl =>
    unfold Pn.mark
    cases e : p.st with
    | nil => exact k
    | cons q r =>
      obtain ⟨x, y, h⟩ := q
      have k2 := k.st
      rw [e] at k2
      exact ⟨k2 (x, y, h) List.mem_cons_self, fun z hz => k2 z (List.mem_cons_of_mem _ hz)⟩
theorem PnOk.go {p : Pn} (k : PnOk p) : PnOk p.go := ⟨k.h, k.st⟩
theorem PnOk.step {p : Pn} (k : PnOk p) (s : It) : PnOk (p.step s) := by
  cases s with
  | L i => exact k.go
  | tl => exact k.mark .tl
  | tr => exact k.mark .tr
  | op => exact k.mark .op
  | cl => exact k.mark .cl
theorem p0_ok : PnOk p0 := ⟨⟨by decide, by decide⟩, fun _ h => by cases h⟩
theorem run_ok : ∀ (w : List It) {p : Pn}, PnOk p → PnOk (run p w)
  | [], _, k => k
  | s :: r, _, k => run_ok r (k.step s)
theorem strokes_cons (p : Pn) (s : It) (r : List It) : strokesFrom p (s :: r) = (match s with
    | .L i => [⟨p.x, p.y, p.h, i⟩]
    | _ => []) ++ strokesFrom (p.step s) r := by
  cases s <;> rfl
theorem strokes_append (p : Pn) (v w : List It) : strokesFrom p (v ++ w) = strokesFrom p v ++ strokesFrom (run p v) w := by
  induction v generalizing p with
  | nil => rfl
  | cons s r ih =>
    rw [List.cons_append, strokes_cons, strokes_cons, ih, List.append_assoc]
    rfl
theorem run_append (p : Pn) (v w : List It) : run p (v ++ w) = run (run p v) w := by
  unfold run
  rw [List.foldl_append]
/-- a stroke's heading, letter -/
theorem strokes_hd : ∀ (w : List It) {p : Pn}, PnOk p → ∀ s ∈ strokesFrom p w, Hd s.h ∧ It.L s.l ∈ w
  | [], _, _, s, hs => by cases hs
  | it :: r, p, k, s, hs => by
    rw [strokes_cons] at hs
    rcases List.mem_append.mp hs with h | h
    · cases it with
      | L i =>
        simp at h
        subst h
        exact ⟨k.h, List.mem_cons_self⟩
      | _ => simp at h
    · obtain ⟨h1, h2⟩ := strokes_hd r (k.step it) s h
      exact ⟨h1, List.mem_cons_of_mem _ h2⟩
theorem strokes_length_le : ∀ (w : List It) (p : Pn), (strokesFrom p w).length ≤ w.length
  | [], _ => Nat.le_refl _
  | s :: r, p => by
    rw [strokes_cons, List.length_append, List.length_cons]
    have h := strokes_length_le r (p.step s)
    cases s <;> simp <;> omega
end SW
set_option linter.all false
/-! plain mathematics: pairs of strokes, webs -/
namespace SW
/-- a stroke seen from another: its place, the first one's letter, its heading, its letter -/
structure Pr where
  x : Int
  y : Int
  a : Nat
  t : Int
  b : Nat
  deriving DecidableEq
def pairOf (o p : Stk) : Pr := ⟨rx (p.x - o.x) (p.y - o.y) (-o.h), ry (p.x - o.x) (p.y - o.y) (-o.h), o.l, (p.h - o.h) % 4, p.l⟩
/-- a stroke laid at a place with a heading -/
def laidS (px py k : Int) (s : Stk) : Stk := ⟨px + rx s.x s.y k, py + ry s.x s.y k, (s.h + k) % 4, s.l⟩
def near (f : Int) (p : Pr) : Bool := decide (p.x * p.x + p.y * p.y ≤ f * f)
/-- the children of two drawings -/
def kidsOf (f : Int) (os ps : List Stk) : List Pr := os.flatMap fun o => (ps.map (pairOf o)).filter (near f)
/-- the strokes of a letter's word, laid: the place grown by the move -/
def laidW (ws : List (List It)) (mx my : Int) (l : Nat) (px py k : Int) : List Stk := (strokes (ws.getD l [])).map (laidS (mx * px - my * py) (mx * py + my * px) k)
def kids (ws : List (List It)) (mx my f : Int) (p : Pr) : List Pr := kidsOf f (laidW ws mx my p.a 0 0 0) (laidW ws mx my p.b p.x p.y p.t)
/-- the first stroke's ends -/
def isE (x y : Int) : Bool := decide (x = 0 ∧ y = 0) || decide (x = 1 ∧ y = 0)
def touchB (x y t : Int) : Bool := isE x y || isE (x + rx 1 0 t) (y + ry 1 0 t)
/-- what comes at age n -/
def NN (start : List Pr) (kd : Pr → List Pr) : Nat → Pr → Prop
  | 0, p => p ∈ start
  | n + 1, p => ∃ q, NN start kd n q ∧ p ∈ kd q
theorem laidS_hd {px py k : Int} {s : Stk} : Hd (laidS px py k s).h := ⟨by show 0 ≤ (s.h + k) % 4; omega, by show (s.h + k) % 4 < 4; omega⟩
theorem pairOf_hd {o p : Stk} : Hd (pairOf o p).t := ⟨by show 0 ≤ (p.h - o.h) % 4; omega, by show (p.h - o.h) % 4 < 4; omega⟩
theorem mem_kidsOf {f : Int} {os ps : List Stk} {c : Pr} : c ∈ kidsOf f os ps ↔ ∃ o ∈ os, ∃ p ∈ ps, c = pairOf o p ∧ near f c = true := by
  unfold kidsOf
  rw [List.mem_flatMap]
  constructor
  · rintro ⟨o, ho, h⟩
    obtain ⟨h1, h2⟩ := List.mem_filter.mp h
    obtain ⟨p, hp, rfl⟩ := List.mem_map.mp h1
    exact ⟨o, ho, p, hp, rfl, h2⟩
  · rintro ⟨o, ho, p, hp, rfl, h⟩
    exact ⟨o, ho, List.mem_filter.mpr ⟨List.mem_map.mpr ⟨p, hp, rfl⟩, h⟩⟩
/-- the letters that ever come -/
inductive Reach (b : Bk) : Nat → Prop
  | st {l : Nat} (h : It.L l ∈ b.st) : Reach b l
  | wd {l m : Nat} (h : Reach b l) (k : It.L m ∈ b.ws.getD l []) : Reach b m
theorem Reach.lt {b : Bk} (ok : OkB b) {l : Nat} (h : Reach b l) : l < b.ws.length := by
  cases h with
  | st h => exact ok.st.lt _ h
  | @wd k m h k2 =>
    by_cases hk : k < b.ws.length
    · rw [List.getD_eq_getElem?_getD, List.getElem?_eq_getElem hk] at k2
      exact (ok.ws _ (List.getElem_mem hk)).lt _ k2
    · rw [List.getD_eq_getElem?_getD, List.getElem?_eq_none (by omega)] at k2
      cases k2
theorem sq_nn (a : Int) : 0 ≤ a * a := by
  rcases Int.le_total 0 a with h | h
  · exact Int.mul_nonneg h h
  · exact Int.mul_nonneg_of_nonpos_of_nonpos h h
theorem abs_of_sq {a n : Int} (hn : 0 ≤ n) (h : a * a ≤ n * n) : -n ≤ a ∧ a ≤ n := by
  constructor
  · apply Int.not_lt.mp
    intro z
    have p := Int.mul_pos (show 0 < -a - n by omega) (show 0 < -a + n by omega)
    have e : (-a - n) * (-a + n) = a * a - n * n := by grind
    omega
  · apply Int.not_lt.mp
    intro z
    have p := Int.mul_pos (show 0 < a - n by omega) (show 0 < a + n by omega)
    have e : (a - n) * (a + n) = a * a - n * n := by grind
    omega
theorem abs_of_sum {a b n : Int} (hn : 0 ≤ n) (h : a * a + b * b ≤ n * n) : (-n ≤ a ∧ a ≤ n) ∧ (-n ≤ b ∧ b ≤ n) := by
  have h1 := sq_nn a
  have h2 := sq_nn b
  exact ⟨abs_of_sq hn (by omega), abs_of_sq hn (by omega)⟩
/-- each letter replaced by its word -/
def sub1 (ws : List (List It)) : It → List It
  | .L i => ws.getD i []
  | s => [s]
def growW (ws : List (List It)) (w : List It) : List It := w.flatMap (sub1 ws)
def growN (ws : List (List It)) : Nat → List It → List It
  | 0, w => w
  | n + 1, w => growW ws (growN ws n w)
theorem growN_lt {ws : List (List It)} (h : ∀ w ∈ ws, ∀ i, It.L i ∈ w → i < ws.length) {w : List It} (hw : ∀ i, It.L i ∈ w → i < ws.length) : ∀ n, ∀ i, It.L i ∈ growN ws n w → i < ws.length
  | 0 => hw
  | n + 1 => fun i hi => by
    obtain ⟨s, hs, h1⟩ := List.mem_flatMap.mp (show It.L i ∈ (growN ws n w).flatMap (sub1 ws) from hi)
    cases s with
    | L j =>
      have hj := growN_lt h hw n j hs
      have h1 : It.L i ∈ ws.getD j [] := h1
      rw [List.getD_eq_getElem?_getD, List.getElem?_eq_getElem hj] at h1
      exact h _ (List.getElem_mem hj) i h1
    | tl => simp [sub1] at h1
    | tr => simp [sub1] at h1
    | op => simp [sub1] at h1
    | cl => simp [sub1] at h1
end SW
set_option Elab.async false
set_option linter.all false
set_option maxRecDepth 100000
set_option maxHeartbeats 4000000
/-! The data layer: tuples as plain values, lists, dicts and instances at addresses. -/
namespace DL
open PySem PySem.Spec PyProof.Rows L2

/-- a value as data: numbers, texts, tuples of such; adr: an object at an address; fz: the script -/
inductive D where
  | non | bl (b : Bool) | int (i : Int) | str (x : Str) | adr (a : Addr) | tup (xs : List D) | fz (xs : List D)
  /-- a tuple that was made here: it may be a key -/
  | own (xs : List D)

/-- a list that nothing writes -/
def SqF (K : PySem.W.Frag) (H : Hp) (a : Addr) (xs : List V) : Prop :=
  (∃ o, H a = some (.frz o (.lst xs))) ∨
    ∃ (o : Obj) (its : Array Value) (n : Nat), K.lookup a = some o ∧ o.cls = .type "list" ∧ o.dict = none ∧ o.data = .seq its n ∧ its.size ≤ sizeLine ∧ Vals xs its.toList
theorem SqF.l {K : PySem.W.Frag} {H : Hp} {a : Addr} {xs : List V} (h : SqF K H a xs) : SqL K H a xs := by
  rcases h with ⟨o, h⟩ | h
  · exact .inl (.inr ⟨o, h⟩)
  · exact .inr h

mutual
/-- the value v stands for the datum -/
def Im (K : PySem.W.Frag) (H : Hp) : D → V → Prop
  | .non, v => v = .non
  | .bl b, v => v = .bl b
  | .int i, v => v = .int i
  | .str x, v => v = .str x
  | .adr a, v => v = .ref a
  | .tup ds, v => ∃ a xs, v = .ref a ∧ SqT K H a xs ∧ ImL K H ds xs
  | .fz ds, v => ∃ a xs, v = .ref a ∧ SqF K H a xs ∧ ImL K H ds xs
  | .own ds, v => ∃ a xs, v = .ref a ∧ H a = some (.tup xs) ∧ ImL K H ds xs
def ImL (K : PySem.W.Frag) (H : Hp) : List D → List V → Prop
  | [], xs => xs = []
  | d :: ds, xs => ∃ v r, xs = v :: r ∧ Im K H d v ∧ ImL K H ds r
end
/-- pairs: keys by f, values -/
def ImP (K : PySem.W.Frag) (H : Hp) {κ κ' : Type} (f : κ → κ') : List (κ × D) → List (κ' × V) → Prop
  | [], ys => ys = []
  | p :: r, ys => ∃ v s, ys = (f p.1, v) :: s ∧ Im K H p.2 v ∧ ImP K H f r s

/-- what stood as a tuple, or as the script, stands -/
def TupX (K : PySem.W.Frag) (H H' : Hp) : Prop := (∀ a xs, SqT K H a xs → SqT K H' a xs) ∧ (∀ a xs, SqF K H a xs → SqF K H' a xs) ∧ (∀ (a : Addr) (xs : List V), H a = some (.tup xs) → H' a = some (.tup xs)) ∧ ∀ (a : Addr) (o : Obj) (u : HO), H a = some (.frz o u) → H' a = some (.frz o u)
section
variable {K : PySem.W.Frag} {H H1 H2 H' : Hp}
theorem TupX.refl (H : Hp) : TupX K H H := ⟨fun _ _ h => h, fun _ _ h => h, fun _ _ h => h, fun _ _ _ h => h⟩
theorem TupX.trans (a : TupX K H H1) (b : TupX K H1 H2) : TupX K H H2 := ⟨fun c xs h => b.1 c xs (a.1 c xs h), fun c xs h => b.2.1 c xs (a.2.1 c xs h), fun c xs h => b.2.2.1 c xs (a.2.2.1 c xs h), fun c o u h => b.2.2.2 c o u (a.2.2.2 c o u h)⟩
mutual
theorem im_mono (t : TupX K H H') : ∀ (d : D) (v : V), Im K H d v → Im K H' d v
  | .non, _, h => h
  | .bl _, _, h => h
  | .int _, _, h => h
  | .str _, _, h => h
  | .adr _, _, h => h
  | .tup ds, v, h => by
    obtain ⟨a, xs, e, q, r⟩ := h
    exact ⟨a, xs, e, t.1 a xs q, imL_mono t ds xs r⟩
  | .fz ds, v, h => by
    obtain ⟨a, xs, e, q, r⟩ := h
    exact ⟨a, xs, e, t.2.1 a xs q, imL_mono t ds xs r⟩
  | .own ds, v, h => by
    obtain ⟨a, xs, e, q, r⟩ := h
    exact ⟨a, xs, e, t.2.2.1 a xs q, imL_mono t ds xs r⟩
theorem imL_mono (t : TupX K H H') : ∀ (ds : List D) (xs : List V), ImL K H ds xs → ImL K H' ds xs
  | [], _, h => h
  | d :: ds, xs, h => by
    obtain ⟨v, r, e, q, s⟩ := h
    exact ⟨v, r, e, im_mono t d v q, imL_mono t ds r s⟩
end
theorem Im.mono {d : D} {v : V} (h : Im K H d v) (t : TupX K H H') : Im K H' d v := im_mono t d v h
theorem ImL.mono {d : List D} {v : List V} (h : ImL K H d v) (t : TupX K H H') : ImL K H' d v := imL_mono t d v h
theorem ImP.mono {κ κ' : Type} {f : κ → κ'} (t : TupX K H H') : ∀ {ds : List (κ × D)} {xs : List (κ' × V)}, ImP K H f ds xs → ImP K H' f ds xs
  | [], _, h => h
  | _ :: _, _, h => by
    obtain ⟨v, r, e, q, s⟩ := h
    exact ⟨v, r, e, q.mono t, ImP.mono t s⟩
theorem ImL.length : ∀ {ds : List D} {xs : List V}, ImL K H ds xs → xs.length = ds.length
  | [], _, h => by
    cases (show _ = [] from h)
    rfl
  | _ :: _, _, h => by
    obtain ⟨v, r, e, _, s⟩ := h
    rw [e, List.length_cons, List.length_cons, ImL.length s]
theorem ImL.get : ∀ {ds : List D} {xs : List V} {i : Nat} {d : D}, ImL K H ds xs → ds[i]? = some d → ∃ v, xs[i]? = some v ∧ Im K H d v
  | [], _, _, _, _, e => by simp at e
  | _ :: _, _, 0, d, h, e => by
    obtain ⟨v, r, rfl, q, _⟩ := h
    simp at e
    subst e
    exact ⟨v, rfl, q⟩
  | _ :: _, _, i + 1, d, h, e => by
    obtain ⟨v, r, rfl, _, s⟩ := h
    obtain ⟨u, h1, h2⟩ := ImL.get (i := i) s (by simpa using e)
    exact ⟨u, by simpa using h1, h2⟩
theorem ImL.getV : ∀ {ds : List D} {xs : List V} {i : Nat} {v : V}, ImL K H ds xs → xs[i]? = some v → ∃ d, ds[i]? = some d ∧ Im K H d v
  | [], _, _, _, h, e => by
    cases (show _ = [] from h)
    simp at e
  | _ :: _, _, 0, u, h, e => by
    obtain ⟨v, r, rfl, q, _⟩ := h
    simp at e
    subst e
    exact ⟨_, rfl, q⟩
  | _ :: _, _, i + 1, d, h, e => by
    obtain ⟨v, r, rfl, _, s⟩ := h
    obtain ⟨u, h1, h2⟩ := ImL.getV (i := i) s (by simpa using e)
    exact ⟨u, by simpa using h1, h2⟩
theorem ImL.append : ∀ {ds es : List D} {xs ys : List V}, ImL K H ds xs → ImL K H es ys → ImL K H (ds ++ es) (xs ++ ys)
  | [], _, _, _, h, k => by
    cases (show _ = [] from h)
    exact k
  | _ :: _, _, _, _, h, k => by
    obtain ⟨v, r, rfl, q, s⟩ := h
    exact ⟨v, _, rfl, q, ImL.append s k⟩
theorem ImL.take : ∀ {ds : List D} {xs : List V} (n : Nat), ImL K H ds xs → ImL K H (ds.take n) (xs.take n)
  | _, _, 0, _ => rfl
  | [], _, _ + 1, h => by
    cases (show _ = [] from h)
    rfl
  | _ :: _, _, n + 1, h => by
    obtain ⟨v, r, rfl, q, s⟩ := h
    exact ⟨v, _, rfl, q, ImL.take n s⟩
theorem ImL.drop : ∀ {ds : List D} {xs : List V} (n : Nat), ImL K H ds xs → ImL K H (ds.drop n) (xs.drop n)
  | _, _, 0, h => h
  | [], _, _ + 1, h => by
    cases (show _ = [] from h)
    rfl
  | _ :: _, _, n + 1, h => by
    obtain ⟨v, r, rfl, q, s⟩ := h
    exact ImL.drop n s
theorem ImL.eraseIdx : ∀ {ds : List D} {xs : List V} (n : Nat), ImL K H ds xs → ImL K H (ds.eraseIdx n) (xs.eraseIdx n)
  | [], _, _, h => by
    cases (show _ = [] from h)
    rfl
  | _ :: _, _, 0, h => by
    obtain ⟨v, r, rfl, q, s⟩ := h
    exact s
  | _ :: _, _, n + 1, h => by
    obtain ⟨v, r, rfl, q, s⟩ := h
    exact ⟨v, _, rfl, q, ImL.eraseIdx n s⟩
theorem ImL.dropLast {ds : List D} {xs : List V} (h : ImL K H ds xs) : ImL K H ds.dropLast xs.dropLast := by
  rw [List.dropLast_eq_take, List.dropLast_eq_take, h.length]
  exact h.take _
theorem ImL.set {d : D} {v : V} (q : Im K H d v) : ∀ {ds : List D} {xs : List V} (n : Nat), ImL K H ds xs → ImL K H (ds.set n d) (xs.set n v)
  | [], _, _, h => by
    cases (show _ = [] from h)
    rfl
  | _ :: _, _, 0, h => by
    obtain ⟨_, r, rfl, _, s⟩ := h
    exact ⟨v, r, rfl, q, s⟩
  | _ :: _, _, n + 1, h => by
    obtain ⟨w, r, rfl, q', s⟩ := h
    exact ⟨w, _, rfl, q', ImL.set q n s⟩
theorem ImL.one {d : D} {v : V} (q : Im K H d v) : ImL K H [d] [v] := ⟨v, [], rfl, q, rfl⟩
theorem ImL.ints : ∀ {ns : List Int} {xs : List V}, ImL K H (ns.map D.int) xs → xs = ns.map V.int
  | [], _, h => h
  | _ :: _, _, h => by
    obtain ⟨v, r, rfl, q, s⟩ := h
    cases (show v = _ from q)
    rw [ImL.ints s]
    rfl
theorem ImL.of_ints : ∀ (ns : List Int), ImL K H (ns.map D.int) (ns.map V.int)
  | [] => rfl
  | _ :: ns => ⟨_, _, rfl, rfl, ImL.of_ints ns⟩
end

/-! ### objects -/
inductive GO where
  | lst (ds : List D) | dI (kvs : List (Int × D)) | dT (kvs : List (List Int × D)) | ins (C : Addr) (fs : List (Str × D))
  /-- a dict that is walked: read alone -/
  | wI (kvs : List (Int × D)) | wT (kvs : List (List Int × D))
abbrev G := Addr → Option GO
def gup (g : G) (a : Addr) (o : GO) : G := fun b => if b = a then some o else g b
theorem gup_same {g : G} {a : Addr} {o : GO} : gup g a o a = some o := by unfold gup; rw [if_pos rfl]
theorem gup_ne {g : G} {a b : Addr} {o : GO} (h : b ≠ a) : gup g a o b = g b := by unfold gup; rw [if_neg h]
theorem gup_gup {g : G} {a : Addr} {o u : GO} : gup (gup g a o) a u = gup g a u := by
  funext b; unfold gup; split <;> rfl
theorem gup_comm {g : G} {a b : Addr} {o u : GO} (h : a ≠ b) : gup (gup g a o) b u = gup (gup g b u) a o := by
  funext c
  unfold gup
  by_cases h1 : c = b
  · rw [if_pos h1, if_neg (fun e => h (e.symm.trans h1)), if_pos h1]
  · rw [if_neg h1]
    by_cases h2 : c = a
    · rw [if_pos h2, if_pos h2]
    · rw [if_neg h2, if_neg h2, if_neg h1]
theorem gup_id {g : G} {a : Addr} {o : GO} (h : g a = some o) : gup g a o = g := by
  funext b; unfold gup; split
  · rename_i e; rw [e, h]
  · rfl
/-- apart, by what stands there -/
theorem gne {g : G} {a b : Addr} {o : GO} (h : g a = some o) (h' : g b = none) : a ≠ b := by
  intro e; rw [e, h'] at h; cases h
theorem gne' {g : G} {a b : Addr} {o : GO} (h : g a = some o) (h' : g b = none) : b ≠ a := fun e => gne h h' e.symm

def kI (i : Int) : Key := .inl i
def kT (l : List Int) : List Key := l.map kI
def OkG (K : PySem.W.Frag) (H : Hp) (a : Addr) : GO → Prop
  | .lst ds => ∃ xs, H a = some (.lst xs) ∧ ImL K H ds xs
  | .dI kvs => ∃ vs, H a = some (.dK vs) ∧ ImP K H kI kvs vs
  | .dT kvs => ∃ vs, H a = some (.dT vs) ∧ ImP K H kT kvs vs
  | .ins C fs => ∃ dx vs, H a = some (.ins C dx vs) ∧ ImP K H id fs vs
  | .wI kvs => ∃ o vs, H a = some (.frz o (.dK vs)) ∧ ImP K H kI kvs vs
  | .wT kvs => ∃ o vs, H a = some (.frz o (.dT vs)) ∧ ImP K H kT kvs vs
def HR (K : PySem.W.Frag) (H : Hp) (g : G) : Prop := ∀ a o, g a = some o → OkG K H a o
/-- the slots -/
abbrev Gm := List (Option D)
def GR (K : PySem.W.Frag) (H : Hp) (Γ : Gm) (σ : L2.St) : Prop := Γ.length = σ.length ∧ ∀ (i : Nat) (d : D), Γ[i]? = some (some d) → ∃ v, σ[i]? = some (some v) ∧ Im K H d v
section
variable {K : PySem.W.Frag} {H H' : Hp} {g : G} {a p : Addr} {o : GO} {Γ : Gm} {σ : L2.St}
theorem OkG.mono (h : OkG K H a o) (e : H' a = H a) (t : TupX K H H') : OkG K H' a o := by
  cases o with
  | lst ds => obtain ⟨xs, h1, h2⟩ := h; exact ⟨xs, e.trans h1, h2.mono t⟩
  | dI ds => obtain ⟨xs, h1, h2⟩ := h; exact ⟨xs, e.trans h1, h2.mono t⟩
  | dT ds => obtain ⟨xs, h1, h2⟩ := h; exact ⟨xs, e.trans h1, h2.mono t⟩
  | ins C fs => obtain ⟨dx, xs, h1, h2⟩ := h; exact ⟨dx, xs, e.trans h1, h2.mono t⟩
  | wI ds => obtain ⟨o, xs, h1, h2⟩ := h; exact ⟨o, xs, e.trans h1, h2.mono t⟩
  | wT ds => obtain ⟨o, xs, h1, h2⟩ := h; exact ⟨o, xs, e.trans h1, h2.mono t⟩
theorem OkG.some (h : OkG K H a o) : H a ≠ none := by
  intro z
  cases o with
  | lst ds => obtain ⟨xs, h1, h2⟩ := h; rw [z] at h1; cases h1
  | dI ds => obtain ⟨xs, h1, h2⟩ := h; rw [z] at h1; cases h1
  | dT ds => obtain ⟨xs, h1, h2⟩ := h; rw [z] at h1; cases h1
  | ins C fs => obtain ⟨dx, xs, h1, h2⟩ := h; rw [z] at h1; cases h1
  | wI ds => obtain ⟨_, xs, h1, h2⟩ := h; rw [z] at h1; cases h1
  | wT ds => obtain ⟨_, xs, h1, h2⟩ := h; rw [z] at h1; cases h1
theorem HR.free (h : HR K H g) (e : H a = none) : g a = none := by
  cases q : g a with
  | none => rfl
  | some o => exact absurd e (h a o q).some
theorem HR.of_same (h : HR K H g) (e : ∀ a o, g a = some o → H' a = H a) (t : TupX K H H') : HR K H' g := fun a o q => (h a o q).mono (e a o q) t
/-- tuples stand where what is written is none -/
def NoTup : Option HO → Prop
  | some (.tup _) => False
  | some (.frz _ _) => False
  | _ => True
theorem tupX_upd {u : HO} (h : NoTup (H p)) : TupX K H (upd H p u) := by
  refine ⟨fun a xs q => ?_, fun a xs q => ?_, fun a xs q => ?_, fun a o u q => ?_⟩
  · rcases q with (q | ⟨o, q⟩) | q
    · by_cases e : a = p
      · subst e; rw [q] at h; exact h.elim
      · exact .inl (.inl (by rw [upd_ne e]; exact q))
    · by_cases e : a = p
      · subst e; rw [q] at h; exact h.elim
      · exact .inl (.inr ⟨o, by rw [upd_ne e]; exact q⟩)
    · exact .inr q
  · rcases q with ⟨o, q⟩ | q
    · by_cases e : a = p
      · subst e; rw [q] at h; exact h.elim
      · exact .inl ⟨o, by rw [upd_ne e]; exact q⟩
    · exact .inr q
  · by_cases e : a = p
    · subst e; rw [q] at h; exact h.elim
    · rw [upd_ne e]; exact q
  · by_cases e : a = p
    · subst e; rw [q] at h; exact h.elim
    · rw [upd_ne e]; exact q
theorem tupX_new {u : HO} (h : H p = none) : TupX K H (upd H p u) := tupX_upd (by rw [h]; trivial)
theorem HR.new {u : HO} (h : HR K H g) (e : H p = none) : HR K (upd H p u) g :=
  h.of_same (fun a o q => upd_ne (fun z => by rw [z, h.free e] at q; cases q)) (tupX_new e)
theorem HR.put {u : HO} {o : GO} (h : HR K H g) (t : TupX K H (upd H p u)) (w : OkG K (upd H p u) p o) : HR K (upd H p u) (gup g p o) := fun a o' q => by
  by_cases e : a = p
  · subst e; rw [gup_same] at q; cases q; exact w
  · rw [gup_ne e] at q
    exact (h a o' q).mono (upd_ne e) t
theorem GR.mono (h : GR K H Γ σ) (t : TupX K H H') : GR K H' Γ σ := ⟨h.1, fun i d e => let ⟨v, q, r⟩ := h.2 i d e; ⟨v, q, r.mono t⟩⟩
theorem GR.set {i : Nat} {d : D} {v : V} (h : GR K H Γ σ) (q : Im K H d v) : GR K H (Γ.set i (some d)) (σ.set i (some v)) := by
  refine ⟨by rw [List.length_set, List.length_set]; exact h.1, fun j e hj => ?_⟩
  by_cases hij : i = j
  · subst hij
    have hl : i < Γ.length := by
      have := (List.getElem?_eq_some_iff.mp hj).1
      rw [List.length_set] at this
      exact this
    rw [List.getElem?_set_self hl] at hj
    cases hj
    exact ⟨v, List.getElem?_set_self (by rw [← h.1]; exact hl), q⟩
  · rw [List.getElem?_set_ne hij] at hj
    obtain ⟨u, h1, h2⟩ := h.2 j e hj
    exact ⟨u, by rw [List.getElem?_set_ne hij]; exact h1, h2⟩
end
end DL
set_option Elab.async false
set_option linter.all false
set_option maxRecDepth 100000
set_option maxHeartbeats 4000000
namespace DL
open PySem PySem.Spec PyProof.Rows L2

abbrev DK := D → G → Prop
abbrev DTE := Gm → G → DK → Prop
abbrev DTT := Gm → G → (Bool → G → Prop) → Prop
abbrev DTA := Gm → G → (List D → G → Prop) → Prop

def SimE (K : PySem.W.Frag) (te : TE) (t : DTE) : Prop := ∀ (σ : L2.St) (H : Hp) (Γ : Gm) (g : G) (Q : DK) (Q' : VK), GR K H Γ σ → HR K H g →
  (∀ d g' v H', TupX K H H' → Im K H' d v → HR K H' g' → Q d g' → Q' v H') → t Γ g Q → te σ H Q'
def SimT (K : PySem.W.Frag) (te : TT) (t : DTT) : Prop := ∀ (σ : L2.St) (H : Hp) (Γ : Gm) (g : G) (Q Q' : Bool → _ → Prop), GR K H Γ σ → HR K H g →
  (∀ b g' H', TupX K H H' → HR K H' g' → Q b g' → Q' b H') → t Γ g Q → te σ H Q'
def SimA (K : PySem.W.Frag) (n : Nat) (te : TA) (t : DTA) : Prop := ∀ (σ : L2.St) (H : Hp) (Γ : Gm) (g : G) (Q : List D → G → Prop) (Q' : List V → Hp → Prop), GR K H Γ σ → HR K H g →
  (∀ ds g' vs H', ds.length = n → TupX K H H' → ImL K H' ds vs → HR K H' g' → Q ds g' → Q' vs H') → t Γ g Q → te σ H Q'
/-- an operation by values -/
def SimR (K : PySem.W.Frag) (r : R2) (s : D → D → G → DK → Prop) : Prop := ∀ (H : Hp) (g : G) (a b : D) (x y : V) (Q : DK) (Q' : VK), Im K H a x → Im K H b y → HR K H g →
  (∀ d g' v H', TupX K H H' → Im K H' d v → HR K H' g' → Q d g' → Q' v H') → s a b g Q → r x y H Q'
def SimU (K : PySem.W.Frag) (r : V → Hp → VK → Prop) (s : D → G → DK → Prop) : Prop := ∀ (H : Hp) (g : G) (a : D) (x : V) (Q : DK) (Q' : VK), Im K H a x → HR K H g →
  (∀ d g' v H', TupX K H H' → Im K H' d v → HR K H' g' → Q d g' → Q' v H') → s a g Q → r x H Q'
/-- a call by values -/
def SimC (K : PySem.W.Frag) (r : List V → Hp → VK → Prop) (s : List D → G → DK → Prop) : Prop := ∀ (H : Hp) (g : G) (ds : List D) (xs : List V) (Q : DK) (Q' : VK), ImL K H ds xs → HR K H g →
  (∀ d g' v H', TupX K H H' → Im K H' d v → HR K H' g' → Q d g' → Q' v H') → s ds g Q → r xs H Q'

structure DE (X : Cx) (e : Expr) (t : DTE) : Prop where
  ex : ∃ te, PE X e te ∧ SimE X.K te t
/-- a test -/
structure DB (X : Cx) (e : Expr) (t : DTT) : Prop where
  ex : ∃ te, PT X e te ∧ SimT X.K te t
structure DW (X : Cx) (e : Expr) (t : DTT) : Prop where
  ex : ∃ te, PW X e te ∧ SimT X.K te t
structure DA (X : Cx) (es : List Expr) (t : DTA) : Prop where
  ex : ∃ te, PA X es te ∧ SimA X.K es.length te t

/-! ### readings -/
def dVar (i : Nat) : DTE := fun Γ g Q => ∃ d, Γ[i]? = some (some d) ∧ Q d g
def dC (d : D) : DTE := fun _ g Q => Q d g
def dOp (s : D → D → G → DK → Prop) (ta tb : DTE) : DTE := fun Γ g Q => ta Γ g fun x g1 => tb Γ g1 fun y g2 => s x y g2 Q
def dUn (s : D → G → DK → Prop) (ta : DTE) : DTE := fun Γ g Q => ta Γ g fun x g1 => s x g1 Q
def dNil : DTA := fun _ g Q => Q [] g
def dCons (ta : DTE) (tr : DTA) : DTA := fun Γ g Q => ta Γ g fun x g1 => tr Γ g1 fun xs g2 => Q (x :: xs) g2
def dTup (ta : DTA) : DTE := fun Γ g Q => ta Γ g fun xs g1 => Q (.tup xs) g1
def dLst (ta : DTA) : DTE := fun Γ g Q => ta Γ g fun xs g1 => ∀ p, g1 p = none → Q (.adr p) (gup g1 p (.lst xs))
def dCB (s : List D → G → DK → Prop) (ta : DTA) : DTE := fun Γ g Q => ta Γ g fun xs g1 => s xs g1 Q
def dVal (t : DTE) : DTT := fun Γ g Q => t Γ g fun d g1 => ∃ b, d = .bl b ∧ Q b g1
def dAnd (t u : DTT) : DTT := fun Γ g Q => t Γ g fun c g1 => if c = true then u Γ g1 Q else Q false g1
def dOr (t u : DTT) : DTT := fun Γ g Q => t Γ g fun c g1 => if c = true then Q true g1 else u Γ g1 Q
def dNot (t : DTT) : DTT := fun Γ g Q => t Γ g fun c g1 => Q (!c) g1
def dAndV (ta tb : DTE) : DTE := fun Γ g Q => ta Γ g fun x g1 => ∃ c, x = .bl c ∧ if c = true then tb Γ g1 Q else Q (.bl false) g1
def dOrV (ta tb : DTE) : DTE := fun Γ g Q => ta Γ g fun x g1 => ∃ c, x = .bl c ∧ if c = true then Q (.bl true) g1 else tb Γ g1 Q
def dNotV (ta : DTE) : DTE := fun Γ g Q => ta Γ g fun x g1 => ∃ c, x = .bl c ∧ Q (.bl (!c)) g1
def dIf (t : DTT) (ta tb : DTE) : DTE := fun Γ g Q => t Γ g fun c g1 => if c = true then ta Γ g1 Q else tb Γ g1 Q
def dChain (r r' : D → D → G → DK → Prop) (ta tb tc : DTE) : DTE := fun Γ g Q => ta Γ g fun x g1 => tb Γ g1 fun y g2 => r x y g2 fun z g3 => ∃ k, z = .bl k ∧
  (if k = true then tc Γ g3 fun w g4 => r' y w g4 Q else Q (.bl false) g3)

/-! ### operations by values -/
def fI (f : Int → Int → Int) : D → D → Option D
  | .int i, .int j => some (.int (f i j))
  | _, _ => none
def fB (f : Int → Int → Bool) : D → D → Option D
  | .int i, .int j => some (.bl (f i j))
  | _, _ => none
/-- a function of data -/
def sF (f : D → D → Option D) : D → D → G → DK → Prop := fun a b g Q => ∃ d, f a b = some d ∧ Q d g
def sU (f : D → Option D) : D → G → DK → Prop := fun a g Q => ∃ d, f a = some d ∧ Q d g
/-- ints in, under C -/
def sI (C : Int → Int → Prop) (f : Int → Int → Int) : D → D → G → DK → Prop := fun a b g Q => ∃ i j, a = .int i ∧ b = .int j ∧ C i j ∧ Q (.int (f i j)) g
def fEq : D → D → Option Bool
  | .int i, .int j => some (decide (i = j))
  | .str i, .str j => some (decide (i = j))
  | .bl i, .bl j => some (decide (i = j))
  | .int _, .str _ => some false
  | .str _, .int _ => some false
  | .non, .non => some true
  | .non, .int _ => some false
  | .int _, .non => some false
  | _, _ => none
def sEq : D → D → G → DK → Prop := fun a b g Q => ∃ r, fEq a b = some r ∧ Q (.bl r) g
def sNe : D → D → G → DK → Prop := fun a b g Q => ∃ r, fEq a b = some r ∧ Q (.bl (!r)) g
def isN : D → Bool
  | .non => true
  | _ => false
def sIsN : D → D → G → DK → Prop := fun a b g Q => b = .non ∧ Q (.bl (isN a)) g
def sNotN : D → D → G → DK → Prop := fun a b g Q => b = .non ∧ Q (.bl (!isN a)) g

section
variable {K : PySem.W.Frag} {H : Hp} {d : D} {v : V}
theorem im_i {i : Int} : Im K H (.int i) (.int i) := rfl
theorem im_b {i : Bool} : Im K H (.bl i) (.bl i) := rfl
theorem im_s {i : Str} : Im K H (.str i) (.str i) := rfl
theorem im_n : Im K H .non .non := rfl
theorem im_a {a : Addr} : Im K H (.adr a) (.ref a) := rfl
theorem im_t {a : Addr} {xs : List V} {ds : List D} (h : SqT K H a xs) (r : ImL K H ds xs) : Im K H (.tup ds) (.ref a) := ⟨a, xs, rfl, h, r⟩
theorem imL_c {d : D} {v : V} {ds : List D} {xs : List V} (h : Im K H d v) (r : ImL K H ds xs) : ImL K H (d :: ds) (v :: xs) := ⟨v, xs, rfl, h, r⟩
theorem okg_l {a : Addr} {xs : List V} {ds : List D} (h : H a = some (.lst xs)) (r : ImL K H ds xs) : OkG K H a (.lst ds) := ⟨xs, h, r⟩
theorem im_int {i : Int} (h : Im K H d (.int i)) : d = .int i := by
  cases d with
  | int j => cases (show V.int i = V.int j from h); rfl
  | non => cases (show V.int i = V.non from h)
  | bl _ => cases (show V.int i = V.bl _ from h)
  | str _ => cases (show V.int i = V.str _ from h)
  | adr _ => cases (show V.int i = V.ref _ from h)
  | tup _ => obtain ⟨_, _, z, _⟩ := h; cases z
  | fz _ => obtain ⟨_, _, z, _⟩ := h; cases z
  | own _ => obtain ⟨_, _, z, _⟩ := h; cases z
theorem im_isN (h : Im K H d v) : decide (v = .non) = isN d := by
  cases d with
  | non => cases (show v = V.non from h); rfl
  | int j => cases (show v = V.int j from h); rfl
  | bl _ => cases (show v = V.bl _ from h); rfl
  | str _ => cases (show v = V.str _ from h); rfl
  | adr _ => cases (show v = V.ref _ from h); rfl
  | tup _ => obtain ⟨_, _, rfl, _⟩ := h; rfl
  | fz _ => obtain ⟨_, _, rfl, _⟩ := h; rfl
  | own _ => obtain ⟨_, _, rfl, _⟩ := h; rfl
theorem simR_I {C : Int → Int → Prop} {f : Int → Int → Int} : SimR K (rI C fun i j => .int (f i j)) (sI C f) := by
  intro H g a b x y Q Q' ha hb hg k h
  obtain ⟨i, j, rfl, rfl, c, q⟩ := h
  exact ⟨i, j, ha, hb, c, k _ _ _ _ (TupX.refl H) im_i hg q⟩
theorem simR_I0 {f : Int → Int → Int} : SimR K (rI0 fun i j => .int (f i j)) (sF (fI f)) := by
  intro H g a b x y Q Q' ha hb hg k h
  obtain ⟨d, e, q⟩ := h
  cases a <;> cases b <;> first | (cases e; done) | skip
  cases e
  exact ⟨_, _, ha, hb, k _ _ _ _ (TupX.refl H) im_i hg q⟩
theorem simR_B {f : Int → Int → Bool} : SimR K (rI0 fun i j => .bl (f i j)) (sF (fB f)) := by
  intro H g a b x y Q Q' ha hb hg k h
  obtain ⟨d, e, q⟩ := h
  cases a <;> cases b <;> first | (cases e; done) | skip
  cases e
  exact ⟨_, _, ha, hb, k _ _ _ _ (TupX.refl H) im_b hg q⟩
theorem fEq_ok {a b : D} {x y : V} {r : Bool} (ha : Im K H a x) (hb : Im K H b y) (e : fEq a b = some r) : scal x y = true ∧ decide (x = y) = r := by
  cases a <;> cases b <;> first | (cases e; done) | skip
  all_goals
    cases e
    cases (show x = _ from ha)
    cases (show y = _ from hb)
    refine ⟨rfl, ?_⟩
    first
      | rfl
      | (simp; done)
theorem simR_eq : SimR K rEq sEq := by
  intro H g a b x y Q Q' ha hb hg k h
  obtain ⟨r, e, q⟩ := h
  obtain ⟨h1, h2⟩ := fEq_ok ha hb e
  refine ⟨h1, ?_⟩
  rw [h2]
  exact k _ _ _ _ (TupX.refl H) im_b hg q
theorem simR_ne : SimR K rNe sNe := by
  intro H g a b x y Q Q' ha hb hg k h
  obtain ⟨r, e, q⟩ := h
  obtain ⟨h1, h2⟩ := fEq_ok ha hb e
  refine ⟨h1, ?_⟩
  rw [h2]
  exact k _ _ _ _ (TupX.refl H) im_b hg q
theorem simR_isN : SimR K (fun x y H Q => y = .non ∧ Q (.bl (decide (x = .non))) H) sIsN := by
  intro H g a b x y Q Q' ha hb hg k h
  obtain ⟨rfl, q⟩ := h
  refine ⟨hb, ?_⟩
  rw [im_isN ha]
  exact k _ _ _ _ (TupX.refl H) im_b hg q
theorem simR_notN : SimR K (fun x y H Q => y = .non ∧ Q (.bl (!decide (x = .non))) H) sNotN := by
  intro H g a b x y Q Q' ha hb hg k h
  obtain ⟨rfl, q⟩ := h
  refine ⟨hb, ?_⟩
  rw [im_isN ha]
  exact k _ _ _ _ (TupX.refl H) im_b hg q
end

/-! ### rules: expressions -/
section
variable {X : Cx} {a b c e : Expr} {ta tb tc t : DTE} {pos : Pos} {es : List Expr} {tr : DTA}
theorem de_var (i : Nat) {x : Str} (hN : X.N[i]? = some x := by rfl) (hv : Vis X.env.scope x := by first | exact Or.inl rfl | exact Or.inr (Or.inl rfl) | exact Or.inr (Or.inr rfl)) (hd : (x == ("__debug__" : Str)) = false := by decide)
    (hcd : (x == ("__classdict__" : Str)) = false := by decide) : DE X (.Name x pos) (dVar i) :=
  ⟨_, pe_var hN hv hd hcd, fun σ H Γ g Q Q' hG hH k ⟨d, e, q⟩ => let ⟨v, e', im⟩ := hG.2 i d e; ⟨v, e', k d g v H (TupX.refl H) im hH q⟩⟩
theorem de_int {i j} : DE X (.Constant (.int i) j pos) (dC (.int i)) := ⟨_, pe_int, fun σ H Γ g Q Q' hG hH k h => k _ g _ H (TupX.refl H) im_i hH h⟩
theorem de_bl {i j} : DE X (.Constant (.bool i) j pos) (dC (.bl i)) := ⟨_, pe_bl, fun σ H Γ g Q Q' hG hH k h => k _ g _ H (TupX.refl H) im_b hH h⟩
theorem de_non {j} : DE X (.Constant .none j pos) (dC .non) := ⟨_, pe_non, fun σ H Γ g Q Q' hG hH k h => k _ g _ H (TupX.refl H) im_n hH h⟩
theorem de_str {i j} : DE X (.Constant (.str i) j pos) (dC (.str i)) := ⟨_, pe_str, fun σ H Γ g Q Q' hG hH k h => k _ g _ H (TupX.refl H) im_s hH h⟩
/-- a name of the module that stands for a datum -/
def GlobD (K : PySem.W.Frag) (mg : Str → Option Value) (x : Str) (d : D) : Prop := ∃ v u, mg x = some u ∧ RelV v u ∧ ∀ H, Im K H d v
theorem de_glob {x : Str} {d : D} (h : GlobD X.K X.mg x d) (hg : Gl X x := by rfl) (hd : (x == ("__debug__" : Str)) = false := by decide) : DE X (.Name x pos) (dC d) := by
  obtain ⟨v, u, h1, h2, h3⟩ := h
  exact ⟨_, pe_glob hg h1 h2 hd, fun σ H Γ g Q Q' hG hH k h => k _ g _ H (TupX.refl H) (h3 H) hH h⟩
theorem de_op {op : Operator} {r : R2} {s : D → D → G → DK → Prop} (ho : OpR X (binaryOp op) r) (hs : SimR X.K r s) (ha : DE X a ta) (hb : DE X b tb) : DE X (.BinOp a op b pos) (dOp s ta tb) := by
  obtain ⟨xa, pa, sa⟩ := ha
  obtain ⟨xb, pb, sb⟩ := hb
  refine ⟨_, pe_op ho pa pb, fun σ H Γ g Q Q' hG hH k h => ?_⟩
  refine sa σ H Γ g _ _ hG hH (fun d g1 v H1 t1 i1 hH1 q1 => ?_) h
  refine sb σ H1 Γ g1 _ _ (hG.mono t1) hH1 (fun d2 g2 v2 H2 t2 i2 hH2 q2 => ?_) q1
  exact hs H2 g2 d d2 v v2 Q Q' (i1.mono t2) i2 hH2 (fun d3 g3 v3 H3 t3 i3 hH3 q3 => k d3 g3 v3 H3 ((t1.trans t2).trans t3) i3 hH3 q3) q2
theorem de_cmp {op : CmpOp} {r : R2} {s : D → D → G → DK → Prop} (ho : OpR X (compareOp op) r) (hs : SimR X.K r s) (ha : DE X a ta) (hb : DE X b tb) (hm : behindInMarks op b = false := by first | exact nomark _ | rfl) : DE X (.Compare a [op] [b] pos) (dOp s ta tb) := by
  obtain ⟨xa, pa, sa⟩ := ha
  obtain ⟨xb, pb, sb⟩ := hb
  refine ⟨_, pe_cmpR ho pa pb hm, fun σ H Γ g Q Q' hG hH k h => ?_⟩
  refine sa σ H Γ g _ _ hG hH (fun d g1 v H1 t1 i1 hH1 q1 => ?_) h
  refine sb σ H1 Γ g1 _ _ (hG.mono t1) hH1 (fun d2 g2 v2 H2 t2 i2 hH2 q2 => ?_) q1
  exact hs H2 g2 d d2 v v2 Q Q' (i1.mono t2) i2 hH2 (fun d3 g3 v3 H3 t3 i3 hH3 q3 => k d3 g3 v3 H3 ((t1.trans t2).trans t3) i3 hH3 q3) q2
theorem db_cmp {op : CmpOp} {r : R2} {s : D → D → G → DK → Prop} (ho : OpR X (compareOp op) r) (hs : SimR X.K r s) (ha : DE X a ta) (hb : DE X b tb) (hm : behindInMarks op b = false := by first | exact nomark _ | rfl) : DB X (.Compare a [op] [b] pos) (dVal (dOp s ta tb)) := by
  obtain ⟨xa, pa, sa⟩ := ha
  obtain ⟨xb, pb, sb⟩ := hb
  refine ⟨_, pt_cmpR ho pa pb hm, fun σ H Γ g Q Q' hG hH k h => ?_⟩
  refine sa σ H Γ g _ _ hG hH (fun d g1 v H1 t1 i1 hH1 q1 => ?_) h
  refine sb σ H1 Γ g1 _ _ (hG.mono t1) hH1 (fun d2 g2 v2 H2 t2 i2 hH2 q2 => ?_) q1
  exact hs H2 g2 d d2 v v2 _ _ (i1.mono t2) i2 hH2 (fun d3 g3 v3 H3 t3 i3 hH3 q3 => by
    obtain ⟨z, rfl, q3⟩ := q3
    exact ⟨z, i3, k z g3 H3 ((t1.trans t2).trans t3) hH3 q3⟩) q2
theorem de_chain {op op' : CmpOp} {r r' : R2} {s s' : D → D → G → DK → Prop} (ho : OpR X (compareOp op) r) (hs : SimR X.K r s) (ho' : OpR X (compareOp op') r') (hs' : SimR X.K r' s') (ha : DE X a ta) (hb : DE X b tb) (hc : DE X c tc)
    (hm : lastMarks [op, op'] [b, c] = false := by rfl) : DE X (.Compare a [op, op'] [b, c] pos) (dChain s s' ta tb tc) := by
  obtain ⟨xa, pa, sa⟩ := ha
  obtain ⟨xb, pb, sb⟩ := hb
  obtain ⟨xc, pc, sc⟩ := hc
  refine ⟨_, pe_chain ho ho' pa pb pc hm, fun σ H Γ g Q Q' hG hH k h => ?_⟩
  refine sa σ H Γ g _ _ hG hH (fun d g1 v H1 t1 i1 hH1 q1 => ?_) h
  refine sb σ H1 Γ g1 _ _ (hG.mono t1) hH1 (fun d2 g2 v2 H2 t2 i2 hH2 q2 => ?_) q1
  refine hs H2 g2 d d2 v v2 _ _ (i1.mono t2) i2 hH2 (fun d3 g3 v3 H3 t3 i3 hH3 q3 => ?_) q2
  obtain ⟨z, rfl, q3⟩ := q3
  refine ⟨z, i3, ?_⟩
  cases z with
  | false => exact k _ _ _ _ ((t1.trans t2).trans t3) im_b hH3 q3
  | true =>
    refine sc σ H3 Γ g3 _ _ (hG.mono ((t1.trans t2).trans t3)) hH3 (fun d4 g4 v4 H4 t4 i4 hH4 q4 => ?_) q3
    exact hs' H4 g4 d2 d4 v2 v4 Q Q' (i2.mono (t3.trans t4)) i4 hH4 (fun d5 g5 v5 H5 t5 i5 hH5 q5 => k d5 g5 v5 H5 (((t1.trans t2).trans t3).trans (t4.trans t5)) i5 hH5 q5) q4
theorem de_un {op : UnaryOp} {r : V → Hp → VK → Prop} {s : D → G → DK → Prop} (ho : UnR X (unaryOp op) r) (hs : SimU X.K r s) (ha : DE X a ta) : DE X (.UnaryOp op a pos) (dUn s ta) := by
  obtain ⟨xa, pa, sa⟩ := ha
  refine ⟨_, pe_un ho pa, fun σ H Γ g Q Q' hG hH k h => ?_⟩
  refine sa σ H Γ g _ _ hG hH (fun d g1 v H1 t1 i1 hH1 q1 => ?_) h
  exact hs H1 g1 d v Q Q' i1 hH1 (fun d3 g3 v3 H3 t3 i3 hH3 q3 => k d3 g3 v3 H3 (t1.trans t3) i3 hH3 q3) q1
def fNeg : D → Option D
  | .int i => some (.int (-i))
  | _ => none
theorem simU_neg {K : PySem.W.Frag} : SimU K (rU fun i => .int (-i)) (sU fNeg) := by
  intro H g a x Q Q' ha hg k h
  obtain ⟨d, e, q⟩ := h
  cases a <;> first | (cases e; done) | skip
  cases e
  exact ⟨_, ha, k _ _ _ _ (TupX.refl H) im_i hg q⟩
theorem da_nil : DA X [] dNil := ⟨_, pa_nil, fun σ H Γ g Q Q' hG hH k h => k [] g [] H rfl (TupX.refl H) rfl hH h⟩
theorem da_cons (ha : DE X e t) (hr : DA X es tr) (hs : starEach (e :: es) X.env = (false, eval e X.env) :: starEach es X.env := by rfl) : DA X (e :: es) (dCons t tr) := by
  obtain ⟨xa, pa, sa⟩ := ha
  obtain ⟨xb, pb, sb⟩ := hr
  refine ⟨_, pa_cons pa pb hs, fun σ H Γ g Q Q' hG hH k h => ?_⟩
  refine sa σ H Γ g _ _ hG hH (fun d g1 v H1 t1 i1 hH1 q1 => ?_) h
  refine sb σ H1 Γ g1 _ _ (hG.mono t1) hH1 (fun d2 g2 v2 H2 l2 t2 i2 hH2 q2 => ?_) q1
  exact k _ _ _ _ (by rw [List.length_cons, List.length_cons, l2]) (t1.trans t2) (imL_c (i1.mono t2) i2) hH2 q2
theorem de_tup {x1} (h : DA X es tr) (hl : es.length ≤ 1000 := by decide) : DE X (.Tuple es x1 pos) (dTup tr) := by
  obtain ⟨xa, pa, sa⟩ := h
  refine ⟨_, pe_tup pa, fun σ H Γ g Q Q' hG hH k h => ?_⟩
  refine sa σ H Γ g _ _ hG hH (fun ds g1 vs H1 l1 t1 i1 hH1 q1 => ?_) h
  refine ⟨by rw [i1.length, l1]; exact Nat.le_of_lt (small1000 hl), fun p hp => ?_⟩
  have t2 : TupX X.K H1 (upd H1 p (.tup vs)) := tupX_new hp
  exact k _ _ _ _ (t1.trans t2) (im_t (SqT.of upd_same) (i1.mono t2)) (hH1.new hp) q1
theorem de_lst (h : DA X es tr) (hl : es.length ≤ 1000 := by decide) : DE X (.List es pos) (dLst tr) := by
  obtain ⟨xa, pa, sa⟩ := h
  refine ⟨_, pe_lst pa, fun σ H Γ g Q Q' hG hH k h => ?_⟩
  refine sa σ H Γ g _ _ hG hH (fun ds g1 vs H1 l1 t1 i1 hH1 q1 => ?_) h
  refine ⟨by rw [i1.length, l1]; exact Nat.le_of_lt (small1000 hl), fun p hp => ?_⟩
  have t2 : TupX X.K H1 (upd H1 p (.lst vs)) := tupX_new hp
  exact k _ _ _ _ (t1.trans t2) im_a (hH1.put t2 (okg_l upd_same (i1.mono t2))) (q1 p (hH1.free hp))
/-! tests -/
theorem db_val (ha : DE X a ta) (he : ∀ whole, isTrue a X.env whole = (do let v ← whole; standAt a.pos; holding [v] (truthy v)) := by intro _; rfl) : DB X a (dVal ta) := by
  obtain ⟨xa, pa, sa⟩ := ha
  refine ⟨_, pt_val pa he, fun σ H Γ g Q Q' hG hH k h => ?_⟩
  refine sa σ H Γ g _ _ hG hH (fun d g1 v H1 t1 i1 hH1 q1 => ?_) h
  obtain ⟨z, rfl, q⟩ := q1
  exact ⟨z, i1, k z g1 H1 t1 hH1 q⟩
variable {u w : DTT} {rest : List Expr}
theorem DW.db (h : DW X a u) : DB X a u := by
  obtain ⟨x, p, s⟩ := h
  exact ⟨x, p.pt, s⟩
theorem dw_and1 (h : DB X a u) : DW X (.BoolOp .And [a] pos) u := by
  obtain ⟨x, p, s⟩ := h
  exact ⟨x, pw_and1 p, s⟩
theorem dw_or1 (h : DB X a u) : DW X (.BoolOp .Or [a] pos) u := by
  obtain ⟨x, p, s⟩ := h
  exact ⟨x, pw_or1 p, s⟩
theorem dw_and (ha : DB X a u) (hb : DW X (.BoolOp .And (b :: rest) pos) w) : DW X (.BoolOp .And (a :: b :: rest) pos) (dAnd u w) := by
  obtain ⟨xa, pa, sa⟩ := ha
  obtain ⟨xb, pb, sb⟩ := hb
  refine ⟨_, pw_and pa pb, fun σ H Γ g Q Q' hG hH k h => ?_⟩
  refine sa σ H Γ g _ _ hG hH (fun z g1 H1 t1 hH1 q1 => ?_) h
  cases z with
  | true => exact sb σ H1 Γ g1 _ _ (hG.mono t1) hH1 (fun d2 g2 H2 t2 hH2 q2 => k d2 g2 H2 (t1.trans t2) hH2 q2) q1
  | false => exact k false g1 H1 t1 hH1 q1
theorem dw_or (ha : DB X a u) (hb : DW X (.BoolOp .Or (b :: rest) pos) w) : DW X (.BoolOp .Or (a :: b :: rest) pos) (dOr u w) := by
  obtain ⟨xa, pa, sa⟩ := ha
  obtain ⟨xb, pb, sb⟩ := hb
  refine ⟨_, pw_or pa pb, fun σ H Γ g Q Q' hG hH k h => ?_⟩
  refine sa σ H Γ g _ _ hG hH (fun z g1 H1 t1 hH1 q1 => ?_) h
  cases z with
  | false => exact sb σ H1 Γ g1 _ _ (hG.mono t1) hH1 (fun d2 g2 H2 t2 hH2 q2 => k d2 g2 H2 (t1.trans t2) hH2 q2) q1
  | true => exact k true g1 H1 t1 hH1 q1
theorem db_not (ha : DB X a u) : DB X (.UnaryOp .Not a pos) (dNot u) := by
  obtain ⟨xa, pa, sa⟩ := ha
  exact ⟨_, pt_not pa, fun σ H Γ g Q Q' hG hH k h => sa σ H Γ g _ _ hG hH (fun z g1 H1 t1 hH1 q1 => k (!z) g1 H1 t1 hH1 q1) h⟩
theorem de_one {op} (h : DE X a t) : DE X (.BoolOp op [a] pos) t := by
  obtain ⟨xa, pa, sa⟩ := h
  exact ⟨_, pe_one pa, sa⟩
theorem de_and (ha : DE X a ta) (hb : DE X (.BoolOp .And (b :: rest) pos) tb) : DE X (.BoolOp .And (a :: b :: rest) pos) (dAndV ta tb) := by
  obtain ⟨xa, pa, sa⟩ := ha
  obtain ⟨xb, pb, sb⟩ := hb
  refine ⟨_, pe_and pa pb, fun σ H Γ g Q Q' hG hH k h => ?_⟩
  refine sa σ H Γ g _ _ hG hH (fun z g1 v H1 t1 i1 hH1 q1 => ?_) h
  obtain ⟨c, rfl, q1⟩ := q1
  refine ⟨c, i1, ?_⟩
  cases c with
  | true => exact sb σ H1 Γ g1 _ _ (hG.mono t1) hH1 (fun d2 g2 v2 H2 t2 i2 hH2 q2 => k d2 g2 v2 H2 (t1.trans t2) i2 hH2 q2) q1
  | false => exact k _ g1 _ H1 t1 im_b hH1 q1
theorem de_or (ha : DE X a ta) (hb : DE X (.BoolOp .Or (b :: rest) pos) tb) : DE X (.BoolOp .Or (a :: b :: rest) pos) (dOrV ta tb) := by
  obtain ⟨xa, pa, sa⟩ := ha
  obtain ⟨xb, pb, sb⟩ := hb
  refine ⟨_, pe_or pa pb, fun σ H Γ g Q Q' hG hH k h => ?_⟩
  refine sa σ H Γ g _ _ hG hH (fun z g1 v H1 t1 i1 hH1 q1 => ?_) h
  obtain ⟨c, rfl, q1⟩ := q1
  refine ⟨c, i1, ?_⟩
  cases c with
  | false => exact sb σ H1 Γ g1 _ _ (hG.mono t1) hH1 (fun d2 g2 v2 H2 t2 i2 hH2 q2 => k d2 g2 v2 H2 (t1.trans t2) i2 hH2 q2) q1
  | true => exact k _ g1 _ H1 t1 im_b hH1 q1
theorem de_not (ha : DE X a ta) : DE X (.UnaryOp .Not a pos) (dNotV ta) := by
  obtain ⟨xa, pa, sa⟩ := ha
  refine ⟨_, pe_not pa, fun σ H Γ g Q Q' hG hH k h => ?_⟩
  refine sa σ H Γ g _ _ hG hH (fun z g1 v H1 t1 i1 hH1 q1 => ?_) h
  obtain ⟨c, rfl, q1⟩ := q1
  exact ⟨c, i1, k _ g1 _ H1 t1 im_b hH1 q1⟩
theorem de_if (hc : DB X c u) (ha : DE X a ta) (hb : DE X b tb) : DE X (.IfExp c a b pos) (dIf u ta tb) := by
  obtain ⟨xa, pa, sa⟩ := ha
  obtain ⟨xb, pb, sb⟩ := hb
  obtain ⟨xc, pc, sc⟩ := hc
  refine ⟨_, pe_ifExp pc pa pb, fun σ H Γ g Q Q' hG hH k h => ?_⟩
  refine sc σ H Γ g _ _ hG hH (fun z g1 H1 t1 hH1 q1 => ?_) h
  cases z with
  | true => exact sa σ H1 Γ g1 _ _ (hG.mono t1) hH1 (fun d2 g2 v2 H2 t2 i2 hH2 q2 => k d2 g2 v2 H2 (t1.trans t2) i2 hH2 q2) q1
  | false => exact sb σ H1 Γ g1 _ _ (hG.mono t1) hH1 (fun d2 g2 v2 H2 t2 i2 hH2 q2 => k d2 g2 v2 H2 (t1.trans t2) i2 hH2 q2) q1
/-! built-ins by name -/
theorem de_callB {x id : _} {r : List V → Hp → VK → Prop} {s : List D → G → DK → Prop} {p : Pos} (hc : CallR X (.builtin id) r) (hs : SimC X.K r s) (hm : X.mg x = none) (hv : bootBuiltins x = some (.builtin id)) (ha : DA X (e :: es) tr) (hg : Gl X x := by rfl)
    (hn : x ≠ "__name__" := by decide) (hdb : (x == ("__debug__" : Str)) = false := by decide) (he : starEach (e :: es) X.env = (false, eval e X.env) :: starEach es X.env := by rfl) (hpl : (backTo pos (starEach es X.env)).any (·.1) = false := by rfl) :
    DE X (.Call (.Name x p) (e :: es) [] pos) (dCB s tr) := by
  obtain ⟨xa, pa, sa⟩ := ha
  refine ⟨_, pe_callB hc hg hm hv pa hn hdb he hpl, fun σ H Γ g Q Q' hG hH k h => ?_⟩
  refine sa σ H Γ g _ _ hG hH (fun ds g1 vs H1 l1 t1 i1 hH1 q1 => ?_) h
  exact hs H1 g1 ds vs Q Q' i1 hH1 (fun d2 g2 v2 H2 t2 i2 hH2 q2 => k d2 g2 v2 H2 (t1.trans t2) i2 hH2 q2) q1
theorem de_callTy {x T : _} {r : List V → Hp → VK → Prop} {s : List D → G → DK → Prop} {p : Pos} (hc : CallR X (.type T) r) (hs : SimC X.K r s) (hm : X.mg x = none) (hv : bootBuiltins x = some (.type T)) (ha : DA X (e :: es) tr) (hg : Gl X x := by rfl)
    (hn : x ≠ "__name__" := by decide) (hdb : (x == ("__debug__" : Str)) = false := by decide) (he : starEach (e :: es) X.env = (false, eval e X.env) :: starEach es X.env := by rfl) (hpl : (backTo pos (starEach es X.env)).any (·.1) = false := by rfl) :
    DE X (.Call (.Name x p) (e :: es) [] pos) (dCB s tr) := by
  obtain ⟨xa, pa, sa⟩ := ha
  refine ⟨_, pe_callTy hc hg hm hv pa hn hdb he hpl, fun σ H Γ g Q Q' hG hH k h => ?_⟩
  refine sa σ H Γ g _ _ hG hH (fun ds g1 vs H1 l1 t1 i1 hH1 q1 => ?_) h
  exact hs H1 g1 ds vs Q Q' i1 hH1 (fun d2 g2 v2 H2 t2 i2 hH2 q2 => k d2 g2 v2 H2 (t1.trans t2) i2 hH2 q2) q1
end
end DL
set_option Elab.async false
set_option linter.all false
set_option maxRecDepth 100000
set_option maxHeartbeats 4000000
namespace DL
open PySem PySem.Spec PyProof.Rows L2

/-! ### statements -/
structure DEnds where
  nx : Gm → G → Prop
  rt : DK
  bk : Gm → G → Prop := fun _ _ => False
  ct : Gm → G → Prop := fun _ _ => False
abbrev DTS := DEnds → Gm → G → Prop
structure Lft (K : PySem.W.Frag) (H : Hp) (F : DEnds) (E : Ends) : Prop where
  nx : ∀ Γ g σ H', TupX K H H' → GR K H' Γ σ → HR K H' g → F.nx Γ g → E.nx σ H'
  rt : ∀ d g v H', TupX K H H' → Im K H' d v → HR K H' g → F.rt d g → E.rt v H'
  bk : ∀ Γ g σ H', TupX K H H' → GR K H' Γ σ → HR K H' g → F.bk Γ g → E.bk σ H'
  ct : ∀ Γ g σ H', TupX K H H' → GR K H' Γ σ → HR K H' g → F.ct Γ g → E.ct σ H'
theorem Lft.mono {K : PySem.W.Frag} {H H1 : Hp} {F : DEnds} {E : Ends} (l : Lft K H F E) (t : TupX K H H1) : Lft K H1 F E :=
  ⟨fun Γ g σ H' t1 => l.nx Γ g σ H' (t.trans t1), fun d g v H' t1 => l.rt d g v H' (t.trans t1), fun Γ g σ H' t1 => l.bk Γ g σ H' (t.trans t1), fun Γ g σ H' t1 => l.ct Γ g σ H' (t.trans t1)⟩
def SimS (K : PySem.W.Frag) (ts : TS) (t : DTS) : Prop := ∀ (σ : L2.St) (H : Hp) (Γ : Gm) (g : G) (F : DEnds) (E : Ends), GR K H Γ σ → HR K H g → Lft K H F E → t F Γ g → ts E σ H
structure DS (X : Cx) (st : Stmt) (t : DTS) : Prop where
  ex : ∃ ts, PS X st ts ∧ SimS X.K ts t
structure DSs (X : Cx) (st : List Stmt) (t : DTS) : Prop where
  ex : ∃ ts, PSs X st ts ∧ SimS X.K ts t
/-! targets -/
abbrev DTG := D → Gm → G → (Gm → G → Prop) → Prop
abbrev DTGs := List D → Gm → G → (Gm → G → Prop) → Prop
def SimG (K : PySem.W.Frag) (tg : TG) (t : DTG) : Prop := ∀ (d : D) (v : V) (σ : L2.St) (H : Hp) (Γ : Gm) (g : G) (Q : Gm → G → Prop) (Q' : L2.St → Hp → Prop), Im K H d v → GR K H Γ σ → HR K H g →
  (∀ Γ' g' σ' H', TupX K H H' → GR K H' Γ' σ' → HR K H' g' → Q Γ' g' → Q' σ' H') → t d Γ g Q → tg v σ H Q'
def SimGs (K : PySem.W.Frag) (tg : TGs) (t : DTGs) : Prop := ∀ (d : List D) (v : List V) (σ : L2.St) (H : Hp) (Γ : Gm) (g : G) (Q : Gm → G → Prop) (Q' : L2.St → Hp → Prop), ImL K H d v → GR K H Γ σ → HR K H g →
  (∀ Γ' g' σ' H', TupX K H H' → GR K H' Γ' σ' → HR K H' g' → Q Γ' g' → Q' σ' H') → t d Γ g Q → tg v σ H Q'
structure DG (X : Cx) (e : Expr) (t : DTG) : Prop where
  ex : ∃ te, PG X e te ∧ SimG X.K te t
structure DGs (X : Cx) (es : List Expr) (t : DTGs) : Prop where
  ex : ∃ te, PGs X es te ∧ SimGs X.K te t

def dNext : DTS := fun F Γ g => F.nx Γ g
def dSeq (t u : DTS) : DTS := fun F Γ g => t { F with nx := u F } Γ g
def dNever : DTS := fun _ _ _ => False
def dDrop (te : DTE) : DTS := fun F Γ g => te Γ g fun _ g1 => F.nx Γ g1
def dRet (te : DTE) : DTS := fun F Γ g => te Γ g F.rt
def dRetN : DTS := fun F _ g => F.rt .non g
def dIfS (c : DTT) (t u : DTS) : DTS := fun F Γ g => c Γ g fun b g1 => if b = true then t F Γ g1 else u F Γ g1
def dSet (i : Nat) (te : DTE) : DTS := fun F Γ g => te Γ g fun x g1 => F.nx (Γ.set i (some x)) g1
def dAsg (te : DTE) (tg : DTG) : DTS := fun F Γ g => te Γ g fun x g1 => tg x Γ g1 F.nx
def dPar (i j : Nat) (ta : DTA) : DTS := fun F Γ g => ta Γ g fun vs g1 => ∃ v w, vs = [v, w] ∧ F.nx ((Γ.set i (some v)).set j (some w)) g1
def dPar3 (i j l : Nat) (ta : DTA) : DTS := fun F Γ g => ta Γ g fun vs g1 => ∃ u v w, vs = [u, v, w] ∧ F.nx (((Γ.set i (some u)).set j (some v)).set l (some w)) g1
/-- name op= e -/
def dAug (i : Nat) (te : DTE) (s : D → D → G → DK → Prop) : DTS := fun F Γ g => ∃ x, Γ[i]? = some (some x) ∧ te Γ g fun y g1 => s x y g1 fun z g2 => F.nx (Γ.set i (some z)) g2
def gNm (i : Nat) : DTG := fun v Γ g Q => Q (Γ.set i (some v)) g
def gNl : DTGs := fun vs Γ g Q => vs = [] ∧ Q Γ g
def gCs (t : DTG) (u : DTGs) : DTGs := fun vs Γ g Q => ∃ v r, vs = v :: r ∧ t v Γ g fun Γ' g' => u r Γ' g' Q
/-- unpacking a tuple -/
def gTp (n : Nat) (t : DTGs) : DTG := fun v Γ g Q => ∃ xs, v = .tup xs ∧ xs.length = n ∧ t xs Γ g Q

section
variable {X : Cx} {st : Stmt} {rest : List Stmt} {t u : DTS} {e a b c : Expr} {te ta tb : DTE} {pos : Pos} {tc : DTT} {tg : DTG} {tgs : DTGs} {es : List Expr} {tr : DTA}
theorem dss_nil : DSs X [] dNext := ⟨_, pss_nil, fun σ H Γ g F E hG hH l h => l.nx Γ g σ H (TupX.refl H) hG hH h⟩
theorem dss_cons (h1 : DS X st t) (h2 : DSs X rest u) : DSs X (st :: rest) (dSeq t u) := by
  obtain ⟨x1, p1, s1⟩ := h1
  obtain ⟨x2, p2, s2⟩ := h2
  exact ⟨_, pss_cons p1 p2, fun σ H Γ g F E hG hH l h => s1 σ H Γ g { F with nx := u F } { E with nx := x2 E } hG hH ⟨fun Γ' g' σ' H' t hG' hH' q => s2 σ' H' Γ' g' F E hG' hH' (l.mono t) q, l.rt, l.bk, l.ct⟩ h⟩
theorem dss_one (h1 : DS X st t) : DSs X [st] t := by
  obtain ⟨x1, p1, s1⟩ := h1
  exact ⟨_, pss_one p1, s1⟩
theorem DSs.nox (h : DSs X.nox rest t) : DSs X rest t := by
  obtain ⟨x, p, s⟩ := h
  exact ⟨x, p.nox, s⟩
theorem ds_never : DS X st dNever := ⟨_, ps_never, fun σ H Γ g F E hG hH l h => h.elim⟩
theorem dss_never : DSs X rest dNever := ⟨_, pss_never, fun σ H Γ g F E hG hH l h => h.elim⟩
theorem ds_pass : DS X (.Pass pos) dNext := ⟨_, ps_pass, fun σ H Γ g F E hG hH l h => l.nx Γ g σ H (TupX.refl H) hG hH h⟩
theorem ds_expr (he : DE X e te) (hs : swapsWith e none pos.line X.env = pure false := by rfl) : DS X (.Expr e pos) (dDrop te) := by
  obtain ⟨x, p, s⟩ := he
  exact ⟨_, ps_expr p hs, fun σ H Γ g F E hG hH l h => s σ H Γ g _ _ hG hH (fun d g1 v H1 t1 i1 hH1 q => l.nx Γ g1 σ H1 t1 (hG.mono t1) hH1 q) h⟩
theorem ds_ret (he : DE X e te) : DS X (.Return (some e) pos) (dRet te) := by
  obtain ⟨x, p, s⟩ := he
  exact ⟨_, ps_ret p, fun σ H Γ g F E hG hH l h => s σ H Γ g _ _ hG hH (fun d g1 v H1 t1 i1 hH1 q => l.rt d g1 v H1 t1 i1 hH1 q) h⟩
theorem ds_if {sa sb : List Stmt} (hc : DB X c tc) (ha : DSs X sa t) (hb : DSs X sb u) : DS X (.If c sa sb pos) (dIfS tc t u) := by
  obtain ⟨x, p, s⟩ := hc
  obtain ⟨x1, p1, s1⟩ := ha
  obtain ⟨x2, p2, s2⟩ := hb
  refine ⟨_, ps_if p p1 p2, fun σ H Γ g F E hG hH l h => s σ H Γ g _ _ hG hH (fun d g1 H1 t1 hH1 q => ?_) h⟩
  cases d with
  | true => exact s1 σ H1 Γ g1 F E (hG.mono t1) hH1 (l.mono t1) q
  | false => exact s2 σ H1 Γ g1 F E (hG.mono t1) hH1 (l.mono t1) q
theorem ds_set (i : Nat) {x : Str} {pos' : Pos} (he : DE X e te) (hN : X.N.Nodup) (hi : X.N[i]? = some x := by rfl) (hx : Loc X.env.scope x := by first | exact Or.inl rfl | exact Or.inr rfl) (hs : swapsWith e (some (.Name x pos')) pos.line X.env = pure false := by rfl)
    (hf : X.fn x = true ∨ X.env.scope.names.lookup x = some .local := by first | exact .inl rfl | exact .inr rfl) : DS X (.Assign [.Name x pos'] e pos) (dSet i te) := by
  obtain ⟨y, p, s⟩ := he
  exact ⟨_, ps_set hN hi hx p hs hf, fun σ H Γ g F E hG hH l h => s σ H Γ g _ _ hG hH (fun d g1 v H1 t1 i1 hH1 q => l.nx _ g1 _ H1 t1 ((hG.mono t1).set i1) hH1 q) h⟩
theorem ds_asg {tg' : Expr} (he : DE X e te) (hg : DG X tg' tg) (hs : swapsWithSole [tg'] e pos.line X.env = pure false := by rfl) (hw : swappedStores [tg'] e X.env = pure none := by rfl)
    (h1 : (assignEach [tg'] X.env).map (·.2) = [assign tg' X.env] := by rfl) : DS X (.Assign [tg'] e pos) (dAsg te tg) := by
  obtain ⟨y, p, s⟩ := he
  obtain ⟨y2, p2, s2⟩ := hg
  exact ⟨_, ps_asg p p2 hs hw h1, fun σ H Γ g F E hG hH l h => s σ H Γ g _ _ hG hH (fun d g1 v H1 t1 i1 hH1 q => s2 d v σ H1 Γ g1 _ _ i1 (hG.mono t1) hH1 (fun Γ' g' σ' H' t2 hG' hH' q' => l.nx Γ' g' σ' H' (t1.trans t2) hG' hH' q') q) h⟩
theorem ds_par (i j : Nat) {x y : Str} {px py pt : Pos} {kt k2 pt2} (ha : DA X [a, b] tr) (hN : X.N.Nodup) (hi : X.N[i]? = some x := by rfl) (hj : X.N[j]? = some y := by rfl) (hij : i ≠ j := by decide) (hc : X.calm = true := by rfl)
    (hx : X.env.scope.names.lookup x = some .local := by rfl) (hy : X.env.scope.names.lookup y = some .local := by rfl)
    (hw : swappedStores [.Tuple [.Name x px, .Name y py] kt pt] (.Tuple [a, b] k2 pt2) X.env = pure (some [x, y]) := by rfl)
    (hs : swapsWithSole [.Tuple [.Name x px, .Name y py] kt pt] (.Tuple [a, b] k2 pt2) pos.line X.env = pure false := by rfl) :
    DS X (.Assign [.Tuple [.Name x px, .Name y py] kt pt] (.Tuple [a, b] k2 pt2) pos) (dPar i j tr) := by
  obtain ⟨z, p, s⟩ := ha
  refine ⟨_, ps_par hc hN hi hj hij hx hy p hw hs, fun σ H Γ g F E hG hH l h => s σ H Γ g _ _ hG hH (fun ds g1 vs H1 _ t1 i1 hH1 q => ?_) h⟩
  obtain ⟨d1, d2, rfl, q⟩ := q
  obtain ⟨v, r, rfl, j1, j2⟩ := i1
  obtain ⟨w, r, rfl, j2, j3⟩ := j2
  cases (show r = [] from j3)
  exact ⟨v, w, rfl, l.nx _ g1 _ H1 t1 (((hG.mono t1).set j1).set j2) hH1 q⟩
theorem ds_par3 (i j m : Nat) {x y z : Str} {px py pz pt : Pos} {kt k2 pt2} (ha : DA X [a, b, c] tr) (hN : X.N.Nodup) (hi : X.N[i]? = some x := by rfl) (hj : X.N[j]? = some y := by rfl) (hl : X.N[m]? = some z := by rfl) (hij : i ≠ j := by decide) (hil : i ≠ m := by decide) (hjl : j ≠ m := by decide) (hc : X.calm = true := by rfl)
    (hx : X.env.scope.names.lookup x = some .local := by rfl) (hy : X.env.scope.names.lookup y = some .local := by rfl) (hz : X.env.scope.names.lookup z = some .local := by rfl)
    (hw : swappedStores [.Tuple [.Name x px, .Name y py, .Name z pz] kt pt] (.Tuple [a, b, c] k2 pt2) X.env = pure (some [x, y, z]) := by rfl)
    (hs : swapsWithSole [.Tuple [.Name x px, .Name y py, .Name z pz] kt pt] (.Tuple [a, b, c] k2 pt2) pos.line X.env = pure false := by rfl) :
    DS X (.Assign [.Tuple [.Name x px, .Name y py, .Name z pz] kt pt] (.Tuple [a, b, c] k2 pt2) pos) (dPar3 i j m tr) := by
  obtain ⟨z, p, s⟩ := ha
  refine ⟨_, ps_par3 hc hN hi hj hl hij hil hjl hx hy hz p hw hs, fun σ H Γ g F E hG hH l h => s σ H Γ g _ _ hG hH (fun ds g1 vs H1 _ t1 i1 hH1 q => ?_) h⟩
  obtain ⟨d1, d2, d3, rfl, q⟩ := q
  obtain ⟨v, r, rfl, j1, j2⟩ := i1
  obtain ⟨w, r, rfl, j2, j3⟩ := j2
  obtain ⟨w2, r, rfl, j3, j4⟩ := j3
  cases (show r = [] from j4)
  exact ⟨v, w, w2, rfl, l.nx _ g1 _ H1 t1 ((((hG.mono t1).set j1).set j2).set j3) hH1 q⟩
theorem ds_aug (i : Nat) {x : Str} {op : Operator} {r : R2} {s : D → D → G → DK → Prop} {pos' : Pos} (ho : OpR X (inplaceOp op) r) (hs : SimR X.K r s) (he : DE X e te) (hN : X.N.Nodup) (hi : X.N[i]? = some x := by rfl) (hx : Loc X.env.scope x := by first | exact Or.inl rfl | exact Or.inr rfl)
    (hf : X.fn x = true ∨ X.env.scope.names.lookup x = some .local := by first | exact .inl rfl | exact .inr rfl) : DS X (.AugAssign (.Name x pos') op e pos) (dAug i te s) := by
  obtain ⟨y, p, s1⟩ := he
  refine ⟨_, ps_aug (ti := r) hN hi hx p (fun pins s σ H x y v u Q I r1 r2 q => ho pins s σ H x y v u Q I r1 r2 q) hf, fun σ H Γ g F E hG hH l h => ?_⟩
  obtain ⟨d, hd, h⟩ := h
  obtain ⟨v, hv, iv⟩ := hG.2 i d hd
  refine ⟨v, hv, s1 σ H Γ g _ _ hG hH (fun d1 g1 v1 H1 t1 i1 hH1 q => ?_) h⟩
  exact hs H1 g1 d d1 v v1 _ _ (iv.mono t1) i1 hH1 (fun d2 g2 v2 H2 t2 i2 hH2 q2 => l.nx _ g2 _ H2 (t1.trans t2) ((hG.mono (t1.trans t2)).set i2) hH2 q2) q
theorem dg_name (i : Nat) {x : Str} (hN : X.N.Nodup) (hi : X.N[i]? = some x := by rfl) (hx : Loc X.env.scope x := by first | exact Or.inl rfl | exact Or.inr rfl) (hf : X.fn x = true ∨ X.env.scope.names.lookup x = some .local := by first | exact .inl rfl | exact .inr rfl) :
    DG X (.Name x pos) (gNm i) := ⟨_, pg_name hN hi hx hf, fun d v σ H Γ g Q Q' im hG hH k h => k _ _ _ _ (TupX.refl H) (hG.set im) hH h⟩
theorem dgs_nil : DGs X [] gNl := ⟨_, pgs_nil, fun d v σ H Γ g Q Q' im hG hH k h => by
  obtain ⟨rfl, h⟩ := h
  cases (show v = [] from im)
  exact ⟨rfl, k _ _ _ _ (TupX.refl H) hG hH h⟩⟩
theorem dgs_cons (h1 : DG X e tg) (h2 : DGs X es tgs) (hs : (assignEach (e :: es) X.env).map (·.2) = assign e X.env :: (assignEach es X.env).map (·.2) := by rfl) : DGs X (e :: es) (gCs tg tgs) := by
  obtain ⟨x1, p1, s1⟩ := h1
  obtain ⟨x2, p2, s2⟩ := h2
  refine ⟨_, pgs_cons p1 p2 hs, fun d v σ H Γ g Q Q' im hG hH k h => ?_⟩
  obtain ⟨d1, ds, rfl, h⟩ := h
  obtain ⟨v1, vs, rfl, i1, i2⟩ := im
  exact ⟨v1, vs, rfl, s1 d1 v1 σ H Γ g _ _ i1 hG hH (fun Γ' g' σ' H' t hG' hH' q => s2 ds vs σ' H' Γ' g' _ _ (i2.mono t) hG' hH' (fun Γ2 g2 σ2 H2 t2 hG2 hH2 q2 => k Γ2 g2 σ2 H2 (t.trans t2) hG2 hH2 q2) q) h⟩
theorem dg_tup {k : Nat} {n : Nat} (h : DGs X es tgs) (hc : X.calm = true := by rfl) (hn : (assignEach es X.env).length = n := by rfl) (hst : (assignEach es X.env).findIdx? (·.1) = none := by rfl) : DG X (.Tuple es k pos) (gTp n tgs) := by
  obtain ⟨x1, p1, s1⟩ := h
  refine ⟨_, pg_tup hc p1 hn hst, fun d v σ H Γ g Q Q' im hG hH k h => ?_⟩
  obtain ⟨ds, rfl, hl, h⟩ := h
  obtain ⟨a, xs, rfl, ht, il⟩ := im
  exact ⟨a, xs, rfl, ht, by rw [il.length, hl], s1 ds xs σ H Γ g _ _ il hG hH k h⟩
end

/-! ### promises by data -/
abbrev DSp := List D → G → DK → Prop
def FDp (K : PySem.W.Frag) (φ : DSp) : Sp := fun vs H Q _ => ∃ ds g Q1, ImL K H ds vs ∧ HR K H g ∧ φ ds g Q1 ∧ ∀ d g' v H', TupX K H H' → Im K H' d v → HR K H' g' → Q1 d g' → Q v H'
/-- a def of the module that keeps its promise -/
structure CallD (P : Program) (w : World) (K : PySem.W.Frag) (mg : Str → Option Value) (base : Heap) (k : Nat) (x : Str) (φ : DSp) : Prop where
  ex : ∃ f fd ps, FnOk P w K mg base CX0 k f fd ps (FDp K φ) ∧ mg x = some (.ref f) ∧ PySem.W.keepIn K (.ref f) = true ∧ Binds K fd ps []
/-- a method of the class at C -/
structure MethD (P : Program) (w : World) (K : PySem.W.Frag) (mg : Str → Option Value) (base : Heap) (k : Nat) (C : Addr) (m : Str) (φ : DSp) : Prop where
  ex : ∃ f fd ps, FnOk P w K mg base CX0 k f fd ps (FDp K φ) ∧ Meth K C m f ∧ Binds K fd ps []
  cl : Cls K C
/-- the class x at C, made by its __init__ -/
structure MakeD (P : Program) (w : World) (K : PySem.W.Frag) (mg : Str → Option Value) (base : Heap) (k : Nat) (C : Addr) (x : Str) (φ : DSp) : Prop where
  ex : ∃ f fd ps, FnOk P w K mg base CX0 k f fd ps (FDp K φ) ∧ mg x = some (.ref C) ∧ Mk K C f ∧ Binds K fd ps []
def dCall (φ : DSp) (t : DTA) : DTE := fun Γ g Q => t Γ g fun ds g1 => φ ds g1 Q
def dMeth (C : Addr) (m : Str) (φ : DSp) (to : DTE) (t : DTA) : DTE := fun Γ g Q => to Γ g fun x g1 => ∃ a fs, x = .adr a ∧ g1 a = some (.ins C fs) ∧ (fs.lookup m = none) ∧ t Γ g1 fun ds g2 => φ (x :: ds) g2 Q
def dMake (C : Addr) (φ : DSp) (t : DTA) : DTE := fun Γ g Q => t Γ g fun ds g1 => ∀ x, g1 x = none → φ (.adr x :: ds) (gup g1 x (.ins C [])) fun d g2 => d = .non ∧ Q (.adr x) g2
def dFld (C : Addr) (f : Str) (ta : DTE) : DTE := fun Γ g Q => ta Γ g fun x g1 => ∃ a fs d, x = .adr a ∧ g1 a = some (.ins C fs) ∧ fs.lookup f = some d ∧ Q d g1
def putD (f : Str) (d : D) : List (Str × D) → List (Str × D)
  | [] => [(f, d)]
  | (g, x) :: r => if g = f then (g, d) :: r else (g, x) :: putD f d r
def dSetF (C : Addr) (f : Str) (ta tv : DTE) : DTS := fun F Γ g => tv Γ g fun y g1 => ta Γ g1 fun x g2 => ∃ a fs, x = .adr a ∧ g2 a = some (.ins C fs) ∧ fs.length < 1000 ∧ F.nx Γ (gup g2 a (.ins C (putD f y fs)))
def gFld (C : Addr) (f : Str) (ta : DTE) : DTG := fun y Γ g Q => ta Γ g fun x g2 => ∃ a fs, x = .adr a ∧ g2 a = some (.ins C fs) ∧ fs.length < 1000 ∧ Q Γ (gup g2 a (.ins C (putD f y fs)))
section
variable {K : PySem.W.Frag} {H : Hp}
theorem ImP.lookup {f : Str} : ∀ {fs : List (Str × D)} {vs : List (Str × V)} {d : D}, ImP K H id fs vs → fs.lookup f = some d → ∃ v, vs.lookup f = some v ∧ Im K H d v
  | [], _, _, _, e => by cases e
  | (n, d0) :: r, _, d, h, e => by
    obtain ⟨v, s, rfl, i1, i2⟩ := h
    rw [List.lookup_cons] at e
    show ∃ w, List.lookup f ((n, v) :: s) = some w ∧ _
    rw [List.lookup_cons]
    cases hb : (f == n) with
    | true =>
      rw [hb] at e
      cases e
      exact ⟨v, rfl, i1⟩
    | false =>
      rw [hb] at e
      exact ImP.lookup i2 e
theorem ImP.lookup_none {f : Str} : ∀ {fs : List (Str × D)} {vs : List (Str × V)}, ImP K H id fs vs → fs.lookup f = none → vs.lookup f = none
  | [], _, h, e => by
    cases (show _ = [] from h)
    rfl
  | (n, d0) :: r, _, h, e => by
    obtain ⟨v, s, rfl, i1, i2⟩ := h
    rw [List.lookup_cons] at e
    show List.lookup f ((n, v) :: s) = none
    rw [List.lookup_cons]
    cases hb : (f == n) with
    | true =>
      rw [hb] at e
      cases e
    | false =>
      rw [hb] at e
      exact ImP.lookup_none i2 e
theorem ImP.length {κ κ' : Type} {f : κ → κ'} : ∀ {fs : List (κ × D)} {vs : List (κ' × V)}, ImP K H f fs vs → vs.length = fs.length
  | [], _, h => by
    cases (show _ = [] from h)
    rfl
  | _ :: r, _, h => by
    obtain ⟨v, s, rfl, i1, i2⟩ := h
    rw [List.length_cons, List.length_cons, ImP.length i2]
theorem ImP.put {f : Str} {d : D} {v : V} (q : Im K H d v) : ∀ {fs : List (Str × D)} {vs : List (Str × V)}, ImP K H id fs vs → ImP K H id (putD f d fs) (putF f v vs)
  | [], _, h => by
    cases (show _ = [] from h)
    exact ⟨v, [], rfl, q, rfl⟩
  | (n, d0) :: r, _, h => by
    obtain ⟨w, s, rfl, i1, i2⟩ := h
    show ImP K H id (if n = f then (n, d) :: r else (n, d0) :: putD f d r) (if n = f then (n, v) :: s else (n, w) :: putF f v s)
    by_cases e : n = f
    · rw [if_pos e, if_pos e]
      exact ⟨v, s, rfl, q, i2⟩
    · rw [if_neg e, if_neg e]
      exact ⟨w, _, rfl, i1, ImP.put q i2⟩
end
section
variable {X : Cx} {e o a value : Expr} {es : List Expr} {te to ta tv : DTE} {t : DTA} {pos p apos pos' : Pos} {x m f : Str} {φ : DSp} {k : Nat} {C : Addr}
theorem call_sp {H : Hp} {g : G} {ds : List D} {vs : List V} {Q : DK} {Q' : VK} {E : XK} (i : ImL X.K H ds vs) (hH : HR X.K H g) (k : ∀ d g' v H', TupX X.K H H' → Im X.K H' d v → HR X.K H' g' → Q d g' → Q' v H') (h : φ ds g Q) : FDp X.K φ vs H Q' E :=
  ⟨ds, g, Q, i, hH, h, k⟩
theorem de_call (Cl : CallD X.prog X.w X.K X.mg X.base k x φ) (hr : Room k X.A) (ha : DA X (e :: es) t) (hg : Gl X x := by rfl) (hdb : (x == ("__debug__" : Str)) = false := by decide)
    (he : starEach (e :: es) X.env = (false, eval e X.env) :: starEach es X.env := by rfl) (hpl : (backTo pos (starEach es X.env)).any (·.1) = false := by rfl) : DE X (.Call (.Name x p) (e :: es) [] pos) (dCall φ t) := by
  obtain ⟨f, fd, ps, F, hm, hk, hb⟩ := Cl.ex
  obtain ⟨xa, pa, sa⟩ := ha
  refine ⟨_, pe_call F hr hg hm hk hb .nil pass0 pa hdb he hpl, fun σ H Γ g Q Q' hG hH k h => ?_⟩
  refine sa σ H Γ g _ _ hG hH (fun ds g1 vs H1 l1 t1 i1 hH1 q1 => ?_) h
  rw [List.append_nil]
  exact call_sp i1 hH1 (fun d g' v H' t2 i2 hH2 q2 => k d g' v H' (t1.trans t2) i2 hH2 q2) q1
theorem de_call0 (Cl : CallD X.prog X.w X.K X.mg X.base k x φ) (hr : Room k X.A) (hg : Gl X x := by rfl) (hdb : (x == ("__debug__" : Str)) = false := by decide) : DE X (.Call (.Name x p) [] [] pos) (dCall φ dNil) := by
  obtain ⟨f, fd, ps, F, hm, hk, hb⟩ := Cl.ex
  refine ⟨_, pe_call0 F hr hg hm hk hb .nil pass0 hdb, fun σ H Γ g Q Q' hG hH k h => ?_⟩
  exact call_sp (ds := []) (E := E0) rfl hH (fun d g' v H' t2 i2 hH2 q2 => k d g' v H' t2 i2 hH2 q2) h
theorem de_meth {pl : Sem Bool} (Cl : MethD X.prog X.w X.K X.mg X.base k C m φ) (hr : Room k X.A) (ho : DE X o to) (ha : DA X (e :: es) t)
    (hst : starEach (e :: es) X.env = (false, eval e X.env) :: starEach es X.env := by rfl) (hpl : (backTo pos (starEach es X.env)).any (·.1) = false := by rfl)
    (ht : eval (.Call (.Attribute o m apos) (e :: es) [] pos) X.env = (do
      let ov ← eval o X.env
      standAt apos.atName
      let (f, first) ← holding [ov] (getMethod ov m pl)
      callWith pos f first (backTo pos (starEach (e :: es) X.env)) (backToKw pos (keywordEach [] X.env))) := by rfl) :
    DE X (.Call (.Attribute o m apos) (e :: es) [] pos) (dMeth C m φ to t) := by
  obtain ⟨f, fd, ps, F, hm, hb⟩ := Cl.ex
  obtain ⟨xo, po, so⟩ := ho
  obtain ⟨xa, pa, sa⟩ := ha
  refine ⟨_, pe_meth po Cl.cl hm F hr hb .nil pass0 pa hst hpl ht, fun σ H Γ g Q Q' hG hH k h => ?_⟩
  refine so σ H Γ g _ _ hG hH (fun d g1 v H1 t1 i1 hH1 q1 => ?_) h
  obtain ⟨a, fs, rfl, hg, hl, q1⟩ := q1
  obtain ⟨dx, vs, ea, ip⟩ := hH1 a _ hg
  refine ⟨a, dx, vs, i1, ea, ip.lookup_none hl, ?_⟩
  refine sa σ H1 Γ g1 _ _ (hG.mono t1) hH1 (fun ds g2 us H2 l2 t2 i2 hH2 q2 => ?_) q1
  rw [List.append_nil]
  exact call_sp (imL_c (i1.mono t2) i2) hH2 (fun d g' v H' t3 i3 hH3 q3 => k d g' v H' ((t1.trans t2).trans t3) i3 hH3 q3) q2
theorem upd_ins_ne {H : Hp} {x dx : Addr} {o u : HO} {b : Addr} (h1 : b ≠ x) (h2 : b ≠ dx) : upd (upd H dx o) x u b = H b := by rw [upd_ne h1, upd_ne h2]
theorem de_make (Cl : MakeD X.prog X.w X.K X.mg X.base k C x φ) (hr : Room (k + 1) X.A) (ha : DA X (e :: es) t) (hg : Gl X x := by rfl) (hdb : (x == ("__debug__" : Str)) = false := by decide)
    (he : starEach (e :: es) X.env = (false, eval e X.env) :: starEach es X.env := by rfl) (hpl : (backTo pos (starEach es X.env)).any (·.1) = false := by rfl) : DE X (.Call (.Name x p) (e :: es) [] pos) (dMake C φ t) := by
  obtain ⟨f, fd, ps, F, hm, hk, hb⟩ := Cl.ex
  obtain ⟨xa, pa, sa⟩ := ha
  refine ⟨_, pe_make hk F hr hg hm hb .nil pass0 pa hdb he hpl, fun σ H Γ g Q Q' hG hH k h => ?_⟩
  refine sa σ H Γ g _ _ hG hH (fun ds g1 vs H1 l1 t1 i1 hH1 q1 => ?_) h
  intro x dx nx ndx ne
  rw [List.append_nil]
  have u1 : TupX X.K H1 (upd H1 dx (.own x)) := tupX_new ndx
  have nx2 : upd H1 dx (.own x) x = none := by rw [upd_ne ne.symm]; exact nx
  have u2 : TupX X.K (upd H1 dx (.own x)) (upd (upd H1 dx (.own x)) x (.ins C dx [])) := tupX_new nx2
  have hH3 : HR X.K (upd (upd H1 dx (.own x)) x (.ins C dx [])) (gup g1 x (.ins C [])) := (hH1.new ndx).put u2 ⟨dx, [], upd_same, rfl⟩
  exact call_sp (imL_c im_a (i1.mono (u1.trans u2))) hH3 (fun d g' v H' t3 i3 hH4 q3 => by
    obtain ⟨rfl, q3⟩ := q3
    exact ⟨i3, k _ g' _ H' ((t1.trans (u1.trans u2)).trans t3) im_a hH4 q3⟩) (q1 x (hH1.free nx))
theorem de_fld (hC : Cls X.K C) (hf : NoAttr X.K C f) (he : DE X e te) (hb : attributeBase e f X.env (eval e X.env) = eval e X.env := by rfl) : DE X (.Attribute e f pos) (dFld C f te) := by
  obtain ⟨xo, po, so⟩ := he
  refine ⟨_, pe_fld po hb, fun σ H Γ g Q Q' hG hH k h => ?_⟩
  refine so σ H Γ g _ _ hG hH (fun d g1 v H1 t1 i1 hH1 q1 => ?_) h
  obtain ⟨a, fs, d2, rfl, hg, hl, q1⟩ := q1
  obtain ⟨dx, vs, ea, ip⟩ := hH1 a _ hg
  obtain ⟨v2, hv, i2⟩ := ip.lookup hl
  exact ⟨a, C, dx, vs, v2, i1, ea, hC, hf, hv, k d2 g1 v2 H1 t1 i2 hH1 q1⟩
theorem put_ok {K : PySem.W.Frag} {H : Hp} {g : G} {a : Addr} {fs : List (Str × D)} {y : D} {v : V} (hH : HR K H g) (hg : g a = some (.ins C fs)) (iy : Im K H y v) :
    ∃ dx vs, H a = some (.ins C dx vs) ∧ vs.length = fs.length ∧ TupX K H (upd H a (.ins C dx (putF f v vs))) ∧ HR K (upd H a (.ins C dx (putF f v vs))) (gup g a (.ins C (putD f y fs))) := by
  obtain ⟨dx, vs, ea, ip⟩ := hH a _ hg
  have t : TupX K H (upd H a (.ins C dx (putF f v vs))) := tupX_upd (by rw [ea]; trivial)
  exact ⟨dx, vs, ea, ip.length, t, hH.put t ⟨dx, _, upd_same, ImP.put (iy.mono t) (ip.mono t)⟩⟩
theorem ds_setf (hC : Cls X.K C) (hf : NoAttr X.K C f) (ha : DE X o ta) (hv : DE X value tv) (hs : swapsWith value (some (.Attribute o f pos')) pos.line X.env = pure false := by rfl) : DS X (.Assign [.Attribute o f pos'] value pos) (dSetF C f ta tv) := by
  obtain ⟨xo, po, so⟩ := ha
  obtain ⟨xv, pv, sv⟩ := hv
  refine ⟨_, ps_fld po pv hs, fun σ H Γ g F E hG hH l h => ?_⟩
  refine sv σ H Γ g _ _ hG hH (fun d g1 v H1 t1 i1 hH1 q1 => ?_) h
  refine so σ H1 Γ g1 _ _ (hG.mono t1) hH1 (fun d2 g2 v2 H2 t2 i2 hH2 q2 => ?_) q1
  obtain ⟨a, fs, rfl, hg, hlen, q2⟩ := q2
  obtain ⟨dx, vs, ea, el, t3, hH3⟩ := put_ok (f := f) hH2 hg (i1.mono t2)
  exact ⟨a, C, dx, vs, i2, ea, hC, hf, by omega, l.nx Γ _ σ _ ((t1.trans t2).trans t3) (hG.mono ((t1.trans t2).trans t3)) hH3 q2⟩
/-- a target o.f -/
def gAttr (K : PySem.W.Frag) (ta : TE) (f : Str) : TG := fun y σ H Q => ta σ H fun x H2 => ∃ a C dx fs, x = .ref a ∧ H2 a = some (.ins C dx fs) ∧ Cls K C ∧ NoAttr K C f ∧ fs.length < 1000 ∧ Q σ (upd H2 a (.ins C dx (putF f y fs)))
theorem pg_attr {o : Expr} {ta : TE} (ha : PE X o ta) : PG X (.Attribute o f pos) (gAttr X.K ta f) := by
  refine ⟨fun pins s σ H v u Q I r h => ?_⟩
  refine PySem.W.kas_attr (thn (ha.run pins s σ H _ I h) fun ov s2 ⟨x, H2, I2, rx, a, C, dx, fs, ex, ea, c, n, l, q2⟩ => ?_)
  subst ex
  obtain rfl : ov = Value.ref a := rx
  exact setattr_ok I2 ea c n l r fun s3 I3 => ⟨σ, _, I3, q2⟩
theorem dg_attr (hC : Cls X.K C) (hf : NoAttr X.K C f) (ha : DE X o ta) : DG X (.Attribute o f pos) (gFld C f ta) := by
  obtain ⟨xo, po, so⟩ := ha
  refine ⟨_, pg_attr po, fun d v σ H Γ g Q Q' im hG hH k h => ?_⟩
  refine so σ H Γ g _ _ hG hH (fun d2 g2 v2 H2 t2 i2 hH2 q2 => ?_) h
  obtain ⟨a, fs, rfl, hg, hlen, q2⟩ := q2
  obtain ⟨dx, vs, ea, el, t3, hH3⟩ := put_ok (f := f) hH2 hg (im.mono t2)
  exact ⟨a, C, dx, vs, i2, ea, hC, hf, by omega, k Γ _ σ _ (t2.trans t3) (hG.mono (t2.trans t3)) hH3 q2⟩
end

/-! ### a def keeps its promise -/
def dstart (N : List Str) (ds : List D) : Gm := ds.map some ++ List.replicate (N.length - ds.length) none
theorem gr_start {K : PySem.W.Frag} {H : Hp} {N : List Str} {ds : List D} {vs : List V} (h : ImL K H ds vs) : GR K H (dstart N ds) (L2.start N vs) := by
  have hl := h.length
  refine ⟨by simp [dstart, L2.start, hl], fun i d e => ?_⟩
  unfold dstart at e
  by_cases hi : i < ds.length
  · rw [List.getElem?_append_left (by simpa using hi), List.getElem?_map] at e
    cases q : ds[i]? with
    | none => rw [q] at e; cases e
    | some d' =>
      rw [q] at e
      cases e
      obtain ⟨v, hv, iv⟩ := h.get q
      refine ⟨v, ?_, iv⟩
      unfold L2.start
      rw [List.getElem?_append_left (by rw [List.length_map, hl]; exact hi), List.getElem?_map, hv]
      rfl
  · rw [List.getElem?_append_right (by simpa using hi), List.getElem?_replicate] at e
    split at e <;> cases e
section
variable {P : Program} {w : World} {K : PySem.W.Frag} {mg : Str → Option Value} {base : Heap} {x qual : Str} {params : Arguments} {body : List Stmt} {scope : Scope} {f : Addr} {fd : FuncData}
theorem okD {N ps : List Str} {k : Nat} {φ : DSp} (F : FunD K x qual params body scope [] [] f fd) (S : FnScope N ps scope) (len : ∀ ds g Q, φ ds g Q → ds.length = ps.length)
    (hbody : ∀ (cdv : Value) (A : Around) (outer : List Env) (s : Shared) (H : Hp) (E : XK), Room k (A.deeper (envOfC qual scope s.heap.objs.size f cdv)) →
      ∃ t, DSs (cxOf CX0 P w K mg base N qual scope f cdv A outer s H E).nox body t ∧ ∀ ds g Q, φ ds g Q → t { nx := fun _ g' => Q .non g', rt := Q } (dstart N ds) g) : FnOk P w K mg base CX0 (k + 1) f fd ps (FDp K φ) := by
  refine F.ok S (fun vs H Q E h => ?_) (fun cdv A outer s H vs Q E hr h => ?_)
  · obtain ⟨ds, g, Q1, il, _, hp, _⟩ := h
    rw [il.length]
    exact len ds g Q1 hp
  · obtain ⟨ds, g, Q1, il, hH, hp, k⟩ := h
    obtain ⟨t, ht, hq⟩ := hbody cdv A outer s H E hr
    obtain ⟨ts, p, sim⟩ := ht.nox
    refine ⟨ts, p, sim _ H _ g { nx := fun _ g' => Q1 .non g', rt := Q1 } _ (gr_start il) hH ⟨fun Γ g σ H' t1 _ hH' q => k _ g _ H' t1 im_n hH' q, fun d g v H' t1 i1 hH' q => k d g v H' t1 i1 hH' q, fun _ _ _ _ _ _ _ q => q.elim, fun _ _ _ _ _ _ _ q => q.elim⟩ (hq ds g Q1 hp)⟩
end
end DL
set_option Elab.async false
set_option linter.all false
set_option maxRecDepth 100000
set_option maxHeartbeats 4000000
namespace DL
open PySem PySem.Spec PyProof.Rows L2

/-! ### subscripts -/
def fIx : D → D → G → Option D
  | .tup ds, .int i, _ => atI ds i
  | .fz ds, .int i, _ => atI ds i
  | .adr a, .int i, g => (match g a with
    | some (.lst ds) => atI ds i
    | _ => none)
  | _, _, _ => none
def sIx : D → D → G → DK → Prop := fun a b g Q => ∃ d, fIx a b g = some d ∧ Q d g
theorem fIx_l {a : Addr} {i : Int} {g : G} {ds : List D} {d : D} (h : g a = some (.lst ds)) (e : atI ds i = some d) : fIx (.adr a) (.int i) g = some d := by
  simp only [fIx, h]
  exact e
theorem atI_im {K : PySem.W.Frag} {H : Hp} {ds : List D} {xs : List V} {i : Int} {d : D} (h : ImL K H ds xs) (e : atI ds i = some d) : ∃ v, atI xs i = some v ∧ Im K H d v := by
  unfold atI at e
  cases q : ixN ds.length i with
  | none => rw [q] at e; cases e
  | some j =>
    rw [q] at e
    obtain ⟨v, h1, h2⟩ := h.get (show ds[j]? = some d from e)
    refine ⟨v, ?_, h2⟩
    unfold atI
    rw [h.length, q]
    exact h1
def SimX (K : PySem.W.Frag) (r : R2) (s : D → D → G → DK → Prop) : Prop := SimR K r s
theorem simR_ix {K : PySem.W.Frag} : SimR K (rIx K) sIx := by
  intro H g a b x y Q Q' ha hb hg k h
  obtain ⟨d, e, q⟩ := h
  cases b <;> first | (cases a <;> cases e; done) | skip
  rename_i i
  cases (show y = V.int i from hb)
  cases a <;> first | (cases e; done) | skip
  · rename_i p
    cases (show x = V.ref p from ha)
    cases hp : g p with
    | none => unfold fIx at e; simp only [hp] at e; cases e
    | some o =>
      unfold fIx at e
      simp only [hp] at e
      cases o <;> first | (cases e; done) | skip
      rename_i ds
      obtain ⟨xs, h1, h2⟩ := hg p _ hp
      obtain ⟨v, e1, e2⟩ := atI_im h2 e
      exact .inl ⟨p, xs, i, v, rfl, rfl, SqL.of h1, e1, k d g v H (TupX.refl H) e2 hg q⟩
  · obtain ⟨p, xs, rfl, h1, h2⟩ := ha
    obtain ⟨v, e1, e2⟩ := atI_im h2 e
    exact .inr (.inl ⟨p, xs, i, v, rfl, rfl, h1, e1, k d g v H (TupX.refl H) e2 hg q⟩)
  · obtain ⟨p, xs, rfl, h1, h2⟩ := ha
    obtain ⟨v, e1, e2⟩ := atI_im h2 e
    exact .inl ⟨p, xs, i, v, rfl, rfl, h1.l, e1, k d g v H (TupX.refl H) e2 hg q⟩
section
variable {X : Cx} {a b e o : Expr} {es : List Expr} {ta tb te to : DTE} {tr : DTA} {pos : Pos}
theorem de_ix (ha : DE X a ta) (hb : DE X b tb) (hs : PlainIx b := by exact fun _ _ => rfl) : DE X (.Subscript a b pos) (dOp sIx ta tb) := by
  obtain ⟨xa, pa, sa⟩ := ha
  obtain ⟨xb, pb, sb⟩ := hb
  refine ⟨_, pe_ix ix_seq pa pb hs, fun σ H Γ g Q Q' hG hH k h => ?_⟩
  refine sa σ H Γ g _ _ hG hH (fun d g1 v H1 t1 i1 hH1 q1 => ?_) h
  refine sb σ H1 Γ g1 _ _ (hG.mono t1) hH1 (fun d2 g2 v2 H2 t2 i2 hH2 q2 => ?_) q1
  exact simR_ix H2 g2 d d2 v v2 Q Q' (i1.mono t2) i2 hH2 (fun d3 g3 v3 H3 t3 i3 hH3 q3 => k d3 g3 v3 H3 ((t1.trans t2).trans t3) i3 hH3 q3) q2
/-! slices -/
def cutD (xs : List D) (lo hi : Option Int) : List D := (xs.drop (HT.sIx xs.length 0 lo)).take (HT.sIx xs.length xs.length hi - HT.sIx xs.length 0 lo)
theorem cut_im {K : PySem.W.Frag} {H : Hp} {ds : List D} {xs : List V} (h : ImL K H ds xs) (lo hi : Option Int) : ImL K H (cutD ds lo hi) (cutV xs lo hi) := by
  unfold cutD cutV
  rw [h.length]
  exact (h.drop _).take _
/-- a part of a slice -/
abbrev DTO := Gm → G → (Option Int → G → Prop) → Prop
def SimO (K : PySem.W.Frag) (te : TO) (t : DTO) : Prop := ∀ (σ : L2.St) (H : Hp) (Γ : Gm) (g : G) (Q : Option Int → G → Prop) (Q' : Option Int → Hp → Prop), GR K H Γ σ → HR K H g →
  (∀ b g' H', TupX K H H' → HR K H' g' → Q b g' → Q' b H') → t Γ g Q → te σ H Q'
structure DO (X : Cx) (e : Option Expr) (t : DTO) : Prop where
  ex : ∃ te, PO X e te ∧ SimO X.K te t
def dNoP : DTO := fun _ g Q => Q none g
def dPrt (te : DTE) : DTO := fun Γ g Q => te Γ g fun x g1 => ∃ i, x = .int i ∧ Q (some i) g1
theorem do_none : DO X none dNoP := ⟨_, po_none, fun σ H Γ g Q Q' hG hH k h => k none g H (TupX.refl H) hH h⟩
theorem do_some (he : DE X e te) : DO X (some e) (dPrt te) := by
  obtain ⟨xa, pa, sa⟩ := he
  refine ⟨_, po_some pa, fun σ H Γ g Q Q' hG hH k h => ?_⟩
  refine sa σ H Γ g _ _ hG hH (fun d g1 v H1 t1 i1 hH1 q1 => ?_) h
  obtain ⟨i, rfl, q1⟩ := q1
  exact ⟨i, i1, k (some i) g1 H1 t1 hH1 q1⟩
def dSl (s : D → Option Int → Option Int → G → DK → Prop) (te : DTE) (tl th : DTO) : DTE := fun Γ g Q => te Γ g fun x g1 => tl Γ g1 fun l g2 => th Γ g2 fun u g3 => s x l u g3 Q
/-- of a tuple -/
def sSlT : D → Option Int → Option Int → G → DK → Prop := fun x lo hi g Q => ∃ ds, x = .tup ds ∧ Q (.tup (cutD ds lo hi)) g
/-- of a list -/
def sSlL : D → Option Int → Option Int → G → DK → Prop := fun x lo hi g Q => ∃ a ds, x = .adr a ∧ g a = some (.lst ds) ∧ ∀ p, g p = none → Q (.adr p) (gup g p (.lst (cutD ds lo hi)))
variable {lo hi : Option Expr} {tl th : DTO} {p2 : Pos}
theorem de_slT (he : DE X e te) (hl : DO X lo tl) (hu : DO X hi th) : DE X (.Subscript e (.Slice lo hi none p2) pos) (dSl sSlT te tl th) := by
  obtain ⟨xa, pa, sa⟩ := he
  obtain ⟨xb, pb, sb⟩ := hl
  obtain ⟨xc, pc, sc⟩ := hu
  refine ⟨_, pe_slice sl_tupA pa pb pc, fun σ H Γ g Q Q' hG hH k h => ?_⟩
  refine sa σ H Γ g _ _ hG hH (fun d g1 v H1 t1 i1 hH1 q1 => ?_) h
  refine sb σ H1 Γ g1 _ _ (hG.mono t1) hH1 (fun l g2 H2 t2 hH2 q2 => ?_) q1
  refine sc σ H2 Γ g2 _ _ (hG.mono (t1.trans t2)) hH2 (fun u g3 H3 t3 hH3 q3 => ?_) q2
  obtain ⟨ds, rfl, q⟩ := q3
  obtain ⟨a, xs, rfl, h1, h2⟩ := i1.mono (t2.trans t3)
  have t := (t1.trans t2).trans t3
  refine ⟨a, xs, rfl, h1, fun hw => ?_, fun _ p hp => ?_⟩
  · have e : cutV xs l u = xs := by
      unfold cutV
      rw [hw.1, hw.2]
      simp
    have h3 := cut_im h2 l u
    rw [e] at h3
    exact k _ _ _ _ t (im_t h1 h3) hH3 q
  · have t4 : TupX X.K H3 (upd H3 p (.tup (cutV xs l u))) := tupX_new hp
    exact k _ _ _ _ (t.trans t4) (im_t (SqT.of upd_same) ((cut_im h2 l u).mono t4)) (hH3.new hp) q
theorem de_slL (he : DE X e te) (hl : DO X lo tl) (hu : DO X hi th) : DE X (.Subscript e (.Slice lo hi none p2) pos) (dSl sSlL te tl th) := by
  obtain ⟨xa, pa, sa⟩ := he
  obtain ⟨xb, pb, sb⟩ := hl
  obtain ⟨xc, pc, sc⟩ := hu
  refine ⟨_, pe_slice sl_list pa pb pc, fun σ H Γ g Q Q' hG hH k h => ?_⟩
  refine sa σ H Γ g _ _ hG hH (fun d g1 v H1 t1 i1 hH1 q1 => ?_) h
  refine sb σ H1 Γ g1 _ _ (hG.mono t1) hH1 (fun l g2 H2 t2 hH2 q2 => ?_) q1
  refine sc σ H2 Γ g2 _ _ (hG.mono (t1.trans t2)) hH2 (fun u g3 H3 t3 hH3 q3 => ?_) q2
  obtain ⟨a, ds, rfl, hg, q⟩ := q3
  obtain ⟨xs, h1, h2⟩ := hH3 a _ hg
  have t := (t1.trans t2).trans t3
  refine ⟨a, xs, i1, SqL.of h1, fun p hp => ?_⟩
  have t4 : TupX X.K H3 (upd H3 p (.lst (cutV xs l u))) := tupX_new hp
  exact k _ _ _ _ (t.trans t4) im_a (hH3.put t4 (okg_l upd_same ((cut_im h2 l u).mono t4))) (q p (hH3.free hp))
end

/-! ### + and * of tuples and lists -/
/-- t + u -/
def sCat : D → D → G → DK → Prop := fun a b g Q => ∃ xs ys, a = .tup xs ∧ b = .tup ys ∧ Nat.ble (xs.length + ys.length) 1000 = true ∧ Q (.tup (xs ++ ys)) g
/-- xs + ys, lists -/
def sCatL : D → D → G → DK → Prop := fun a b g Q => ∃ l m xs ys, a = .adr l ∧ b = .adr m ∧ g l = some (.lst xs) ∧ g m = some (.lst ys) ∧ xs.length + ys.length ≤ sizeLine ∧ ∀ p, g p = none → Q (.adr p) (gup g p (.lst (xs ++ ys)))
/-- xs * n -/
def sRep : D → D → G → DK → Prop := fun a b g Q => ∃ l x n, a = .adr l ∧ b = .int n ∧ g l = some (.lst [x]) ∧ -1000 ≤ n ∧ n ≤ 1000 ∧ ∀ p, g p = none → Q (.adr p) (gup g p (.lst (List.replicate n.toNat x)))
/-- xs += ys -/
def sExt : D → D → G → DK → Prop := fun a b g Q => ∃ l m xs ys, a = .adr l ∧ b = .adr m ∧ g l = some (.lst xs) ∧ g m = some (.lst ys) ∧ xs.length + ys.length ≤ sizeLine ∧ Q (.adr l) (gup g l (.lst (xs ++ ys)))
section
variable {K : PySem.W.Frag}
theorem simR_cat : SimR K (rCatA K) sCat := by
  intro H g a b x y Q Q' ha hb hg k h
  obtain ⟨xs, ys, rfl, rfl, hz, q⟩ := h
  obtain ⟨p, us, rfl, h1, h2⟩ := ha
  obtain ⟨r, vs, rfl, h3, h4⟩ := hb
  have hl : us.length + vs.length ≤ 1000 := by rw [h2.length, h4.length]; exact Nat.le_of_ble_eq_true hz
  have hc := h2.append h4
  refine ⟨p, r, us, vs, rfl, rfl, h1, h3, Nat.le_of_lt (small1000 hl), fun e => ?_, fun _ e => ?_, fun _ _ z hz => ?_⟩
  · subst e
    exact k _ _ _ _ (TupX.refl H) (im_t h3 hc) hg q
  · subst e
    rw [List.append_nil] at hc
    exact k _ _ _ _ (TupX.refl H) (im_t h1 hc) hg q
  · have t4 : TupX K H (upd H z (.tup (us ++ vs))) := tupX_new hz
    exact k _ _ _ _ t4 (im_t (SqT.of upd_same) (hc.mono t4)) (hg.new hz) q
theorem simR_catL : SimR K rCat sCatL := by
  intro H g a b x y Q Q' ha hb hg k h
  obtain ⟨l, m, xs, ys, rfl, rfl, h1, h2, hz, q⟩ := h
  obtain ⟨us, e1, i1⟩ := hg l _ h1
  obtain ⟨vs, e2, i2⟩ := hg m _ h2
  refine ⟨l, m, us, vs, ha, hb, e1, e2, by rw [i1.length, i2.length]; exact hz, fun p hp => ?_⟩
  have t4 : TupX K H (upd H p (.lst (us ++ vs))) := tupX_new hp
  exact k _ _ _ _ t4 im_a (hg.put t4 (okg_l upd_same ((i1.append i2).mono t4))) (q p (hg.free hp))
theorem imL_rep {H : Hp} {d : D} {v : V} (h : Im K H d v) : ∀ n, ImL K H (List.replicate n d) (List.replicate n v)
  | 0 => rfl
  | n + 1 => ⟨v, _, rfl, h, imL_rep h n⟩
theorem rep_flat {α : Type} (x : α) : ∀ n : Nat, (List.replicate n [x]).flatten = List.replicate n x
  | 0 => rfl
  | n + 1 => by
    rw [List.replicate_succ, List.flatten_cons, rep_flat x n, List.replicate_succ]
    rfl
theorem simR_rep : SimR K rRep sRep := by
  intro H g a b x y Q Q' ha hb hg k h
  obtain ⟨l, d, n, rfl, rfl, h1, h2, h3, q⟩ := h
  obtain ⟨us, e1, i1⟩ := hg l _ h1
  obtain ⟨v, r, rfl, iv, ir⟩ := i1
  cases (show r = [] from ir)
  have hs : n.toNat ≤ 1000 := by omega
  refine ⟨l, n, [v], ha, hb, e1, by omega, by omega, ?_, fun p hp => ?_⟩
  · rw [List.length_singleton, Nat.one_mul]
    exact Nat.le_of_lt (small1000 hs)
  · rw [rep_flat]
    have t4 : TupX K H (upd H p (.lst (List.replicate n.toNat v))) := tupX_new hp
    exact k _ _ _ _ t4 im_a (hg.put t4 (okg_l upd_same ((imL_rep iv _).mono t4))) (q p (hg.free hp))
theorem simR_ext : SimR K rExt2 sExt := by
  intro H g a b x y Q Q' ha hb hg k h
  obtain ⟨l, m, xs, ys, rfl, rfl, h1, h2, hz, q⟩ := h
  obtain ⟨us, e1, i1⟩ := hg l _ h1
  obtain ⟨vs, e2, i2⟩ := hg m _ h2
  refine ⟨l, m, us, vs, ha, hb, e1, e2, by rw [i1.length, i2.length]; exact hz, ?_⟩
  have t4 : TupX K H (upd H l (.lst (us ++ vs))) := tupX_upd (by rw [e1]; trivial)
  exact k _ _ _ _ t4 im_a (hg.put t4 (okg_l upd_same ((i1.append i2).mono t4))) q
end

/-! ### built-in functions -/
def fLen : D → G → Option Nat
  | .tup ds, _ => some ds.length
  | .fz ds, _ => some ds.length
  | .adr a, g => (match g a with
    | some (.lst ds) => some ds.length
    | _ => none)
  | _, _ => none
def sLen : List D → G → DK → Prop := fun ds g Q => ∃ x n, ds = [x] ∧ fLen x g = some n ∧ Q (.int n) g
theorem fLen_l {a : Addr} {g : G} {ds : List D} (h : g a = some (.lst ds)) : fLen (.adr a) g = some ds.length := by
  simp only [fLen, h]
def sInt : List D → G → DK → Prop := fun ds g Q => ∃ i, ds = [.int i] ∧ Q (.int i) g
def sAbs : List D → G → DK → Prop := fun ds g Q => ∃ i, ds = [.int i] ∧ Q (.int (if i < 0 then -i else i)) g
def sMax2 : List D → G → DK → Prop := fun ds g Q => ∃ i j, ds = [.int i, .int j] ∧ Q (.int (if j > i then j else i)) g
def sMax3 : List D → G → DK → Prop := fun ds g Q => ∃ i j k, ds = [.int i, .int j, .int k] ∧ Q (.int (max (max i j) k)) g
def sListOf : List D → G → DK → Prop := fun ds g Q => ∃ x xs, ds = [x] ∧ (x = .tup xs ∨ ∃ a, x = .adr a ∧ g a = some (.lst xs)) ∧ ∀ p, g p = none → Q (.adr p) (gup g p (.lst xs))
def sTupOf : List D → G → DK → Prop := fun ds g Q => ∃ a xs, ds = [.adr a] ∧ g a = some (.lst xs) ∧ Q (.tup xs) g
def sMin : List D → G → DK → Prop := fun ds g Q => ∃ (a : Addr) (ns : List Int), ds = [.adr a] ∧ g a = some (.lst (ns.map D.int)) ∧ 0 < ns.length ∧ ∀ m, m ∈ ns → (∀ y, y ∈ ns → m ≤ y) → Q (.int m) g
section
variable {K : PySem.W.Frag}
theorem imL1 {H : Hp} {d : D} {xs : List V} (h : ImL K H [d] xs) : ∃ v, xs = [v] ∧ Im K H d v := by
  obtain ⟨v, r, rfl, i, j⟩ := h
  cases (show r = [] from j)
  exact ⟨v, rfl, i⟩
theorem imL2 {H : Hp} {d e : D} {xs : List V} (h : ImL K H [d, e] xs) : ∃ v u, xs = [v, u] ∧ Im K H d v ∧ Im K H e u := by
  obtain ⟨v, r, rfl, i, j⟩ := h
  obtain ⟨u, rfl, i2⟩ := imL1 j
  exact ⟨v, u, rfl, i, i2⟩
theorem simC_len : SimC K (fun xs H Q => ∃ x n, xs = [x] ∧ LenV K x H n ∧ Q (.int n) H) sLen := by
  intro H g ds xs Q Q' i hg k h
  obtain ⟨x, n, rfl, e, q⟩ := h
  obtain ⟨v, rfl, iv⟩ := imL1 i
  refine ⟨v, n, rfl, ?_, k _ _ _ _ (TupX.refl H) im_i hg q⟩
  cases x with
  | adr p =>
    cases (show v = V.ref p from iv)
    cases hp : g p with
    | none => unfold fLen at e; simp only [hp] at e; cases e
    | some o =>
      unfold fLen at e
      simp only [hp] at e
      cases o <;> first | (cases e; done) | skip
      cases e
      obtain ⟨xs, h1, h2⟩ := hg p _ hp
      exact .inl ⟨xs, SqL.of h1, h2.length.symm⟩
  | tup ds =>
    cases e
    obtain ⟨p, xs, rfl, h1, h2⟩ := iv
    exact .inr ⟨xs, h1, h2.length.symm⟩
  | fz ds =>
    cases e
    obtain ⟨p, xs, rfl, h1, h2⟩ := iv
    exact .inl ⟨xs, h1.l, h2.length.symm⟩
  | own ds => cases e
  | non => cases e
  | bl _ => cases e
  | int _ => cases e
  | str _ => cases e
theorem simC_int : SimC K (fun xs H Q => (∃ i, xs = [.int i] ∧ Q (.int i) H) ∨ ∃ k, xs = [.bl k] ∧ Q (.int (if k then 1 else 0)) H) sInt := by
  intro H g ds xs Q Q' i hg k h
  obtain ⟨n, rfl, q⟩ := h
  obtain ⟨v, rfl, iv⟩ := imL1 i
  cases (show v = V.int n from iv)
  exact .inl ⟨n, rfl, k _ _ _ _ (TupX.refl H) im_i hg q⟩
theorem simC_abs : SimC K (fun xs H Q => ∃ i, xs = [.int i] ∧ Q (.int (if i < 0 then -i else i)) H) sAbs := by
  intro H g ds xs Q Q' i hg k h
  obtain ⟨n, rfl, q⟩ := h
  obtain ⟨v, rfl, iv⟩ := imL1 i
  cases (show v = V.int n from iv)
  exact ⟨n, rfl, k _ _ _ _ (TupX.refl H) im_i hg q⟩
theorem simC_max2 : SimC K (fun xs H Q => ∃ i j, xs = [.int i, .int j] ∧ Q (.int (if j > i then j else i)) H) sMax2 := by
  intro H g ds xs Q Q' i hg k h
  obtain ⟨n, m, rfl, q⟩ := h
  obtain ⟨v, u, rfl, iv, iu⟩ := imL2 i
  cases (show v = V.int n from iv)
  cases (show u = V.int m from iu)
  exact ⟨n, m, rfl, k _ _ _ _ (TupX.refl H) im_i hg q⟩
theorem simC_listOf : SimC K (fun xs H Q => ∃ p ys, xs = [.ref p] ∧ (SqL K H p ys ∨ SqT K H p ys) ∧ ∀ l, H l = none → Q (.ref l) (upd H l (.lst ys))) sListOf := by
  intro H g ds xs Q Q' i hg k h
  obtain ⟨x, zs, rfl, hx, q⟩ := h
  obtain ⟨v, rfl, iv⟩ := imL1 i
  have fin : ∀ {ys : List V}, ImL K H zs ys → ∀ l, H l = none → Q' (.ref l) (upd H l (.lst ys)) := fun {ys} hy l hl => by
    have t4 : TupX K H (upd H l (.lst ys)) := tupX_new hl
    exact k _ _ _ _ t4 im_a (hg.put t4 (okg_l upd_same (hy.mono t4))) (q l (hg.free hl))
  rcases hx with rfl | ⟨a, rfl, ha⟩
  · obtain ⟨p, ys, rfl, h1, h2⟩ := iv
    exact ⟨p, ys, rfl, .inr h1, fin h2⟩
  · cases (show v = V.ref a from iv)
    obtain ⟨ys, h1, h2⟩ := hg a _ ha
    exact ⟨a, ys, rfl, .inl (SqL.of h1), fin h2⟩
theorem simC_tupOf : SimC K (fun xs H Q => ∃ p ys, xs = [.ref p] ∧ ((SqL K H p ys ∧ ∀ l, H l = none → Q (.ref l) (upd H l (.tup ys))) ∨ (SqT K H p ys ∧ Q (.ref p) H))) sTupOf := by
  intro H g ds xs Q Q' i hg k h
  obtain ⟨a, zs, rfl, ha, q⟩ := h
  obtain ⟨v, rfl, iv⟩ := imL1 i
  cases (show v = V.ref a from iv)
  obtain ⟨ys, h1, h2⟩ := hg a _ ha
  refine ⟨a, ys, rfl, .inl ⟨SqL.of h1, fun l hl => ?_⟩⟩
  have t4 : TupX K H (upd H l (.tup ys)) := tupX_new hl
  exact k _ _ _ _ t4 (im_t (SqT.of upd_same) (h2.mono t4)) (hg.new hl) q
theorem simC_min : SimC K (rMin K) sMin := by
  intro H g ds xs Q Q' i hg k h
  obtain ⟨a, ns, rfl, ha, hn, q⟩ := h
  obtain ⟨v, rfl, iv⟩ := imL1 i
  cases (show v = V.ref a from iv)
  obtain ⟨ys, h1, h2⟩ := hg a _ ha
  cases h2.ints
  exact ⟨a, ns, rfl, SqL.of h1, hn, fun m hm hy => k _ _ _ _ (TupX.refl H) im_i hg (q m hm hy)⟩
theorem simC_max3 : SimC K (rNuC3 nuMax3) sMax3 := by
  intro H g ds xs Q Q' i hg k h
  obtain ⟨a, b, c, rfl, q⟩ := h
  obtain ⟨v, r, rfl, iv, j⟩ := i
  obtain ⟨u, w, rfl, iu, iw⟩ := imL2 j
  cases (show v = V.int a from iv)
  cases (show u = V.int b from iu)
  cases (show w = V.int c from iw)
  refine ⟨_, _, _, .int (max (max a b) c), rfl, ?_, k _ _ _ _ (TupX.refl H) im_i hg q⟩
  have m2 : ∀ x y : Int, nuMax2 (.int x) (.int y) = some (.int (max x y)) := fun x y => by
    show some (if decide (x < y) = true then V.int y else V.int x) = _
    by_cases hxy : x < y
    · rw [if_pos (decide_eq_true hxy), show max x y = y by omega]
    · rw [if_neg (by rw [decide_eq_false hxy]; decide), show max x y = x by omega]
  show (nuMax2 (.int a) (.int b)).bind (fun m => nuMax2 m (.int c)) = _
  rw [m2]
  exact m2 _ _
end

/-! ### == and in of data -/
mutual
/-- data without objects, of a depth -/
def pd : Nat → D → Bool
  | _, .non => true
  | _, .int _ => true
  | _, .str x => PyData.strOk x
  | 0, .tup _ => false
  | n + 1, .tup ds => pdL n ds
  | _, .bl _ => false
  | _, .adr _ => false
  | _, .fz _ => false
  | 0, .own _ => false
  | n + 1, .own ds => pdL n ds
def pdL : Nat → List D → Bool
  | _, [] => true
  | n, d :: ds => pd n d && pdL n ds
end
mutual
def eqb : D → D → Bool
  | .non, .non => true
  | .int i, .int j => i == j
  | .str x, .str y => x == y
  | .tup xs, .tup ys => eqbL xs ys
  | .own xs, .own ys => eqbL xs ys
  | .tup xs, .own ys => eqbL xs ys
  | .own xs, .tup ys => eqbL xs ys
  | _, _ => false
def eqbL : List D → List D → Bool
  | [], [] => true
  | x :: xs, y :: ys => eqb x y && eqbL xs ys
  | _, _ => false
end
mutual
def py : D → PyData
  | .non => .none
  | .bl b => .bool b
  | .int i => .int i
  | .str x => .str x
  | .adr _ => .none
  | .tup ds => .tuple (pyL ds)
  | .fz ds => .list (pyL ds)
  | .own ds => .tuple (pyL ds)
def pyL : List D → List PyData
  | [] => []
  | d :: ds => py d :: pyL ds
end
mutual
theorem pd_ok : ∀ (n : Nat) (d : D), pd n d = true → (py d).canLay0 = true ∧ (py d).depth ≤ n
  | _, .non, _ => ⟨by simp [py, PyData.canLay0], by simp [py, PyData.depth]⟩
  | _, .int _, _ => ⟨by simp [py, PyData.canLay0], by simp [py, PyData.depth]⟩
  | _, .str _, h => ⟨by simp only [pd] at h; simp [py, PyData.canLay0, h], by simp [py, PyData.depth]⟩
  | 0, .tup _, h => by simp [pd] at h
  | n + 1, .tup ds, h => by
    simp only [pd] at h
    obtain ⟨h1, h2⟩ := pdL_ok n ds h
    exact ⟨by simp only [py, PyData.canLay0]; exact h1, by simp only [py, PyData.depth]; omega⟩
  | _, .bl _, h => by simp [pd] at h
  | _, .adr _, h => by simp [pd] at h
  | _, .fz _, h => by simp [pd] at h
  | 0, .own _, h => by simp [pd] at h
  | n + 1, .own ds, h => by
    simp only [pd] at h
    obtain ⟨h1, h2⟩ := pdL_ok n ds h
    exact ⟨by simp only [py, PyData.canLay0]; exact h1, by simp only [py, PyData.depth]; omega⟩
theorem pdL_ok : ∀ (n : Nat) (ds : List D), pdL n ds = true → PyData.canLayAll0 (pyL ds) = true ∧ PyData.depthAll (pyL ds) ≤ n
  | _, [], _ => ⟨by simp [pyL, PyData.canLayAll0], by simp [pyL, PyData.depthAll]⟩
  | n, d :: ds, h => by
    simp only [pdL, Bool.and_eq_true] at h
    obtain ⟨h1, h2⟩ := pd_ok n d h.1
    obtain ⟨h3, h4⟩ := pdL_ok n ds h.2
    exact ⟨by simp only [pyL, PyData.canLayAll0, h1, h3, Bool.and_self], by simp only [pyL, PyData.depthAll]; omega⟩
end
mutual
theorem pd_eqv : ∀ (n m : Nat) (d e : D), pd n d = true → pd m e = true → PyData.eqv (py d) (py e) = eqb d e
  | n, m, .non, e, h, k => by cases e <;> simp [pd, py, PyData.eqv, eqb] at *
  | n, m, .int i, e, h, k => by cases e <;> simp [pd, py, PyData.eqv, eqb] at *
  | n, m, .str i, e, h, k => by cases e <;> simp [pd, py, PyData.eqv, eqb] at *
  | 0, m, .tup _, e, h, k => by simp [pd] at h
  | n + 1, m, .tup ds, .tup es, h, k => by
    cases m with
    | zero => simp [pd] at k
    | succ m =>
      simp only [pd] at h k
      simp only [py, PyData.eqv, eqb]
      exact pdL_eqv n m ds es h k
  | n + 1, m, .tup ds, .non, h, k => by simp [py, PyData.eqv, eqb]
  | n + 1, m, .tup ds, .int _, h, k => by simp [py, PyData.eqv, eqb]
  | n + 1, m, .tup ds, .str _, h, k => by simp [py, PyData.eqv, eqb]
  | n + 1, m, .tup ds, .bl _, h, k => by simp [pd] at k
  | n + 1, m, .tup ds, .adr _, h, k => by simp [pd] at k
  | n + 1, m, .tup ds, .fz _, h, k => by simp [pd] at k
  | n + 1, m, .tup ds, .own es, h, k => by
    cases m with
    | zero => simp [pd] at k
    | succ m =>
      simp only [pd] at h k
      simp only [py, PyData.eqv, eqb]
      exact pdL_eqv n m ds es h k
  | 0, m, .own _, e, h, k => by simp [pd] at h
  | n + 1, m, .own ds, .tup es, h, k => by
    cases m with
    | zero => simp [pd] at k
    | succ m =>
      simp only [pd] at h k
      simp only [py, PyData.eqv, eqb]
      exact pdL_eqv n m ds es h k
  | n + 1, m, .own ds, .own es, h, k => by
    cases m with
    | zero => simp [pd] at k
    | succ m =>
      simp only [pd] at h k
      simp only [py, PyData.eqv, eqb]
      exact pdL_eqv n m ds es h k
  | n + 1, m, .own ds, .non, h, k => by simp [py, PyData.eqv, eqb]
  | n + 1, m, .own ds, .int _, h, k => by simp [py, PyData.eqv, eqb]
  | n + 1, m, .own ds, .str _, h, k => by simp [py, PyData.eqv, eqb]
  | n + 1, m, .own ds, .bl _, h, k => by simp [pd] at k
  | n + 1, m, .own ds, .adr _, h, k => by simp [pd] at k
  | n + 1, m, .own ds, .fz _, h, k => by simp [pd] at k
  | _, _, .bl _, _, h, _ => by simp [pd] at h
  | _, _, .adr _, _, h, _ => by simp [pd] at h
  | _, _, .fz _, _, h, _ => by simp [pd] at h
theorem pdL_eqv : ∀ (n m : Nat) (ds es : List D), pdL n ds = true → pdL m es = true → PyData.eqvAll (pyL ds) (pyL es) = eqbL ds es
  | _, _, [], [], _, _ => by simp [pyL, PyData.eqvAll, eqbL]
  | _, _, [], _ :: _, _, _ => by simp [pyL, PyData.eqvAll, eqbL]
  | _, _, _ :: _, [], _, _ => by simp [pyL, PyData.eqvAll, eqbL]
  | n, m, d :: ds, e :: es, h, k => by
    simp only [pdL, Bool.and_eq_true] at h k
    simp only [pyL, PyData.eqvAll, eqbL, pd_eqv n m d e h.1 k.1, pdL_eqv n m ds es h.2 k.2]
end
mutual
theorem im_dp {K : PySem.W.Frag} {H : Hp} : ∀ (n : Nat) (d : D) (v : V), pd n d = true → Im K H d v → Dp K H v (py d)
  | _, .non, v, _, h => by
    cases (show v = V.non from h)
    simp only [py]
    exact .non
  | _, .int i, v, _, h => by
    cases (show v = V.int i from h)
    simp only [py]
    exact .int i
  | _, .str i, v, _, h => by
    cases (show v = V.str i from h)
    simp only [py]
    exact .str i
  | 0, .tup _, _, h, _ => by simp [pd] at h
  | n + 1, .tup ds, v, h, i => by
    simp only [pd] at h
    obtain ⟨a, xs, rfl, h1, h2⟩ := i
    simp only [py]
    exact .tup h1 (imL_dp n ds xs h h2)
  | _, .bl _, _, h, _ => by simp [pd] at h
  | _, .adr _, _, h, _ => by simp [pd] at h
  | _, .fz _, _, h, _ => by simp [pd] at h
  | 0, .own _, _, h, _ => by simp [pd] at h
  | n + 1, .own ds, v, h, i => by
    simp only [pd] at h
    obtain ⟨a, xs, rfl, h1, h2⟩ := i
    simp only [py]
    exact .tup (SqT.of h1) (imL_dp n ds xs h h2)
theorem imL_dp {K : PySem.W.Frag} {H : Hp} : ∀ (n : Nat) (ds : List D) (xs : List V), pdL n ds = true → ImL K H ds xs → DpAll K H xs (pyL ds)
  | _, [], xs, _, h => by
    cases (show xs = [] from h)
    simp only [pyL]
    exact .nil
  | n, d :: ds, xs, h, i => by
    simp only [pdL, Bool.and_eq_true] at h
    obtain ⟨v, r, rfl, i1, i2⟩ := i
    simp only [pyL]
    exact .cons (im_dp n d v h.1 i1) (imL_dp n ds r h.2 i2)
end
theorem pd_shaped {d : D} (h : pd 8 d = true) : SeqAt.shaped (py d) = true := by
  obtain ⟨h1, h2⟩ := pd_ok 8 d h
  unfold SeqAt.shaped
  rw [h1, Bool.true_and]
  exact decide_eq_true (by omega)
theorem pdL_shaped {ds : List D} (h : pdL 8 ds = true) : SeqAt.shaped (.list (pyL ds)) = true := by
  obtain ⟨h1, h2⟩ := pdL_ok 8 ds h
  unfold SeqAt.shaped
  simp only [PyData.canLay0, PyData.depth]
  rw [h1, Bool.true_and]
  exact decide_eq_true (by omega)
theorem pdL_of {n : Nat} : ∀ {ds : List D}, (∀ d ∈ ds, pd n d = true) → pdL n ds = true
  | [], _ => rfl
  | d :: ds, h => by
    simp only [pdL, Bool.and_eq_true]
    exact ⟨h d List.mem_cons_self, pdL_of fun x hx => h x (List.mem_cons_of_mem _ hx)⟩
/-- == of data -/
def sEqD : D → D → G → DK → Prop := fun a b g Q => pd 8 a = true ∧ pd 8 b = true ∧ Q (.bl (eqb a b)) g
def sNeD : D → D → G → DK → Prop := fun a b g Q => pd 8 a = true ∧ pd 8 b = true ∧ Q (.bl (!eqb a b)) g
/-- == of lists of data -/
def sEqL : D → D → G → DK → Prop := fun a b g Q => ∃ l m xs ys, a = .adr l ∧ b = .adr m ∧ g l = some (.lst xs) ∧ g m = some (.lst ys) ∧ pdL 8 xs = true ∧ pdL 8 ys = true ∧ Q (.bl (eqbL xs ys)) g
def sNeL : D → D → G → DK → Prop := fun a b g Q => ∃ l m xs ys, a = .adr l ∧ b = .adr m ∧ g l = some (.lst xs) ∧ g m = some (.lst ys) ∧ pdL 8 xs = true ∧ pdL 8 ys = true ∧ Q (.bl (!eqbL xs ys)) g
/-- in a list, in a tuple -/
def sInL (neg : Bool) : D → D → G → DK → Prop := fun a b g Q => ∃ m ys, b = .adr m ∧ g m = some (.lst ys) ∧ pd 8 a = true ∧ pdL 8 ys = true ∧ Q (.bl (if neg then !(ys.any fun y => eqb y a) else ys.any fun y => eqb y a)) g
def sInT (neg : Bool) : D → D → G → DK → Prop := fun a b g Q => ∃ ys, b = .tup ys ∧ pd 8 a = true ∧ pdL 8 ys = true ∧ Q (.bl (if neg then !(ys.any fun y => eqb y a) else ys.any fun y => eqb y a)) g
def rInT (K : PySem.W.Frag) (neg : Bool) : R2 := fun x y H Q => ∃ d ds, Dp K H x d ∧ Dp K H y (.tuple ds) ∧ SeqAt.shaped d = true ∧ SeqAt.shaped (.list ds) = true ∧ Q (.bl (if neg then !(ds.any fun z => PyData.eqv z d) else ds.any fun z => PyData.eqv z d)) H
theorem op_inT {X : Cx} (hu : X.A.units + 65 < cLine) : OpR X (compareOp .In) (rInT X.K false) := by
  intro pins s σ H x y v u Q I rx ry h
  obtain ⟨d, ds, hd, he, sd, se, q⟩ := h
  obtain ⟨as, r1⟩ := Dp.reads I d x v hd rx
  obtain ⟨bs, r2⟩ := Dp.reads I (.tuple ds) y u he ry
  exact SeqAt.in_tuple_reads r2 r1 (SeqAt.canLay_of_shaped se) (SeqAt.canLay_of_shaped sd) (room_in_shaped sd hu) ⟨.bl _, H, I, rfl, q⟩
theorem op_notInT {X : Cx} (hu : X.A.units + 65 < cLine) : OpR X (compareOp .NotIn) (rInT X.K true) := by
  intro pins s σ H x y v u Q I rx ry h
  obtain ⟨d, ds, hd, he, sd, se, q⟩ := h
  obtain ⟨as, r1⟩ := Dp.reads I d x v hd rx
  obtain ⟨bs, r2⟩ := Dp.reads I (.tuple ds) y u he ry
  exact SeqAt.notIn_tuple_reads r2 r1 (SeqAt.canLay_of_shaped se) (SeqAt.canLay_of_shaped sd) (room_in_shaped sd hu) ⟨.bl _, H, I, rfl, q⟩
section
variable {K : PySem.W.Frag}
theorem simR_eqD : SimR K (rEqD K) sEqD := by
  intro H g a b x y Q Q' ha hb hg k h
  obtain ⟨h1, h2, q⟩ := h
  refine ⟨_, _, im_dp 8 a x h1 ha, im_dp 8 b y h2 hb, pd_shaped h1, pd_shaped h2, ?_⟩
  rw [pd_eqv 8 8 a b h1 h2]
  exact k _ _ _ _ (TupX.refl H) im_b hg q
theorem simR_neD : SimR K (rNeD K) sNeD := by
  intro H g a b x y Q Q' ha hb hg k h
  obtain ⟨h1, h2, q⟩ := h
  refine ⟨_, _, im_dp 8 a x h1 ha, im_dp 8 b y h2 hb, pd_shaped h1, pd_shaped h2, ?_⟩
  rw [pd_eqv 8 8 a b h1 h2]
  exact k _ _ _ _ (TupX.refl H) im_b hg q
theorem lst_dp {H : Hp} {g : G} {l : Addr} {xs : List D} (hg : HR K H g) (h : g l = some (.lst xs)) (p : pdL 8 xs = true) : Dp K H (.ref l) (.list (pyL xs)) := by
  obtain ⟨us, h1, h2⟩ := hg l _ h
  exact .lst (SqL.of h1) (imL_dp 8 xs us p h2)
theorem simR_eqL : SimR K (rEqD K) sEqL := by
  intro H g a b x y Q Q' ha hb hg k h
  obtain ⟨l, m, xs, ys, rfl, rfl, h1, h2, h3, h4, q⟩ := h
  cases (show x = V.ref l from ha)
  cases (show y = V.ref m from hb)
  refine ⟨_, _, lst_dp hg h1 h3, lst_dp hg h2 h4, pdL_shaped h3, pdL_shaped h4, ?_⟩
  rw [show PyData.eqv (.list (pyL xs)) (.list (pyL ys)) = eqbL xs ys by rw [PyData.eqv]; exact pdL_eqv 8 8 xs ys h3 h4]
  exact k _ _ _ _ (TupX.refl H) im_b hg q
theorem simR_neL : SimR K (rNeD K) sNeL := by
  intro H g a b x y Q Q' ha hb hg k h
  obtain ⟨l, m, xs, ys, rfl, rfl, h1, h2, h3, h4, q⟩ := h
  cases (show x = V.ref l from ha)
  cases (show y = V.ref m from hb)
  refine ⟨_, _, lst_dp hg h1 h3, lst_dp hg h2 h4, pdL_shaped h3, pdL_shaped h4, ?_⟩
  rw [show PyData.eqv (.list (pyL xs)) (.list (pyL ys)) = eqbL xs ys by rw [PyData.eqv]; exact pdL_eqv 8 8 xs ys h3 h4]
  exact k _ _ _ _ (TupX.refl H) im_b hg q
theorem any_py {a : D} (ha : pd 8 a = true) : ∀ {ys : List D}, pdL 8 ys = true → ((pyL ys).any fun z => PyData.eqv z (py a)) = ys.any fun y => eqb y a
  | [], _ => rfl
  | y :: ys, h => by
    simp only [pdL, Bool.and_eq_true] at h
    simp only [pyL, List.any_cons, pd_eqv 8 8 y a h.1 ha, any_py ha h.2]
theorem simR_inL : SimR K (rInD K) (sInL false) := by
  intro H g a b x y Q Q' ha hb hg k h
  obtain ⟨m, ys, rfl, h1, h2, h3, q⟩ := h
  cases (show y = V.ref m from hb)
  refine ⟨_, _, im_dp 8 a x h2 ha, lst_dp hg h1 h3, pd_shaped h2, pdL_shaped h3, ?_⟩
  rw [any_py h2 h3]
  exact k _ _ _ _ (TupX.refl H) im_b hg q
theorem simR_notInL : SimR K (rNotInD K) (sInL true) := by
  intro H g a b x y Q Q' ha hb hg k h
  obtain ⟨m, ys, rfl, h1, h2, h3, q⟩ := h
  cases (show y = V.ref m from hb)
  refine ⟨_, _, im_dp 8 a x h2 ha, lst_dp hg h1 h3, pd_shaped h2, pdL_shaped h3, ?_⟩
  rw [any_py h2 h3]
  exact k _ _ _ _ (TupX.refl H) im_b hg q
theorem simR_inT {neg : Bool} : SimR K (rInT K neg) (sInT neg) := by
  intro H g a b x y Q Q' ha hb hg k h
  obtain ⟨ys, rfl, h2, h3, q⟩ := h
  obtain ⟨p, us, rfl, hp, hu⟩ := hb
  refine ⟨_, _, im_dp 8 a x h2 ha, .tup hp (imL_dp 8 ys us h3 hu), pd_shaped h2, pdL_shaped h3, ?_⟩
  rw [any_py h2 h3]
  exact k _ _ _ _ (TupX.refl H) im_b hg q
end

/-! ### isinstance -/
def tyD : D → Option String
  | .non => some "NoneType"
  | .bl _ => some "bool"
  | .int _ => some "int"
  | .str _ => some "str"
  | .tup _ => some "tuple"
  | .fz _ => some "list"
  | .own _ => none
  | .adr _ => none
def sIsi (T : String) : List D → G → DK → Prop := fun ds g Q => ∃ x t b, ds = [x, .non] ∧ tyD x = some t ∧ kitB t T = some b ∧ Q (.bl b) g
/-! ### methods of lists -/
def sAppend : D → List D → G → DK → Prop := fun x ds g Q => ∃ l xs y, x = .adr l ∧ ds = [y] ∧ g l = some (.lst xs) ∧ xs.length < sizeLine ∧ Q .non (gup g l (.lst (xs ++ [y])))
def sPop : D → List D → G → DK → Prop := fun x ds g Q => ∃ l xs y, x = .adr l ∧ ds = [] ∧ g l = some (.lst (xs ++ [y])) ∧ Q y (gup g l (.lst xs))
def sPopAt : D → List D → G → DK → Prop := fun x ds g Q => ∃ l xs i y, x = .adr l ∧ ds = [.int i] ∧ g l = some (.lst xs) ∧ 0 ≤ i ∧ xs.length < 1000 ∧ xs[i.toNat]? = some y ∧ Q y (gup g l (.lst (xs.eraseIdx i.toNat)))
def SimM (K : PySem.W.Frag) (r : V → List V → Hp → VK → Prop) (s : D → List D → G → DK → Prop) : Prop := ∀ (H : Hp) (g : G) (a : D) (ds : List D) (x : V) (xs : List V) (Q : DK) (Q' : VK), Im K H a x → ImL K H ds xs → HR K H g →
  (∀ d g' v H', TupX K H H' → Im K H' d v → HR K H' g' → Q d g' → Q' v H') → s a ds g Q → r x xs H Q'
def dBM0 (s : D → List D → G → DK → Prop) (to : DTE) : DTE := fun Γ g Q => to Γ g fun x g1 => (∃ l xs, x = .adr l ∧ g1 l = some (.lst xs)) ∧ s x [] g1 Q
def dBM (s : D → List D → G → DK → Prop) (to : DTE) (t : DTA) : DTE := fun Γ g Q => to Γ g fun x g1 => (∃ l xs, x = .adr l ∧ g1 l = some (.lst xs)) ∧ t Γ g1 fun ds g2 => s x ds g2 Q
section
variable {K : PySem.W.Frag}
theorem simM_append : SimM K rAppend sAppend := by
  intro H g a ds x xs Q Q' ha hd hg k h
  obtain ⟨l, us, y, rfl, rfl, h1, h2, q⟩ := h
  cases (show x = V.ref l from ha)
  obtain ⟨v, rfl, iv⟩ := imL1 hd
  obtain ⟨ws, e1, e2⟩ := hg l _ h1
  refine ⟨l, ws, v, rfl, rfl, e1, by rw [e2.length]; exact h2, ?_⟩
  have t4 : TupX K H (upd H l (.lst (ws ++ [v]))) := tupX_upd (by rw [e1]; trivial)
  exact k _ _ _ _ t4 im_n (hg.put t4 (okg_l upd_same ((e2.append (ImL.one iv)).mono t4))) q
theorem simM_pop : SimM K rPop sPop := by
  intro H g a ds x xs Q Q' ha hd hg k h
  obtain ⟨l, us, y, rfl, rfl, h1, q⟩ := h
  cases (show x = V.ref l from ha)
  cases (show xs = [] from hd)
  obtain ⟨ws, e1, e2⟩ := hg l _ h1
  have hl := e2.length
  rw [List.length_append, List.length_singleton] at hl
  obtain ⟨v, h3, h4⟩ := e2.get (i := us.length) (d := y) (by rw [List.getElem?_append_right (Nat.le_refl _), Nat.sub_self]; rfl)
  refine ⟨l, ws, v, rfl, rfl, e1, by rw [hl]; exact h3, ?_⟩
  have t4 : TupX K H (upd H l (.lst ws.dropLast)) := tupX_upd (by rw [e1]; trivial)
  have e3 := e2.dropLast
  rw [List.dropLast_concat] at e3
  exact k _ _ _ _ t4 (h4.mono t4) (hg.put t4 (okg_l upd_same (e3.mono t4))) q
theorem simM_popAt : SimM K rPopAt sPopAt := by
  intro H g a ds x xs Q Q' ha hd hg k h
  obtain ⟨l, us, i, y, rfl, rfl, h1, h2, h3, h4, q⟩ := h
  cases (show x = V.ref l from ha)
  obtain ⟨v, rfl, iv⟩ := imL1 hd
  cases (show v = V.int i from iv)
  obtain ⟨ws, e1, e2⟩ := hg l _ h1
  obtain ⟨v, h5, h6⟩ := e2.get h4
  have hlt := (List.getElem?_eq_some_iff.mp h4).1
  refine ⟨l, ws, i, i.toNat, v, rfl, rfl, e1, by omega, by omega, PySem.StrLaws.seqIndex_nonneg h2 (by rw [e2.length]; omega), h5, ?_⟩
  have t4 : TupX K H (upd H l (.lst (ws.eraseIdx i.toNat))) := tupX_upd (by rw [e1]; trivial)
  exact k _ _ _ _ t4 (h6.mono t4) (hg.put t4 (okg_l upd_same ((e2.eraseIdx _).mono t4))) q
end
section
variable {X : Cx} {o e : Expr} {es : List Expr} {to te : DTE} {t : DTA} {name : Str} {apos cpos : Pos} {id : String} {r : V → List V → Hp → VK → Prop} {s : D → List D → G → DK → Prop}
theorem de_bm0 (slot : Slot "list" name id) (hty : typeOf (.builtin id) = pure (.type "method_descriptor")) (hm : MtR X id r) (hs : SimM X.K r s) (ho : DE X o to)
    (hbase : attributeBase o name X.env (eval o X.env) = eval o X.env := by rfl) (hline : (apos.endLine == cpos.line) = true := by rfl) : DE X (.Call (.Attribute o name apos) [] [] cpos) (dBM0 s to) := by
  obtain ⟨xo, po, so⟩ := ho
  refine ⟨_, pe_bm0 PySem.F.plainAttrs_list slot hty hm po hbase hline, fun σ H Γ g Q Q' hG hH k h => ?_⟩
  refine so σ H Γ g _ _ hG hH (fun d g1 v H1 t1 i1 hH1 q1 => ?_) h
  obtain ⟨⟨l, xs, rfl, hl⟩, q1⟩ := q1
  obtain ⟨ws, e1, e2⟩ := hH1 l _ hl
  cases (show v = V.ref l from i1)
  exact ⟨.inl ⟨rfl, _, SqL.of e1⟩, hs H1 g1 _ [] _ [] Q Q' im_a rfl hH1 (fun d g' v H' t2 i2 hH2 q2 => k d g' v H' (t1.trans t2) i2 hH2 q2) q1⟩
theorem de_bm (slot : Slot "list" name id) (hty : typeOf (.builtin id) = pure (.type "method_descriptor")) (hm : MtR X id r) (hs : SimM X.K r s) (ho : DE X o to) (ha : DA X (e :: es) t)
    (hbase : attributeBase o name X.env (eval o X.env) = eval o X.env := by rfl)
    (hfew : ((backTo cpos (starEach (e :: es) X.env)).all (fun x => !x.1) && (backToKw cpos (keywordEach [] X.env)).all (fun x => x.1.isSome)
      && decide ((e :: es).length + ([] : List Keyword).length + (if ([] : List Keyword).isEmpty then 0 else 1) < 30)) = true := by rfl)
    (hline : (apos.endLine == cpos.line) = true := by rfl) (hst : starEach (e :: es) X.env = (false, eval e X.env) :: starEach es X.env := by rfl) (hplain : (backTo cpos (starEach es X.env)).any (·.1) = false := by rfl) :
    DE X (.Call (.Attribute o name apos) (e :: es) [] cpos) (dBM s to t) := by
  obtain ⟨xo, po, so⟩ := ho
  obtain ⟨xa, pa, sa⟩ := ha
  refine ⟨_, pe_bm PySem.F.plainAttrs_list slot hty hm po pa hbase hfew hline hst hplain, fun σ H Γ g Q Q' hG hH k h => ?_⟩
  refine so σ H Γ g _ _ hG hH (fun d g1 v H1 t1 i1 hH1 q1 => ?_) h
  obtain ⟨⟨l, xs, rfl, hl⟩, q1⟩ := q1
  obtain ⟨ws, e1, e2⟩ := hH1 l _ hl
  cases (show v = V.ref l from i1)
  refine ⟨.inl ⟨rfl, _, SqL.of e1⟩, ?_⟩
  refine sa σ H1 Γ g1 _ _ (hG.mono t1) hH1 (fun ds g2 us H2 l2 t2 i2 hH2 q2 => ?_) q1
  exact hs H2 g2 _ ds _ us Q Q' im_a i2 hH2 (fun d g' v H' t3 i3 hH3 q3 => k d g' v H' ((t1.trans t2).trans t3) i3 hH3 q3) q2
theorem de_append (ho : DE X o to) (ha : DE X e te) (hbase : attributeBase o "append" X.env (eval o X.env) = eval o X.env := by rfl)
    (hfew : ((backTo cpos (starEach [e] X.env)).all (fun x => !x.1) && (backToKw cpos (keywordEach [] X.env)).all (fun x => x.1.isSome)
      && decide ([e].length + ([] : List Keyword).length + (if ([] : List Keyword).isEmpty then 0 else 1) < 30)) = true := by rfl)
    (hline : (apos.endLine == cpos.line) = true := by rfl) (hst : starEach [e] X.env = (false, eval e X.env) :: starEach [] X.env := by rfl) (hplain : (backTo cpos (starEach [] X.env)).any (·.1) = false := by rfl) :
    DE X (.Call (.Attribute o "append" apos) [e] [] cpos) (dBM sAppend to (dCons te dNil)) :=
  de_bm PySem.F.slot_list_append PySem.F.type_list_append mt_append simM_append ho (da_cons ha da_nil hst) hbase hfew hline hst hplain
theorem de_pop (ho : DE X o to) (hbase : attributeBase o "pop" X.env (eval o X.env) = eval o X.env := by rfl) (hline : (apos.endLine == cpos.line) = true := by rfl) : DE X (.Call (.Attribute o "pop" apos) [] [] cpos) (dBM0 sPop to) :=
  de_bm0 PySem.F.slot_list_pop PySem.F.type_list_pop mt_pop simM_pop ho hbase hline
theorem de_popAt (ho : DE X o to) (ha : DE X e te) (hbase : attributeBase o "pop" X.env (eval o X.env) = eval o X.env := by rfl)
    (hfew : ((backTo cpos (starEach [e] X.env)).all (fun x => !x.1) && (backToKw cpos (keywordEach [] X.env)).all (fun x => x.1.isSome)
      && decide ([e].length + ([] : List Keyword).length + (if ([] : List Keyword).isEmpty then 0 else 1) < 30)) = true := by rfl)
    (hline : (apos.endLine == cpos.line) = true := by rfl) (hst : starEach [e] X.env = (false, eval e X.env) :: starEach [] X.env := by rfl) (hplain : (backTo cpos (starEach [] X.env)).any (·.1) = false := by rfl) :
    DE X (.Call (.Attribute o "pop" apos) [e] [] cpos) (dBM sPopAt to (dCons te dNil)) :=
  de_bm PySem.F.slot_list_pop PySem.F.type_list_pop mt_popAt simM_popAt ho (da_cons ha da_nil hst) hbase hfew hline hst hplain
end
end DL
set_option Elab.async false
set_option linter.all false
set_option maxRecDepth 100000
set_option maxHeartbeats 4000000
namespace DL
open PySem PySem.Spec PyProof.Rows L2

/-- the built-in types that are asked for -/
inductive B4 where
  | i | b | s | t
def B4.n : B4 → String
  | .i => "int"
  | .b => "bool"
  | .s => "str"
  | .t => "tuple"
def isiD : B4 → D → Option Bool
  | .i, .int _ => some true
  | .i, .str _ => some false
  | .i, .tup _ => some false
  | .b, .int _ => some false
  | .b, .bl _ => some true
  | .s, .int _ => some false
  | .s, .str _ => some true
  | .t, .tup _ => some true
  | _, _ => none
theorem isiD_ok {T : B4} {d : D} {b : Bool} (h : isiD T d = some b) : ∃ t, tyD d = some t ∧ kitB t T.n = some b := by
  cases T <;> cases d <;> first | (cases h; done) | (cases h; exact ⟨_, rfl, by decide +kernel⟩)
def dIsi (T : B4) (te : DTE) : DTE := fun Γ g Q => te Γ g fun d g1 => ∃ b, isiD T d = some b ∧ Q (.bl b) g1
theorem ty_im {K : PySem.W.Frag} {H : Hp} {d : D} {v : V} {t : String} (h : Im K H d v) (e : tyD d = some t) : TyX K H v (.type t) := by
  cases d with
  | non => cases e; cases (show v = _ from h); exact .base .non
  | bl b => cases e; cases (show v = _ from h); exact .base (.bl b)
  | int b => cases e; cases (show v = _ from h); exact .base (.int b)
  | str b => cases e; cases (show v = _ from h); exact .base (.str b)
  | adr a => cases e
  | own a => cases e
  | tup ds =>
    cases e
    obtain ⟨a, xs, rfl, h1, _⟩ := h
    rcases h1 with (h1 | ⟨o, h1⟩) | ⟨o, its, n, h1, h2, _⟩
    · exact .base (.tup h1)
    · exact .fTuple h1
    · exact .kTuple h1 h2
  | fz ds =>
    cases e
    obtain ⟨a, xs, rfl, h1, _⟩ := h
    rcases h1 with ⟨o, h1⟩ | ⟨o, its, n, h1, h2, _⟩
    · exact .base (.frz h1)
    · exact .kList h1 h2
section
variable {X : Cx} {e : Expr} {te : DTE} {p p2 pos : Pos} {x : Str}
theorem de_isi (T : B4) (ha : DE X e te) (hm : X.mg "isinstance" = none) (hmT : X.mg x = none) (hv : bootBuiltins x = some (.type T.n)) (hg : Gl X "isinstance" := by rfl) (hgT : Gl X x := by rfl) (hn : x ≠ "__name__" := by decide) (hdb : (x == ("__debug__" : Str)) = false := by decide)
    (hs1 : starEach [e, .Name x p2] X.env = (false, eval e X.env) :: starEach [.Name x p2] X.env := by rfl) (hs2 : starEach [.Name x p2] X.env = (false, eval (.Name x p2) X.env) :: starEach [] X.env := by rfl) (hpl : (backTo pos (starEach [.Name x p2] X.env)).any (·.1) = false := by rfl) :
    DE X (.Call (.Name "isinstance" p) [e, .Name x p2] [] pos) (dIsi T te) := by
  obtain ⟨xa, pa, sa⟩ := ha
  refine ⟨_, pe_callB call_isi hg hm (by decide +kernel) (pa_cons pa (pa_cons (pe_bltn (v := .ty T.n) hgT hmT hv rfl hn hdb) pa_nil hs2) hs1) (by decide) (by decide) hs1 hpl, fun σ H Γ g Q Q' hG hH k h => ?_⟩
  refine sa σ H Γ g _ _ hG hH (fun d g1 v H1 t1 i1 hH1 q1 => ?_) h
  obtain ⟨b, e0, q⟩ := q1
  obtain ⟨t, e1, e2⟩ := isiD_ok e0
  exact ⟨v, .ty T.n, .type t, .type T.n, b, rfl, .ty T.n, ty_im i1 e1, kit_ty e2, k _ g1 _ H1 t1 im_b hH1 q⟩
/-- xs[i] = v -/
def gSetL (to ti : DTE) : DTG := fun v Γ g Q => to Γ g fun o g1 => ti Γ g1 fun i g2 => ∃ l xs n j, o = .adr l ∧ i = .int n ∧ g2 l = some (.lst xs) ∧ ixN xs.length n = some j ∧ Q Γ (gup g2 l (.lst (xs.set j v)))
theorem dg_setL {o i : Expr} {to ti : DTE} (ho : DE X o to) (hi : DE X i ti) (ha : ∀ v, assign (.Subscript o i pos) X.env v = (do
      let ov ← holding [v] (eval o X.env)
      let iv ← holding [v, ov] (eval i X.env)
      standAt pos
      holding [v, ov, iv] (setItem ov iv v)
      release [v, ov, iv] []) := by intro _; rfl) : DG X (.Subscript o i pos) (gSetL to ti) := by
  obtain ⟨xo, po, so⟩ := ho
  obtain ⟨xi, pi, si⟩ := hi
  refine ⟨_, pg_sub po pi set_list ha, fun d v σ H Γ g Q Q' im hG hH k h => ?_⟩
  refine so σ H Γ g _ _ hG hH (fun d1 g1 v1 H1 t1 i1 hH1 q1 => ?_) h
  refine si σ H1 Γ g1 _ _ (hG.mono t1) hH1 (fun d2 g2 v2 H2 t2 i2 hH2 q2 => ?_) q1
  obtain ⟨l, xs, n, j, rfl, rfl, h1, h2, q⟩ := q2
  obtain ⟨ws, e1, e2⟩ := hH2 l _ h1
  have t4 : TupX X.K H2 (upd H2 l (.lst (ws.set j v))) := tupX_upd (by rw [e1]; trivial)
  have t := (t1.trans t2).trans t4
  exact ⟨l, ws, n, j, i1, i2, e1, by rw [e2.length]; exact h2, k Γ _ σ _ t (hG.mono t) (hH2.put t4 (okg_l upd_same ((ImL.set (im.mono (t1.trans t2)) j e2).mono t4))) q⟩
end

/-! ### while, for -/
def dWhile (c : DTT) (tb : DTS) : DTS := fun F Γ g => ∃ (P : Gm → G → Prop) (μ : Gm → G → Nat), P Γ g ∧ ∀ Γ g, P Γ g →
  c Γ g fun b g1 => if b = true then tb { F with nx := fun Γ' g' => P Γ' g' ∧ μ Γ' g' < μ Γ g, ct := fun Γ' g' => P Γ' g' ∧ μ Γ' g' < μ Γ g, bk := F.nx } Γ g1 else F.nx Γ g1
/-- over a list at an address that the body leaves as it is, or a tuple, or a range: its items -/
def dForI (ds : List D) (keep : G → Prop) (tg : DTG) (tb : DTS) : DTS := fun F Γ g => ∃ P : Nat → Gm → G → Prop, P 0 Γ g ∧ (∀ i Γ g, i ≤ ds.length → P i Γ g → keep g) ∧
  (∀ i x Γ g, ds[i]? = some x → P i Γ g → tg x Γ g fun Γ2 g2 => tb { F with nx := P (i + 1), ct := P (i + 1), bk := F.nx } Γ2 g2) ∧ ∀ Γ g, P ds.length Γ g → F.nx Γ g
def dForL (tl : DTE) (tg : DTG) (tb : DTS) : DTS := fun F Γ g => tl Γ g fun x g1 => ∃ a ds, x = .adr a ∧ dForI ds (fun g => g a = some (.lst ds)) tg tb F Γ g1
def dForT (tl : DTE) (tg : DTG) (tb : DTS) : DTS := fun F Γ g => tl Γ g fun x g1 => ∃ ds, x = .tup ds ∧ dForI ds (fun _ => True) tg tb F Γ g1
def rng (lo : Int) (n : Nat) : List D := (List.range n).map fun (i : Nat) => D.int (lo + (i : Int))
def dForR (ta : DTE) (tg : DTG) (tb : DTS) : DTS := fun F Γ g => ta Γ g fun x g1 => ∃ n : Int, x = .int n ∧ -1000000 ≤ n ∧ n ≤ 1000000 ∧ dForI (rng 0 n.toNat) (fun _ => True) tg tb F Γ g1
theorem rng_get {lo : Int} {n i : Nat} {x : D} : (rng lo n)[i]? = some x ↔ i < n ∧ x = .int (lo + i) := by
  unfold rng
  rw [List.getElem?_map]
  by_cases h : i < n
  · rw [List.getElem?_range h]
    simp only [Option.map_some, Option.some.injEq]
    exact ⟨fun e => ⟨h, e.symm⟩, fun e => e.2.symm⟩
  · rw [List.getElem?_eq_none (by rw [List.length_range]; omega)]
    simp [h]
theorem rng_len {lo : Int} {n : Nat} : (rng lo n).length = n := by simp [rng]
section
variable {X : Cx} {c e : Expr} {tc : DTT} {tb : DTS} {te : DTE} {tg : DTG} {tgE : Expr} {body : List Stmt} {pos p : Pos}
theorem ds_while (hc : DB X c tc) (hb : DSs X body tb) (hp : PassesOwn (model X.prog X.w) X.A X.env X.xe := by exact PassesOwn.never) : DS X (.While c body [] pos) (dWhile tc tb) := by
  obtain ⟨xc, pc, sc⟩ := hc
  obtain ⟨xb, pb, sb⟩ := hb
  refine ⟨_, ps_while hp pc pb, fun σ H Γ g F E hG hH l h => ?_⟩
  obtain ⟨P, μ, h0, hs⟩ := h
  refine ⟨fun m σ' H' => ∃ Γ' g', TupX X.K H H' ∧ GR X.K H' Γ' σ' ∧ HR X.K H' g' ∧ P Γ' g' ∧ m = μ Γ' g', ⟨_, Γ, g, TupX.refl H, hG, hH, h0, rfl⟩, ?_⟩
  rintro m σ1 H1 ⟨Γ1, g1, t1, hG1, hH1, p1, rfl⟩
  refine sc σ1 H1 Γ1 g1 _ _ hG1 hH1 (fun b g2 H2 t2 hH2 q2 => ?_) (hs Γ1 g1 p1)
  have t12 := t1.trans t2
  cases b with
  | true =>
    refine ⟨fun σ' H' => ∃ Γ' g', TupX X.K H H' ∧ GR X.K H' Γ' σ' ∧ HR X.K H' g' ∧ P Γ' g' ∧ μ Γ' g' < μ Γ1 g1, fun σ' H' ⟨Γ', g', a1, a2, a3, a4, a5⟩ => ⟨_, a5, Γ', g', a1, a2, a3, a4, rfl⟩, ?_⟩
    exact sb σ1 H2 Γ1 g2 { F with nx := fun Γ' g' => P Γ' g' ∧ μ Γ' g' < μ Γ1 g1, ct := fun Γ' g' => P Γ' g' ∧ μ Γ' g' < μ Γ1 g1, bk := F.nx } _ (hG1.mono t2) hH2 ⟨fun Γ' g' σ' H' t' a2 a3 q => ⟨Γ', g', t12.trans t', a2, a3, q.1, q.2⟩, fun d g' v H' t' => l.rt d g' v H' (t12.trans t'), fun Γ' g' σ' H' t' => l.nx Γ' g' σ' H' (t12.trans t'), fun Γ' g' σ' H' t' a2 a3 q => ⟨Γ', g', t12.trans t', a2, a3, q.1, q.2⟩⟩ q2
  | false => exact l.nx Γ1 g2 σ1 H2 t12 (hG1.mono t2) hH2 q2
/-- one turn of a for over items -/
theorem turn_of {K : PySem.W.Frag} {tgR : TG} {xb : TS} {H : Hp} {F : DEnds} {E : Ends} {ds : List D} {P : Nat → Gm → G → Prop} (sg : SimG K tgR tg) (sb : SimS K xb tb) (l : Lft K H F E)
    (hs : ∀ i x Γ g, ds[i]? = some x → P i Γ g → tg x Γ g fun Γ2 g2 => tb { F with nx := P (i + 1), ct := P (i + 1), bk := F.nx } Γ2 g2) {i : Nat} {x : D} {v : V} {σ' : L2.St} {H' : Hp} (hx : ds[i]? = some x) (iv : Im K H' x v)
    (p : ∃ Γ' g', TupX K H H' ∧ GR K H' Γ' σ' ∧ HR K H' g' ∧ P i Γ' g') :
    tgR v σ' H' fun σ2 H2 => xb { E with nx := fun σ' H' => ∃ Γ' g', TupX K H H' ∧ GR K H' Γ' σ' ∧ HR K H' g' ∧ P (i + 1) Γ' g', ct := fun σ' H' => ∃ Γ' g', TupX K H H' ∧ GR K H' Γ' σ' ∧ HR K H' g' ∧ P (i + 1) Γ' g', bk := E.nx } σ2 H2 := by
  obtain ⟨Γ', g', t1, hG1, hH1, p1⟩ := p
  refine sg x v σ' H' Γ' g' _ _ iv hG1 hH1 (fun Γ2 g2 σ2 H2 t2 hG2 hH2 q2 => ?_) (hs i x Γ' g' hx p1)
  have t12 := t1.trans t2
  exact sb σ2 H2 Γ2 g2 { F with nx := P (i + 1), ct := P (i + 1), bk := F.nx } _ hG2 hH2 ⟨fun Γ' g' σ' H' t' a2 a3 q => ⟨Γ', g', t12.trans t', a2, a3, q⟩, fun d g' v H' t' => l.rt d g' v H' (t12.trans t'), fun Γ' g' σ' H' t' => l.nx Γ' g' σ' H' (t12.trans t'), fun Γ' g' σ' H' t' a2 a3 q => ⟨Γ', g', t12.trans t', a2, a3, q⟩⟩ q2
theorem ds_forL (he : DE X e te) (hg : DG X tgE tg) (hb : DSs X body tb) (hc : X.calm = true := by rfl) (hp : PassesOwn (model X.prog X.w) X.A X.env X.xe := by exact PassesOwn.never) (hs : ∀ x, foldedSetIterable e X.env x = pure x := by intro _; rfl) : DS X (.For tgE e body [] pos) (dForL te tg tb) := by
  obtain ⟨xe, pe, se⟩ := he
  obtain ⟨xg, pg, sg⟩ := hg
  obtain ⟨xb, pb, sb⟩ := hb
  refine ⟨_, ps_for hp hc (pi_list pe) pg pb hs, fun σ H Γ g F E hG hH l h => ?_⟩
  refine se σ H Γ g _ _ hG hH (fun d g1 v H1 t1 i1 hH1 q1 => ?_) h
  obtain ⟨a, ds, rfl, P, h0, hk, ht, hd⟩ := q1
  obtain ⟨xs, e1, e2⟩ := hH1 a _ (hk 0 _ _ (Nat.zero_le _) h0)
  cases (show v = V.ref a from i1)
  refine ⟨a, rfl, ⟨xs, SqL.of e1⟩, ?_⟩
  have l1 := l.mono t1
  -- the list stands: its values may be named by any state
  refine ⟨fun i m σ' H' => m = ds.length - i ∧ i ≤ ds.length ∧ ∃ Γ' g', TupX X.K H1 H' ∧ GR X.K H' Γ' σ' ∧ HR X.K H' g' ∧ P i Γ' g', ⟨ds.length, by simp, Nat.zero_le _, Γ, g1, TupX.refl H1, hG.mono t1, hH1, h0⟩, ?_⟩
  rintro i m σ' H' ⟨rfl, hi, hp'⟩
  obtain ⟨Γ', g', t2, hG2, hH2, p2⟩ := id hp'
  obtain ⟨ys, f1, f2⟩ := hH2 a _ (hk i _ _ hi p2)
  by_cases hlt : i < ds.length
  · obtain ⟨u, hu, iu⟩ := f2.get (List.getElem?_eq_getElem hlt)
    refine .inr ⟨⟨ys, u, SqL.of f1, hu⟩, _, fun σ2 H2 p' => ⟨ds.length - (i + 1), by omega, rfl, hlt, p'⟩, fun x H2 y => ?_⟩
    obtain ⟨rfl, y⟩ := y
    have ex := y ys (SqL.of f1)
    rw [hu] at ex
    cases ex
    exact turn_of sg sb l1 ht (List.getElem?_eq_getElem hlt) iu hp'
  · have e : i = ds.length := by omega
    subst e
    exact .inl ⟨⟨ys, SqL.of f1, by rw [f2.length]; exact Nat.le_refl _⟩, l1.nx Γ' g' σ' H' t2 hG2 hH2 (hd Γ' g' p2)⟩
theorem ds_forT (he : DE X e te) (hg : DG X tgE tg) (hb : DSs X body tb) (hc : X.calm = true := by rfl) (hp : PassesOwn (model X.prog X.w) X.A X.env X.xe := by exact PassesOwn.never) (hs : ∀ x, foldedSetIterable e X.env x = pure x := by intro _; rfl) : DS X (.For tgE e body [] pos) (dForT te tg tb) := by
  obtain ⟨xe, pe, se⟩ := he
  obtain ⟨xg, pg, sg⟩ := hg
  obtain ⟨xb, pb, sb⟩ := hb
  refine ⟨_, ps_for hp hc (pi_tup pe) pg pb hs, fun σ H Γ g F E hG hH l h => ?_⟩
  refine se σ H Γ g _ _ hG hH (fun d g1 v H1 t1 i1 hH1 q1 => ?_) h
  obtain ⟨ds, rfl, P, h0, hk, ht, hd⟩ := q1
  obtain ⟨a, xs, rfl, e1, e2⟩ := i1
  refine ⟨a, rfl, ⟨xs, e1⟩, ?_⟩
  have l1 := l.mono t1
  refine for_tup (K := X.K) (a := a) (xs := xs) (fun i σ' H' => ∃ Γ' g', TupX X.K H1 H' ∧ GR X.K H' Γ' σ' ∧ HR X.K H' g' ∧ P i Γ' g') ⟨Γ, g1, TupX.refl H1, hG.mono t1, hH1, h0⟩ (fun i σ' H' _ ⟨_, _, t', _⟩ => t'.1 a xs e1) (fun i x σ' H' hx p' => ?_) (fun σ' H' ⟨Γ', g', t2, hG2, hH2, p2⟩ => ?_)
  · obtain ⟨d, hd', iu⟩ := e2.getV hx
    obtain ⟨_, _, t', _⟩ := id p'
    exact turn_of sg sb l1 ht hd' (iu.mono t') p'
  · rw [e2.length] at p2
    exact l1.nx Γ' g' σ' H' t2 hG2 hH2 (hd Γ' g' p2)
theorem ds_forR (he : DE X e te) (hg : DG X tgE tg) (hb : DSs X body tb) (hm : X.mg "range" = none) (hgl : Gl X "range" := by rfl) (hc : X.calm = true := by rfl) (hp : PassesOwn (model X.prog X.w) X.A X.env X.xe := by exact PassesOwn.never)
    (hst : starEach [e] X.env = [(false, eval e X.env)] := by rfl) (hs : ∀ x, foldedSetIterable (.Call (.Name "range" p) [e] [] pos) X.env x = pure x := by intro _; rfl) {pos' : Pos} : DS X (.For tgE (.Call (.Name "range" p) [e] [] pos) body [] pos') (dForR te tg tb) := by
  obtain ⟨xe, pe, se⟩ := he
  obtain ⟨xg, pg, sg⟩ := hg
  obtain ⟨xb, pb, sb⟩ := hb
  refine ⟨_, ps_for hp hc (pi_range1 hgl hm (pa_cons pe pa_nil hst) hst) pg pb hs, fun σ H Γ g F E hG hH l h => ?_⟩
  refine se σ H Γ g _ _ hG hH (fun d g1 v H1 t1 i1 hH1 q1 => ?_) h
  obtain ⟨n, rfl, h1, h2, P, h0, hk, ht, hd⟩ := q1
  cases (show v = V.int n from i1)
  refine ⟨n, rfl, by omega, by omega, ?_⟩
  have l1 := l.mono t1
  refine for_range (lo := 0) (n := n.toNat) (fun i σ' H' => ∃ Γ' g', TupX X.K H1 H' ∧ GR X.K H' Γ' σ' ∧ HR X.K H' g' ∧ P i Γ' g') ⟨Γ, g1, TupX.refl H1, hG.mono t1, hH1, h0⟩ (fun i σ' H' hi p' => ?_) (fun σ' H' ⟨Γ', g', t2, hG2, hH2, p2⟩ => ?_)
  · exact turn_of sg sb l1 ht (rng_get.mpr ⟨hi, rfl⟩) im_i p'
  · rw [← rng_len (lo := 0) (n := n.toNat)] at p2
    exact l1.nx Γ' g' σ' H' t2 hG2 hH2 (hd Γ' g' p2)
end
end DL
set_option Elab.async false
set_option linter.all false
set_option maxRecDepth 100000
set_option maxHeartbeats 4000000
namespace DL
open PySem PySem.Spec PyProof.Rows L2
theorem u65 {k : Nat} {A : Around} (r : Room k A) : A.units + 65 < cLine := by have := r.un; omega
section
variable {X : Cx} {a b c e : Expr} {ta tb tc t : DTE} {pos : Pos}
theorem db_chain {op op' : CmpOp} {r r' : R2} {s s' : D → D → G → DK → Prop} (ho : OpR X (compareOp op) r) (hs : SimR X.K r s) (ho' : OpR X (compareOp op') r') (hs' : SimR X.K r' s') (ha : DE X a ta) (hb : DE X b tb) (hc : DE X c tc)
    (hm : lastMarks [op, op'] [b, c] = false := by rfl) : DB X (.Compare a [op, op'] [b, c] pos) (dVal (dChain s s' ta tb tc)) := by
  obtain ⟨xa, pa, sa⟩ := ha
  obtain ⟨xb, pb, sb⟩ := hb
  obtain ⟨xc, pc, sc⟩ := hc
  refine ⟨_, pt_chain ho ho' pa pb pc hm, fun σ H Γ g Q Q' hG hH k h => ?_⟩
  refine sa σ H Γ g _ _ hG hH (fun d g1 v H1 t1 i1 hH1 q1 => ?_) h
  refine sb σ H1 Γ g1 _ _ (hG.mono t1) hH1 (fun d2 g2 v2 H2 t2 i2 hH2 q2 => ?_) q1
  refine hs H2 g2 d d2 v v2 _ _ (i1.mono t2) i2 hH2 (fun d3 g3 v3 H3 t3 i3 hH3 q3 => ?_) q2
  obtain ⟨z, rfl, q3⟩ := q3
  refine ⟨z, i3, ?_⟩
  cases z with
  | false =>
    obtain ⟨y, e, q⟩ := q3
    cases e
    exact ⟨false, rfl, k false g3 H3 ((t1.trans t2).trans t3) hH3 q⟩
  | true =>
    refine sc σ H3 Γ g3 _ _ (hG.mono ((t1.trans t2).trans t3)) hH3 (fun d4 g4 v4 H4 t4 i4 hH4 q4 => ?_) q3
    exact hs' H4 g4 d2 d4 v2 v4 _ _ (i2.mono (t3.trans t4)) i4 hH4 (fun d5 g5 v5 H5 t5 i5 hH5 q5 => by
      obtain ⟨y, rfl, q⟩ := q5
      exact ⟨y, i5, k y g5 H5 (((t1.trans t2).trans t3).trans (t4.trans t5)) hH5 q⟩) q4
end
end DL
set_option Elab.async false
set_option linter.all false
set_option maxRecDepth 100000
set_option maxHeartbeats 4000000
namespace DL
open PySem PySem.Spec PyProof.Rows L2

/-! ### what is walked -/
/-- the data ds, while keep holds -/
structure Src (K : PySem.W.Frag) (J : L2.It) (ds : List D) (keep : G → Prop) (H1 : Hp) : Prop where
  go : ∀ i H g, TupX K H1 H → HR K H g → keep g → i < ds.length → J.go i H
  yld : ∀ i H g x H', TupX K H1 H → HR K H g → keep g → i < ds.length → J.yld i H x H' → ∃ d, ds[i]? = some d ∧ Im K H' d x ∧ TupX K H H' ∧ HR K H' g
  stop : ∀ i H g, TupX K H1 H → HR K H g → keep g → ds.length ≤ i → J.stop i H
abbrev DTI := Gm → G → (List D → (G → Prop) → G → Prop) → Prop
def SimI (K : PySem.W.Frag) (wi : TI) (t : DTI) : Prop := ∀ (σ : L2.St) (H : Hp) (Γ : Gm) (g : G) (Q : List D → (G → Prop) → G → Prop) (R : L2.It → Hp → Prop), GR K H Γ σ → HR K H g →
  (∀ J ds keep g' H', TupX K H H' → HR K H' g' → Src K J ds keep H' → Q ds keep g' → R J H') → t Γ g Q → wi σ H R
structure DI (X : Cx) (tg iter : Expr) (t : DTI) : Prop where
  ex : ∃ wi, PI X tg iter wi ∧ SimI X.K wi t
def iL (te : DTE) : DTI := fun Γ g Q => te Γ g fun x g1 => ∃ a ds, x = .adr a ∧ g1 a = some (.lst ds) ∧ Q ds (fun g => g a = some (.lst ds)) g1
def iT (te : DTE) : DTI := fun Γ g Q => te Γ g fun x g1 => ∃ ds, x = .tup ds ∧ Q ds (fun _ => True) g1
def iR (te : DTE) : DTI := fun Γ g Q => te Γ g fun x g1 => ∃ n : Int, x = .int n ∧ (-1000000 ≤ n ∧ n ≤ 1000000) ∧ Q (rng 0 n.toNat) (fun _ => True) g1
def enumD : Nat → List D → List D
  | _, [] => []
  | i, d :: r => .tup [.int i, d] :: enumD (i + 1) r
theorem enumD_len : ∀ (ds : List D) (k : Nat), (enumD k ds).length = ds.length
  | [], _ => rfl
  | _ :: r, k => by rw [enumD, List.length_cons, List.length_cons, enumD_len r]
theorem enumD_get : ∀ (ds : List D) (k i : Nat), (enumD k ds)[i]? = (ds[i]?).map fun d => D.tup [.int ((k + i : Nat) : Int), d]
  | [], _, _ => rfl
  | d :: r, k, 0 => rfl
  | d :: r, k, i + 1 => by
    rw [enumD, List.getElem?_cons_succ, List.getElem?_cons_succ, enumD_get r (k + 1) i, show k + 1 + i = k + (i + 1) by omega]
def iEL (te : DTE) : DTI := fun Γ g Q => te Γ g fun x g1 => ∃ a ds, x = .adr a ∧ g1 a = some (.lst ds) ∧ Q (enumD 0 ds) (fun g => g a = some (.lst ds)) g1
section
variable {X : Cx} {e tgE : Expr} {te : DTE} {p pos tpos : Pos}
theorem di_list (he : DE X e te) : DI X tgE e (iL te) := by
  obtain ⟨xe, pe, se⟩ := he
  refine ⟨_, pi_list pe, fun σ H Γ g Q R hG hH k h => ?_⟩
  refine se σ H Γ g _ _ hG hH (fun d g1 v H1 t1 i1 hH1 q1 => ?_) h
  obtain ⟨a, ds, rfl, hg, q⟩ := q1
  obtain ⟨xs, e1, e2⟩ := hH1 a _ hg
  refine ⟨a, i1, ⟨xs, SqL.of e1⟩, k _ ds _ g1 H1 t1 hH1 ⟨fun i H g _ hH hk hi => ?_, fun i H g x H' _ hH hk hi y => ?_, fun i H g _ hH hk hi => ?_⟩ q⟩
  · obtain ⟨ys, f1, f2⟩ := hH a _ hk
    obtain ⟨u, hu, iu⟩ := f2.get (List.getElem?_eq_getElem hi)
    exact ⟨ys, u, SqL.of f1, hu⟩
  · obtain ⟨ys, f1, f2⟩ := hH a _ hk
    obtain ⟨u, hu, iu⟩ := f2.get (List.getElem?_eq_getElem hi)
    obtain ⟨rfl, y⟩ := y
    have ex := y ys (SqL.of f1)
    rw [hu] at ex
    cases ex
    exact ⟨_, List.getElem?_eq_getElem hi, iu, TupX.refl _, hH⟩
  · obtain ⟨ys, f1, f2⟩ := hH a _ hk
    exact ⟨ys, SqL.of f1, by rw [f2.length]; exact hi⟩
theorem di_tup (he : DE X e te) : DI X tgE e (iT te) := by
  obtain ⟨xe, pe, se⟩ := he
  refine ⟨_, pi_tup pe, fun σ H Γ g Q R hG hH k h => ?_⟩
  refine se σ H Γ g _ _ hG hH (fun d g1 v H1 t1 i1 hH1 q1 => ?_) h
  obtain ⟨ds, rfl, q⟩ := q1
  obtain ⟨a, xs, rfl, e1, e2⟩ := i1
  refine ⟨a, rfl, ⟨xs, e1⟩, k _ ds _ g1 H1 t1 hH1 ⟨fun i H g t hH hk hi => ?_, fun i H g x H' t hH hk hi y => ?_, fun i H g t hH hk hi => ?_⟩ q⟩
  · obtain ⟨u, hu, iu⟩ := e2.get (List.getElem?_eq_getElem hi)
    exact ⟨xs, u, t.1 a xs e1, hu⟩
  · obtain ⟨u, hu, iu⟩ := e2.get (List.getElem?_eq_getElem hi)
    obtain ⟨rfl, y⟩ := y
    have ex := y xs (t.1 a xs e1)
    rw [hu] at ex
    cases ex
    exact ⟨_, List.getElem?_eq_getElem hi, iu.mono t, TupX.refl _, hH⟩
  · exact ⟨xs, t.1 a xs e1, by rw [e2.length]; exact hi⟩
theorem di_range (he : DE X e te) (hm : X.mg "range" = none) (hgl : Gl X "range" := by rfl) (hst : starEach [e] X.env = [(false, eval e X.env)] := by rfl) : DI X tgE (.Call (.Name "range" p) [e] [] pos) (iR te) := by
  obtain ⟨xe, pe, se⟩ := he
  refine ⟨_, pi_range1 hgl hm (pa_cons pe pa_nil hst) hst, fun σ H Γ g Q R hG hH k h => ?_⟩
  refine se σ H Γ g _ _ hG hH (fun d g1 v H1 t1 i1 hH1 q1 => ?_) h
  obtain ⟨n, rfl, ⟨h1, h2⟩, q⟩ := q1
  cases (show v = V.int n from i1)
  refine ⟨n, rfl, by omega, by omega, k _ _ _ g1 H1 t1 hH1 ⟨fun i H g t hH hk hi => ?_, fun i H g x H' t hH hk hi y => ?_, fun i H g t hH hk hi => ?_⟩ q⟩
  · rw [rng_len] at hi
    exact hi
  · rw [rng_len] at hi
    obtain ⟨rfl, rfl⟩ := y
    exact ⟨_, rng_get.mpr ⟨hi, rfl⟩, im_i, TupX.refl _, hH⟩
  · rw [rng_len] at hi
    exact hi
theorem di_enumL {elts : List Expr} {kk : Nat} (he : DE X e te) (hm : X.mg "enumerate" = none) (hgl : Gl X "enumerate" := by rfl) (hst : starEach [e] X.env = [(false, eval e X.env)] := by rfl) : DI X (.Tuple elts kk tpos) (.Call (.Name "enumerate" p) [e] [] pos) (iEL te) := by
  obtain ⟨xe, pe, se⟩ := he
  refine ⟨_, pi_enum hgl hm (pa_cons pe pa_nil hst) hst, fun σ H Γ g Q R hG hH k h => ?_⟩
  refine se σ H Γ g _ _ hG hH (fun d g1 v H1 t1 i1 hH1 q1 => ?_) h
  obtain ⟨a, ds, rfl, hg, q⟩ := q1
  obtain ⟨xs, e1, e2⟩ := hH1 a _ hg
  refine ⟨a, xs, by rw [show v = V.ref a from i1], SqL.of e1, k _ _ _ g1 H1 t1 hH1 ⟨fun i H g _ hH hk hi => ?_, fun i H g x H' _ hH hk hi y => ?_, fun i H g _ hH hk hi => ?_⟩ q⟩
  · rw [enumD_len] at hi
    obtain ⟨ys, f1, f2⟩ := hH a _ hk
    obtain ⟨u, hu, iu⟩ := f2.get (List.getElem?_eq_getElem hi)
    exact ⟨ys, u, SqL.of f1, hu⟩
  · rw [enumD_len] at hi
    obtain ⟨ys, f1, f2⟩ := hH a _ hk
    obtain ⟨u, hu, iu⟩ := f2.get (List.getElem?_eq_getElem hi)
    obtain ⟨T, x', rfl, hT, rfl, y⟩ := y
    have ex := y ys (SqL.of f1)
    rw [hu] at ex
    cases ex
    have t4 : TupX X.K H (upd H T (.tup [.int (i : Nat), u])) := tupX_new hT
    refine ⟨_, ?_, im_t (SqT.of upd_same) (imL_c im_i (ImL.one (iu.mono t4))), t4, hH.new hT⟩
    rw [enumD_get, List.getElem?_eq_getElem hi, Nat.zero_add]
    rfl
  · rw [enumD_len] at hi
    obtain ⟨ys, f1, f2⟩ := hH a _ hk
    exact ⟨ys, SqL.of f1, by rw [f2.length]; exact hi⟩
end
/-! ### for -/
def dFor (ti : DTI) (tg : DTG) (tb : DTS) : DTS := fun F Γ g => ti Γ g fun ds keep g1 => dForI ds keep tg tb F Γ g1
section
variable {X : Cx} {tgE iter : Expr} {ti : DTI} {tg : DTG} {tb : DTS} {body : List Stmt} {pos : Pos}
theorem ds_for (hi : DI X tgE iter ti) (hg : DG X tgE tg) (hb : DSs X body tb) (hc : X.calm = true := by rfl) (hp : PassesOwn (model X.prog X.w) X.A X.env X.xe := by exact PassesOwn.never) (hs : ∀ x, foldedSetIterable iter X.env x = pure x := by intro _; rfl) : DS X (.For tgE iter body [] pos) (dFor ti tg tb) := by
  obtain ⟨xi, pi, si⟩ := hi
  obtain ⟨xg, pg, sg⟩ := hg
  obtain ⟨xb, pb, sb⟩ := hb
  refine ⟨_, ps_for hp hc pi pg pb hs, fun σ H Γ g F E hG hH l h => ?_⟩
  refine si σ H Γ g _ _ hG hH (fun J ds keep g1 H1 t1 hH1 src q1 => ?_) h
  obtain ⟨P, h0, hk, ht, hd⟩ := q1
  have l1 := l.mono t1
  refine ⟨fun i m σ' H' => m = ds.length - i ∧ i ≤ ds.length ∧ ∃ Γ' g', TupX X.K H1 H' ∧ GR X.K H' Γ' σ' ∧ HR X.K H' g' ∧ P i Γ' g', ⟨ds.length, by simp, Nat.zero_le _, Γ, g1, TupX.refl H1, hG.mono t1, hH1, h0⟩, ?_⟩
  rintro i m σ' H' ⟨rfl, hi, Γ', g', t2, hG2, hH2, p2⟩
  have kp := hk i _ _ hi p2
  by_cases hlt : i < ds.length
  · refine .inr ⟨src.go i H' g' t2 hH2 kp hlt, _, fun σ2 H2 p' => ⟨ds.length - (i + 1), by omega, rfl, hlt, p'⟩, fun x H2 y => ?_⟩
    obtain ⟨d, hd', iv, t3, hH3⟩ := src.yld i H' g' x H2 t2 hH2 kp hlt y
    exact turn_of sg sb l1 ht hd' iv ⟨Γ', g', t2.trans t3, hG2.mono t3, hH3, p2⟩
  · have e : i = ds.length := by omega
    subst e
    exact .inl ⟨src.stop _ H' g' t2 hH2 kp (Nat.le_refl _), l1.nx Γ' g' σ' H' t2 hG2 hH2 (hd Γ' g' p2)⟩
end

/-! ### comprehensions -/
theorem wipe_get (σ : L2.St) (j : Nat) : ∀ vs : List Nat, (L2.wipe σ vs)[j]? = if j ∈ vs then (σ[j]?).map (fun _ => none) else σ[j]?
  | [] => by simp [L2.wipe]
  | v :: vs => by
    unfold L2.wipe
    by_cases e : v = j
    · subst e
      rw [List.getElem?_set]
      simp only [List.mem_cons, true_or, if_true]
      by_cases hv : v < (L2.wipe σ vs).length
      · rw [if_pos hv]
        rw [wipe_length] at hv
        rw [List.getElem?_eq_getElem hv]
        rfl
      · rw [if_neg hv]
        rw [wipe_length] at hv
        rw [List.getElem?_eq_none (by omega)]
        rfl
    · rw [List.getElem?_set_ne e, wipe_get σ j vs]
      have : (j ∈ v :: vs) ↔ j ∈ vs := by simp [List.mem_cons, Ne.symm e]
      by_cases hj : j ∈ vs
      · rw [if_pos hj, if_pos (this.mpr hj)]
      · rw [if_neg hj, if_neg (fun z => hj (this.mp z))]
theorem wipe_set {σ : L2.St} {i : Nat} {x : Option V} {vs : List Nat} (h : i ∈ vs) : L2.wipe (σ.set i x) vs = L2.wipe σ vs := by
  apply List.ext_getElem?
  intro j
  rw [wipe_get, wipe_get]
  by_cases hj : j ∈ vs
  · rw [if_pos hj, if_pos hj]
    by_cases e : i = j
    · subst e
      by_cases hl : i < σ.length
      · rw [List.getElem?_set_self hl, List.getElem?_eq_getElem hl]
        rfl
      · rw [List.getElem?_eq_none (by rw [List.length_set]; omega), List.getElem?_eq_none (by omega)]
    · rw [List.getElem?_set_ne e]
  · rw [if_neg hj, if_neg hj, List.getElem?_set_ne (fun e => hj (by rw [← e]; exact h))]
theorem wipe_wipe {σ : L2.St} {vs : List Nat} : L2.wipe (L2.wipe σ vs) vs = L2.wipe σ vs := by
  apply List.ext_getElem?
  intro j
  rw [wipe_get, wipe_get]
  by_cases hj : j ∈ vs
  · rw [if_pos hj, if_pos hj, Option.map_map]
    rfl
  · rw [if_neg hj, if_neg hj]
def wipeG (Γ : Gm) : List Nat → Gm
  | [] => Γ
  | v :: vs => (wipeG Γ vs).set v none
theorem gr_wipe {K : PySem.W.Frag} {H : Hp} {Γ : Gm} {σ : L2.St} (h : GR K H Γ σ) : ∀ vs, GR K H (wipeG Γ vs) (L2.wipe σ vs)
  | [] => h
  | v :: vs => by
    have ih := gr_wipe h vs
    refine ⟨?_, fun i d e => ?_⟩
    · show ((wipeG Γ vs).set v none).length = ((L2.wipe σ vs).set v none).length
      rw [List.length_set, List.length_set]
      exact ih.1
    · have e : ((wipeG Γ vs).set v none)[i]? = some (some d) := e
      show ∃ u, ((L2.wipe σ vs).set v none)[i]? = some (some u) ∧ _
      by_cases hv : v = i
      · subst hv
        by_cases hl : v < (wipeG Γ vs).length
        · rw [List.getElem?_set_self hl] at e
          cases e
        · rw [List.getElem?_eq_none (by rw [List.length_set]; omega)] at e
          cases e
      · rw [List.getElem?_set_ne hv] at e ⊢
        exact ih.2 i d e
def SimGo (K : PySem.W.Frag) (vs : List Nat) (tg : TG) (t : DTG) : Prop := ∀ (d : D) (v : V) (σ : L2.St) (H : Hp) (Γ : Gm) (g : G) (Q : Gm → G → Prop) (Q' : L2.St → Hp → Prop), Im K H d v → GR K H Γ σ → HR K H g →
  (∀ Γ' g' σ' H', TupX K H H' → GR K H' Γ' σ' → HR K H' g' → L2.wipe σ' vs = L2.wipe σ vs → Q Γ' g' → Q' σ' H') → t d Γ g Q → tg v σ H Q'
def SimGos (K : PySem.W.Frag) (vs : List Nat) (tg : TGs) (t : DTGs) : Prop := ∀ (d : List D) (v : List V) (σ : L2.St) (H : Hp) (Γ : Gm) (g : G) (Q : Gm → G → Prop) (Q' : L2.St → Hp → Prop), ImL K H d v → GR K H Γ σ → HR K H g →
  (∀ Γ' g' σ' H', TupX K H H' → GR K H' Γ' σ' → HR K H' g' → L2.wipe σ' vs = L2.wipe σ vs → Q Γ' g' → Q' σ' H') → t d Γ g Q → tg v σ H Q'
/-- a target that writes none but the slots vs -/
structure DGo (X : Cx) (vs : List Nat) (e : Expr) (t : DTG) : Prop where
  ex : ∃ te, PG X e te ∧ SimGo X.K vs te t
structure DGos (X : Cx) (vs : List Nat) (es : List Expr) (t : DTGs) : Prop where
  ex : ∃ te, PGs X es te ∧ SimGos X.K vs te t
structure DTs (X : Cx) (ifs : List Expr) (t : DTT) : Prop where
  ex : ∃ te, PTs X ifs te ∧ SimT X.K te t
def dYes : DTT := fun _ g Q => Q true g
section
variable {X : Cx} {vs : List Nat} {e : Expr} {es : List Expr} {tg : DTG} {tgs : DTGs} {pos : Pos} {tt : DTT} {te : DTE}
theorem dgo_name (i : Nat) {x : Str} (hN : X.N.Nodup) (hv : i ∈ vs := by decide) (hi : X.N[i]? = some x := by rfl) (hx : Loc X.env.scope x := by first | exact Or.inl rfl | exact Or.inr rfl) (hf : X.fn x = true ∨ X.env.scope.names.lookup x = some .local := by first | exact .inl rfl | exact .inr rfl) :
    DGo X vs (.Name x pos) (gNm i) := ⟨_, pg_name hN hi hx hf, fun d v σ H Γ g Q Q' im hG hH k h => k _ _ _ _ (TupX.refl H) (hG.set im) hH (wipe_set hv) h⟩
theorem dgos_nil : DGos X vs [] gNl := ⟨_, pgs_nil, fun d v σ H Γ g Q Q' im hG hH k h => by
  obtain ⟨rfl, h⟩ := h
  cases (show v = [] from im)
  exact ⟨rfl, k _ _ _ _ (TupX.refl H) hG hH rfl h⟩⟩
theorem dgos_cons (h1 : DGo X vs e tg) (h2 : DGos X vs es tgs) (hs : (assignEach (e :: es) X.env).map (·.2) = assign e X.env :: (assignEach es X.env).map (·.2) := by rfl) : DGos X vs (e :: es) (gCs tg tgs) := by
  obtain ⟨x1, p1, s1⟩ := h1
  obtain ⟨x2, p2, s2⟩ := h2
  refine ⟨_, pgs_cons p1 p2 hs, fun d v σ H Γ g Q Q' im hG hH k h => ?_⟩
  obtain ⟨d1, ds, rfl, h⟩ := h
  obtain ⟨v1, us, rfl, i1, i2⟩ := im
  exact ⟨v1, us, rfl, s1 d1 v1 σ H Γ g _ _ i1 hG hH (fun Γ' g' σ' H' t hG' hH' w1 q => s2 ds us σ' H' Γ' g' _ _ (i2.mono t) hG' hH' (fun Γ2 g2 σ2 H2 t2 hG2 hH2 w2 q2 => k Γ2 g2 σ2 H2 (t.trans t2) hG2 hH2 (w2.trans w1) q2) q) h⟩
theorem dgo_tup {k : Nat} {n : Nat} (h : DGos X vs es tgs) (hc : X.calm = true := by rfl) (hn : (assignEach es X.env).length = n := by rfl) (hst : (assignEach es X.env).findIdx? (·.1) = none := by rfl) : DGo X vs (.Tuple es k pos) (gTp n tgs) := by
  obtain ⟨x1, p1, s1⟩ := h
  refine ⟨_, pg_tup hc p1 hn hst, fun d v σ H Γ g Q Q' im hG hH k h => ?_⟩
  obtain ⟨ds, rfl, hl, h⟩ := h
  obtain ⟨a, xs, rfl, ht, il⟩ := im
  exact ⟨a, xs, rfl, ht, by rw [il.length, hl], s1 ds xs σ H Γ g _ _ il hG hH k h⟩
theorem dts_nil : DTs X [] dYes := ⟨_, pts_nil, fun σ H Γ g Q Q' hG hH k h => k true g H (TupX.refl H) hH h⟩
theorem dts_one (h : DB X e tt) : DTs X [e] tt := by
  obtain ⟨x, p, s⟩ := h
  exact ⟨_, pts_one p, s⟩
/-! readings that are the same in each context -/
def liftG (K : PySem.W.Frag) (vs : List Nat) (t : DTG) : TG := fun v σ H Q' => ∃ d Γ g Q, Im K H d v ∧ GR K H Γ σ ∧ HR K H g ∧
  (∀ Γ' g' σ' H', TupX K H H' → GR K H' Γ' σ' → HR K H' g' → L2.wipe σ' vs = L2.wipe σ vs → Q Γ' g' → Q' σ' H') ∧ t d Γ g Q
def liftT (K : PySem.W.Frag) (t : DTT) : TT := fun σ H Q' => ∃ Γ g Q, GR K H Γ σ ∧ HR K H g ∧ (∀ b g' H', TupX K H H' → HR K H' g' → Q b g' → Q' b H') ∧ t Γ g Q
def liftE (K : PySem.W.Frag) (t : DTE) : TE := fun σ H Q' => ∃ Γ g Q, GR K H Γ σ ∧ HR K H g ∧ (∀ d g' v H', TupX K H H' → Im K H' d v → HR K H' g' → Q d g' → Q' v H') ∧ t Γ g Q
theorem DGo.lift (h : DGo X vs e tg) : PG X e (liftG X.K vs tg) := by
  obtain ⟨x, p, sm⟩ := h
  exact ⟨fun pins s σ H v u Q I r ⟨d, Γ, g, Q1, h1, h2, h3, h4, h5⟩ => p.run pins s σ H v u Q I r (sm d v σ H Γ g Q1 Q h1 h2 h3 h4 h5)⟩
theorem DTs.lift (h : DTs X es tt) : PTs X es (liftT X.K tt) := by
  obtain ⟨x, p, sm⟩ := h
  exact ⟨fun pins s σ H Q I ⟨Γ, g, Q1, h2, h3, h4, h5⟩ => p.run pins s σ H Q I (sm σ H Γ g Q1 Q h2 h3 h4 h5)⟩
theorem DE.lift (h : DE X e te) : PE X e (liftE X.K te) := by
  obtain ⟨x, p, sm⟩ := h
  exact ⟨fun pins s σ H Q I ⟨Γ, g, Q1, h2, h3, h4, h5⟩ => p.run pins s σ H Q I (sm σ H Γ g Q1 Q h2 h3 h4 h5)⟩
end
/-- [..]: the new list at a; P by the turn and what the list holds -/
def dLcI (ds : List D) (keep : G → Prop) (tg : DTG) (tt : DTT) (te : DTE) (vs : List Nat) (Γ : Gm) (g1 : G) (Q : DK) : Prop := ∀ a, g1 a = none → ds.length ≤ sizeLine ∧ ∃ P : Nat → List D → G → Prop, P 0 [] (gup g1 a (.lst [])) ∧
  (∀ i acc g, i ≤ ds.length → P i acc g → keep g ∧ g a = some (.lst acc)) ∧
  (∀ i x acc g, ds[i]? = some x → P i acc g → tg x (wipeG Γ vs) g fun Γ2 g2 => tt Γ2 g2 fun b g3 => if b = true then te Γ2 g3 fun y g4 => g4 a = some (.lst acc) ∧ P (i + 1) (acc ++ [y]) (gup g4 a (.lst (acc ++ [y]))) else P (i + 1) acc g3) ∧
  ∀ acc g, P ds.length acc g → Q (.adr a) g
def dLc (ti : DTI) (tg : DTG) (tt : DTT) (te : DTE) (vs : List Nat) : DTE := fun Γ g Q => ti Γ g fun ds keep g1 => dLcI ds keep tg tt te vs Γ g1 Q
theorem sim_lc {K : PySem.W.Frag} {wi : TI} {ti : DTI} {tg : DTG} {tt : DTT} {te : DTE} {vs : List Nat} (si : SimI K wi ti) : SimE K (tLc wi (liftG K vs tg) (liftT K tt) (liftE K te) vs) (dLc ti tg tt te vs) := by
  intro σ H Γ g Q Q' hG hH k h
  refine si σ H Γ g _ _ hG hH (fun J ds keep g1 H1 t1 hH1 src q1 => ?_) h
  intro a ha
  obtain ⟨hz, P, h0, hk, ht, hd⟩ := q1 a (hH1.free ha)
  have t2 : TupX K H1 (upd H1 a (.lst [])) := tupX_new ha
  have hH2 : HR K (upd H1 a (.lst [])) (gup g1 a (.lst [])) := hH1.put t2 (okg_l upd_same rfl)
  refine ⟨fun i m H' => m = ds.length - i ∧ i ≤ ds.length ∧ ∃ acc g', acc.length ≤ i ∧ TupX K H1 H' ∧ HR K H' g' ∧ P i acc g', ⟨ds.length, by simp, Nat.zero_le _, [], _, Nat.zero_le _, t2, hH2, h0⟩, ?_⟩
  rintro i m H' ⟨rfl, hi, acc, g', hacc, t3, hH3, p⟩
  obtain ⟨kp, ga⟩ := hk i acc g' hi p
  by_cases hlt : i < ds.length
  · refine .inr ⟨src.go i H' g' t3 hH3 kp hlt, fun H'' => ∃ acc g', acc.length ≤ i + 1 ∧ TupX K H1 H'' ∧ HR K H'' g' ∧ P (i + 1) acc g', fun H'' p' => ⟨ds.length - (i + 1), by omega, rfl, hlt, p'⟩, fun x H4 y => ?_⟩
    obtain ⟨d, hd', iv, t4, hH4⟩ := src.yld i H' g' x H4 t3 hH3 kp hlt y
    have t14 := t3.trans t4
    refine ⟨d, wipeG Γ vs, g', _, iv, gr_wipe (hG.mono (t1.trans t14)) vs, hH4, fun Γ5 g5 σ5 H5 t5 hG5 hH5 w5 q5 => ⟨w5.trans wipe_wipe, ?_⟩, ht i d acc g' hd' p⟩
    refine ⟨Γ5, g5, _, hG5, hH5, fun b g6 H6 t6 hH6 q6 => ?_, q5⟩
    cases b with
    | false => exact ⟨acc, g6, by omega, (t14.trans t5).trans t6, hH6, q6⟩
    | true =>
      refine ⟨Γ5, g6, _, hG5.mono t6, hH6, fun dy g7 vy H7 t7 i7 hH7 q7 => ?_, q6⟩
      obtain ⟨ga7, q7⟩ := q7
      obtain ⟨xs, e1, e2⟩ := hH7 a _ ga7
      have t8 : TupX K H7 (upd H7 a (.lst (xs ++ [vy]))) := tupX_upd (by rw [e1]; trivial)
      refine ⟨xs, e1, by rw [e2.length]; omega, acc ++ [dy], _, by rw [List.length_append, List.length_singleton]; omega, (((t14.trans t5).trans t6).trans t7).trans t8, ?_, q7⟩
      exact hH7.put t8 (okg_l upd_same ((e2.append (ImL.one i7)).mono t8))
  · have e : i = ds.length := by omega
    subst e
    exact .inl ⟨src.stop _ H' g' t3 hH3 kp (Nat.le_refl _), k _ _ _ _ (t1.trans t3) im_a hH3 (hd acc g' p)⟩
section
variable {X : Cx} {elt tgE iter : Expr} {ifs : List Expr} {scope : Scope} {own : List (Str × Nat)} {pos spos py : Pos} {ti : DTI} {tg : DTG} {tt : DTT} {te : DTE}
theorem de_lc (hi : DI X tgE iter ti) (hN : X.N.Nodup) (ok : BlkOk X.N X.env.scope scope own)
    (hg : ∀ (s : Shared) (H : Hp) (C : Addr) (cl : List (Str × Addr)) (fp : List Addr), DGo (X.blk s H scope (compEnvC scope cl C X.env) fp) (own.map (·.2)) tgE tg) (ht : ∀ (s : Shared) (H : Hp) (C : Addr) (cl : List (Str × Addr)) (fp : List Addr), DTs (X.blk s H scope (compEnvC scope cl C X.env) fp) ifs tt)
    (he : ∀ (s : Shared) (H : Hp) (C : Addr) (cl : List (Str × Addr)) (fp : List Addr), DE (X.blk s H scope (compEnvC scope cl C X.env) fp) elt te) (hc : X.calm = true := by rfl) (hs : ∀ x, foldedSetIterable iter X.env x = pure x := by intro _; rfl) :
    DE X (.ListComp elt [⟨tgE, iter, ifs, 0⟩] scope pos) (dLc ti tg tt te (own.map (·.2))) := by
  obtain ⟨wi, pi, si⟩ := hi
  exact ⟨_, pe_lc (g := liftG X.K (own.map (·.2)) tg) (tt := liftT X.K tt) (te := liftE X.K te) hc hN pi ok (fun s H C cl fp => (hg s H C cl fp).lift) (fun s H C cl fp => (ht s H C cl fp).lift) (fun s H C cl fp => (he s H C cl fp).lift) hs, sim_lc si⟩
theorem ds_lc (i : Nat) {y : Str} (hi : DI X tgE iter ti) (hN : X.N.Nodup) (ok : BlkOk X.N X.env.scope scope own)
    (hg : ∀ (s : Shared) (H : Hp) (C : Addr) (cl : List (Str × Addr)) (fp : List Addr), DGo (X.blk s H scope (compEnvC scope cl C X.env) fp) (own.map (·.2)) tgE tg) (ht : ∀ (s : Shared) (H : Hp) (C : Addr) (cl : List (Str × Addr)) (fp : List Addr), DTs (X.blk s H scope (compEnvC scope cl C X.env) fp) ifs tt)
    (he : ∀ (s : Shared) (H : Hp) (C : Addr) (cl : List (Str × Addr)) (fp : List Addr), DE (X.blk s H scope (compEnvC scope cl C X.env) fp) elt te) (hc : X.calm = true := by rfl) (hy : X.N[i]? = some y := by rfl) (hyl : X.env.scope.names.lookup y = some .local := by rfl)
    (hk : X.env.scope.kind = .function := by rfl) (hl : (py.line == pos.line) = true := by rfl) (ha : (scope.names.any fun (n, k) => n == y && (k == .local || k == .cell)) = false := by decide +kernel) (hs : ∀ x, foldedSetIterable iter X.env x = pure x := by intro _; rfl) :
    DS X (.Assign [.Name y py] (.ListComp elt [⟨tgE, iter, ifs, 0⟩] scope pos) spos) (dSet i (dLc ti tg tt te (own.map (·.2)))) := by
  obtain ⟨wi, pi, si⟩ := hi
  refine ⟨_, ps_setLc (g := liftG X.K (own.map (·.2)) tg) (tt := liftT X.K tt) (te := liftE X.K te) hc hN hy hyl (sw_true hk hyl hl ha) pi ok (fun s H C cl fp => (hg s H C cl fp).lift) (fun s H C cl fp => (ht s H C cl fp).lift) (fun s H C cl fp => (he s H C cl fp).lift) hs, fun σ H Γ g F E hG hH l h => ?_⟩
  exact sim_lc si σ H Γ g _ _ hG hH (fun d g1 v H1 t1 i1 hH1 q => l.nx _ g1 _ H1 t1 ((hG.mono t1).set i1) hH1 q) h
end
/-- a turn's end -/
theorem lc_yes {N : List D → G → Prop} {g1 : G} {a : Addr} {acc : List D} {y : D} (h : N (acc ++ [y]) (gup g1 a (.lst (acc ++ [y])))) :
    gup g1 a (.lst acc) a = some (.lst acc) ∧ N (acc ++ [y]) (gup (gup g1 a (.lst acc)) a (.lst (acc ++ [y]))) := by
  rw [gup_gup]
  exact ⟨gup_same, h⟩
/-- the body leaves the objects as they are -/
theorem lc_pure {ds : List D} {keep : G → Prop} {tg : DTG} {tt : DTT} {te : DTE} {vs : List Nat} {Γ : Gm} {g1 : G} {Q : DK} (p : D → Bool) (f : D → D) (hz : ds.length ≤ sizeLine) (kp : ∀ a acc, g1 a = none → keep (gup g1 a (.lst acc)))
    (hs : ∀ (a : Addr) (i : Nat) (x : D) (acc : List D) (N : List D → G → Prop), g1 a = none → ds[i]? = some x → (p x = false → N acc (gup g1 a (.lst acc))) → (p x = true → N (acc ++ [f x]) (gup g1 a (.lst (acc ++ [f x])))) →
      tg x (wipeG Γ vs) (gup g1 a (.lst acc)) fun Γ2 g2 => tt Γ2 g2 fun b g3 => if b = true then te Γ2 g3 fun y g4 => g4 a = some (.lst acc) ∧ N (acc ++ [y]) (gup g4 a (.lst (acc ++ [y]))) else N acc g3)
    (hq : ∀ a, g1 a = none → Q (.adr a) (gup g1 a (.lst ((ds.filter p).map f)))) : dLcI ds keep tg tt te vs Γ g1 Q := by
  intro a ha
  refine ⟨hz, fun i acc g => g = gup g1 a (.lst acc) ∧ acc = ((ds.take i).filter p).map f, ⟨rfl, by simp⟩, fun i acc g hi ⟨e1, e2⟩ => ?_, fun i x acc g hx ⟨e1, e2⟩ => ?_, fun acc g ⟨e1, e2⟩ => ?_⟩
  · subst e1
    exact ⟨kp a acc ha, gup_same⟩
  · subst e1
    have et : ds.take (i + 1) = ds.take i ++ [x] := by rw [List.take_add_one, hx] <;> rfl
    refine hs a i x acc (fun acc' g' => g' = gup g1 a (.lst acc') ∧ acc' = ((ds.take (i + 1)).filter p).map f) ha hx (fun hb => ⟨rfl, ?_⟩) fun hb => ⟨rfl, ?_⟩
    · rw [et, List.filter_append, e2]; simp [hb]
    · rw [et, List.filter_append, e2]; simp [hb]
  · subst e1 e2
    rw [List.take_length]
    exact hq a ha
/-- .. and it takes each -/
theorem lc_map {ds : List D} {keep : G → Prop} {tg : DTG} {te : DTE} {vs : List Nat} {Γ : Gm} {g1 : G} {Q : DK} (f : D → D) (hz : ds.length ≤ sizeLine) (kp : ∀ a acc, g1 a = none → keep (gup g1 a (.lst acc)))
    (hs : ∀ (a : Addr) (i : Nat) (x : D) (acc : List D) (N : List D → G → Prop), g1 a = none → ds[i]? = some x → N (acc ++ [f x]) (gup g1 a (.lst (acc ++ [f x]))) →
      tg x (wipeG Γ vs) (gup g1 a (.lst acc)) fun Γ2 g2 => te Γ2 g2 fun y g4 => g4 a = some (.lst acc) ∧ N (acc ++ [y]) (gup g4 a (.lst (acc ++ [y]))))
    (hq : ∀ a, g1 a = none → Q (.adr a) (gup g1 a (.lst (ds.map f)))) : dLcI ds keep tg dYes te vs Γ g1 Q := by
  refine lc_pure (fun _ => true) f hz kp (fun a i x acc N ha hx _ h2 => ?_) (fun a ha => ?_)
  · simp only [dYes, if_true]
    exact hs a i x acc N ha hx (h2 rfl)
  · rw [List.filter_eq_self.mpr (fun _ _ => rfl)]
    exact hq a ha
end DL
set_option Elab.async false
set_option linter.all false
set_option maxRecDepth 100000
set_option maxHeartbeats 4000000
namespace DL
open PySem PySem.Spec PyProof.Rows L2

/-! ### dicts -/
def OptR (K : PySem.W.Frag) (H : Hp) : Option D → Option V → Prop
  | some d, ov => ∃ v, ov = some v ∧ Im K H d v
  | none, ov => ov = none
section
variable {κ : Type} [DecidableEq κ]
def dgetD (kvs : List (κ × D)) (k : κ) : Option D := (kvs.find? fun kv => decide (kv.1 = k)).map (·.2)
def dputD (kvs : List (κ × D)) (k : κ) (v : D) : List (κ × D) := if (kvs.any fun kv => decide (kv.1 = k)) = true then kvs.map (fun kv => if kv.1 = k then (kv.1, v) else kv) else kvs ++ [(k, v)]
theorem dget_nil {k : κ} : dgetD ([] : List (κ × D)) k = none := rfl
theorem dget_cons {p : κ × D} {r : List (κ × D)} {k : κ} : dgetD (p :: r) k = if p.1 = k then some p.2 else dgetD r k := by
  unfold dgetD
  rw [List.find?_cons]
  by_cases h : p.1 = k
  · rw [decide_eq_true h, if_pos h]; rfl
  · rw [decide_eq_false h, if_neg h]
variable {κ' : Type} [DecidableEq κ'] {f : κ → κ'} {K : PySem.W.Frag} {H : Hp}
theorem ImP.getv (hf : ∀ a b, f a = f b → a = b) : ∀ {kvs : List (κ × D)} {vs : List (κ' × V)}, ImP K H f kvs vs → ∀ k, OptR K H (dgetD kvs k) (valV vs (f k))
  | [], vs, h, k => by
    cases (show vs = [] from h)
    exact rfl
  | p :: r, vs, h, k => by
    obtain ⟨v, s, rfl, i1, i2⟩ := h
    rw [dget_cons]
    by_cases e : p.1 = k
    · rw [if_pos e]
      exact ⟨v, valV_pos (by show f p.1 = f k; rw [e]), i1⟩
    · rw [if_neg e]
      have hn : ¬ (f p.1, v).1 = f k := fun z => e (hf _ _ z)
      rw [valV_neg hn]
      exact ImP.getv hf i2 k
theorem ImP.any (hf : ∀ a b, f a = f b → a = b) {k : κ} : ∀ {kvs : List (κ × D)} {vs : List (κ' × V)}, ImP K H f kvs vs → (vs.any fun kv => decide (kv.1 = f k)) = kvs.any fun kv => decide (kv.1 = k)
  | [], vs, h => by
    cases (show vs = [] from h)
    rfl
  | p :: r, vs, h => by
    obtain ⟨v, s, rfl, i1, i2⟩ := h
    rw [List.any_cons, List.any_cons, ImP.any hf i2]
    congr 1
    exact decide_eq_decide.mpr ⟨fun z => hf _ _ z, fun z => by show f p.1 = f k; rw [z]⟩
theorem ImP.app : ∀ {kvs ks : List (κ × D)} {vs us : List (κ' × V)}, ImP K H f kvs vs → ImP K H f ks us → ImP K H f (kvs ++ ks) (vs ++ us)
  | [], _, vs, _, h, h2 => by
    cases (show vs = [] from h)
    exact h2
  | p :: r, _, vs, _, h, h2 => by
    obtain ⟨v, s, rfl, i1, i2⟩ := h
    exact ⟨v, _, rfl, i1, ImP.app i2 h2⟩
theorem ImP.rep (hf : ∀ a b, f a = f b → a = b) {k : κ} {d : D} {x : V} (q : Im K H d x) : ∀ {kvs : List (κ × D)} {vs : List (κ' × V)}, ImP K H f kvs vs →
    ImP K H f (kvs.map fun kv => if kv.1 = k then (kv.1, d) else kv) (vs.map fun kv => if kv.1 = f k then (kv.1, x) else kv)
  | [], vs, h => by
    cases (show vs = [] from h)
    rfl
  | p :: r, vs, h => by
    obtain ⟨v, s, rfl, i1, i2⟩ := h
    rw [List.map_cons, List.map_cons]
    by_cases e : p.1 = k
    · rw [if_pos e, if_pos (by show f p.1 = f k; rw [e])]
      exact ⟨x, _, rfl, q, ImP.rep hf q i2⟩
    · rw [if_neg e, if_neg (fun z => e (hf _ _ z))]
      exact ⟨v, _, rfl, i1, ImP.rep hf q i2⟩
theorem ImP.putv (hf : ∀ a b, f a = f b → a = b) {k : κ} {d : D} {x : V} (q : Im K H d x) {kvs : List (κ × D)} {vs : List (κ' × V)} (h : ImP K H f kvs vs) : ImP K H f (dputD kvs k d) (putK vs (f k) x) := by
  unfold dputD putK
  rw [ImP.any hf h]
  split
  · exact ImP.rep hf q h
  · exact ImP.app h ⟨x, [], rfl, q, rfl⟩
end
theorem kI_inj : ∀ a b, kI a = kI b → a = b := fun a b h => by cases h; rfl
theorem kT_inj : ∀ a b, kT a = kT b → a = b
  | [], [], _ => rfl
  | [], _ :: _, h => by cases h
  | _ :: _, [], h => by cases h
  | a :: r, b :: q, h => by
    simp only [kT, List.map_cons, List.cons.injEq] at h
    obtain ⟨h1, h2⟩ := h
    rw [kI_inj _ _ h1, kT_inj r q h2]
theorem kT_V : ∀ l : List Int, (kT l).map kV = l.map V.int
  | [] => rfl
  | a :: r => by
    show kV (kI a) :: (kT r).map kV = _
    rw [kT_V r]
    rfl
abbrev dKey (l : List Int) : D := .own (l.map D.int)
theorem key_im {K : PySem.W.Frag} {H : Hp} {l : List Int} {v : V} (h : Im K H (dKey l) v) : ∃ b, v = .ref b ∧ H b = some (.tup ((kT l).map kV)) := by
  obtain ⟨b, xs, rfl, h1, h2⟩ := h
  refine ⟨b, rfl, ?_⟩
  rw [h1, h2.ints, kT_V]
/-- the pairs of a dict with int keys, one that stands or one that is walked -/
def isI (g : G) (a : Addr) (kvs : List (Int × D)) : Prop := g a = some (.dI kvs) ∨ g a = some (.wI kvs)
def isT (g : G) (a : Addr) (kvs : List (List Int × D)) : Prop := g a = some (.dT kvs) ∨ g a = some (.wT kvs)
theorem isI_rd {K : PySem.W.Frag} {H : Hp} {g : G} {a : Addr} {kvs : List (Int × D)} (h : isI g a kvs) (hH : HR K H g) : ∃ vs, Rd H a (.dK vs) ∧ ImP K H kI kvs vs := by
  rcases h with h | h
  · obtain ⟨vs, h1, h2⟩ := hH a _ h
    exact ⟨vs, .inl h1, h2⟩
  · obtain ⟨o, vs, h1, h2⟩ := hH a _ h
    exact ⟨vs, .inr ⟨o, h1⟩, h2⟩
theorem isT_rd {K : PySem.W.Frag} {H : Hp} {g : G} {a : Addr} {kvs : List (List Int × D)} (h : isT g a kvs) (hH : HR K H g) : ∃ vs, Rd H a (.dT vs) ∧ ImP K H kT kvs vs := by
  rcases h with h | h
  · obtain ⟨vs, h1, h2⟩ := hH a _ h
    exact ⟨vs, .inl h1, h2⟩
  · obtain ⟨o, vs, h1, h2⟩ := hH a _ h
    exact ⟨vs, .inr ⟨o, h1⟩, h2⟩
/-- what a dict gives -/
inductive GetD (g : G) : D → D → Option D → Prop
  | i {a : Addr} {kvs : List (Int × D)} {i : Int} (h : isI g a kvs) : GetD g (.adr a) (.int i) (dgetD kvs i)
  | t {a : Addr} {kvs : List (List Int × D)} {k : List Int} (h : isT g a kvs) : GetD g (.adr a) (dKey k) (dgetD kvs k)
theorem getD_im {K : PySem.W.Frag} {H : Hp} {g : G} {x y : D} {o : Option D} {vx vy : V} (h : GetD g x y o) (hH : HR K H g) (ix : Im K H x vx) (iy : Im K H y vy) : ∃ a ov, vx = .ref a ∧ DGet H a vy ov ∧ OptR K H o ov := by
  cases h with
  | @i a kvs j h =>
    obtain ⟨vs, r, ip⟩ := isI_rd h hH
    cases (show vy = V.int j from iy)
    refine ⟨a, valV vs (kI j), ix, .inl ⟨vs, kI j, r, rfl, rfl⟩, ?_⟩
    have q := ImP.getv kI_inj ip j
    exact q
  | @t a kvs k h =>
    obtain ⟨vs, r, ip⟩ := isT_rd h hH
    obtain ⟨b, rfl, hb⟩ := key_im iy
    refine ⟨a, valV vs (kT k), ix, .inr ⟨vs, kT k, b, r, rfl, hb, rfl⟩, ?_⟩
    have q := ImP.getv kT_inj ip k
    exact q
def dDGet (td ty : DTE) : DTE := fun Γ g Q => td Γ g fun x g1 => ty Γ g1 fun y g2 => ∃ d, GetD g2 x y (some d) ∧ Q d g2
def dDIn (ty td : DTE) : DTT := fun Γ g Q => ty Γ g fun y g1 => td Γ g1 fun x g2 => ∃ o, GetD g2 x y o ∧ Q o.isSome g2
def dDNotIn (ty td : DTE) : DTT := fun Γ g Q => ty Γ g fun y g1 => td Γ g1 fun x g2 => ∃ o, GetD g2 x y o ∧ Q (!o.isSome) g2
/-- the objects behind x[y] = v -/
inductive PutD (g : G) : D → D → D → G → Prop
  | i {a : Addr} {kvs : List (Int × D)} {i : Int} {v : D} (h : g a = some (.dI kvs)) (hl : kvs.length < sizeLine) : PutD g (.adr a) (.int i) v (gup g a (.dI (dputD kvs i v)))
  | t {a : Addr} {kvs : List (List Int × D)} {k : List Int} {v : D} (h : g a = some (.dT kvs)) (hl : kvs.length < sizeLine) : PutD g (.adr a) (dKey k) v (gup g a (.dT (dputD kvs k v)))
def dDPut (td ty tv : DTE) : DTS := fun F Γ g => tv Γ g fun v g1 => td Γ g1 fun x g2 => ty Γ g2 fun y g3 => ∃ g4, PutD g3 x y v g4 ∧ F.nx Γ g4
theorem putD_im {K : PySem.W.Frag} {H : Hp} {g g' : G} {x y d : D} {vx vy v : V} (h : PutD g x y d g') (hH : HR K H g) (ix : Im K H x vx) (iy : Im K H y vy) (iv : Im K H d v) : ∃ a H', vx = .ref a ∧ DPut H a vy v H' ∧ TupX K H H' ∧ HR K H' g' := by
  cases h with
  | @i a kvs j _ h hl =>
    obtain ⟨vs, h1, ip⟩ := hH a _ h
    cases (show vy = V.int j from iy)
    have t : TupX K H (upd H a (.dK (putK vs (kI j) v))) := tupX_upd (by rw [h1]; trivial)
    exact ⟨a, _, ix, .inl ⟨vs, kI j, h1, rfl, by rw [ip.length]; exact hl, rfl⟩, t, hH.put t ⟨_, upd_same, (ImP.putv kI_inj iv ip).mono t⟩⟩
  | @t a kvs k _ h hl =>
    obtain ⟨vs, h1, ip⟩ := hH a _ h
    obtain ⟨b, rfl, hb⟩ := key_im iy
    have t : TupX K H (upd H a (.dT (putK vs (kT k) v))) := tupX_upd (by rw [h1]; trivial)
    exact ⟨a, _, ix, .inr ⟨vs, kT k, b, h1, rfl, hb, by rw [ip.length]; exact hl, rfl⟩, t, hH.put t ⟨_, upd_same, (ImP.putv kT_inj iv ip).mono t⟩⟩
def dNewI : DTE := fun _ g Q => ∀ p, g p = none → Q (.adr p) (gup g p (.dI []))
def dNewT : DTE := fun _ g Q => ∀ p, g p = none → Q (.adr p) (gup g p (.dT []))
/-- a tuple of one's own, read as a tuple -/
def dVarO (i : Nat) : DTE := fun Γ g Q => ∃ ds, Γ[i]? = some (some (.own ds)) ∧ Q (.tup ds) g
section
variable {X : Cx} {o i e value : Expr} {pos pos' : Pos} {td ty tv te : DTE}
theorem de_dget (hu : X.A.units + 65 < cLine) (ho : DE X o td) (hi : DE X i ty) (hs : NoSl i := by exact fun _ _ => rfl) : DE X (.Subscript o i pos) (dDGet td ty) := by
  obtain ⟨xo, po, so⟩ := ho
  obtain ⟨xi, pi, si⟩ := hi
  refine ⟨_, pe_dget (by omega) po pi hs, fun σ H Γ g Q Q' hG hH k h => ?_⟩
  refine so σ H Γ g _ _ hG hH (fun d1 g1 v1 H1 t1 i1 hH1 q1 => ?_) h
  refine si σ H1 Γ g1 _ _ (hG.mono t1) hH1 (fun d2 g2 v2 H2 t2 i2 hH2 q2 => ?_) q1
  obtain ⟨d, hd, q⟩ := q2
  obtain ⟨a, ov, e1, e2, v, rfl, iv⟩ := getD_im hd hH2 (i1.mono t2) i2
  exact ⟨a, v, e1, e2, k d g2 v H2 (t1.trans t2) iv hH2 q⟩
theorem ov_some {K : PySem.W.Frag} {H : Hp} {o : Option D} {ov : Option V} (h : OptR K H o ov) : ov.isSome = o.isSome := by
  cases o with
  | some d => obtain ⟨v, rfl, _⟩ := h; rfl
  | none =>
    cases (show ov = none from h)
    rfl
theorem db_din (hu : X.A.units + 65 < cLine) (hi : DE X i ty) (ho : DE X o td) (hm : behindInMarks .In o = false := by rfl) : DB X (.Compare i [.In] [o] pos) (dDIn ty td) := by
  obtain ⟨xo, po, so⟩ := ho
  obtain ⟨xi, pi, si⟩ := hi
  refine ⟨_, pt_cmp (pc_din (by omega) pi po) hm, fun σ H Γ g Q Q' hG hH k h => ?_⟩
  refine si σ H Γ g _ _ hG hH (fun d1 g1 v1 H1 t1 i1 hH1 q1 => ?_) h
  refine so σ H1 Γ g1 _ _ (hG.mono t1) hH1 (fun d2 g2 v2 H2 t2 i2 hH2 q2 => ?_) q1
  obtain ⟨ob, hd, q⟩ := q2
  obtain ⟨a, ov, e1, e2, e3⟩ := getD_im hd hH2 i2 (i1.mono t2)
  refine ⟨a, ov, e1, e2, _, rfl, ?_⟩
  rw [ov_some e3]
  exact k _ g2 H2 (t1.trans t2) hH2 q
theorem db_dnotin (hu : X.A.units + 65 < cLine) (hi : DE X i ty) (ho : DE X o td) (hm : behindInMarks .NotIn o = false := by rfl) : DB X (.Compare i [.NotIn] [o] pos) (dDNotIn ty td) := by
  obtain ⟨xo, po, so⟩ := ho
  obtain ⟨xi, pi, si⟩ := hi
  refine ⟨_, pt_cmp (pc_dnotin (by omega) pi po) hm, fun σ H Γ g Q Q' hG hH k h => ?_⟩
  refine si σ H Γ g _ _ hG hH (fun d1 g1 v1 H1 t1 i1 hH1 q1 => ?_) h
  refine so σ H1 Γ g1 _ _ (hG.mono t1) hH1 (fun d2 g2 v2 H2 t2 i2 hH2 q2 => ?_) q1
  obtain ⟨ob, hd, q⟩ := q2
  obtain ⟨a, ov, e1, e2, e3⟩ := getD_im hd hH2 i2 (i1.mono t2)
  refine ⟨a, ov, e1, e2, _, rfl, ?_⟩
  rw [ov_some e3]
  exact k _ g2 H2 (t1.trans t2) hH2 q
theorem ds_dput (hu : X.A.units + 65 < cLine) (ho : DE X o td) (hi : DE X i ty) (hv : DE X value tv) (hs : swapsWith value (some (.Subscript o i pos')) pos.line X.env = pure false := by rfl) : DS X (.Assign [.Subscript o i pos'] value pos) (dDPut td ty tv) := by
  obtain ⟨xo, po, so⟩ := ho
  obtain ⟨xi, pi, si⟩ := hi
  obtain ⟨xv, pv, sv⟩ := hv
  refine ⟨_, ps_dput (by omega) po pi pv hs, fun σ H Γ g F E hG hH l h => ?_⟩
  refine sv σ H Γ g _ _ hG hH (fun d1 g1 v1 H1 t1 i1 hH1 q1 => ?_) h
  refine so σ H1 Γ g1 _ _ (hG.mono t1) hH1 (fun d2 g2 v2 H2 t2 i2 hH2 q2 => ?_) q1
  refine si σ H2 Γ g2 _ _ (hG.mono (t1.trans t2)) hH2 (fun d3 g3 v3 H3 t3 i3 hH3 q3 => ?_) q2
  obtain ⟨g4, hp, q⟩ := q3
  obtain ⟨a, H4, e1, e2, t4, hH4⟩ := putD_im hp hH3 (i2.mono t3) i3 (i1.mono (t2.trans t3))
  have t := ((t1.trans t2).trans t3).trans t4
  exact ⟨a, H4, e1, e2, l.nx Γ g4 σ H4 t (hG.mono t) hH4 q⟩
theorem de_dnewI : DE X (.Dict [] [] pos) dNewI := ⟨_, pe_dnewK, fun σ H Γ g Q Q' hG hH k h p hp => by
  have t : TupX X.K H (upd H p (.dK [])) := tupX_new hp
  exact k _ _ _ _ t im_a (hH.put (o := .dI []) t ⟨[], upd_same, rfl⟩) (h p (hH.free hp))⟩
theorem de_dnewT : DE X (.Dict [] [] pos) dNewT := ⟨_, pe_dnewT, fun σ H Γ g Q Q' hG hH k h p hp => by
  have t : TupX X.K H (upd H p (.dT [])) := tupX_new hp
  exact k _ _ _ _ t im_a (hH.put (o := .dT []) t ⟨[], upd_same, rfl⟩) (h p (hH.free hp))⟩
theorem de_varO (i : Nat) {x : Str} (hN : X.N[i]? = some x := by rfl) (hv : Vis X.env.scope x := by first | exact Or.inl rfl | exact Or.inr (Or.inl rfl) | exact Or.inr (Or.inr rfl)) (hd : (x == ("__debug__" : Str)) = false := by decide)
    (hcd : (x == ("__classdict__" : Str)) = false := by decide) : DE X (.Name x pos) (dVarO i) :=
  ⟨_, pe_var hN hv hd hcd, fun σ H Γ g Q Q' hG hH k ⟨d, e, q⟩ => let ⟨v, e', im⟩ := hG.2 i _ e; ⟨v, e', k (.tup d) g v H (TupX.refl H) (by
    obtain ⟨a, xs, rfl, h1, h2⟩ := im
    exact im_t (SqT.of h1) h2) hH q⟩⟩
end
def sLenT : List D → G → DK → Prop := fun ds g Q => ∃ a kvs, ds = [.adr a] ∧ g a = some (.dT kvs) ∧ Q (.int (kvs.length : Nat)) g
theorem simC_lenT {K : PySem.W.Frag} : SimC K rLenT sLenT := by
  intro H g ds xs Q Q' i hg k h
  obtain ⟨a, kvs, rfl, ha, q⟩ := h
  obtain ⟨v, rfl, iv⟩ := imL1 i
  cases (show v = V.ref a from iv)
  obtain ⟨vs, h1, h2⟩ := hg a _ ha
  refine ⟨a, vs, rfl, h1, ?_⟩
  rw [h2.length]
  exact k _ _ _ _ (TupX.refl H) im_i hg q
/-- + of tuples: a new one -/
def sCatO : D → D → G → DK → Prop := fun a b g Q => ∃ xs ys, a = .tup xs ∧ b = .tup ys ∧ xs ≠ [] ∧ ys ≠ [] ∧ Nat.ble (xs.length + ys.length) 1000 = true ∧ Q (.own (xs ++ ys)) g
theorem simR_catO {K : PySem.W.Frag} : SimR K (rCatA K) sCatO := by
  intro H g a b x y Q Q' ha hb hg k h
  obtain ⟨xs, ys, rfl, rfl, nx, ny, hz, q⟩ := h
  obtain ⟨p, us, rfl, h1, h2⟩ := ha
  obtain ⟨r, vs, rfl, h3, h4⟩ := hb
  have hl : us.length + vs.length ≤ 1000 := by rw [h2.length, h4.length]; exact Nat.le_of_ble_eq_true hz
  have hc := h2.append h4
  refine ⟨p, r, us, vs, rfl, rfl, h1, h3, Nat.le_of_lt (small1000 hl), fun e => ?_, fun _ e => ?_, fun _ _ z hz => ?_⟩
  · subst e
    exact absurd (List.length_eq_zero_iff.mp h2.length.symm) nx
  · subst e
    exact absurd (List.length_eq_zero_iff.mp h4.length.symm) ny
  · have t4 : TupX K H (upd H z (.tup (us ++ vs))) := tupX_new hz
    exact k (.own (xs ++ ys)) _ _ _ t4 ⟨z, _, rfl, upd_same, hc.mono t4⟩ (hg.new hz) q

/-! ### a dict that is walked -/
def tFrz (te : TE) : TE := fun σ H Q => te σ H fun x H1 => ∃ d u, x = .ref d ∧ H1 d = some u ∧ Mut (some u) ∧ ∀ od, Q x (upd H1 d (.frz od u))
theorem pe_frz {X : Cx} {e : Expr} {te : TE} (h : PE X e te) : PE X e (tFrz te) := by
  refine ⟨fun pins s σ H Q I hw => ?_⟩
  refine thn (h.run pins s σ H _ I hw) fun v s1 ⟨x, H1, I1, r, d, u, ex, hd, mu, q⟩ => ?_
  obtain ⟨od, I2⟩ := I1.lock hd mu
  exact ⟨x, _, I2, r, q od⟩
def iKI (te : DTE) : DTI := fun Γ g Q => te Γ g fun x g1 => ∃ a kvs, x = .adr a ∧ g1 a = some (.dI kvs) ∧ Q (kvs.map fun p => .int p.1) (fun _ => True) (gup g1 a (.wI kvs))
def iKT (te : DTE) : DTI := fun Γ g Q => te Γ g fun x g1 => ∃ a kvs, x = .adr a ∧ g1 a = some (.dT kvs) ∧ Q (kvs.map fun p => dKey p.1) (fun _ => True) (gup g1 a (.wT kvs))
theorem ImP.at {κ κ' : Type} {f : κ → κ'} {K : PySem.W.Frag} {H : Hp} : ∀ {kvs : List (κ × D)} {vs : List (κ' × V)} {i : Nat} {k : κ'} {v : V}, ImP K H f kvs vs → vs[i]? = some (k, v) → ∃ k0 d, kvs[i]? = some (k0, d) ∧ k = f k0 ∧ Im K H d v
  | [], vs, i, k, v, h, e => by
    cases (show vs = [] from h)
    simp at e
  | p :: r, vs, 0, k, v, h, e => by
    obtain ⟨u, s, rfl, i1, i2⟩ := h
    have e' : (f p.1, u) = (k, v) := by simpa using e
    cases e'
    exact ⟨p.1, p.2, rfl, rfl, i1⟩
  | p :: r, vs, i + 1, k, v, h, e => by
    obtain ⟨u, s, rfl, i1, i2⟩ := h
    exact ImP.at (i := i) i2 (by simpa using e)
theorem di_keysI {X : Cx} {e tgE : Expr} {te : DTE} (he : DE X e te) : DI X tgE e (iKI te) := by
  obtain ⟨xe, pe, se⟩ := he
  refine ⟨_, pi_keys (pe_frz pe), fun σ H Γ g Q R hG hH k h => ?_⟩
  refine se σ H Γ g _ _ hG hH (fun d g1 v H1 t1 i1 hH1 q1 => ?_) h
  obtain ⟨a, kvs, rfl, ha, q⟩ := q1
  obtain ⟨vs, h1, ip⟩ := hH1 a _ ha
  refine ⟨a, _, i1, h1, trivial, fun od => ⟨a, od, i1, .inl ⟨vs, upd_same, ?_⟩⟩⟩
  have t2 : TupX X.K H1 (upd H1 a (.frz od (.dK vs))) := tupX_upd (by rw [h1]; trivial)
  refine k _ _ _ _ _ (t1.trans t2) (hH1.put (o := .wI kvs) t2 ⟨od, vs, upd_same, ip.mono t2⟩) ⟨fun i H g t _ _ hi => ?_, fun i H g x H' t hH _ hi y => ?_, fun i H g t _ _ hi => ?_⟩ q
  · rw [List.length_map] at hi
    exact ⟨t.2.2.2 _ _ _ upd_same, by rw [ip.length]; exact hi⟩
  · obtain ⟨rfl, k1, v1, e1, rfl⟩ := y
    obtain ⟨k0, d0, e2, rfl, i2⟩ := ip.at e1
    exact ⟨.int k0, by rw [List.getElem?_map, e2] <;> rfl, rfl, TupX.refl _, hH⟩
  · rw [List.length_map] at hi
    exact ⟨t.2.2.2 _ _ _ upd_same, by rw [ip.length]; exact hi⟩
theorem di_keysT {X : Cx} {e tgE : Expr} {te : DTE} (he : DE X e te) : DI X tgE e (iKT te) := by
  obtain ⟨xe, pe, se⟩ := he
  refine ⟨_, pi_keys (pe_frz pe), fun σ H Γ g Q R hG hH k h => ?_⟩
  refine se σ H Γ g _ _ hG hH (fun d g1 v H1 t1 i1 hH1 q1 => ?_) h
  obtain ⟨a, kvs, rfl, ha, q⟩ := q1
  obtain ⟨vs, h1, ip⟩ := hH1 a _ ha
  refine ⟨a, _, i1, h1, trivial, fun od => ⟨a, od, i1, .inr ⟨vs, upd_same, ?_⟩⟩⟩
  have t2 : TupX X.K H1 (upd H1 a (.frz od (.dT vs))) := tupX_upd (by rw [h1]; trivial)
  refine k _ _ _ _ _ (t1.trans t2) (hH1.put (o := .wT kvs) t2 ⟨od, vs, upd_same, ip.mono t2⟩) ⟨fun i H g t _ _ hi => ?_, fun i H g x H' t hH _ hi y => ?_, fun i H g t _ _ hi => ?_⟩ q
  · rw [List.length_map] at hi
    exact ⟨t.2.2.2 _ _ _ upd_same, by rw [ip.length]; exact hi⟩
  · obtain ⟨rfl, k1, v1, b, e1, rfl, hb⟩ := y
    obtain ⟨k0, d0, e2, rfl, i2⟩ := ip.at e1
    refine ⟨dKey k0, by rw [List.getElem?_map, e2] <;> rfl, ⟨b, k0.map V.int, rfl, by rw [hb, kT_V], ImL.of_ints k0⟩, TupX.refl _, hH⟩
  · rw [List.length_map] at hi
    exact ⟨t.2.2.2 _ _ _ upd_same, by rw [ip.length]; exact hi⟩

/-! ### dict comprehensions, int keys -/
def dDcI (ds : List D) (keep : G → Prop) (tg : DTG) (tt : DTT) (tk tv : DTE) (vs : List Nat) (Γ : Gm) (g1 : G) (Q : DK) : Prop := ∀ a, g1 a = none → ds.length ≤ sizeLine ∧ ∃ P : Nat → List (Int × D) → G → Prop, P 0 [] (gup g1 a (.dI [])) ∧
  (∀ i acc g, i ≤ ds.length → P i acc g → keep g ∧ g a = some (.dI acc)) ∧
  (∀ i x acc g, ds[i]? = some x → P i acc g → tg x (wipeG Γ vs) g fun Γ2 g2 => tt Γ2 g2 fun b g3 => if b = true then tk Γ2 g3 fun z g4 => tv Γ2 g4 fun y g5 => ∃ j, z = .int j ∧ g5 a = some (.dI acc) ∧ acc.length ≤ i ∧ P (i + 1) (dputD acc j y) (gup g5 a (.dI (dputD acc j y))) else P (i + 1) acc g3) ∧
  ∀ acc g, P ds.length acc g → Q (.adr a) g
def dDc (ti : DTI) (tg : DTG) (tt : DTT) (tk tv : DTE) (vs : List Nat) : DTE := fun Γ g Q => ti Γ g fun ds keep g1 => dDcI ds keep tg tt tk tv vs Γ g1 Q
theorem sim_dc {K : PySem.W.Frag} {wi : TI} {ti : DTI} {tg : DTG} {tt : DTT} {tk tv : DTE} {vs : List Nat} (si : SimI K wi ti) : SimE K (tDc wi (liftG K vs tg) (liftT K tt) (liftE K tk) (liftE K tv) vs) (dDc ti tg tt tk tv vs) := by
  intro σ H Γ g Q Q' hG hH k h
  refine si σ H Γ g _ _ hG hH (fun J ds keep g1 H1 t1 hH1 src q1 => ?_) h
  intro a ha
  obtain ⟨hz, P, h0, hk, ht, hd⟩ := q1 a (hH1.free ha)
  have t2 : TupX K H1 (upd H1 a (.dK [])) := tupX_new ha
  have hH2 : HR K (upd H1 a (.dK [])) (gup g1 a (.dI [])) := hH1.put t2 ⟨[], upd_same, rfl⟩
  refine ⟨fun i m H' => m = ds.length - i ∧ i ≤ ds.length ∧ ∃ acc g', TupX K H1 H' ∧ HR K H' g' ∧ P i acc g', ⟨ds.length, by simp, Nat.zero_le _, [], _, t2, hH2, h0⟩, ?_⟩
  rintro i m H' ⟨rfl, hi, acc, g', t3, hH3, p⟩
  obtain ⟨kp, ga⟩ := hk i acc g' hi p
  by_cases hlt : i < ds.length
  · refine .inr ⟨src.go i H' g' t3 hH3 kp hlt, fun H'' => ∃ acc g', TupX K H1 H'' ∧ HR K H'' g' ∧ P (i + 1) acc g', fun H'' p' => ⟨ds.length - (i + 1), by omega, rfl, hlt, p'⟩, fun x H4 y => ?_⟩
    obtain ⟨d, hd', iv, t4, hH4⟩ := src.yld i H' g' x H4 t3 hH3 kp hlt y
    have t14 := t3.trans t4
    refine ⟨d, wipeG Γ vs, g', _, iv, gr_wipe (hG.mono (t1.trans t14)) vs, hH4, fun Γ5 g5 σ5 H5 t5 hG5 hH5 w5 q5 => ⟨w5.trans wipe_wipe, ?_⟩, ht i d acc g' hd' p⟩
    refine ⟨Γ5, g5, _, hG5, hH5, fun b g6 H6 t6 hH6 q6 => ?_, q5⟩
    cases b with
    | false => exact ⟨acc, g6, (t14.trans t5).trans t6, hH6, q6⟩
    | true =>
      refine ⟨Γ5, g6, _, hG5.mono t6, hH6, fun dz g7 vz H7 t7 i7 hH7 q7 => ?_, q6⟩
      refine ⟨Γ5, g7, _, (hG5.mono t6).mono t7, hH7, fun dy g8 vy H8 t8 i8 hH8 q8 => ?_, q7⟩
      obtain ⟨j, rfl, ga8, hl, q8⟩ := q8
      obtain ⟨us, e1, e2⟩ := hH8 a _ ga8
      cases (show vz = V.int j from i7)
      have t9 : TupX K H8 (upd H8 a (.dK (putK us (kI j) vy))) := tupX_upd (by rw [e1]; trivial)
      refine ⟨us, kI j, rfl, e1, by rw [e2.length]; omega, dputD acc j dy, _, ((((t14.trans t5).trans t6).trans t7).trans t8).trans t9, ?_, q8⟩
      exact hH8.put t9 ⟨_, upd_same, (ImP.putv kI_inj i8 e2).mono t9⟩
  · have e : i = ds.length := by omega
    subst e
    exact .inl ⟨src.stop _ H' g' t3 hH3 kp (Nat.le_refl _), k _ _ _ _ (t1.trans t3) im_a hH3 (hd acc g' p)⟩
theorem de_dc {X : Cx} {kx vx tgE iter : Expr} {ifs : List Expr} {scope : Scope} {own : List (Str × Nat)} {pos : Pos} {ti : DTI} {tg : DTG} {tt : DTT} {tk tv : DTE} (hi : DI X tgE iter ti) (hN : X.N.Nodup) (ok : BlkOk X.N X.env.scope scope own)
    (hg : ∀ (s : Shared) (H : Hp) (C : Addr) (cl : List (Str × Addr)) (fp : List Addr), DGo (X.blk s H scope (compEnvC scope cl C X.env) fp) (own.map (·.2)) tgE tg) (ht : ∀ (s : Shared) (H : Hp) (C : Addr) (cl : List (Str × Addr)) (fp : List Addr), DTs (X.blk s H scope (compEnvC scope cl C X.env) fp) ifs tt)
    (hk : ∀ (s : Shared) (H : Hp) (C : Addr) (cl : List (Str × Addr)) (fp : List Addr), DE (X.blk s H scope (compEnvC scope cl C X.env) fp) kx tk)
    (he : ∀ (s : Shared) (H : Hp) (C : Addr) (cl : List (Str × Addr)) (fp : List Addr), DE (X.blk s H scope (compEnvC scope cl C X.env) fp) vx tv) (hc : X.calm = true := by rfl) (hs : ∀ x, foldedSetIterable iter X.env x = pure x := by intro _; rfl) :
    DE X (.DictComp kx vx [⟨tgE, iter, ifs, 0⟩] scope pos) (dDc ti tg tt tk tv (own.map (·.2))) := by
  obtain ⟨wi, pi, si⟩ := hi
  exact ⟨_, pe_dc (g := liftG X.K (own.map (·.2)) tg) (tt := liftT X.K tt) (tk := liftE X.K tk) (tv := liftE X.K tv) hc hN pi ok (fun s H C cl fp => (hg s H C cl fp).lift) (fun s H C cl fp => (ht s H C cl fp).lift) (fun s H C cl fp => (hk s H C cl fp).lift) (fun s H C cl fp => (he s H C cl fp).lift) hs, sim_dc si⟩
end DL
set_option Elab.async false
set_option linter.all false
set_option maxRecDepth 100000
set_option maxHeartbeats 4000000
namespace DL
open PySem PySem.Spec PyProof.Rows L2

/-! ### enumerate of a tuple -/
theorem meets_enum1 {v : Value} {o : Obj} {H : Heap → Prop} (B : PySem.Begins v o H) :
    Meets (Builtin.«enumerate.__new__» ⟨[.type "enumerate", v], []⟩) (fun _ R s => H s.heap ∧
      R (.ok (.ret (.ref (s.heap.push o).objs.size))) { s with heap := (s.heap.push o).push { cls := .type "enumerate", data := .fields #[.none, .bool false, .ref s.heap.objs.size, rawInt 0, .none, .none] } }) :=
  .of_wp fun prog w A R s h => by
    obtain ⟨hp, g, d, tk, os⟩ := s
    obtain ⟨h1, h⟩ := h
    have hsub := sub_enumerate
    have begins : ∀ {A' : Around} {E : Value → Shared → Prop} {Q : Value → Shared → Prop}, Q (.ref hp.objs.size) ⟨hp.push o, g, d, tk, os⟩ → wpAny (model prog w) A' (pyIter v) Q E ⟨hp, g, d, tk, os⟩ :=
      fun q => B.iter prog w _ _ ⟨hp, g, d, tk, os⟩ _ h1 q
    wp_walk using begins
    refine wpAny_stack_any fun st => wpAny_pure ?_
    split
    · rename_i c _ _ _ _ _
      cases (c == Value.type "enumerate") <;>
      · wp_walk using begins
        exact ⟨_, rfl, h⟩
    · wp_walk using begins
      exact ⟨_, rfl, h⟩
theorem call_enum1 {prog : Program} {w : World} {A : Around} {E : Value → Shared → Prop} {s : Shared} {v : Value} {o : Obj} {H : Heap → Prop} {Q : Value → Shared → Prop} (B : PySem.Begins v o H) (h1 : H s.heap)
    (h : ∀ h', IsEnum h' (s.heap.objs.size + 1) s.heap.objs.size 0 .none → h'.get? s.heap.objs.size = some o → h'.objs.size = s.heap.objs.size + 2 →
      (∀ b o, s.heap.get? b = some o → h'.get? b = some o) → Q (.ref (s.heap.objs.size + 1)) { s with heap := h' }) :
    wpAny (model prog w) A (call (.type "enumerate") [v]) Q E s := by
  refine callType_new F.called_enumerate (by decide) (F.typeCall_enumerate_1 _) (F.newCall_enumerate_1 _) (fun obj => F.args_object_init_2 obj _) F.entry_enumerate_new (meets_enum1 B) ⟨h1, ?_⟩
  have hz : (s.heap.push o).objs.size = s.heap.objs.size + 1 := Heap.size_push ..
  show _ ∧ _
  rw [hz]
  have he : IsEnum ((s.heap.push o).push { cls := .type "enumerate", data := .fields #[.none, .bool false, .ref s.heap.objs.size, rawInt 0, .none, .none] }) (s.heap.objs.size + 1) s.heap.objs.size 0 .none := by
    have q := Heap.get?_push_size (s.heap.push o) (o := { cls := .type "enumerate", data := .fields #[.none, .bool false, .ref s.heap.objs.size, rawInt 0, .none, .none] }) rfl
    rw [hz] at q
    exact q
  exact ⟨⟨_, he, rfl⟩, h _ he (Heap.get?_push_of_some _ (Heap.get?_push_size _ B.free)) (by rw [Heap.size_push, hz]) fun b o x => Heap.get?_push_of_some _ (Heap.get?_push_of_some _ x)⟩
/-- the items of the tuple at a, each in a new pair -/
def Itte (K : PySem.W.Frag) (a : Addr) : L2.It :=
  ⟨fun i H => ∃ (xs : List V) (x : V), SqT K H a xs ∧ xs[i]? = some x, fun i H v H' => ∃ T x, v = .ref T ∧ H T = none ∧ H' = upd H T (.tup [.int (i : Nat), x]) ∧ ∀ xs, SqT K H a xs → xs[i]? = some x, fun i H => ∃ xs : List V, SqT K H a xs ∧ xs.length ≤ i⟩
theorem turn_enumT {P : Program} {w : World} {K : PySem.W.Frag} {elts : List Expr} {kk : Nat} {tpos : Pos} (a e it : Addr) :
    Turn P w K (.Tuple elts kk tpos) (Itte K a) [e, it] e (fun i h => (∃ old, IsEnum h e it ((i : Nat) : Int) old) ∧ h.IsTupleIter it a i ∧ e ≠ it) where
  mem := by simp
  obj := fun i h st b hb => by
    obtain ⟨⟨old, he⟩, ⟨o, ho, hc, hd⟩, _⟩ := st
    rcases List.mem_cons.mp hb with z | z
    · rw [z]; exact ⟨_, he, fun v q => nomatch q⟩
    · rw [List.mem_singleton.mp z]; exact ⟨o, ho, fun v q => by rw [hd] at q; cases q⟩
  keep := fun i h h' st k => let ⟨⟨old, he⟩, hi, hne⟩ := st; ⟨⟨old, k e (by simp) _ he⟩, hi.at fun o q => k it (by simp) o q, hne⟩
  item := by
    intro X hP hw hK hc i pins s σ H E I hf st hg
    subst hP hw hK
    obtain ⟨⟨old, he⟩, hit, hne⟩ := st
    obtain ⟨xs, x, hq, hx⟩ := hg
    obtain ⟨its, rv, p, hz⟩ := I.tuple hq
    obtain ⟨u, hu, ru⟩ := rv.get hx
    have hel : e < s.heap.objs.size := Heap.lt_size he
    have hil : it < s.heap.objs.size := by obtain ⟨_, q, _⟩ := hit; exact Heap.lt_size q
    have p' : s.heap.IsTuple a its.toArray := p
    have hae : a ≠ e := fun z => by
      obtain ⟨o, ho, hc', _⟩ := p'
      rw [z, he] at ho
      have q := Option.some.inj ho
      rw [← q] at hc'
      have q2 : Value.type "enumerate" = Value.type "tuple" := hc'
      exact absurd q2 (by decide)
    have hai : a ≠ it := fun z => by
      obtain ⟨o, ho, hc', _⟩ := p'
      obtain ⟨o2, ho2, hc2, _⟩ := hit
      rw [z, ho2] at ho
      have q := Option.some.inj ho
      rw [← q, hc2] at hc'
      exact absurd hc' (by decide)
    have Dr := Draws.tuple (prog := X.prog) (w := X.w) (A := X.A.in1) (I.ok.hd hc) it a hai its.toArray
    have hlt : i < its.toArray.size := by
      have q := (List.getElem?_eq_some_iff.mp hu).1
      rw [List.size_toArray]
      exact q
    refine wpAny_pyNext_enum_itemD Dr he ⟨hit, p'⟩ hlt hne (by simp only [List.mem_cons, List.not_mem_nil, or_false, not_or]; exact ⟨hne, fun z => hae z.symm⟩) fun x' h' tk hP ho hst' hT hsz hk => ?_
    have ex : x' = u := by
      have q : its.toArray[i]? = some x' := hP
      rw [List.getElem?_toArray, hu] at q
      exact (Option.some.inj q).symm
    subst ex
    refine ⟨_, rfl, wpAny_letOwnedTupleGo_enum (s := { s with heap := h', toks := tk + 1 }) ho fun h'' he' sb => ?_⟩
    have hT2 : h''.get? s.heap.objs.size = some { cls := .type "tuple", data := .seq #[.int i tk, x'] } := (sb.2 _ (Nat.ne_of_gt hel)).trans hT
    have new : ObjOk X.prog X.w (upd H s.heap.objs.size (.tup [.int (i : Nat), x])) h'' s.heap.objs.size (.tup [.int (i : Nat), x]) :=
      ⟨by show 2 ≤ sizeLine; decide, [.int i tk, x'], .cons ⟨_, rfl⟩ (.cons ru .nil), ⟨_, hT2, rfl, _, rfl⟩⟩
    have I1 : Inv X pins σ (upd H s.heap.objs.size (.tup [.int (i : Nat), x])) { s with heap := h'', toks := tk + 1 } :=
      I.turnedNew (ch := [e, it]) (fun b ob hb q => (sb.2 b (fun z => hb (by simp [z]))).trans (hk b ob (fun z => hb (by simp [z])) (fun z => hb (by simp [z])) q)) hf (Nat.le_refl _) new
    refine ⟨.ref s.heap.objs.size, _, I1, rfl, ⟨_, x, rfl, I.hok.fresh (Nat.le_refl _), rfl, fun ys hy => by rw [I.tuple_inj hy hq]; exact hx⟩, ⟨⟨x', ?_⟩, hst'.1.at fun o q => (sb.2 it (Ne.symm hne)).trans q, hne⟩, fun b hb => ?_⟩
    · rw [show ((i + 1 : Nat) : Int) = (i : Int) + 1 by omega]
      exact he'
    · have hb' : b < s.heap.objs.size := by
        rcases List.mem_cons.mp hb with z | z
        · rw [z]; exact hel
        · rw [List.mem_singleton.mp z]; exact hil
      rw [upd_ne (Nat.ne_of_lt hb')]
      exact (hf b hb).1
  done := by
    intro X hP hw hK hc i pins s σ H E I hf st hg
    subst hP hw hK
    obtain ⟨⟨old, he⟩, hit, hne⟩ := st
    obtain ⟨xs, hq, hx⟩ := hg
    obtain ⟨its, rv, p, hz⟩ := I.tuple hq
    have p' : s.heap.IsTuple a its.toArray := p
    have hai : a ≠ it := fun z => by
      obtain ⟨o, ho, hc', _⟩ := p'
      obtain ⟨o2, ho2, hc2, _⟩ := hit
      rw [z, ho2] at ho
      have q := Option.some.inj ho
      rw [← q, hc2] at hc'
      exact absurd hc' (by decide)
    obtain ⟨f0, f1, f2, f3, f4, f5⟩ := hf it (by simp)
    have hl := rv.length
    have hT : s.TypeIs (.ref e) "enumerate" := ⟨_, he, rfl⟩
    unfold pyNext
    refine wpAny_bind (wpAny_attempt (wpAny_callSpecial?_slot (name := Str.ofString "__next__") hT F.slot_enumerate_next
      (wpAny_call_entry F.slot_enumerate_next hT F.entry_enumerate_next ?_ (F.args_enumerate_next_1 _))))
    show wpAny _ _ (field (.ref e) 2 >>= _) _ _ _
    refine wpAny_bind (wpAny_field he rfl (x := .ref it) rfl ?_)
    refine wpAny_bind (wpAny_nextOf_tuple_end (I.ok.hd hc) hit p' (by rw [List.getElem?_toArray]; exact List.getElem?_eq_none (by omega)) fun h' x' eb hx' => ?_)
    obtain ⟨o, ho, hcl⟩ := hx'
    refine wpAny_bind (wpAny_isInstance (T := "StopIteration") (b := true) ⟨o, ho, hcl⟩ isSubtype_stop ?_)
    exact wpAny_pure ⟨rfl, I.turned (t' := s.toks) (fun b o hb q => eb b o hb q) f0 f1 f3 f4 f5⟩
  self := fun A i s Q E st h => let ⟨⟨_, he⟩, _⟩ := st; wpAny_pyIter_enum he h
def iEnumT (K : PySem.W.Frag) (ta : TA) : TI := fun σ H R => ta σ H fun vs H1 => ∃ a xs, vs = [.ref a] ∧ SqT K H1 a xs ∧ R (Itte K a) H1
theorem pi_enumT {X : Cx} {e : Expr} {ta : TA} {p pos tpos : Pos} {elts : List Expr} {kk : Nat} (hg : Gl X "enumerate") (hm : X.mg "enumerate" = none) (ha : PA X [e] ta) (hs : starEach [e] X.env = [(false, eval e X.env)] := by rfl) :
    PI X (.Tuple elts kk tpos) (.Call (.Name "enumerate" p) [e] [] pos) (iEnumT X.K ta) := by
  refine ⟨fun pins s σ H R I h => ?_⟩
  refine Call_ (ld_blt I hg hm boot_enumerate (PyProof.Rows.callWith_type1 (thn (ha.run pos pins s σ H _ I h) fun us s1 ⟨vs, H1, I1, r1, q1⟩ => ?_) hs rfl))
  obtain ⟨a, xs, ex, hq, q⟩ := q1
  subst ex
  obtain ⟨u, rfl, r⟩ := vals1 r1
  obtain rfl : u = Value.ref a := r
  obtain ⟨its, rv, p', hz⟩ := I1.tuple hq
  refine call_enum1 (PySem.begins_tuple a its.toArray) p' fun h' he hit hsz hk => wpAny_pyIter_enum he ?_
  have I2 : Inv X pins σ H1 { s1 with heap := h' } := I1.kept (t' := s1.toks) hk
  refine ⟨s1.heap.objs.size + 1, [s1.heap.objs.size + 1, s1.heap.objs.size], _, _, H1, rfl, I2, turn_enumT a (s1.heap.objs.size + 1) s1.heap.objs.size, ⟨⟨.none, he⟩, ⟨_, hit, rfl, rfl⟩, Nat.succ_ne_self _⟩, fun b hb => ?_, q⟩
  have hle : s1.heap.objs.size ≤ b := by
    rcases List.mem_cons.mp hb with z | z
    · rw [z]; exact Nat.le_add_right _ _
    · rw [List.mem_singleton.mp z]; exact Nat.le_refl _
  exact I1.fpOk hle (I1.hok.fresh hle)
def iET (te : DTE) : DTI := fun Γ g Q => te Γ g fun x g1 => ∃ ds, x = .tup ds ∧ Q (enumD 0 ds) (fun _ => True) g1
theorem di_enumT {X : Cx} {e : Expr} {te : DTE} {p pos tpos : Pos} {elts : List Expr} {kk : Nat} (he : DE X e te) (hm : X.mg "enumerate" = none) (hgl : Gl X "enumerate" := by rfl) (hst : starEach [e] X.env = [(false, eval e X.env)] := by rfl) : DI X (.Tuple elts kk tpos) (.Call (.Name "enumerate" p) [e] [] pos) (iET te) := by
  obtain ⟨xe, pe, se⟩ := he
  refine ⟨_, pi_enumT hgl hm (pa_cons pe pa_nil hst) hst, fun σ H Γ g Q R hG hH k h => ?_⟩
  refine se σ H Γ g _ _ hG hH (fun d g1 v H1 t1 i1 hH1 q1 => ?_) h
  obtain ⟨ds, rfl, q⟩ := q1
  obtain ⟨a, xs, rfl, e1, e2⟩ := i1
  refine ⟨a, xs, rfl, e1, k _ _ _ g1 H1 t1 hH1 ⟨fun i H g t hH hk hi => ?_, fun i H g x H' t hH hk hi y => ?_, fun i H g t hH hk hi => ?_⟩ q⟩
  · rw [enumD_len] at hi
    obtain ⟨u, hu, iu⟩ := e2.get (List.getElem?_eq_getElem hi)
    exact ⟨xs, u, t.1 a xs e1, hu⟩
  · rw [enumD_len] at hi
    obtain ⟨u, hu, iu⟩ := e2.get (List.getElem?_eq_getElem hi)
    obtain ⟨T, x', rfl, hT, rfl, y⟩ := y
    have ex := y xs (t.1 a xs e1)
    rw [hu] at ex
    cases ex
    have t4 : TupX X.K H (upd H T (.tup [.int (i : Nat), u])) := tupX_new hT
    refine ⟨_, ?_, im_t (SqT.of upd_same) (imL_c im_i (ImL.one ((iu.mono t).mono t4))), t4, hH.new hT⟩
    rw [enumD_get, List.getElem?_eq_getElem hi, Nat.zero_add]
    rfl
  · rw [enumD_len] at hi
    exact ⟨xs, t.1 a xs e1, by rw [e2.length]; exact hi⟩
end DL
set_option Elab.async false
set_option linter.all false
set_option maxRecDepth 100000
set_option maxHeartbeats 4000000
namespace DL
open PySem PySem.Spec PyProof.Rows L2

/-! ### max(d.values()), sorted(d.keys()) -/
/-- the greatest of a dict's int values -/
def tMaxV (td : TE) : TE := fun σ H Q => td σ H fun x H1 => ∃ (a : Addr) (kvs : List (Key × V)) (ms : List Int), x = V.ref a ∧ H1 a = some (.dK kvs) ∧ kvs.map Prod.snd = ms.map V.int ∧ 0 < ms.length ∧ ∀ m ∈ ms, (∀ j ∈ ms, j ≤ m) → Q (.int m) H1
/-- its int keys, ascending -/
def tSortK (td : TE) : TE := fun σ H Q => td σ H fun x H1 => ∃ (a : Addr) (kvs : List (Key × V)) (ks : List Int), x = V.ref a ∧ H1 a = some (.dK kvs) ∧ kvs.map Prod.fst = ks.map Sum.inl ∧ ks.length < 64 ∧
  ∀ (ys : List Int) (p : Addr), ys.Perm ks → ys.Pairwise (· ≤ ·) → H1 p = none → Q (.ref p) (upd H1 p (.lst (ys.map V.int)))
section
variable {X : Cx} {o : Expr} {p pos apos mpos : Pos} {td : TE}
theorem pe_maxV (hc : X.calm = true) (hg : Gl X "max") (hm : X.mg "max" = none) (hd : PE X o td) (hbase : attributeBase o "values" X.env (eval o X.env) = eval o X.env) (hline : (apos.endLine == mpos.line) = true)
    (hse : starEach [Expr.Call (.Attribute o "values" apos) [] [] mpos] X.env = [(false, eval (Expr.Call (.Attribute o "values" apos) [] [] mpos) X.env)]) :
    PE X (.Call (.Name "max" p) [.Call (.Attribute o "values" apos) [] [] mpos] [] pos) (tMaxV td) := by
  constructor
  intro pins s σ H Q I h
  refine wpAny_Call_Name_kw (ld_blt I hg hm (u := .builtin "max") (by first | rfl | decide +kernel) ?_ (by decide) (by decide))
  rw [hse]
  refine PySem.callWith_builtin1 (wpAny_Call_method0_late hbase hline (thn (hd.run pins s σ H _ I h) fun v s1 hv1 => ?_))
  obtain ⟨x, H1, I1, r1, a, kvs, ms, ex, ha, hv, hne, q⟩ := hv1
  subst ex
  obtain rfl : v = Value.ref a := r1
  obtain ⟨_, hsys, vs, rel, dof⟩ := dk_of I1.hok ha
  obtain ⟨ep, dat⟩ := dof.dictAt
  obtain ⟨ob, es, ho, ex, hdat, hko, hpr, hnd⟩ := id dat
  refine ⟨"dict", "dict.values", F.plainAttrs_dict, F.slot_dict_values, F.type_dict_values, ⟨ob, ho, ex.1⟩, fun b e => ?_, Calls.callWith_builtin rfl (PySem.evalArgs_none ?_)⟩
  · cases e
    exact ⟨ob, ho, ex.2.1⟩
  refine call_meetsIn F.slot_dict_values ⟨ob, ho, ex.1⟩ F.entry_dict_values (F.args_dict_values_1 _) (meets_dict_values (mixKind X.prog X.w) a hsys) ⟨⟨vs, dof⟩, ?_⟩
  have k1 : ∀ b u, s1.heap.get? b = some u → (s1.heap.push { cls := .type "dict_values", data := .fields #[.ref a] }).get? b = some u := fun b u e => Heap.get?_push_of_some _ e
  have dat1 := dat.keep k1
  have hlv : vs.length = ms.length := by
    have e1 := congrArg List.length hv
    rw [List.length_map, List.length_map] at e1
    exact (KV.length rel).symm.trans e1
  have hval : ∀ (i : Nat) (v : Value), (∃ k, vs[i]? = some (k, v)) → ∃ t, v = Value.int (ms.getD i 0) t := fun i v ⟨k, hk⟩ => by
    obtain ⟨x, h1, h2⟩ : ∃ x, kvs[i]? = some (k, x) ∧ RelV x v := KV.at' rel hk
    have e1 := congrArg (fun l : List V => l[i]?) hv
    simp only [List.getElem?_map, h1, Option.map_some] at e1
    cases hj : ms[i]? with
    | none => rw [hj] at e1; cases e1
    | some j =>
      rw [hj] at e1
      obtain rfl : x = V.int j := Option.some.inj e1
      obtain ⟨t, e3⟩ : ∃ t, v = Value.int j t := h2
      exact ⟨t, by rw [e3, List.getD_eq_getElem?_getD, hj] <;> rfl⟩
  refine call_max_walk (wpAny_pyIter_values (v := s1.heap.objs.size) (d := a) ⟨_, Heap.get?_push_size _ rfl, rfl, rfl⟩ dat1 ?_)
  have hlt : a < s1.heap.objs.size := Heap.lt_size ho
  have hsz : (s1.heap.push { cls := .type "dict_values", data := .fields #[.ref a] }).objs.size = s1.heap.objs.size + 1 := Heap.size_push _ _
  refine ⟨_, _, _, _, _, _, _, rfl, Walks.dictValues (knd := mixKind X.prog X.w) (A := X.A.in1) (I.ok.hd hc) (s1.heap.push { cls := .type "dict_values", data := .fields #[.ref a] }).objs.size a (by rw [hsz]; exact Nat.ne_of_lt (Nat.lt_succ_of_lt hlt)) vs ep,
    ⟨⟨_, Heap.get?_push_size _ rfl, rfl, rfl⟩, dat1.keep fun b u e => Heap.get?_push_of_some _ e⟩, fun b hb => ?_, by omega, CmpOf.ints_gt (fun i => ms.getD i 0) hval, fun v h' tk hP hk => ?_⟩
  · show b < ((s1.heap.push _).push _).objs.size
    rw [Heap.size_push, Heap.size_push]
    rw [hsz] at hb
    rcases List.mem_cons.mp hb with e | hb
    · rw [e]
      exact Nat.lt_succ_self _
    · rw [List.mem_singleton.mp hb]
      exact Nat.lt_succ_of_lt (Nat.lt_succ_of_lt hlt)
  · obtain ⟨t, rfl⟩ := hval _ v hP
    obtain ⟨b1, b2⟩ := argBest_gt (fun i => ms.getD i 0) (vs.length - 1)
    refine ⟨.int _, H1, I1.kept (t' := tk) fun b u e => hk b u (fun hmem => ?_) (Heap.get?_push_of_some _ (k1 b u e)), ⟨t, rfl⟩, q _ ?_ fun j hj => ?_⟩
    · have e1 := List.mem_singleton.mp hmem
      have e2 := Heap.lt_size e
      rw [hsz] at e1
      rw [e1] at e2
      exact absurd e2 (Nat.not_lt.mpr (Nat.le_succ _))
    · have hb : argBest (fun i j => decide (ms.getD i 0 > ms.getD j 0)) (vs.length - 1) < ms.length := by omega
      rw [List.getD_eq_getElem?_getD, List.getElem?_eq_getElem hb]
      exact List.getElem_mem hb
    · obtain ⟨i, hi, e⟩ := List.mem_iff_getElem.mp hj
      have e2 : ms.getD i 0 = j := by rw [List.getD_eq_getElem?_getD, List.getElem?_eq_getElem hi, ← e] <;> rfl
      rw [← e2]
      exact b2 i (by omega)
theorem pe_sortK (hc : X.calm = true) (hg : Gl X "sorted") (hm : X.mg "sorted" = none) (hd : PE X o td) (hbase : attributeBase o "keys" X.env (eval o X.env) = eval o X.env) (hline : (apos.endLine == mpos.line) = true)
    (hse : starEach [Expr.Call (.Attribute o "keys" apos) [] [] mpos] X.env = [(false, eval (Expr.Call (.Attribute o "keys" apos) [] [] mpos) X.env)]) :
    PE X (.Call (.Name "sorted" p) [.Call (.Attribute o "keys" apos) [] [] mpos] [] pos) (tSortK td) := by
  constructor
  intro pins s σ H Q I h
  refine wpAny_Call_Name_kw (ld_blt I hg hm (u := .builtin "sorted") (by first | rfl | decide +kernel) ?_ (by decide) (by decide))
  rw [hse]
  refine PySem.callWith_builtin1 (wpAny_Call_method0_late hbase hline (thn (hd.run pins s σ H _ I h) fun v s1 hv1 => ?_))
  obtain ⟨x, H1, I1, r1, a, kvs, ks, ex, ha, hks, h64, q⟩ := hv1
  subst ex
  obtain rfl : v = Value.ref a := r1
  obtain ⟨_, hsys, vs, rel, dof⟩ := dk_of I1.hok ha
  obtain ⟨ep, dat⟩ := dof.dictAt
  obtain ⟨ob, es, ho, ex, hdat, hko, hpr, hnd⟩ := id dat
  refine ⟨"dict", "dict.keys", F.plainAttrs_dict, F.slot_dict_keys, F.type_dict_keys, ⟨ob, ho, ex.1⟩, fun b e => ?_, Calls.callWith_builtin rfl (PySem.evalArgs_none ?_)⟩
  · cases e
    exact ⟨ob, ho, ex.2.1⟩
  refine call_meetsIn F.slot_dict_keys ⟨ob, ho, ex.1⟩ F.entry_dict_keys (F.args_dict_keys_1 _) (PySem.W.kdl_meets_keys (mixKind X.prog X.w) a hsys) ⟨⟨vs, dof⟩, ?_⟩
  have k1 : ∀ b u, s1.heap.get? b = some u → (s1.heap.push { cls := .type "dict_keys", data := .fields #[.ref a] }).get? b = some u := fun b u e => Heap.get?_push_of_some _ e
  have dat1 := dat.keep k1
  have hkeys : vs.map Prod.fst = ks.map Sum.inl := rel.keys.symm.trans hks
  have hl : vs.length = ks.length := by
    have e := congrArg List.length hkeys
    rw [List.length_map, List.length_map] at e
    exact e
  have h16 : vs.length ≤ sizeLine := by rw [hl, sizeLine_eq]; omega
  refine Calls.call_function_entry PyProof.Rows.kind_sorted PyProof.Rows.plain_sorted PyProof.Rows.entry_sorted (PyProof.Rows.args_sorted1 _) ?_
  unfold Builtin.«sorted»
  refine wpAny_bind (m := checkCount "sorted" 1 1 _) (wpAny_pure ?_)
  refine wpAny_bind (PySem.W.kdu_collect (A := X.A.in1) (PySem.W.kdl_keys (knd := mixKind X.prog X.w) (kvs := vs) (ep := ep)) (I.ok.hd hc) ⟨⟨_, Heap.get?_push_size _ rfl, rfl, rfl⟩, dat1⟩ h16 fun h' tk acc hk hacc => ?_)
  have hal : acc.toList.length = ks.length := by rw [Array.length_toList, hacc.1, hl]
  have hS : IntsAre acc.toList ks := ints_each hal fun j v e => by
    obtain ⟨k, x, e1, e2⟩ := hacc.2 j v (by rw [← Array.getElem?_toList]; exact e)
    have e3 := congrArg (fun l : List Key => l[j]?) hkeys
    simp only [List.getElem?_map, e1, Option.map_some] at e3
    cases e4 : ks[j]? with
    | none => rw [e4] at e3; cases e3
    | some y =>
      rw [e4] at e3
      have e5 : k = Sum.inl y := Option.some.inj e3
      subst e5
      rcases keyIs_shape (show keyIs (Sum.inl y) v = true from e2) with ⟨i, t, ek, ev⟩ | ⟨z, t, ek, ev⟩
      · cases ek
        exact ⟨y, t, rfl, ev⟩
      · cases ek
  have I2 : Inv X pins σ H1 { s1 with heap := h', toks := tk } := I1.kept fun b u e => hk b u (k1 b u e)
  refine wpAny_bind (wpAny_newList ?_ (by rw [hal, sizeLine_eq]; omega))
  have hoL : (h'.push (seqObj "list" acc.toList.toArray 0)).get? h'.objs.size = some (seqObj "list" acc.toList.toArray 0) := Heap.get?_push_size _ rfl
  show wpAny _ _ _ _ _ { s1 with heap := h'.push (seqObj "list" acc.toList.toArray 0), toks := tk }
  refine wpAny_bind (wpAny_holding (wpAny_call_entry PyProof.Rows.slot_list_sort ⟨_, hoL, rfl⟩ PyProof.Rows.entry_list_sort
    (PyProof.Rows.list_sort_tree (s := { s1 with heap := h'.push (seqObj "list" acc.toList.toArray 0), toks := tk }) hoL hS (by rw [hal]; exact h64) fun out ys g1 g2 g3 => ⟨_, rfl, ?_⟩) (PyProof.Rows.args_list_sort _)))
  obtain ⟨e', he'⟩ := PyProof.Rows.sortedHeap_at (vs := acc.toList) (out := out) hoL
  have hlen : (ys.map V.int).length ≤ sizeLine := by
    rw [List.length_map, g2.length_eq]
    exact Nat.le_trans (Nat.le_of_lt h64) (by decide)
  refine wpAny_pure ⟨_, rfl, .ref h'.objs.size, upd H1 h'.objs.size (.lst (ys.map V.int)), I2.laid (t' := tk) (fun b u e => ?_) (Nat.le_refl _) ⟨hlen, out.toList, e', vals_of_ints g1, he'⟩, rfl, q ys _ g2 g3 (I2.hok.fresh (Nat.le_refl _))⟩
  have hlt := Heap.lt_size e
  show (sortedHeap (h'.push (seqObj "list" acc.toList.toArray 0)) h'.objs.size acc.toList out).get? b = some u
  rw [sortedHeap_old (Nat.ne_of_lt hlt) (by rw [size_push']; exact Nat.lt_succ_of_lt hlt)]
  exact Heap.get?_push_of_some _ e
end
end DL
set_option Elab.async false
set_option linter.all false
set_option maxRecDepth 100000
set_option maxHeartbeats 4000000
namespace DL
open PySem PySem.Spec PyProof.Rows L2

/-! ### tuples of ints of any sign, sorted -/
def rk (S B : Int) (ns : List Int) : Int := TS.code B (ns.map fun n => n + S)
def BdS (S B : Int) (ns : List Int) : Prop := TS.Bd B (ns.map fun n => n + S)
theorem rk_lt {S B d e : Int} {r q : List Int} (hl : r.length = q.length) (hr : BdS S B r) (hq : BdS S B q) (h : d < e) : rk S B (d :: r) < rk S B (e :: q) := by
  unfold rk
  rw [List.map_cons, List.map_cons]
  exact TS.code_lt (by rw [List.length_map, List.length_map]; exact hl) hr hq (by omega)
theorem rk_same {S B d : Int} {r q : List Int} (hl : r.length = q.length) : rk S B (d :: r) < rk S B (d :: q) ↔ rk S B r < rk S B q := by
  unfold rk
  rw [List.map_cons, List.map_cons]
  exact TS.code_same (by rw [List.length_map, List.length_map]; exact hl)
theorem BdS.tail {S B d : Int} {r : List Int} (h : BdS S B (d :: r)) : BdS S B r := by
  unfold BdS at h
  rw [List.map_cons] at h
  exact TS.Bd.tail h
section
variable {prog : Program} {w : World} {A : Around} {E : Value → Shared → Prop} {s : Shared} {Q : Bool → Shared → Prop}
theorem lexS {S B : Int} {b : Bool} {xs ys : List Value} {ns ms : List Int} (i : Nat) (hx : IntsAre xs ns) (hy : IntsAre ys ms) (hl : ns.length = ms.length) (h1 : BdS S B ns) (h2 : BdS S B ms)
    (h : Q (decide (rk S B ns < rk S B ms)) s) : PySem.W.KatLex prog w A b false Q (xs.zip ys) i s := by
  induction hx generalizing ys ms i with
  | nil =>
    cases hy with
    | nil =>
      rw [show decide (rk S B [] < rk S B []) = false from decide_eq_false (Int.lt_irrefl _)] at h
      exact PySem.W.kat_nil h
    | cons q u hy => simp at hl
  | @cons p t xs ns hx ih =>
    cases hy with
    | nil => simp at hl
    | @cons q u ys ms hy =>
      have hl' : ns.length = ms.length := by simpa using hl
      show PySem.W.KatLex prog w A b false Q ((Value.int p t, Value.int q u) :: xs.zip ys) i s
      refine PySem.W.kat_cons (wpAny_eqBool_int ?_)
      by_cases e : p = q
      · subst e
        rw [beq_self_eq_true]
        rw [decide_eq_decide.mpr (rk_same (S := S) (B := B) (d := p) hl')] at h
        refine PySem.W.kat_yes ?_
        exact ih (i + 1) hy hl' h1.tail h2.tail h
      · rw [show (p == q) = false from beq_eq_false_iff_ne.mpr e]
        refine PySem.W.kat_no (TS.oneLt_ints _ ?_)
        have d : decide (rk S B (p :: ns) < rk S B (q :: ms)) = decide (p < q) := by
          refine decide_eq_decide.mpr ⟨fun x => ?_, fun x => rk_lt hl' h1.tail h2.tail x⟩
          rcases Int.lt_trichotomy p q with y | y | y
          · exact y
          · exact absurd y e
          · have := rk_lt hl'.symm h2.tail h1.tail y
            omega
        rw [d] at h
        exact h
end
def TupsS (h : Heap) (d : Nat) (S B : Int) (vs : List Value) : Prop := ∀ v, v ∈ vs → ∃ ns, TS.TupInts h v ns ∧ ns.length = d ∧ BdS S B ns
theorem TupsS.keeps {h h' : Heap} {d : Nat} {S B : Int} {vs : List Value} (x : TupsS h d S B vs) (k : ∀ b o, h.get? b = some o → o.cls = .type "tuple" → h'.get? b = some o) : TupsS h' d S B vs := fun v hv =>
  let ⟨ns, t, r⟩ := x v hv
  ⟨ns, t.keeps k, r⟩
theorem firstsS {h : Heap} {d : Nat} {S B : Int} (hd : 1 ≤ d) : ∀ vs : List Value, TupsS h d S B vs → ∃ fs, PySem.W.KatTups h vs fs ∧ fs.length = vs.length ∧ ∀ f, f ∈ fs → ∃ n t, f = Value.int n t
  | [], _ => ⟨[], PySem.W.KatTups.nil, rfl, fun f hf => by cases hf⟩
  | v :: vs, x => by
    obtain ⟨fs, k, hl, hi⟩ := firstsS hd vs fun u hu => x u (List.mem_cons_of_mem _ hu)
    obtain ⟨ns, ⟨a, xs, rfl, ⟨o, ho, hc, n, hdt⟩, i⟩, hn, _⟩ := x v List.mem_cons_self
    cases q : xs.toList with
    | nil =>
      rw [q] at i
      have l := i.length
      rw [List.length_nil, hn] at l
      omega
    | cons y ys =>
      obtain ⟨m, t, hy⟩ := i.all y (by rw [q]; exact List.mem_cons_self)
      refine ⟨y :: fs, PySem.W.KatTups.cons ho hc hdt ?_ k, by rw [List.length_cons, List.length_cons, hl], fun f hf => ?_⟩
      · rw [← Array.getElem?_toList, q]
        rfl
      · rcases List.mem_cons.mp hf with rfl | hf
        · exact ⟨m, t, hy⟩
        · exact hi f hf
section
variable {prog : Program} {w : World} {A : Around} {E : Value → Shared → Prop} {s : Shared}
theorem kindS {d : Nat} {S B : Int} {vs : List Value} (hd : 1 ≤ d) (h2 : 2 ≤ vs.length) (x : TupsS s.heap d S B vs) (r : Value → Int) (hr : ∀ v, v ∈ vs → ∀ ns, TS.TupInts s.heap v ns → r v = rk S B ns) (Q : SortKind → Shared → Prop)
    (h : ∀ κ, TS.Cmp prog w A s κ (pairsOf vs) r → Q κ s) : wpAny (model prog w) A (keyKind' vs.toArray) Q E s := by
  obtain ⟨fs, k, hl, hi⟩ := firstsS hd vs x
  refine PySem.W.kat_kind (T := Value.type "int") k (by omega) (fun f hf => ?_) rfl (h _ ?_)
  · obtain ⟨n, t, rfl⟩ := hi f hf
    exact PySem.W.Looks.of_pure rfl
  · intro p q hp hq Q' E' hQ
    rw [pairsOf_toList] at hp hq
    obtain ⟨ns, tp, lp, bp⟩ := x _ (mem_zip_self hp).2
    obtain ⟨ms, tq, lq, bq⟩ := x _ (mem_zip_self hq).2
    have hQ' : Q' (decide (rk S B ns < rk S B ms)) s := by
      rw [← hr _ (mem_zip_self hp).2 _ tp, ← hr _ (mem_zip_self hq).2 _ tq]
      exact hQ
    obtain ⟨a, xs, e1, ⟨o, ho, hc, n, hdt⟩, i⟩ := tp
    obtain ⟨a', ys, e2, ⟨o', ho', hc', n', hdt'⟩, i'⟩ := tq
    rw [e1, e2]
    refine PySem.W.kat_lt ho hdt ho' hdt' ?_
    have l1 := i.length
    have l2 := i'.length
    rw [Array.length_toList] at l1 l2
    rw [show decide (xs.size < ys.size) = false from decide_eq_false (by omega)]
    exact lexS 0 i i' (by omega) bp bq hQ'
/-- list.sort -/
theorem sortS {a : Addr} {vs : List Value} {n d : Nat} {S B : Int} {P : PySem.Fin → Shared → Prop} (ho : s.heap.get? a = some (seqObj "list" vs.toArray n)) (h64 : vs.length < 64) (hd : 1 ≤ d) (x : TupsS s.heap d S B vs)
    (r : Value → Int) (hr : ∀ v, v ∈ vs → ∀ ns, TS.TupInts s.heap v ns → r v = rk S B ns)
    (h : ∀ out : Array Value, out.toList.Perm vs → out.toList.Pairwise (fun u v => r u ≤ r v) → P (.done (.ret .none)) { s with heap := sortedHeap s.heap a vs out }) :
    wpAny (model prog w) A (Builtin.«list.sort» ⟨[.ref a], []⟩) P E s := by
  have keep : ∀ b o, s.heap.get? b = some o → o.cls = .type "tuple" → (TS.midHeap s.heap a vs).get? b = some o := fun b o e hc => by
    refine TS.midHeap_old ?_ e
    intro z
    subst z
    rw [ho] at e
    cases e
    have c' : Value.type "list" = Value.type "tuple" := hc
    exact absurd c' (by decide)
  refine SK.plain_sort (r := r) ho h64 (fun h2 Q hQ => ?_) fun ps out h1 h2 h3 => ?_
  · refine kindS (s := { s with heap := TS.midHeap s.heap a vs }) hd h2 (x.keeps keep) r (fun v hv ns t => ?_) Q hQ
    obtain ⟨ns0, t0, _⟩ := x v hv
    rw [show ns = ns0 from t.ints.symm.trans (t0.keeps keep).ints]
    exact hr v hv ns0 t0
  · obtain ⟨p, o⟩ := TS.out_rank h1 h2 h3
    exact h out p o
/-- sorted(xs) -/
theorem sortedS {l : Addr} {vs : List Value} {d : Nat} {S B : Int} {Q : Value → Shared → Prop} (hl : s.heap.IsList l vs.toArray) (h64 : vs.length < 64) (hd : 1 ≤ d) (x : TupsS s.heap d S B vs)
    (h : ∀ out : Array Value, out.toList.Perm vs → out.toList.Pairwise (fun u v => rk S B (TS.intsOf s.heap u) ≤ rk S B (TS.intsOf s.heap v)) → Q (.ref (s.heap.objs.size + 1)) { s with heap := sortedAll s.heap vs out }) :
    wpAny (model prog w) A (call (.builtin "sorted") [.ref l]) Q E s := by
  refine Calls.call_function_entry kind_sorted plain_sorted entry_sorted (args_sorted1 _) ?_
  unfold Builtin.«sorted»
  refine wpAny_bind (m := checkCount "sorted" 1 1 _) (wpAny_pure ?_)
  refine wpAny_bind (collect_list hl ?_ (by rw [sizeLine_eq]; omega))
  refine wpAny_bind (wpAny_newList ?_ (by rw [sizeLine_eq]; omega))
  have hsz : ((s.heap.push (seqObj "list" #[] 0)).update s.heap.objs.size (Obj.mapSeq (· ++ vs.toArray))).objs.size = s.heap.objs.size + 1 := by
    rw [Heap.size_update, size_push']
  have hoL : (((s.heap.push (seqObj "list" #[] 0)).update s.heap.objs.size (Obj.mapSeq (· ++ vs.toArray))).push (seqObj "list" vs.toArray 0)).get? (s.heap.objs.size + 1) = some (seqObj "list" vs.toArray 0) := by
    rw [← hsz]
    exact Heap.get?_push_size _ rfl
  have keep : ∀ b o, s.heap.get? b = some o → o.cls = .type "tuple" → (((s.heap.push (seqObj "list" #[] 0)).update s.heap.objs.size (Obj.mapSeq (· ++ vs.toArray))).push (seqObj "list" vs.toArray 0)).get? b = some o := fun b o q _ => by
    have hlt : b < s.heap.objs.size := Heap.lt_size q
    rw [Heap.get?_push_ne _ _ _ (by rw [hsz]; exact Nat.ne_of_lt (Nat.lt_succ_of_lt hlt)), Heap.get?_update_ne _ _ _ _ (Nat.ne_of_lt hlt), Heap.get?_push_ne _ _ _ (Nat.ne_of_lt hlt)]
    exact q
  show wpAny _ _ _ _ _ { s with heap := ((s.heap.push (seqObj "list" #[] 0)).update s.heap.objs.size (Obj.mapSeq (· ++ vs.toArray))).push (seqObj "list" vs.toArray 0) }
  rw [hsz]
  refine wpAny_bind (wpAny_holding (wpAny_call_entry slot_list_sort ⟨_, hoL, rfl⟩ entry_list_sort (sortS hoL h64 hd (x.keeps keep) (fun v => rk S B (TS.intsOf s.heap v)) (fun v hv ns t => ?_) fun out a1 a2 => ⟨_, rfl, ?_⟩) (args_list_sort _)))
  · obtain ⟨ns0, t0, _⟩ := x v hv
    rw [show ns = ns0 from t.ints.symm.trans (t0.keeps keep).ints]
    show rk S B (TS.intsOf s.heap v) = _
    rw [t0.ints]
  · exact wpAny_pure ⟨_, rfl, h out a1 a2⟩
end
/-- pairs in order -/
def lexLe (x y u v : Int) : Prop := x < u ∨ (x = u ∧ y ≤ v)
theorem rk_pair (S B x y : Int) : rk S B [x, y] = (x + S) * B + (y + S) := by
  show (x + S) * B ^ 1 + ((y + S) * B ^ 0 + 0) = _
  rw [Int.pow_zero, Int.mul_one, Int.add_zero, show B ^ 1 = B by rw [Int.pow_succ, Int.pow_zero, Int.one_mul]]
theorem lex_of_rk {S B x y u v : Int} (h1 : BdS S B [x, y]) (h2 : BdS S B [u, v]) (h : rk S B [x, y] ≤ rk S B [u, v]) : lexLe x y u v := by
  rcases Int.lt_trichotomy x u with z | z | z
  · exact .inl z
  · subst z
    rw [rk_pair, rk_pair] at h
    exact .inr ⟨rfl, by omega⟩
  · have q := rk_lt (S := S) (B := B) (r := [v]) (q := [y]) rfl h2.tail h1.tail z
    omega
theorem bdS_of {S B : Int} {ns : List Int} (h : ∀ n ∈ ns, 0 ≤ n + S ∧ n + S < B) : BdS S B ns := fun m hm => by
  obtain ⟨n, hn, rfl⟩ := List.mem_map.mp hm
  exact h n hn
theorem tupI_inj {X : Cx} {pins : List (Addr × Obj)} {σ : L2.St} {H : Hp} {s : Shared} (I : Inv X pins σ H s) {t : Addr} {ns ms : List Int} (h1 : SqT X.K H t (ns.map V.int)) (h2 : SqT X.K H t (ms.map V.int)) : ns = ms :=
  (tupI_raw I h1).ints.symm.trans (tupI_raw I h2).ints
def rSort2 (K : PySem.W.Frag) : List V → Hp → VK → Prop := fun vs H Q => ∃ (a t1 t2 : Addr) (x y u v : Int), vs = [V.ref a] ∧ SqL K H a [.ref t1, .ref t2] ∧ SqT K H t1 [.int x, .int y] ∧ SqT K H t2 [.int u, .int v] ∧
  ∀ p, H p = none → (lexLe x y u v → Q (.ref p) (upd H p (.lst [.ref t1, .ref t2]))) ∧ (lexLe u v x y → Q (.ref p) (upd H p (.lst [.ref t2, .ref t1])))
theorem cr_sort2 {X : Cx} : CallR X (.builtin "sorted") (rSort2 X.K) := by
  intro pins s σ H vs us Q I r h
  obtain ⟨a, t1, t2, x, y, u, v, rfl, hs, h1, h2, q⟩ := h
  obtain ⟨its, rv, hl, hz⟩ := I.list hs
  rw [Vals.ref1 r]
  obtain ⟨v1, v2, rfl, r1, r2⟩ := vals2 rv
  obtain rfl : v1 = Value.ref t1 := r1
  obtain rfl : v2 = Value.ref t2 := r2
  have T1 : TS.TupInts s.heap (.ref t1) [x, y] := tupI_raw (ns := [x, y]) I h1
  have T2 : TS.TupInts s.heap (.ref t2) [u, v] := tupI_raw (ns := [u, v]) I h2
  let S : Int := x.natAbs + y.natAbs + u.natAbs + v.natAbs
  have hS : S = x.natAbs + y.natAbs + u.natAbs + v.natAbs := rfl
  have b1 : BdS S (2 * S + 1) [x, y] := bdS_of fun n hn => by
    rcases List.mem_cons.mp hn with z | z
    · subst z; omega
    · rw [List.mem_singleton.mp z]; omega
  have b2 : BdS S (2 * S + 1) [u, v] := bdS_of fun n hn => by
    rcases List.mem_cons.mp hn with z | z
    · subst z; omega
    · rw [List.mem_singleton.mp z]; omega
  refine sortedS (d := 2) (S := S) (B := 2 * S + 1) (vs := [.ref t1, .ref t2]) hl.isList (by show 2 < 64; decide) (by decide) (fun z hm => ?_) fun out p1 p2 => ?_
  · rcases List.mem_cons.mp hm with e | e
    · rw [e]; exact ⟨_, T1, rfl, b1⟩
    · rw [List.mem_singleton.mp e]; exact ⟨_, T2, rfl, b2⟩
  · obtain ⟨ep, he'⟩ := PyProof.Rows.sortedAll_at s.heap [.ref t1, .ref t2] out
    obtain ⟨q1, q2⟩ := q (s.heap.objs.size + 1) (I.hok.fresh (Nat.le_succ _))
    have i1 := T1.ints
    have i2 := T2.ints
    have fin : ∀ {c d : Addr}, out.toList = [Value.ref c, Value.ref d] → Q (.ref (s.heap.objs.size + 1)) (upd H (s.heap.objs.size + 1) (.lst [.ref c, .ref d])) → EP X pins σ Q (.ref (s.heap.objs.size + 1)) { s with heap := sortedAll s.heap [.ref t1, .ref t2] out } := fun {c d} e hq =>
      ⟨.ref _, upd H (s.heap.objs.size + 1) (.lst [.ref c, .ref d]), I.laid (t' := s.toks) (fun _ _ => PyProof.Rows.sortedAll_old) (Nat.le_succ _) ⟨by show 2 ≤ sizeLine; decide, out.toList, ep, by rw [e]; exact .cons rfl (.cons rfl .nil), he'⟩, rfl, hq⟩
    have len := p1.length_eq
    cases ho : out.toList with
    | nil => rw [ho] at len; simp at len
    | cons c r =>
      cases r with
      | nil => rw [ho] at len; simp at len
      | cons d r =>
        cases r with
        | cons _ _ => rw [ho] at len; simp at len
        | nil =>
          rw [ho] at p1 p2
          have pw : rk S (2 * S + 1) (TS.intsOf s.heap c) ≤ rk S (2 * S + 1) (TS.intsOf s.heap d) := by
            simpa using p2
          have hc : c ∈ [Value.ref t1, Value.ref t2] := p1.mem_iff.mp List.mem_cons_self
          rcases List.mem_cons.mp hc with e | e
          · subst e
            have p3 := p1.cons_inv
            have e3 : [d] = [Value.ref t2] := List.perm_singleton.mp p3
            cases e3
            rw [i1, i2] at pw
            exact fin ho (q1 (lex_of_rk b1 b2 pw))
          · rw [List.mem_singleton] at e
            subst e
            have p3 := (p1.trans (List.Perm.swap _ _ _)).cons_inv
            have e3 : [d] = [Value.ref t1] := List.perm_singleton.mp p3
            cases e3
            rw [i1, i2] at pw
            exact fin ho (q2 (lex_of_rk b2 b1 pw))
/-- sorted(xs), xs a list of two pairs -/
def sSort2 : List D → G → DK → Prop := fun ds g Q => ∃ (a : Addr) (x y u v : Int), ds = [.adr a] ∧ g a = some (.lst [.tup [.int x, .int y], .tup [.int u, .int v]]) ∧
  ∀ p, g p = none → (lexLe x y u v → Q (.adr p) (gup g p (.lst [.tup [.int x, .int y], .tup [.int u, .int v]]))) ∧ (lexLe u v x y → Q (.adr p) (gup g p (.lst [.tup [.int u, .int v], .tup [.int x, .int y]])))
theorem simC_sort2 {K : PySem.W.Frag} : SimC K (rSort2 K) sSort2 := by
  intro H g ds xs Q Q' i hg k h
  obtain ⟨a, x, y, u, v, rfl, ha, q⟩ := h
  obtain ⟨w, rfl, iv⟩ := imL1 i
  cases (show w = V.ref a from iv)
  obtain ⟨ys, h1, h2⟩ := hg a _ ha
  obtain ⟨v1, v2, rfl, i1, i2⟩ := imL2 h2
  obtain ⟨t1, xs1, rfl, s1, l1⟩ := i1
  obtain ⟨t2, xs2, rfl, s2, l2⟩ := i2
  obtain rfl : xs1 = [V.int x, V.int y] := ImL.ints (ns := [x, y]) l1
  obtain rfl : xs2 = [V.int u, V.int v] := ImL.ints (ns := [u, v]) l2
  refine ⟨a, t1, t2, x, y, u, v, rfl, SqL.of h1, s1, s2, fun p hp => ?_⟩
  obtain ⟨q1, q2⟩ := q p (hg.free hp)
  have one : ∀ {o : HO}, TupX K H (upd H p o) := tupX_new hp
  refine ⟨fun c => ?_, fun c => ?_⟩
  · exact k _ _ _ _ one im_a (hg.put one (okg_l upd_same (imL_c ((im_t s1 l1).mono one) (ImL.one ((im_t s2 l2).mono one))))) (q1 c)
  · exact k _ _ _ _ one im_a (hg.put one (okg_l upd_same (imL_c ((im_t s2 l2).mono one) (ImL.one ((im_t s1 l1).mono one))))) (q2 c)
end DL
set_option Elab.async false
set_option linter.all false
set_option maxRecDepth 100000
set_option maxHeartbeats 4000000
namespace PySem
open PyProof.Rows L2
section
variable {P : Program} {w : World} {A : Around} {E : Value → Shared → Prop} {s : Shared}
/-- set(xs), xs a list of ints -/
theorem call_setLI {l : Addr} {items : Array Value} (ns : List Int) {Q : Value → Shared → Prop} (hh : A.handled = none) (hl : s.heap.IsList l items) (hit : IntsAre items.toList ns) (hb : ns.length + 1 < scanBound)
    (h : ∀ (h' : Heap) (tk c : Nat), SetR w h' s.heap.objs.size (fun j => decide (j ∈ ns)) c → c ≤ ns.length → (∀ b o, s.heap.get? b = some o → h'.get? b = some o) → Q (.ref s.heap.objs.size) { s with heap := h', toks := tk }) :
    wpAny (model P w) A (call (.type "set") [.ref l]) Q E s := by
  have len : items.size = ns.length := by
    rw [← Array.length_toList]
    exact IntsAre.length hit
  obtain ⟨c, tl, hmro⟩ := F.called_set.mro
  have made := F.called_set.made
  have subs := F.called_set.sub
  refine wpAny_call (codeAny_of_tree ?_)
  show wpAny _ _ (callAny (.type "set") _) _ _ _
  refine wpAny_pure ⟨Code.quiet_builtin _ (by decide +kernel), codeAny_builtin F.entry_type_call ?_⟩
  rw [Around.under_plain (weight_type_call_type "set" [.ref l] []) rfl]
  have nty := F.called_set.notType
  have can := F.called_set.canCreate
  have chk := F.typeCall_set_1 (.ref l)
  repeat (any_goals (first | assumption | wp_step))
  refine codeAny_mono (code_set_led1 (.ref l) (E := E) (Q₁ := fun obj s₁ => obj = .ref s.heap.objs.size ∧ s₁ = { s with heap := s.heap.push { cls := .type "set", dict := none, data := .set #[] 0 (.fresh 0 0 (!w.params.followText "set-order")) } }) ⟨rfl, rfl⟩) fun r s₁ hr => ?_
  cases r with
  | error e => exact hr
  | ok fl =>
    cases fl with
    | ret obj =>
      obtain ⟨rfl, rfl⟩ := hr
      have hS : (s.heap.push { cls := .type "set", dict := none, data := .set #[] 0 (.fresh 0 0 (!w.params.followText "set-order")) }).get? s.heap.objs.size = some { cls := .type "set", dict := none, data := .set #[] 0 (.fresh 0 0 (!w.params.followText "set-order")) } := Heap.get?_push_size _ rfl
      have hT : Shared.TypeIs { s with heap := s.heap.push { cls := .type "set", dict := none, data := .set #[] 0 (.fresh 0 0 (!w.params.followText "set-order")) } } (.ref s.heap.objs.size) "set" := ⟨_, hS, rfl⟩
      have look := F.called_set.init.lookup
      have bnd := F.called_set.init.bind (.ref s.heap.objs.size)
      repeat (any_goals (first | assumption | wp_step))
      refine codeAny_mono (codeAny_call_builtin (R := wants (fun r s₂ => r = .none ∧ ∃ h' tk c, s₂ = { s with heap := h', toks := tk } ∧ SetR w h' s.heap.objs.size (fun j => decide (j ∈ ns)) c ∧ c ≤ ns.length ∧
          (∀ b o, s.heap.get? b = some o → h'.get? b = some o)) E) F.called_set.init.plain F.entry_set_init (check_set_init_1 hT ?_)) fun r₂ s₂ hr₂ => ?_
      · obtain ⟨ol, hol, hcl, nl, hdl⟩ := hl
        obtain ⟨ocls, odict, odata, oslots⟩ := ol
        simp only at hcl hdl
        subst hcl; subst hdl
        have hol' : (s.heap.push { cls := .type "set", dict := none, data := .set #[] 0 (.fresh 0 0 (!w.params.followText "set-order")) }).get? l = some { cls := .type "list", dict := odict, data := .seq items nl, slots := oslots } := Heap.get?_push_of_some _ hol
        have nset := F.sub_list_set
        have nfro := F.sub_list_frozenset
        have ndct : (Value.type "list" == Value.type "dict") = false := by decide
        have hl1 : (s.heap.push { cls := .type "set", dict := none, data := .set #[] 0 (.fresh 0 0 (!w.params.followText "set-order")) }).IsList l items := ⟨_, hol', rfl, nl, rfl⟩
        unfold Builtin.«set.__init__» noKeywords Builtin.Frozenset.updateFrom
        generalize hPI : pyIter = PI
        wp_walk
        subst hPI
        refine wpAny_pyIter_list hl1 ?_
        refine wpAny_bind (wpAny_runValue ?_)
        have hlS : l < s.heap.objs.size := Heap.lt_size hol
        have hh3 : A.in1.in1.in1.handled = none := by simp [hh]
        have apart : l ≠ (s.heap.push { cls := .type "set", dict := none, data := .set #[] 0 (.fresh 0 0 (!w.params.followText "set-order")) }).objs.size := by
          rw [Heap.size_push]; exact Nat.ne_of_lt (Nat.lt_succ_of_lt hlS)
        have out : s.heap.objs.size ∉ [(s.heap.push { cls := .type "set", dict := none, data := .set #[] 0 (.fresh 0 0 (!w.params.followText "set-order")) }).objs.size, l] := by
          rw [Heap.size_push]; simp only [List.mem_cons, List.mem_singleton, List.not_mem_nil, or_false, not_or]
          exact ⟨Nat.ne_of_lt (Nat.lt_succ_self _), Nat.ne_of_gt hlS⟩
        have each : ∀ (i : Nat) (v : Value), items[i]? = some v → ∃ k t, ns[i]? = some k ∧ v = .int k t := fun i v hv => by
          have hi : i < ns.length := by rw [← len]; exact (Array.getElem?_eq_some_iff.mp hv).1
          obtain ⟨t, e⟩ := PyProof.Rows.IntsAre.int_at hit i v (by rw [Array.getElem?_toList]; exact hv)
          refine ⟨ns[i], t, List.getElem?_eq_getElem hi, ?_⟩
          rw [e, List.getD_eq_getElem?_getD, List.getElem?_eq_getElem hi] <;> rfl
        refine set_update_ints ((Walks.list hh3 _ l apart items).toS) s.heap.objs.size
          out ns len hb each (items.size - 0) 0 _ (by omega) (Nat.zero_le _)
          ⟨⟨_, Heap.get?_push_size _ rfl, rfl, rfl⟩, (hl1.push _)⟩ ?start ?behind
        case start =>
          exact ⟨0, Nat.le_refl 0, setR_new_at (Heap.get?_push_of_some _ hS)⟩
        case behind =>
          intro s' c' hm hc' hS'
          obtain ⟨h', g2, d', tk', os'⟩ := s'
          have eg : g2 = s.gens := hm.gens
          have ed : d' = s.drawn := hm.drawn
          have eo : os' = s.os := hm.os
          subst eg; subst ed; subst eo
          show wpAny _ _ _ _ _ _
          refine wpAny_pure ?_
          show wpAny _ _ (ret Value.none) _ _ _
          rw [len] at hc'
          refine wpAny_pure ⟨rfl, h', tk', c', rfl, hS', hc', fun b o e => ?_⟩
          have hb0 : b < s.heap.objs.size := Heap.lt_size e
          refine hm.heap b o ?_ (Heap.get?_push_of_some _ (Heap.get?_push_of_some _ e))
          simp only [List.mem_cons, List.mem_singleton, List.not_mem_nil, or_false, not_or]
          exact ⟨Nat.ne_of_lt hb0, by rw [Heap.size_push]; exact Nat.ne_of_lt (Nat.lt_succ_of_lt hb0)⟩
      · cases r₂ with
        | error e => exact hr₂
        | ok fl₂ =>
          cases fl₂ with
          | ret r =>
            obtain ⟨rfl, h', tk, c', rfl, hS', hc', hk'⟩ := hr₂
            repeat (any_goals (first | assumption | wp_step))
            exact h _ _ _ hS' hc' hk'
          | _ => exact hr₂.elim
    | _ => exact hr.elim
end
end PySem
namespace DL
open PySem PySem.Spec PyProof.Rows L2
def rSetLI (K : PySem.W.Frag) (w : World) : List V → Hp → VK → Prop := fun xs H Q => ∃ (l : Addr) (ns : List Int), xs = [V.ref l] ∧ SqL K H l (ns.map V.int) ∧ ns.length < 60 ∧ ∀ a c, H a = none → c ≤ ns.length → Q (.ref a) (upd H a (SetO w a (fun j => decide (j ∈ ns)) c))
theorem cr_setLI {X : Cx} (hc : X.calm = true) : CallR X (.type "set") (rSetLI X.K X.w) := by
  intro pins s σ H xs us Q I r h
  obtain ⟨l, ns, rfl, hs, h60, q⟩ := h
  obtain ⟨its, rv, hl, hz⟩ := I.list hs
  rw [Vals.ref1 r]
  refine call_setLI ns (I.ok.hd hc) hl.isList (by simpa using rv.ints) (by unfold scanBound; omega) fun h' tk c R hcn hk => ?_
  exact ⟨.ref s.heap.objs.size, upd H s.heap.objs.size (SetO X.w s.heap.objs.size (fun j => decide (j ∈ ns)) c), I.laid (t' := tk) hk (Nat.le_refl _) (setO_new R), rfl, q _ _ (I.hok.fresh (Nat.le_refl _)) hcn⟩
/-- sorted(set(xs)), ints -/
def dSortSet (te : DTE) : DTE := fun Γ g Q => te Γ g fun x g1 => ∃ (a : Addr) (ns : List Int), x = .adr a ∧ g1 a = some (.lst (ns.map D.int)) ∧ ns.length < 60 ∧
  ∀ (ys : List Int) p, ys.Pairwise (· < ·) → (∀ k, k ∈ ys ↔ k ∈ ns) → ys.length ≤ ns.length → g1 p = none → Q (.adr p) (gup g1 p (.lst (ys.map D.int)))
section
variable {X : Cx} {e : Expr} {te : DTE} {p p2 pos pos2 : Pos}
theorem de_sortSet (he : DE X e te) (hm : X.mg "sorted" = none) (hm2 : X.mg "set" = none) (hg : Gl X "sorted" := by rfl) (hg2 : Gl X "set" := by rfl) (hc : X.calm = true := by rfl)
    (he1 : starEach [e] X.env = (false, eval e X.env) :: starEach [] X.env := by rfl) (he2 : starEach [.Call (.Name "set" p2) [e] [] pos2] X.env = (false, eval (.Call (.Name "set" p2) [e] [] pos2) X.env) :: starEach [] X.env := by rfl) :
    DE X (.Call (.Name "sorted" p) [.Call (.Name "set" p2) [e] [] pos2] [] pos) (dSortSet te) := by
  obtain ⟨xe, pe, se⟩ := he
  refine ⟨_, pe_callB (cr_sortedSet hc) hg hm (by decide +kernel) (pa_cons (pe_callTy (cr_setLI hc) hg2 hm2 (by decide +kernel) (pa_cons pe pa_nil he1) (by decide) (by decide) he1 rfl) pa_nil he2) (by decide) (by decide) he2 rfl, fun σ H Γ g Q Q' hG hH k h => ?_⟩
  refine se σ H Γ g _ _ hG hH (fun d g1 v H1 t1 i1 hH1 q1 => ?_) h
  obtain ⟨a, ns, rfl, ha, h60, q⟩ := q1
  cases (show v = V.ref a from i1)
  obtain ⟨xs, h1, h2⟩ := hH1 a _ ha
  cases h2.ints
  refine ⟨a, ns, rfl, SqL.of h1, h60, fun b c hb hcn => ?_⟩
  have t2 : TupX X.K H1 (upd H1 b (SetO X.w b (fun j => decide (j ∈ ns)) c)) := tupX_new hb
  refine ⟨b, _, c, rfl, upd_same, by omega, fun ys z hpw hmem hlen hz => ?_⟩
  have t3 : TupX X.K (upd H1 b (SetO X.w b (fun j => decide (j ∈ ns)) c)) (upd (upd H1 b (SetO X.w b (fun j => decide (j ∈ ns)) c)) z (.lst (ys.map V.int))) := tupX_new hz
  have hH2 := hH1.new (u := SetO X.w b (fun j => decide (j ∈ ns)) c) hb
  refine k _ _ _ _ ((t1.trans t2).trans t3) im_a (hH2.put t3 (okg_l upd_same (ImL.of_ints ys))) (q ys z hpw (fun j => ?_) (by omega) (hH2.free hz))
  rw [hmem j]
  exact decide_eq_true_iff
end
/-- of a set with one tuple -/
def rSorted1 (K : PySem.W.Frag) (P : Program) (w : World) : List V → Hp → VK → Prop := fun vs H Q => ∃ (a : Addr) (L : List (Addr × List Int)) (k : List Int), vs = [V.ref a] ∧ H a = some (SetTO P w a L) ∧ (∀ p ∈ L, SqT K H p.1 (p.2.map V.int)) ∧ L ≠ [] ∧
  (∀ p ∈ L, p.2 = k) ∧ ∀ q ∈ L, ∀ p, H p = none → Q (.ref p) (upd H p (.lst [V.ref q.1]))
theorem sorted_one {P : Program} {w : World} {A : Around} {E : Value → Shared → Prop} {s : Shared} {a : Addr} {q : Addr × List Int} {es : Array (Int × Value)} {ep : Nat} {t : SetTable} {Q : Value → Shared → Prop} (R : SetTR P w s.heap a [q] es ep t) (hh : A.handled = none)
    (hQ : ∀ s' p (c : Nat), (∀ b o, s.heap.get? b = some o → s'.heap.get? b = some o) → s'.gens = s.gens → s'.os = s.os → s.heap.objs.size ≤ p → s'.heap.get? p = some (seqObj "list" #[Value.ref q.1] c) → Q (.ref p) s') :
    wpAny (model P w) A (call (.builtin "sorted") [.ref a]) Q E s := by
  obtain ⟨o, ho, hex, hd⟩ := R.ob
  have hsz := R.size
  refine Calls.call_function_entry kind_sorted plain_sorted entry_sorted (args_sorted1 _) ?_
  unfold Builtin.«sorted»
  refine wpAny_bind (m := checkCount "sorted" 1 1 _) (wpAny_pure ?_)
  refine wpAny_bind (collect_set (A := A.in1) hh ⟨o, ho, hex.1, hd⟩ R.fits (by rw [hsz]; show 1 < scanBound; decide) R.tab.ris R.led fun s1 vs k1 hz g1 o1 pm => ?_)
  have hes : es.toList.map (·.2) = [Value.ref q.1] := by
    rw [R.rows]
    rfl
  rw [hes] at pm
  have hvs : vs = [Value.ref q.1] := List.perm_singleton.mp pm
  subst hvs
  refine wpAny_bind (wpAny_newList ?_ (by show 1 ≤ sizeLine; decide))
  have hoL : (s1.heap.push (seqObj "list" [Value.ref q.1].toArray 0)).get? s1.heap.objs.size = some (seqObj "list" [Value.ref q.1].toArray 0) := Heap.get?_push_size _ rfl
  refine wpAny_bind (wpAny_holding (wpAny_call_entry slot_list_sort ⟨_, hoL, rfl⟩ entry_list_sort
    (SK.plain_sort (s := { s1 with heap := s1.heap.push (seqObj "list" [Value.ref q.1].toArray 0) }) (r := fun _ => 0) hoL (by show 1 < 64; decide) (fun h2 Q hQ => absurd h2 (by show ¬ 2 ≤ 1; decide)) fun ps out h1 h2 h3 => ⟨_, rfl, ?_⟩) (args_list_sort _)))
  obtain ⟨a1, _⟩ := TS.out_rank (r := fun _ => 0) h1 h2 h3
  obtain ⟨c, hc⟩ := sortedHeap_at (vs := [Value.ref q.1]) (out := out) hoL
  have e1 : out = #[Value.ref q.1] := by
    have e := List.perm_singleton.mp a1
    rw [← Array.toArray_toList (xs := out), e]
  rw [e1] at hc ⊢
  refine wpAny_pure ⟨_, rfl, hQ _ s1.heap.objs.size c (fun b u e => ?_) g1 o1 hz hc⟩
  have r := k1 b u e
  have hlt := Heap.lt_size r
  show (sortedHeap (s1.heap.push (seqObj "list" [Value.ref q.1].toArray 0)) s1.heap.objs.size [Value.ref q.1] #[Value.ref q.1]).get? b = some u
  rw [sortedHeap_old (Nat.ne_of_lt hlt) (by rw [size_push']; exact Nat.lt_succ_of_lt hlt)]
  exact Heap.get?_push_of_some _ r
theorem one_of {α β : Type} {L : List (α × β)} {k : β} (hn : (L.map (·.2)).Nodup) (hk : ∀ p ∈ L, p.2 = k) (hne : L ≠ []) : ∃ q, L = [q] := by
  match L, hne with
  | [q], _ => exact ⟨q, rfl⟩
  | q :: r :: t, _ =>
    exfalso
    have e1 := hk q List.mem_cons_self
    have e2 := hk r (List.mem_cons_of_mem _ List.mem_cons_self)
    simp only [List.map_cons, List.nodup_cons, List.mem_cons, not_or] at hn
    exact hn.1.1 (e1.trans e2.symm)
theorem cr_sorted1 {X : Cx} (hc : X.calm = true) : CallR X (.builtin "sorted") (rSorted1 X.K X.prog X.w) := by
  intro pins s σ H vs us Q I r h
  obtain ⟨a, L, k, rfl, ha, hT, hne, hk, q⟩ := h
  have R0 : SetT0 X.prog X.w s.heap a L := (I.hok a _ ha).1
  obtain ⟨es, ep, t, R⟩ := R0.full fun p hp => I.isT (hT p hp)
  rw [Vals.ref1 r]
  obtain ⟨z, rfl⟩ := one_of R.nd hk hne
  refine sorted_one R (I.ok.hd hc) fun s' p c k1 g o hp hg => ?_
  have hn : H p = none := I.hok.fresh hp
  have J : Inv X pins σ (upd H p (.lst [V.ref z.1])) { s with heap := s'.heap, gens := s'.gens, drawn := s'.drawn, toks := s'.toks } :=
    I.call (ch := []) (Un.laid k1 hp hn) (I.hok.laid k1 hp ⟨by show 1 ≤ sizeLine; decide, [Value.ref z.1], c, .cons rfl .nil, hg⟩) (by rw [g]; exact I.bare) (fun _ z => nomatch z)
  have e : s' = { s with heap := s'.heap, gens := s'.gens, drawn := s'.drawn, toks := s'.toks } := by
    cases s'
    cases s
    cases o
    rfl
  rw [e]
  exact ⟨.ref p, _, J, rfl, q z List.mem_cons_self p hn⟩
/-- sorted(set(xs)), xs a list of the same pair -/
def dSortSet1 (te : DTE) : DTE := fun Γ g Q => te Γ g fun x g1 => ∃ (a : Addr) (n : Nat) (u v : Int), x = .adr a ∧ g1 a = some (.lst (List.replicate (n + 1) (.tup [.int u, .int v]))) ∧ n < 60 ∧
  ∀ p, g1 p = none → Q (.adr p) (gup g1 p (.lst [.tup [.int u, .int v]]))
theorem reps_im {K : PySem.W.Frag} {H : Hp} {u v : Int} : ∀ (n : Nat) {xs : List V}, ImL K H (List.replicate n (.tup [.int u, .int v])) xs → ∃ ks : List (Addr × List Int), xs = ks.map (fun p => V.ref p.1) ∧ (∀ p ∈ ks, SqT K H p.1 (p.2.map V.int) ∧ p.2 = [u, v]) ∧ ks.length = n
  | 0, xs, h => by
    cases (show xs = [] from h)
    exact ⟨[], rfl, fun p hp => absurd hp List.not_mem_nil, rfl⟩
  | n + 1, xs, h => by
    obtain ⟨x, r, rfl, i1, i2⟩ := h
    obtain ⟨ks, e1, e2, e3⟩ := reps_im n i2
    obtain ⟨a, ys, rfl, s1, l1⟩ := i1
    obtain rfl : ys = [V.int u, V.int v] := ImL.ints (ns := [u, v]) l1
    refine ⟨(a, [u, v]) :: ks, by rw [List.map_cons, e1], fun p hp => ?_, by rw [List.length_cons, e3]⟩
    rcases List.mem_cons.mp hp with z | z
    · rw [z]; exact ⟨s1, rfl⟩
    · exact e2 p z
section
variable {X : Cx} {e : Expr} {te : DTE} {p p2 pos pos2 : Pos}
theorem de_sortSet1 (he : DE X e te) (hu : X.A.units + 65 < cLine) (hm : X.mg "sorted" = none) (hm2 : X.mg "set" = none) (hg : Gl X "sorted" := by rfl) (hg2 : Gl X "set" := by rfl) (hc : X.calm = true := by rfl)
    (he1 : starEach [e] X.env = (false, eval e X.env) :: starEach [] X.env := by rfl) (he2 : starEach [.Call (.Name "set" p2) [e] [] pos2] X.env = (false, eval (.Call (.Name "set" p2) [e] [] pos2) X.env) :: starEach [] X.env := by rfl) :
    DE X (.Call (.Name "sorted" p) [.Call (.Name "set" p2) [e] [] pos2] [] pos) (dSortSet1 te) := by
  obtain ⟨xe, pe, se⟩ := he
  refine ⟨_, pe_callB (cr_sorted1 hc) hg hm (by decide +kernel) (pa_cons (pe_callTy (cr_setOfT hc (by omega)) hg2 hm2 (by decide +kernel) (pa_cons pe pa_nil he1) (by decide) (by decide) he1 rfl) pa_nil he2) (by decide) (by decide) he2 rfl, fun σ H Γ g Q Q' hG hH k h => ?_⟩
  refine se σ H Γ g _ _ hG hH (fun d g1 v H1 t1 i1 hH1 q1 => ?_) h
  obtain ⟨a, n, u, v', rfl, ha, h60, q⟩ := q1
  cases (show v = V.ref a from i1)
  obtain ⟨xs, h1, h2⟩ := hH1 a _ ha
  obtain ⟨ks, rfl, hks, hlen⟩ := reps_im _ h2
  refine ⟨a, ks, rfl, SqL.of h1, fun p hp => (hks p hp).1, by omega, fun b L hb hL1 hL2 => ?_⟩
  have t2 : TupX X.K H1 (upd H1 b (SetTO X.prog X.w b L)) := tupX_new hb
  have hH2 := hH1.new (u := SetTO X.prog X.w b L) hb
  refine ⟨b, L, [u, v'], rfl, upd_same, fun p hp => t2.1 _ _ (hks p (hL1 p hp)).1, fun e0 => ?_, fun p hp => (hks p (hL1 p hp)).2, fun z hz p hp => ?_⟩
  · cases ks with
    | nil => simp at hlen
    | cons c r =>
      have hm3 := hL2 c List.mem_cons_self
      rw [e0] at hm3
      cases hm3
  · have t3 : TupX X.K (upd H1 b (SetTO X.prog X.w b L)) (upd (upd H1 b (SetTO X.prog X.w b L)) p (.lst [V.ref z.1])) := tupX_new hp
    have sz := (hks z (hL1 z hz)).1
    rw [(hks z (hL1 z hz)).2] at sz
    refine k _ _ _ _ ((t1.trans t2).trans t3) im_a (hH2.put t3 (okg_l upd_same (ImL.one ?_))) (q p (hH2.free hp))
    exact ((im_t sz (ImL.of_ints [u, v'])).mono t2).mono t3
end
def dMaxV (td : DTE) : DTE := fun Γ g Q => td Γ g fun x g1 => ∃ (a : Addr) (kvs : List (Int × D)) (ms : List Int), x = .adr a ∧ g1 a = some (.dI kvs) ∧ kvs.map (·.2) = ms.map D.int ∧ 0 < ms.length ∧ ∀ m ∈ ms, (∀ j ∈ ms, j ≤ m) → Q (.int m) g1
def dSortK (td : DTE) : DTE := fun Γ g Q => td Γ g fun x g1 => ∃ (a : Addr) (kvs : List (Int × D)), x = .adr a ∧ g1 a = some (.dI kvs) ∧ kvs.length < 64 ∧
  ∀ (ys : List Int) p, ys.Perm (kvs.map (·.1)) → ys.Pairwise (· ≤ ·) → g1 p = none → Q (.adr p) (gup g1 p (.lst (ys.map D.int)))
theorem imP_vals {K : PySem.W.Frag} {H : Hp} : ∀ {kvs : List (Int × D)} {vs : List (Key × V)} {ms : List Int}, ImP K H kI kvs vs → kvs.map (·.2) = ms.map D.int → vs.map Prod.snd = ms.map V.int
  | [], vs, ms, h, e => by
    cases (show vs = [] from h)
    cases ms with
    | nil => rfl
    | cons _ _ => cases e
  | p :: r, vs, ms, h, e => by
    obtain ⟨v, s, rfl, i1, i2⟩ := h
    cases ms with
    | nil => cases e
    | cons m ms =>
      rw [List.map_cons, List.map_cons] at e
      injection e with e1 e2
      rw [e1] at i1
      cases (show v = V.int m from i1)
      rw [List.map_cons, List.map_cons, imP_vals i2 e2]
theorem imP_keys {K : PySem.W.Frag} {H : Hp} : ∀ {kvs : List (Int × D)} {vs : List (Key × V)}, ImP K H kI kvs vs → vs.map Prod.fst = (kvs.map (·.1)).map Sum.inl
  | [], vs, h => by
    cases (show vs = [] from h)
    rfl
  | p :: r, vs, h => by
    obtain ⟨v, s, rfl, i1, i2⟩ := h
    rw [List.map_cons, List.map_cons, List.map_cons, imP_keys i2]
    rfl
section
variable {X : Cx} {o : Expr} {td : DTE} {p pos apos mpos : Pos}
theorem de_maxV (hd : DE X o td) (hm : X.mg "max" = none) (hg : Gl X "max" := by rfl) (hc : X.calm = true := by rfl) (hbase : attributeBase o "values" X.env (eval o X.env) = eval o X.env := by rfl) (hline : (apos.endLine == mpos.line) = true := by rfl)
    (hse : starEach [Expr.Call (.Attribute o "values" apos) [] [] mpos] X.env = [(false, eval (Expr.Call (.Attribute o "values" apos) [] [] mpos) X.env)] := by rfl) : DE X (.Call (.Name "max" p) [.Call (.Attribute o "values" apos) [] [] mpos] [] pos) (dMaxV td) := by
  obtain ⟨xd, pd, sd⟩ := hd
  refine ⟨_, pe_maxV hc hg hm pd hbase hline hse, fun σ H Γ g Q Q' hG hH k h => ?_⟩
  refine sd σ H Γ g _ _ hG hH (fun d g1 v H1 t1 i1 hH1 q1 => ?_) h
  obtain ⟨a, kvs, ms, rfl, ha, hv, hl, q⟩ := q1
  obtain ⟨vs, h1, ip⟩ := hH1 a _ ha
  exact ⟨a, vs, ms, i1, h1, imP_vals ip hv, hl, fun m hm' hj => k _ g1 _ H1 t1 im_i hH1 (q m hm' hj)⟩
theorem de_sortK (hd : DE X o td) (hm : X.mg "sorted" = none) (hg : Gl X "sorted" := by rfl) (hc : X.calm = true := by rfl) (hbase : attributeBase o "keys" X.env (eval o X.env) = eval o X.env := by rfl) (hline : (apos.endLine == mpos.line) = true := by rfl)
    (hse : starEach [Expr.Call (.Attribute o "keys" apos) [] [] mpos] X.env = [(false, eval (Expr.Call (.Attribute o "keys" apos) [] [] mpos) X.env)] := by rfl) : DE X (.Call (.Name "sorted" p) [.Call (.Attribute o "keys" apos) [] [] mpos] [] pos) (dSortK td) := by
  obtain ⟨xd, pd, sd⟩ := hd
  refine ⟨_, pe_sortK hc hg hm pd hbase hline hse, fun σ H Γ g Q Q' hG hH k h => ?_⟩
  refine sd σ H Γ g _ _ hG hH (fun d g1 v H1 t1 i1 hH1 q1 => ?_) h
  obtain ⟨a, kvs, rfl, ha, hl, q⟩ := q1
  obtain ⟨vs, h1, ip⟩ := hH1 a _ ha
  refine ⟨a, vs, kvs.map (·.1), i1, h1, imP_keys ip, by rw [List.length_map]; exact hl, fun ys z hp hs hz => ?_⟩
  have t2 : TupX X.K H1 (upd H1 z (.lst (ys.map V.int))) := tupX_new hz
  exact k _ _ _ _ (t1.trans t2) im_a (hH1.put t2 (okg_l upd_same (ImL.of_ints ys))) (q ys z hp hs (hH1.free hz))
end
/-! ### try that nothing leaves -/
theorem ds_try {X : Cx} {body : List Stmt} {h₀ : ExceptHandler} {hs : List ExceptHandler} {pos : Pos} {t : DTS} (hb : DSs X.nox body t) : DS X (.Try body (h₀ :: hs) [] [] pos) t := by
  obtain ⟨x, p, s⟩ := hb
  exact ⟨_, ps_try_thru0 p, s⟩
end DL
set_option Elab.async false
set_option linter.all false
set_option maxRecDepth 100000
set_option maxHeartbeats 4000000
namespace SW
open PySem PySem.Spec PyProof.Rows L2 DL
abbrev C_Pen (K : PySem.W.Frag) : Addr := He.ga K "Pen"
abbrev C_Sum (K : PySem.W.Frag) : Addr := He.ga K "Sum"
abbrev C_Ages (K : PySem.W.Frag) : Addr := He.ga K "Ages"
abbrev C_Web (K : PySem.W.Frag) : Addr := He.ga K "Web"
/-- what the top has left of the module's names -/
structure Txt (K : PySem.W.Frag) (mg : Str → Option Value) : Prop where
  gMOST_LETTERS : GlobD K mg "MOST_LETTERS" (.int 8)
  gMOST_WORD : GlobD K mg "MOST_WORD" (.int 40)
  gLEFT : GlobD K mg "LEFT" (.str "+")
  gRIGHT : GlobD K mg "RIGHT" (.str "-")
  gOUT : GlobD K mg "OUT" (.str "[")
  gBACK : GlobD K mg "BACK" (.str "]")
  gMOST_PAIRS : GlobD K mg "MOST_PAIRS" (.int 20000)
  gHEADINGS : GlobD K mg "HEADINGS" (.tup [.tup [.int 1, .int 0], .tup [.int 0, .int 1], .tup [.int (-1), .int 0], .tup [.int 0, .int (-1)]])
  n_isinstance : mg "isinstance" = none
  n_int : mg "int" = none
  n_bool : mg "bool" = none
  n_str : mg "str" = none
  n_tuple : mg "tuple" = none
  n_len : mg "len" = none
  n_range : mg "range" = none
  n_enumerate : mg "enumerate" = none
  n_list : mg "list" = none
  n_sorted : mg "sorted" = none
  n_set : mg "set" = none
  n_max : mg "max" = none
  n_min : mg "min" = none
  n_abs : mg "abs" = none
  cPen : Cls K (C_Pen K)
  cSum : Cls K (C_Sum K)
  cAges : Cls K (C_Ages K)
  cWeb : Cls K (C_Web K)
  aPen_place : NoAttr K (C_Pen K) "place"
  aPen_heading : NoAttr K (C_Pen K) "heading"
  aPen_stands : NoAttr K (C_Pen K) "stands"
  aSum_many : NoAttr K (C_Sum K) "many"
  aSum_end : NoAttr K (C_Sum K) "end"
  aSum_turns : NoAttr K (C_Sum K) "turns"
  aSum_ways : NoAttr K (C_Sum K) "ways"
  aSum_area : NoAttr K (C_Sum K) "area"
  aAges_book : NoAttr K (C_Ages K) "book"
  aAges_rows : NoAttr K (C_Ages K) "rows"
  aWeb_book : NoAttr K (C_Web K) "book"
  aWeb_move : NoAttr K (C_Web K) "move"
  aWeb_far : NoAttr K (C_Web K) "far"
  aWeb_words : NoAttr K (C_Web K) "words"
/-- a def of the text as it stands behind the top -/
abbrev FnT (K : PySem.W.Frag) (x qual : Str) (st : Stmt) (f : Addr) (fd : FuncData) : Prop := FunD K x qual (defArgs st) (defBody st) (defScope st) [] [] f fd
section
variable {P : Program} {w : World} {K : PySem.W.Frag} {mg : Str → Option Value} {base : Heap} {x qual m : Str} {st : Stmt} {f C : Addr} {fd : FuncData} {ps : List Str} {k : Nat} {φ : DSp}
theorem callD (F : FnT K x qual st f fd) (hm : mg x = some (.ref f)) (hb : ∀ (kV doc pm : Value) (an : Option Addr) (cdv ct : Value) (us : List Value), us.length = ps.length → bindArgs (PySem.W.fnOf x qual (defArgs st) (defBody st) (defScope st) .none kV doc pm an cdv ct) ⟨us, []⟩ = pure (ps.zip us))
    (ok : FnOk P w K mg base CX0 k f fd ps (FDp K φ)) : CallD P w K mg base k x φ := ⟨f, fd, ps, ok, hm, F.kp, F.bindsN hb⟩
theorem methD (F : FnT K x qual st f fd) (hm : Meth K C x f) (hc : Cls K C) (hb : ∀ (kV doc pm : Value) (an : Option Addr) (cdv ct : Value) (us : List Value), us.length = ps.length → bindArgs (PySem.W.fnOf x qual (defArgs st) (defBody st) (defScope st) .none kV doc pm an cdv ct) ⟨us, []⟩ = pure (ps.zip us))
    (ok : FnOk P w K mg base CX0 k f fd ps (FDp K φ)) : MethD P w K mg base k C x φ := ⟨⟨f, fd, ps, ok, hm, F.bindsN hb⟩, hc⟩
theorem makeD (F : FnT K m qual st f fd) (hm : mg x = some (.ref C)) (hc : Mk K C f) (hb : ∀ (kV doc pm : Value) (an : Option Addr) (cdv ct : Value) (us : List Value), us.length = ps.length → bindArgs (PySem.W.fnOf m qual (defArgs st) (defBody st) (defScope st) .none kV doc pm an cdv ct) ⟨us, []⟩ = pure (ps.zip us))
    (ok : FnOk P w K mg base CX0 k f fd ps (FDp K φ)) : MakeD P w K mg base k C x φ := ⟨f, fd, ps, ok, hm, hc, F.bindsN hb⟩
end
end SW
set_option Elab.async false
set_option linter.all false
set_option maxRecDepth 100000
set_option maxHeartbeats 4000000
namespace DL
open PySem PySem.Spec PyProof.Rows L2
theorem de_never {X : Cx} {e : Expr} : DE X e (fun _ _ _ => False) := ⟨fun _ _ _ => False, ⟨fun _ _ _ _ _ _ h => h.elim⟩, fun _ _ _ _ _ _ _ _ _ h => h⟩
end DL
namespace SW
open PySem PySem.Spec PyProof.Rows L2 DL
/-! how words, books, strokes stand as data -/
abbrev dP (x y : Int) : D := .tup [.int x, .int y]
def dI : It → D
  | .L i => .int i
  | .tl => .str "+"
  | .tr => .str "-"
  | .op => .str "["
  | .cl => .str "]"
abbrev dW (w : List It) : D := .tup (w.map dI)
abbrev dB (b : Bk) : D := .tup [.tup (b.ws.map dW), dW b.st]
abbrev dS (s : Stk) : D := .tup [.int s.x, .int s.y, .int s.h, .int s.l]
abbrev prK (p : Pr) : List Int := [p.x, p.y, p.a, p.t, p.b]
abbrev dPr (p : Pr) : D := dKey (prK p)
/-- .. read as a tuple -/
abbrev dPrT (p : Pr) : D := .tup [.int p.x, .int p.y, .int p.a, .int p.t, .int p.b]
/-- a promise that is a function of data -/
def pF (f : List D → Option D) : DSp := fun ds g Q => ∃ d, f ds = some d ∧ Q d g
/-- everything stands -/
def GX (g g' : G) : Prop := ∀ a o, g a = some o → g' a = some o
theorem GX.refl (g : G) : GX g g := fun _ _ h => h
theorem GX.trans {g g1 g2 : G} (a : GX g g1) (b : GX g1 g2) : GX g g2 := fun x o h => b x o (a x o h)
theorem GX.new {g : G} {p : Addr} {o : GO} (h : g p = none) : GX g (gup g p o) := fun a u e => by
  rw [gup_ne (gne e h)]
  exact e
theorem GX.mut {g g' : G} {p : Addr} {o : GO} (e : GX g g') (h : g p = none) : GX g (gup g' p o) := fun a u q => by
  rw [gup_ne (gne q h)]
  exact e a u q
theorem GX.free {g g' : G} (e : GX g g') {p : Addr} (h : g' p = none) : g p = none := by
  cases q : g p with
  | none => rfl
  | some o => rw [e p o q] at h; cases h
/-- a small number -/
def Bd (i : Int) : Prop := -1000000000000 < i ∧ i < 1000000000000
theorem Bd.mul {i j : Int} (h : Bd i) : CMul i j := .inl ⟨by have := h.1; omega, by have := h.2; omega⟩
theorem iteB {c : Bool} {A B : Prop} (h1 : c = true → A) (h2 : c = false → B) : if c = true then A else B := by
  cases c with
  | true => exact iteT (h1 rfl)
  | false => exact iteF (h2 rfl)
theorem eqb_P (x y a b : Int) : eqb (dP x y) (dP a b) = decide (x = a ∧ y = b) := by
  simp only [eqb, eqbL, Bool.and_true]
  by_cases h1 : x = a <;> by_cases h2 : y = b <;> simp [h1, h2]
theorem apT {F : Bool → G → Prop} {b : Bool} {g : G} (h : b = true) (p : F true g) : F b g := by rw [h]; exact p
theorem apF {F : Bool → G → Prop} {b : Bool} {g : G} (h : b = false) (p : F false g) : F b g := by rw [h]; exact p
theorem lt1000 {n : Nat} (h : Nat.ble (n + 1) 1000 = true) : n < 1000 := Nat.le_of_ble_eq_true h
theorem pd_P (x y : Int) : pd 8 (dP x y) = true := rfl
theorem iteT' {c : Bool} {A B : Prop} (hc : c = true) (h : A) : if c = true then A else B := by rw [if_pos hc]; exact h
theorem iteF' {c : Bool} {A B : Prop} (hc : c = false) (h : B) : if c = true then A else B := by rw [hc]; exact iteF h
end SW
set_option Elab.async false
set_option linter.all false
set_option maxRecDepth 100000
set_option maxHeartbeats 4000000
namespace SW
open PySem PySem.Spec PyProof.Rows L2 DL
local macro_rules | `(tactic| walk_at "cond") => `(tactic| first | (show (0 : Int) < _; decide) | (show (0 : Int) < _; omega) | assumption | (refine Bd.mul ?_; assumption) | (refine Or.inl ⟨?_, ?_⟩ <;> omega) | (refine Or.inr ⟨?_, ?_⟩ <;> omega) | decide)
local macro_rules | `(tactic| walk_at "go1") => `(tactic| first
  | refine ⟨_, rfl, ?_⟩
  | refine ⟨_, _, rfl, rfl, by walk_at "cond", ?_⟩
  | refine ⟨_, _, rfl, rfl, ?_⟩
  | refine ⟨_, _, rfl, ?_⟩
  | refine ⟨rfl, ?_⟩
  | refine iteT ?_
  | refine iteF ?_
  | refine ⟨_, _, _, rfl, ?_⟩
  | refine ⟨(by decide +kernel : _ = true), ?_⟩
  | refine iteT' (decide_eq_true (by omega)) ?_
  | refine iteF' (decide_eq_false (by omega)) ?_
  | (dsimp only; refine iteT' (by simp only [decide_eq_true_eq, Bool.not_eq_true', decide_eq_false_iff_not]; omega) ?_)
  | (dsimp only; refine iteF' (by simp only [decide_eq_true_eq, Bool.not_eq_false', decide_eq_false_iff_not]; omega) ?_))
local macro_rules | `(tactic| walk_at "go") => `(tactic| repeat walk_at "go1")
def fPlus : List D → Option D
  | [.tup [.int a, .int b], .tup [.int c, .int d]] => some (dP (a + c) (b + d))
  | _ => none
theorem len_plus (ds : List D) (g : G) (Q : DK) (h : pF fPlus ds g Q) : ds.length = P_plus.length := by
  obtain ⟨d, h, _⟩ := h
  unfold fPlus at h
  split at h
  · rfl
  · cases h
def φ_times : DSp := fun ds g Q => ∃ a b c d, ds = [dP a b, dP c d] ∧ (Bd a ∧ Bd b) ∧ Q (dP (a * c - b * d) (a * d + b * c)) g
theorem len_times (ds : List D) (g : G) (Q : DK) (h : φ_times ds g Q) : ds.length = P_times.length := by
  obtain ⟨_, _, _, _, rfl, _⟩ := h
  rfl
def φ_size : DSp := fun ds g Q => ∃ a b, ds = [dP a b] ∧ (Bd a ∧ Bd b) ∧ Q (.int (a * a + b * b)) g
theorem len_size (ds : List D) (g : G) (Q : DK) (h : φ_size ds g Q) : ds.length = P_size.length := by
  obtain ⟨_, _, rfl, _⟩ := h
  rfl
def fTurned : List D → Option D
  | [.tup [.int x, .int y], .int k] => some (dP (rx x y k) (ry x y k))
  | _ => none
theorem len_turned (ds : List D) (g : G) (Q : DK) (h : pF fTurned ds g Q) : ds.length = P_turned.length := by
  obtain ⟨d, h, _⟩ := h
  unfold fTurned at h
  split at h
  · rfl
  · cases h
def φ_quarters : DSp := fun ds g Q => (ds = [.str "+"] ∧ Q (.int 1) g) ∨ (ds = [.str "-"] ∧ Q (.int 3) g)
theorem len_quarters (ds : List D) (g : G) (Q : DK) (h : φ_quarters ds g Q) : ds.length = P_quarters.length := by
  rcases h with ⟨rfl, _⟩ | ⟨rfl, _⟩ <;> rfl
def fIsLetter : List D → Option D
  | [.int _] => some (.bl true)
  | [.str _] => some (.bl false)
  | _ => none
theorem len_is_letter (ds : List D) (g : G) (Q : DK) (h : pF fIsLetter ds g Q) : ds.length = P_is_letter.length := by
  obtain ⟨d, h, _⟩ := h
  unfold fIsLetter at h
  split at h
  · rfl
  · rfl
  · cases h
def fIsIn : List D → Option D
  | [.int i, .int lo, .int hi] => some (.bl (decide (lo ≤ i) && decide (i ≤ hi)))
  | [.str _, .int _, .int _] => some (.bl false)
  | _ => none
theorem len_is_in (ds : List D) (g : G) (Q : DK) (h : pF fIsIn ds g Q) : ds.length = P_is_in.length := by
  obtain ⟨d, h, _⟩ := h
  unfold fIsIn at h
  split at h
  · rfl
  · rfl
  · cases h
def φ_far : DSp := fun ds g Q => ds = [] ∧ Q (.int (10 ^ 400)) g
theorem len_far (ds : List D) (g : G) (Q : DK) (h : φ_far ds g Q) : ds.length = P_far.length := by
  obtain ⟨rfl, _⟩ := h
  rfl
def fPairOf : List D → Option D
  | [.tup [.int x, .int y, .int h, .int l], .tup [.int x', .int y', .int h', .int l']] =>
    some (.own [.int (rx (x' - x) (y' - y) (-h)), .int (ry (x' - x) (y' - y) (-h)), .int l, .int ((h' - h) % 4), .int l'])
  | _ => none
theorem len_pair_of (ds : List D) (g : G) (Q : DK) (h : pF fPairOf ds g Q) : ds.length = P_pair_of.length := by
  obtain ⟨d, h, _⟩ := h
  unfold fPairOf at h
  split at h
  · rfl
  · cases h
/-- two strokes draw the same, seen from the first one -/
def clash (x y t : Int) : Bool := decide (t % 2 ≠ 1) && (decide (x = 0 ∧ y = 0 ∧ t = 0) || decide (x = 1 ∧ y = 0 ∧ t = 2))
def fIsClash : List D → Option D
  | [.tup [.int x, .int y, .int _, .int t, .int _]] => some (.bl (clash x y t))
  | _ => none
theorem len_is_clash (ds : List D) (g : G) (Q : DK) (h : pF fIsClash ds g Q) : ds.length = P_is_clash.length := by
  obtain ⟨d, h, _⟩ := h
  unfold fIsClash at h
  split at h
  · rfl
  · cases h
/-- the least whole number whose square is no less -/
def φ_least_root : DSp := fun ds g Q => ∃ n : Nat, ds = [.int n] ∧ n ≤ 1000000 ∧ ∀ w : Nat, n ≤ w * w → (∀ v, v < w → v * v < n) → Q (.int w) g
theorem len_least_root (ds : List D) (g : G) (Q : DK) (h : φ_least_root ds g Q) : ds.length = P_least_root.length := by
  obtain ⟨_, rfl, _⟩ := h
  rfl
def φ_need_number : DSp := fun ds g Q => ∃ i lo hi, ds = [.int i, .int lo, .int hi] ∧ (lo ≤ i ∧ i ≤ hi) ∧ Q .non g
theorem len_need_number (ds : List D) (g : G) (Q : DK) (h : φ_need_number ds g Q) : ds.length = P_need_number.length := by
  obtain ⟨_, _, _, rfl, _⟩ := h
  rfl
def φ_need_place : DSp := fun ds g Q => ∃ x y, ds = [dP x y] ∧ (-1000 ≤ x ∧ x ≤ 1000 ∧ -1000 ≤ y ∧ y ≤ 1000) ∧ Q .non g
theorem len_need_place (ds : List D) (g : G) (Q : DK) (h : φ_need_place ds g Q) : ds.length = P_need_place.length := by
  obtain ⟨_, _, rfl, _⟩ := h
  rfl
theorem far_big : (1000 : Int) ≤ 10 ^ 400 := by decide
section
variable {P : Program} {w : World} {K : PySem.W.Frag} {mg : Str → Option Value} {base : Heap}
theorem d_plus (T : Txt K mg) {f : Addr} {fd : FuncData} (F : FnT K "plus" "plus" s_plus f fd) (hm : mg "plus" = some (.ref f)) : CallD P w K mg base 1 "plus" (pF fPlus) := by
  refine callD F hm (ps := P_plus) (fun _ _ _ _ _ _ us hl => match us, hl with | [_, _], _ => rfl) (okD F sc_plus (by first | exact len_plus | exact len_plus _) fun cdv A outer s H E hr => ⟨_, (dss_one (ds_ret (de_tup (da_cons (de_op op_add simR_I0 (de_ix (de_var 0) de_int) (de_ix (de_var 1) de_int)) (da_cons (de_op op_add simR_I0 (de_ix (de_var 0) de_int) (de_ix (de_var 1) de_int)) da_nil))))), ?_⟩)
  rintro ds g Q ⟨d, h, q⟩
  unfold fPlus at h
  split at h
  · cases h
    walk_at "go"
    exact q
  · cases h
theorem d_times (T : Txt K mg) {f : Addr} {fd : FuncData} (F : FnT K "times" "times" s_times f fd) (hm : mg "times" = some (.ref f)) : CallD P w K mg base 1 "times" φ_times := by
  refine callD F hm (ps := P_times) (fun _ _ _ _ _ _ us hl => match us, hl with | [_, _], _ => rfl) (okD F sc_times (by first | exact len_times | exact len_times _) fun cdv A outer s H E hr => ⟨_, (dss_one (ds_ret (de_tup (da_cons (de_op op_sub simR_I0 (de_op op_mul simR_I (de_ix (de_var 0) de_int) (de_ix (de_var 1) de_int)) (de_op op_mul simR_I (de_ix (de_var 0) de_int) (de_ix (de_var 1) de_int))) (da_cons (de_op op_add simR_I0 (de_op op_mul simR_I (de_ix (de_var 0) de_int) (de_ix (de_var 1) de_int)) (de_op op_mul simR_I (de_ix (de_var 0) de_int) (de_ix (de_var 1) de_int))) da_nil))))), ?_⟩)
  rintro ds g Q ⟨a, b, c, d, rfl, ⟨ha, hb⟩, q⟩
  refine ⟨_, rfl, _, rfl, _, rfl, _, rfl, _, _, rfl, rfl, ha.mul, _, rfl, _, rfl, _, rfl, _, rfl, _, _, rfl, rfl, hb.mul, _, rfl, ?_⟩
  refine ⟨_, rfl, _, rfl, _, rfl, _, rfl, _, _, rfl, rfl, ha.mul, _, rfl, _, rfl, _, rfl, _, rfl, _, _, rfl, rfl, hb.mul, _, rfl, q⟩
theorem d_size (T : Txt K mg) {f : Addr} {fd : FuncData} (F : FnT K "size" "size" s_size f fd) (hm : mg "size" = some (.ref f)) : CallD P w K mg base 1 "size" φ_size := by
  refine callD F hm (ps := P_size) (fun _ _ _ _ _ _ us hl => match us, hl with | [_], _ => rfl) (okD F sc_size (by first | exact len_size | exact len_size _) fun cdv A outer s H E hr => ⟨_, (dss_one (ds_ret (de_op op_add simR_I0 (de_op op_mul simR_I (de_ix (de_var 0) de_int) (de_ix (de_var 0) de_int)) (de_op op_mul simR_I (de_ix (de_var 0) de_int) (de_ix (de_var 0) de_int))))), ?_⟩)
  rintro ds g Q ⟨a, b, rfl, ⟨ha, hb⟩, q⟩
  exact ⟨_, rfl, _, rfl, _, rfl, _, rfl, _, _, rfl, rfl, ha.mul, _, rfl, _, rfl, _, rfl, _, rfl, _, _, rfl, rfl, hb.mul, _, rfl, q⟩
theorem d_turned (T : Txt K mg) {f : Addr} {fd : FuncData} (F : FnT K "turned" "turned" s_turned f fd) (hm : mg "turned" = some (.ref f)) : CallD P w K mg base 1 "turned" (pF fTurned) := by
  refine callD F hm (ps := P_turned) (fun _ _ _ _ _ _ us hl => match us, hl with | [_, _], _ => rfl) (okD F sc_turned (by first | exact len_turned | exact len_turned _) fun cdv A outer s H E hr => ⟨_, (dss_cons (ds_asg (de_var 0) (dg_tup (n := 2) (dgs_cons (dg_name 2 sc_turned.nd) (dgs_cons (dg_name 3 sc_turned.nd) dgs_nil))))
      (dss_one (ds_ret (de_ix (de_tup (da_cons (de_tup (da_cons (de_var 2) (da_cons (de_var 3) da_nil))) (da_cons (de_tup (da_cons (de_un un_neg simU_neg (de_var 3)) (da_cons (de_var 2) da_nil))) (da_cons (de_tup (da_cons (de_un un_neg simU_neg (de_var 2)) (da_cons (de_un un_neg simU_neg (de_var 3)) da_nil))) (da_cons (de_tup (da_cons (de_var 3) (da_cons (de_un un_neg simU_neg (de_var 2)) da_nil))) da_nil))))) (de_op op_mod simR_I (de_var 1) de_int))))), ?_⟩)
  rintro ds g Q ⟨d, h, q⟩
  unfold fTurned at h
  split at h
  · cases h
    rename_i x y k
    walk_at "go"
    have e : rx x y k = (if k % 4 = 0 then x else if k % 4 = 1 then -y else if k % 4 = 2 then -x else y) := rfl
    have e' : ry x y k = (if k % 4 = 0 then y else if k % 4 = 1 then x else if k % 4 = 2 then -y else -x) := rfl
    rcases h_mod k with h | h | h | h <;> rw [h] at e e' <;> rw [h] <;> refine ⟨_, rfl, ?_⟩ <;> (rw [e, e'] at q; exact q)
  · cases h
theorem d_quarters (T : Txt K mg) {f : Addr} {fd : FuncData} (F : FnT K "quarters" "quarters" s_quarters f fd) (hm : mg "quarters" = some (.ref f)) : CallD P w K mg base 1 "quarters" φ_quarters := by
  refine callD F hm (ps := P_quarters) (fun _ _ _ _ _ _ us hl => match us, hl with | [_], _ => rfl) (okD F sc_quarters (by first | exact len_quarters | exact len_quarters _) fun cdv A outer s H E hr => ⟨_, (dss_one (ds_ret (de_if (db_cmp op_eq simR_eq (de_var 0) (de_glob T.gLEFT)) de_int de_int))), ?_⟩)
  rintro ds g Q (⟨rfl, q⟩ | ⟨rfl, q⟩)
  · exact ⟨_, rfl, _, rfl, _, rfl, q⟩
  · exact ⟨_, rfl, _, rfl, _, rfl, q⟩
theorem d_is_letter (T : Txt K mg) {f : Addr} {fd : FuncData} (F : FnT K "is_letter" "is_letter" s_is_letter f fd) (hm : mg "is_letter" = some (.ref f)) : CallD P w K mg base 1 "is_letter" (pF fIsLetter) := by
  refine callD F hm (ps := P_is_letter) (fun _ _ _ _ _ _ us hl => match us, hl with | [_], _ => rfl) (okD F sc_is_letter (by first | exact len_is_letter | exact len_is_letter _) fun cdv A outer s H E hr => ⟨_, (dss_one (ds_ret (de_not (de_isi .s (de_var 0) T.n_isinstance T.n_str (by decide +kernel))))), ?_⟩)
  rintro ds g Q ⟨d, h, q⟩
  unfold fIsLetter at h
  split at h
  · cases h
    walk_at "go"
    exact q
  · cases h
    walk_at "go"
    exact q
  · cases h
theorem d_is_in (T : Txt K mg) {f : Addr} {fd : FuncData} (F : FnT K "is_in" "is_in" s_is_in f fd) (hm : mg "is_in" = some (.ref f)) : CallD P w K mg base 1 "is_in" (pF fIsIn) := by
  refine callD F hm (ps := P_is_in) (fun _ _ _ _ _ _ us hl => match us, hl with | [_, _, _], _ => rfl) (okD F sc_is_in (by first | exact len_is_in | exact len_is_in _) fun cdv A outer s H E hr => ⟨_, (dss_one (ds_ret (de_and (de_isi .i (de_var 0) T.n_isinstance T.n_int (by decide +kernel)) (de_and (de_not (de_isi .b (de_var 0) T.n_isinstance T.n_bool (by decide +kernel))) (de_one (de_chain op_le simR_B op_le simR_B (de_var 1) (de_var 0) (de_var 2))))))), ?_⟩)
  rintro ds g Q ⟨d, h, q⟩
  unfold fIsIn at h
  split at h
  · cases h
    rename_i i lo hi
    walk_at "go"
    refine iteB (fun hc => ?_) (fun hc => ?_)
    · rw [show decide (lo ≤ i) = true from hc] at q
      exact ⟨_, rfl, _, rfl, q⟩
    · rw [show decide (lo ≤ i) = false from hc] at q
      exact q
  · cases h
    walk_at "go"
    exact q
  · cases h
theorem d_far (T : Txt K mg) {f : Addr} {fd : FuncData} (F : FnT K "far" "far" s_far f fd) (hm : mg "far" = some (.ref f)) : CallD P w K mg base 1 "far" φ_far := by
  refine callD F hm (ps := P_far) (fun _ _ _ _ _ _ us hl => match us, hl with | [], _ => rfl) (okD F sc_far (by first | exact len_far | exact len_far _) fun cdv A outer s H E hr => ⟨_, (dss_cons (ds_set 0 de_int sc_far.nd)
      (dss_cons (ds_for (di_range de_int T.n_range) (dg_name 1 sc_far.nd) (dss_one (ds_aug 0 iop_mul simR_I de_int sc_far.nd)))
      (dss_one (ds_ret (de_var 0))))), ?_⟩)
  rintro ds g Q ⟨rfl, q⟩
  refine ⟨400, rfl, ⟨by decide, by decide⟩, fun i Γ g' => g' = g ∧ ∃ d, Γ = [some (.int (10 ^ i)), d], ⟨rfl, _, rfl⟩, fun _ _ _ _ _ => trivial, ?_, ?_⟩
  · rintro i x Γ g' hx ⟨rfl, d, rfl⟩
    obtain ⟨hi, rfl⟩ := rng_get.mp hx
    refine ⟨_, rfl, _, _, rfl, rfl, .inr ⟨by decide, by decide⟩, rfl, some (.int (0 + (i : Int))), ?_⟩
    rw [Int.pow_succ]
    rfl
  · rintro Γ g' ⟨rfl, d, rfl⟩
    rw [rng_len]
    exact ⟨_, rfl, q⟩
theorem d_pair_of (T : Txt K mg) {f : Addr} {fd : FuncData} (F : FnT K "pair_of" "pair_of" s_pair_of f fd) (hm : mg "pair_of" = some (.ref f))
    (H_turned : CallD P w K mg base 1 "turned" (pF fTurned)) : CallD P w K mg base 2 "pair_of" (pF fPairOf) := by
  refine callD F hm (ps := P_pair_of) (fun _ _ _ _ _ _ us hl => match us, hl with | [_, _], _ => rfl) (okD F sc_pair_of (by first | exact len_pair_of | exact len_pair_of _) fun cdv A outer s H E hr => ⟨_, (dss_cons (ds_set 2 (de_call H_turned (hr.mono (by decide)) (da_cons (de_tup (da_cons (de_op op_sub simR_I0 (de_ix (de_var 1) de_int) (de_ix (de_var 0) de_int)) (da_cons (de_op op_sub simR_I0 (de_ix (de_var 1) de_int) (de_ix (de_var 0) de_int)) da_nil))) (da_cons (de_un un_neg simU_neg (de_ix (de_var 0) de_int)) da_nil))) sc_pair_of.nd)
      (dss_one (ds_ret (de_op op_catA simR_catO (de_var 2) (de_tup (da_cons (de_ix (de_var 0) de_int) (da_cons (de_op op_mod simR_I (de_op op_sub simR_I0 (de_ix (de_var 1) de_int) (de_ix (de_var 0) de_int)) de_int) (da_cons (de_ix (de_var 1) de_int) da_nil)))))))), ?_⟩)
  rintro ds g Q ⟨d, h, q⟩
  unfold fPairOf at h
  split at h
  · cases h
    walk_at "go"
    exact ⟨List.cons_ne_nil _ _, List.cons_ne_nil _ _, rfl, q⟩
  · cases h
theorem d_is_clash (T : Txt K mg) {f : Addr} {fd : FuncData} (F : FnT K "is_clash" "is_clash" s_is_clash f fd) (hm : mg "is_clash" = some (.ref f)) : CallD P w K mg base 1 "is_clash" (pF fIsClash) := by
  refine callD F hm (ps := P_is_clash) (fun _ _ _ _ _ _ us hl => match us, hl with | [_], _ => rfl) (okD F sc_is_clash (by first | exact len_is_clash | exact len_is_clash _) fun cdv A outer s H E hr => ⟨_, (dss_cons (ds_if (db_cmp op_eq simR_eq (de_op op_mod simR_I (de_ix (de_var 0) de_int) de_int) de_int) (dss_one (ds_ret de_bl)) dss_nil)
      (dss_one (ds_ret (de_or (de_and (de_cmp (op_eqD hr.units) simR_eqD (de_slT (de_var 0) do_none (do_some de_int)) (de_tup (da_cons de_int (da_cons de_int da_nil)))) (de_one (de_cmp op_eq simR_eq (de_ix (de_var 0) de_int) de_int))) (de_one (de_and (de_cmp (op_eqD hr.units) simR_eqD (de_slT (de_var 0) do_none (do_some de_int)) (de_tup (da_cons de_int (da_cons de_int da_nil)))) (de_one (de_cmp op_eq simR_eq (de_ix (de_var 0) de_int) de_int)))))))), ?_⟩)
  rintro ds g Q ⟨d, h, q⟩
  unfold fIsClash at h
  split at h
  · cases h
    rename_i x y l t o
    walk_at "go"
    by_cases h1 : t % 2 = 1
    · rw [decide_eq_true h1]
      refine iteT ?_
      have e : clash x y t = false := by simp [clash, h1]
      rw [e] at q
      exact q
    · rw [decide_eq_false h1]
      refine iteF ?_
      walk_at "go"
      have e0 : eqb (.tup (DL.cutD [D.int x, D.int y, D.int l, D.int t, D.int o] none (some 2))) (.tup [.int 0, .int 0]) = decide (x = 0 ∧ y = 0) := eqb_P x y 0 0
      have e1 : eqb (.tup (DL.cutD [D.int x, D.int y, D.int l, D.int t, D.int o] none (some 2))) (.tup [.int 1, .int 0]) = decide (x = 1 ∧ y = 0) := eqb_P x y 1 0
      have last : ∀ b : Bool, (b = clash x y t) → Q (.bl b) g := fun b e => e ▸ q
      have second : (¬ (x = 0 ∧ y = 0 ∧ t = 0)) → dAndV (dOp sEqD (dSl sSlT (dVar 0) dNoP (dPrt (dC (D.int 2)))) (dTup (dCons (dC (D.int 1)) (dCons (dC (D.int 0)) dNil)))) (dOp sEq (dOp sIx (dVar 0) (dC (D.int 3))) (dC (D.int 2)))
          (dstart N_is_clash [D.tup [D.int x, D.int y, D.int l, D.int t, D.int o]]) g Q := fun hn => by
        walk_at "go"
        rw [e1]
        refine iteB (fun hc => ?_) (fun hc => ?_)
        · have hc := of_decide_eq_true hc
          walk_at "go"
          refine last _ ?_
          obtain ⟨rfl, rfl⟩ := hc
          have z : ¬ ((1 : Int) = 0) := by decide
          by_cases ht : t = 2
          · subst ht
            rfl
          · simp [clash, ht]
        · have hc := of_decide_eq_false hc
          refine last _ ?_
          simp only [clash, h1, hn]
          have : ¬ (x = 1 ∧ y = 0 ∧ t = 2) := fun z => hc ⟨z.1, z.2.1⟩
          simp [this]
      rw [e0]
      refine iteB (fun hc => ?_) (fun hc => ?_)
      · have hc := of_decide_eq_true hc
        walk_at "go"
        refine iteB (fun ht => ?_) (fun ht => ?_)
        · have ht := of_decide_eq_true ht
          refine last _ ?_
          simp [clash, hc, ht]
        · have ht := of_decide_eq_false ht
          exact second fun z => ht z.2.2
      · have hc := of_decide_eq_false hc
        refine ⟨_, rfl, ?_⟩
        refine iteF ?_
        exact second fun z => hc ⟨z.1, z.2.1⟩
  · cases h
theorem d_least_root (T : Txt K mg) {f : Addr} {fd : FuncData} (F : FnT K "least_root" "least_root" s_least_root f fd) (hm : mg "least_root" = some (.ref f)) : CallD P w K mg base 1 "least_root" φ_least_root := by
  refine callD F hm (ps := P_least_root) (fun _ _ _ _ _ _ us hl => match us, hl with | [_], _ => rfl) (okD F sc_least_root (by first | exact len_least_root | exact len_least_root _) fun cdv A outer s H E hr => ⟨_, (dss_cons (ds_set 1 de_int sc_least_root.nd)
      (dss_cons (ds_while (db_cmp op_lt simR_B (de_op op_mul simR_I (de_var 1) (de_var 1)) (de_var 0)) (dss_one (ds_aug 1 iop_add simR_I0 de_int sc_least_root.nd)))
      (dss_one (ds_ret (de_var 1))))), ?_⟩)
  rintro ds g Q ⟨n, rfl, hn, q⟩
  refine ⟨fun Γ g' => g' = g ∧ ∃ v : Nat, Γ = [some (.int n), some (.int v)] ∧ v ≤ 1000 ∧ ∀ u, u < v → u * u < n, fun Γ _ => (match Γ with
    | [_, some (.int v)] => 1001 - v.toNat
    | _ => 0), ⟨rfl, 0, rfl, by omega, fun u h => by omega⟩, ?_⟩
  rintro Γ g' ⟨rfl, v, rfl, hv, hu⟩
  refine ⟨_, rfl, _, rfl, _, _, rfl, rfl, .inl ⟨by omega, by omega⟩, _, rfl, _, rfl, _, rfl, ?_⟩
  refine ite2 (fun hc => ?_) (fun hc => ?_)
  · have hc' : (v : Int) * v < n := of_decide_eq_true hc
    have hc2 : v * v < n := by
      have e : ((v * v : Nat) : Int) = (v : Int) * v := by simp
      omega
    have hv2 : v < 1000 := by
      have : ¬ 1000 ≤ v := fun h => by
        have := Nat.mul_le_mul h h
        omega
      omega
    refine ⟨_, rfl, _, rfl, ⟨rfl, v + 1, ?_, by omega, fun u h => ?_⟩, ?_⟩
    · rfl
    · by_cases e : u = v
      · rw [e]; exact hc2
      · exact hu u (by omega)
    · show 1001 - ((v : Int) + 1).toNat < 1001 - ((v : Int)).toNat
      omega
  · have hc' : ¬ (v : Int) * v < n := fun h => hc (decide_eq_true h)
    refine ⟨_, rfl, q v ?_ hu⟩
    have e : ((v * v : Nat) : Int) = (v : Int) * v := by simp
    omega
theorem d_need_number (T : Txt K mg) {f : Addr} {fd : FuncData} (F : FnT K "need_number" "need_number" s_need_number f fd) (hm : mg "need_number" = some (.ref f))
    (H_is_in : CallD P w K mg base 1 "is_in" (pF fIsIn)) : CallD P w K mg base 2 "need_number" φ_need_number := by
  refine callD F hm (ps := P_need_number) (fun _ _ _ _ _ _ us hl => match us, hl with | [_, _, _], _ => rfl) (okD F sc_need_number (by first | exact len_need_number | exact len_need_number _) fun cdv A outer s H E hr => ⟨_, (dss_one (ds_if (db_not (db_val (de_call H_is_in (hr.mono (by decide)) (da_cons (de_var 0) (da_cons (de_var 1) (da_cons (de_var 2) da_nil)))))) (dss_one ds_never) dss_nil)), ?_⟩)
  rintro ds g Q ⟨i, lo, hi, rfl, ⟨h1, h2⟩, q⟩
  refine ⟨_, rfl, _, rfl, _, rfl, _, rfl, _, rfl, ?_⟩
  rw [decide_eq_true h1, decide_eq_true h2]
  exact iteF q
theorem d_need_place (T : Txt K mg) {f : Addr} {fd : FuncData} (F : FnT K "need_place" "need_place" s_need_place f fd) (hm : mg "need_place" = some (.ref f))
    (H_far : CallD P w K mg base 1 "far" φ_far)
    (H_is_in : CallD P w K mg base 1 "is_in" (pF fIsIn)) : CallD P w K mg base 2 "need_place" φ_need_place := by
  refine callD F hm (ps := P_need_place) (fun _ _ _ _ _ _ us hl => match us, hl with | [_], _ => rfl) (okD F sc_need_place (by first | exact len_need_place | exact len_need_place _) fun cdv A outer s H E hr => ⟨_, (dss_cons (ds_if (dw_or (db_not (db_val (de_isi .t (de_var 0) T.n_isinstance T.n_tuple (by decide +kernel)))) (dw_or1 (db_cmp op_ne simR_ne (de_callB call_len simC_len T.n_len (by decide +kernel) (da_cons (de_var 0) da_nil)) de_int))).db (dss_one ds_never) dss_nil)
      (dss_one (ds_if (dw_or (db_not (db_val (de_call H_is_in (hr.mono (by decide)) (da_cons (de_ix (de_var 0) de_int) (da_cons (de_un un_neg simU_neg (de_call0 H_far (hr.mono (by decide)))) (da_cons (de_call0 H_far (hr.mono (by decide))) da_nil)))))) (dw_or1 (db_not (db_val (de_call H_is_in (hr.mono (by decide)) (da_cons (de_ix (de_var 0) de_int) (da_cons (de_un un_neg simU_neg (de_call0 H_far (hr.mono (by decide)))) (da_cons (de_call0 H_far (hr.mono (by decide))) da_nil)))))))).db (dss_one ds_never) dss_nil))), ?_⟩)
  rintro ds g Q ⟨x, y, rfl, ⟨h1, h2, h3, h4⟩, q⟩
  have hf := far_big
  walk_at "go"
  generalize hB : (10 : Int) ^ 400 = B at *
  rw [show decide (-B ≤ x) = true from decide_eq_true (by omega), show decide (x ≤ B) = true from decide_eq_true (by omega)]
  walk_at "go"
  rw [hB, show decide (-B ≤ y) = true from decide_eq_true (by omega), show decide (y ≤ B) = true from decide_eq_true (by omega)]
  walk_at "go"
  exact q
end
end SW
set_option Elab.async false
set_option linter.all false
set_option maxRecDepth 100000
set_option maxHeartbeats 4000000
namespace SW
open PySem PySem.Spec PyProof.Rows L2 DL
local macro_rules | `(tactic| walk_at "cond") => `(tactic| first | (show (0 : Int) < _; decide) | (show (0 : Int) < _; omega) | assumption | (refine Bd.mul ?_; assumption) | (refine Or.inl ⟨?_, ?_⟩ <;> omega) | (refine Or.inr ⟨?_, ?_⟩ <;> omega) | decide)
local macro_rules | `(tactic| walk_at "go1") => `(tactic| first
  | refine ⟨_, rfl, ?_⟩
  | refine ⟨_, _, rfl, rfl, by walk_at "cond", ?_⟩
  | refine ⟨_, _, rfl, rfl, ?_⟩
  | refine ⟨_, _, rfl, ?_⟩
  | refine ⟨rfl, ?_⟩
  | refine iteT ?_
  | refine iteF ?_
  | refine ⟨_, _, _, rfl, ?_⟩
  | refine ⟨(by decide +kernel : _ = true), ?_⟩
  | refine iteT' (decide_eq_true (by omega)) ?_
  | refine iteF' (decide_eq_false (by omega)) ?_
  | (dsimp only; refine iteT' (by simp only [decide_eq_true_eq, Bool.not_eq_true', decide_eq_false_iff_not]; omega) ?_)
  | (dsimp only; refine iteF' (by simp only [decide_eq_true_eq, Bool.not_eq_false', decide_eq_false_iff_not]; omega) ?_))
local macro_rules | `(tactic| walk_at "go") => `(tactic| repeat walk_at "go1")
def dSt (s : Int × Int × Int) : D := .tup [dP s.1 s.2.1, .int s.2.2]
abbrev flPen (x y h : Int) (l : Addr) : List (Str × D) := [("place", dP x y), ("heading", .int h), ("stands", .adr l)]
section
variable (K : PySem.W.Frag)
/-- a pen at a, its stands at l -/
def PenAt (g : G) (a l : Addr) (p : Pn) : Prop := a ≠ l ∧ g a = some (.ins (C_Pen K) (flPen p.x p.y p.h l)) ∧ g l = some (.lst (p.st.reverse.map dSt))
def penPut (g : G) (a l : Addr) (p : Pn) : G := gup (gup g l (.lst (p.st.reverse.map dSt))) a (.ins (C_Pen K) (flPen p.x p.y p.h l))
theorem penPut_at {g : G} {a l : Addr} {p : Pn} (h : a ≠ l) : PenAt K (penPut K g a l p) a l p := ⟨h, gup_same, by unfold penPut; rw [gup_ne h.symm, gup_same]⟩
theorem PenAt.put {g : G} {a l : Addr} {p : Pn} (h : PenAt K g a l p) : penPut K g a l p = g := by
  unfold penPut
  rw [gup_id h.2.2, gup_id h.2.1]
theorem penPut_put {g : G} {a l : Addr} {p q : Pn} (h : a ≠ l) : penPut K (penPut K g a l p) a l q = penPut K g a l q := by
  unfold penPut
  rw [gup_comm h, gup_gup, gup_gup]
theorem penPut_set {g : G} {a l : Addr} {p q : Pn} (h : a ≠ l) (hs : q.st = p.st) : gup (penPut K g a l p) a (.ins (C_Pen K) (flPen q.x q.y q.h l)) = penPut K g a l q := by
  unfold penPut
  rw [gup_gup, hs]
theorem PenAt.eq {g : G} {a l : Addr} {p q : Pn} (h : PenAt K g a l p) (hs : q.st = p.st) : penPut K g a l q = gup g a (.ins (C_Pen K) (flPen q.x q.y q.h l)) := by
  unfold penPut
  rw [hs, gup_id h.2.2]
def φ_Pen_init : DSp := fun ds g Q => ∃ a x y h, ds = [.adr a, dP x y, .int h] ∧ g a = some (.ins (C_Pen K) []) ∧ ∀ l, g l = none → a ≠ l → Q .non (penPut K g a l ⟨x, y, h, []⟩)
theorem len_Pen___init__ (ds : List D) (g : G) (Q : DK) (h : φ_Pen_init K ds g Q) : ds.length = P_Pen___init__.length := by
  obtain ⟨_, _, _, _, rfl, _⟩ := h
  rfl
def φ_Pen_mark : DSp := fun ds g Q => ∃ a l p s, ds = [.adr a, dI s] ∧ PenAt K g a l p ∧ isL s = false ∧ (s = .cl → p.st ≠ []) ∧ p.st.length < 1000 ∧ Q .non (penPut K g a l (p.mark s))
theorem len_Pen_mark (ds : List D) (g : G) (Q : DK) (h : φ_Pen_mark K ds g Q) : ds.length = P_Pen_mark.length := by
  obtain ⟨_, _, _, _, rfl, _⟩ := h
  rfl
def φ_Pen_go : DSp := fun ds g Q => ∃ a l p, ds = [.adr a, dP 1 0, .int 0] ∧ PenAt K g a l p ∧ Hd p.h ∧ Q .non (penPut K g a l p.go)
theorem len_Pen_go (ds : List D) (g : G) (Q : DK) (h : φ_Pen_go K ds g Q) : ds.length = P_Pen_go.length := by
  obtain ⟨_, _, _, rfl, _⟩ := h
  rfl
end
section
variable {P : Program} {w : World} {K : PySem.W.Frag} {mg : Str → Option Value} {base : Heap}
theorem d_Pen___init__ (T : Txt K mg) {f : Addr} {fd : FuncData} (F : FnT K "__init__" "Pen.__init__" s_Pen___init__ f fd) (hm : mg "Pen" = some (.ref (C_Pen K))) (hc : Mk K (C_Pen K) f) : MakeD P w K mg base 1 (C_Pen K) "Pen" (φ_Pen_init K) := by
  refine makeD F hm hc (ps := P_Pen___init__) (fun _ _ _ _ _ _ us hl => match us, hl with | [_, _, _], _ => rfl) (okD F sc_Pen___init__ (by first | exact len_Pen___init__ | exact len_Pen___init__ _) fun cdv A outer s H E hr => ⟨_, (dss_cons (ds_setf T.cPen T.aPen_place (de_var 0) (de_var 1))
      (dss_cons (ds_setf T.cPen T.aPen_heading (de_var 0) (de_var 2))
      (dss_one (ds_setf T.cPen T.aPen_stands (de_var 0) (de_lst da_nil))))), ?_⟩)
  rintro ds g Q ⟨a, x, y, h, rfl, ha, q⟩
  refine ⟨_, rfl, _, rfl, a, _, rfl, ha, lt1000 rfl, _, rfl, _, rfl, a, _, rfl, gup_same, lt1000 rfl, fun l hl => ?_⟩
  have hn : a ≠ l := fun z => by
    rw [← z, gup_same] at hl
    cases hl
  refine ⟨_, rfl, a, _, rfl, (gup_ne hn).trans gup_same, lt1000 rfl, ?_⟩
  have q2 := q l (by rw [gup_ne hn.symm, gup_ne hn.symm] at hl; exact hl) hn
  unfold penPut at q2
  rw [gup_gup, gup_comm hn, gup_gup]
  exact q2
theorem d_Pen_mark (T : Txt K mg) {f : Addr} {fd : FuncData} (F : FnT K "mark" "Pen.mark" s_Pen_mark f fd) (hm : Meth K (C_Pen K) "mark" f)
    (H_quarters : CallD P w K mg base 1 "quarters" φ_quarters) : MethD P w K mg base 2 (C_Pen K) "mark" (φ_Pen_mark K) := by
  refine methD F hm T.cPen (ps := P_Pen_mark) (fun _ _ _ _ _ _ us hl => match us, hl with | [_, _], _ => rfl) (okD F sc_Pen_mark (by first | exact len_Pen_mark | exact len_Pen_mark _) fun cdv A outer s H E hr => ⟨_, (dss_one (ds_if (db_cmp op_eq simR_eq (de_var 1) (de_glob T.gOUT)) (dss_one (ds_expr (de_append (de_fld T.cPen T.aPen_stands (de_var 0)) (de_tup (da_cons (de_fld T.cPen T.aPen_place (de_var 0)) (da_cons (de_fld T.cPen T.aPen_heading (de_var 0)) da_nil)))))) (dss_one (ds_if (db_cmp op_eq simR_eq (de_var 1) (de_glob T.gBACK)) (dss_one (ds_asg (de_pop (de_fld T.cPen T.aPen_stands (de_var 0))) (dg_tup (n := 2) (dgs_cons (dg_attr T.cPen T.aPen_place (de_var 0)) (dgs_cons (dg_attr T.cPen T.aPen_heading (de_var 0)) dgs_nil))))) (dss_one (ds_setf T.cPen T.aPen_heading (de_var 0) (de_op op_mod simR_I (de_op op_add simR_I0 (de_fld T.cPen T.aPen_heading (de_var 0)) (de_call H_quarters (hr.mono (by decide)) (da_cons (de_var 1) da_nil))) de_int))))))), ?_⟩)
  rintro ds g Q ⟨a, l, p, s, rfl, hp, hs, hc, hl, q⟩
  cases s with
  | L i => cases hs
  | op =>
    walk_at "go"
    refine ⟨_, _, _, rfl, hp.2.1, rfl, ⟨_, _, rfl, hp.2.2⟩, _, rfl, _, _, _, rfl, hp.2.1, rfl, _, rfl, _, _, _, rfl, hp.2.1, rfl, _, _, _, rfl, rfl, hp.2.2, ?_, ?_⟩
    · rw [List.length_map, List.length_reverse]
      exact small1000 (Nat.le_of_lt hl)
    · unfold penPut at q
      have e : (p.mark .op).st.reverse.map dSt = p.st.reverse.map dSt ++ [dSt (p.x, p.y, p.h)] := by
        show ((p.x, p.y, p.h) :: p.st).reverse.map dSt = _
        rw [List.reverse_cons, List.map_append]
        rfl
      rw [e, gup_id (show gup g l _ a = some (.ins (C_Pen K) (flPen (p.mark .op).x (p.mark .op).y (p.mark .op).h l)) from (gup_ne hp.1).trans hp.2.1)] at q
      exact q
  | cl =>
    walk_at "go"
    cases e : p.st with
    | nil => exact absurd e (hc rfl)
    | cons t r =>
      obtain ⟨tx, ty, th⟩ := t
      have hl2 := hp.2.2
      rw [e, List.reverse_cons, List.map_append] at hl2
      refine ⟨_, _, _, rfl, hp.2.1, rfl, ⟨_, _, rfl, hp.2.2⟩, _, _, _, rfl, rfl, hl2, ?_⟩
      refine ⟨_, rfl, rfl, _, _, rfl, _, rfl, _, _, rfl, (gup_ne hp.1).trans hp.2.1, lt1000 rfl, _, _, rfl, _, rfl, _, _, rfl, gup_same, lt1000 rfl, rfl, ?_⟩
      have em : p.mark .cl = ⟨tx, ty, th, r⟩ := by
        unfold Pn.mark
        rw [e]
      rw [em] at q
      unfold penPut at q
      rw [gup_gup]
      exact q
  | tl =>
    walk_at "go"
    refine ⟨_, _, _, rfl, hp.2.1, rfl, _, rfl, .inl ⟨rfl, ?_⟩⟩
    walk_at "go"
    refine ⟨_, _, rfl, hp.2.1, lt1000 rfl, ?_⟩
    rw [PenAt.eq K (q := p.mark .tl) hp rfl] at q
    exact q
  | tr =>
    walk_at "go"
    refine ⟨_, _, _, rfl, hp.2.1, rfl, _, rfl, .inr ⟨rfl, ?_⟩⟩
    walk_at "go"
    refine ⟨_, _, rfl, hp.2.1, lt1000 rfl, ?_⟩
    rw [PenAt.eq K (q := p.mark .tr) hp rfl] at q
    exact q
theorem d_Pen_go (T : Txt K mg) {f : Addr} {fd : FuncData} (F : FnT K "go" "Pen.go" s_Pen_go f fd) (hm : Meth K (C_Pen K) "go" f)
    (H_plus : CallD P w K mg base 1 "plus" (pF fPlus))
    (H_turned : CallD P w K mg base 1 "turned" (pF fTurned)) : MethD P w K mg base 2 (C_Pen K) "go" (φ_Pen_go K) := by
  refine methD F hm T.cPen (ps := P_Pen_go) (fun _ _ _ _ _ _ us hl => match us, hl with | [_, _, _], _ => rfl) (okD F sc_Pen_go (by first | exact len_Pen_go | exact len_Pen_go _) fun cdv A outer s H E hr => ⟨_, (dss_cons (ds_setf T.cPen T.aPen_place (de_var 0) (de_call H_plus (hr.mono (by decide)) (da_cons (de_fld T.cPen T.aPen_place (de_var 0)) (da_cons (de_call H_turned (hr.mono (by decide)) (da_cons (de_var 1) (da_cons (de_fld T.cPen T.aPen_heading (de_var 0)) da_nil))) da_nil))))
      (dss_one (ds_setf T.cPen T.aPen_heading (de_var 0) (de_op op_mod simR_I (de_op op_add simR_I0 (de_fld T.cPen T.aPen_heading (de_var 0)) (de_var 2)) de_int)))), ?_⟩)
  rintro ds g Q ⟨a, l, p, rfl, hp, hh, q⟩
  walk_at "go"
  refine ⟨_, _, _, rfl, hp.2.1, rfl, ?_⟩
  walk_at "go"
  refine ⟨_, _, _, rfl, hp.2.1, rfl, _, rfl, _, rfl, _, rfl, _, _, rfl, hp.2.1, lt1000 rfl, ?_⟩
  refine ⟨_, rfl, _, _, _, rfl, gup_same, rfl, ?_⟩
  walk_at "go"
  refine ⟨_, _, rfl, gup_same, lt1000 rfl, ?_⟩
  rw [gup_gup]
  rw [PenAt.eq K (q := p.go) hp rfl] at q
  have e : (p.h + 0) % 4 = p.h := by
    obtain ⟨h1, h2⟩ := hh
    omega
  show Q .non (gup g a (.ins (C_Pen K) [("place", dP (p.x + rx 1 0 p.h) (p.y + ry 1 0 p.h)), ("heading", .int ((p.h + 0) % 4)), ("stands", .adr l)]))
  rw [e]
  exact q
end
end SW
set_option Elab.async false
set_option linter.all false
set_option maxRecDepth 100000
set_option maxHeartbeats 4000000
namespace SW
open PySem PySem.Spec PyProof.Rows L2 DL
local macro_rules | `(tactic| walk_at "cond") => `(tactic| first | (show (0 : Int) < _; decide) | (show (0 : Int) < _; omega) | assumption | (refine Bd.mul ?_; assumption) | (refine Or.inl ⟨?_, ?_⟩ <;> omega) | (refine Or.inr ⟨?_, ?_⟩ <;> omega) | decide)
local macro_rules | `(tactic| walk_at "go1") => `(tactic| first
  | refine ⟨_, rfl, ?_⟩
  | refine ⟨_, _, rfl, rfl, by walk_at "cond", ?_⟩
  | refine ⟨_, _, rfl, rfl, ?_⟩
  | refine ⟨_, _, rfl, ?_⟩
  | refine ⟨rfl, ?_⟩
  | refine iteT ?_
  | refine iteF ?_
  | refine ⟨_, _, _, rfl, ?_⟩
  | refine ⟨(by decide +kernel : _ = true), ?_⟩
  | refine iteT' (decide_eq_true (by omega)) ?_
  | refine iteF' (decide_eq_false (by omega)) ?_
  | (dsimp only; refine iteT' (by simp only [decide_eq_true_eq, Bool.not_eq_true', decide_eq_false_iff_not]; omega) ?_)
  | (dsimp only; refine iteF' (by simp only [decide_eq_true_eq, Bool.not_eq_false', decide_eq_false_iff_not]; omega) ?_))
local macro_rules | `(tactic| walk_at "go") => `(tactic| repeat walk_at "go1")
theorem drop_of {α : Type} {l : List α} {i : Nat} {x : α} (h : l[i]? = some x) : l.drop i = x :: l.drop (i + 1) := by
  obtain ⟨hi, rfl⟩ := List.getElem?_eq_some_iff.mp h
  exact List.drop_eq_getElem_cons hi
theorem map_of {α β : Type} {f : α → β} {l : List α} {i : Nat} {y : β} (h : (l.map f)[i]? = some y) : ∃ x, l[i]? = some x ∧ y = f x := by
  rw [List.getElem?_map] at h
  cases e : l[i]? with
  | none => rw [e] at h; cases h
  | some x => rw [e] at h; exact ⟨x, rfl, (Option.some.inj h).symm⟩
def φ_are_branches : DSp := fun ds g Q => ∃ w, ds = [dW w] ∧ Q (.bl (bal 0 w)) g
theorem len_are_branches (ds : List D) (g : G) (Q : DK) (h : φ_are_branches ds g Q) : ds.length = P_are_branches.length := by
  obtain ⟨_, rfl, _⟩ := h
  rfl
def isLD : D → Bool
  | .int _ => true
  | _ => false
def φ_is_word : DSp := fun ds g Q => ∃ (n : Nat) (w : List It), ds = [.int n, dW w] ∧ OkW n w ∧ ∀ g', GX g g' → Q (.bl true) g'
theorem len_is_word (ds : List D) (g : G) (Q : DK) (h : φ_is_word ds g Q) : ds.length = P_is_word.length := by
  obtain ⟨_, _, rfl, _⟩ := h
  rfl
def φ_need_word : DSp := fun ds g Q => ∃ (n : Nat) (w : List It), ds = [.int n, dW w] ∧ OkW n w ∧ ∀ g', GX g g' → Q .non g'
theorem len_need_word (ds : List D) (g : G) (Q : DK) (h : φ_need_word ds g Q) : ds.length = P_need_word.length := by
  obtain ⟨_, _, rfl, _⟩ := h
  rfl
def φ_need_book : DSp := fun ds g Q => ∃ b, ds = [dB b] ∧ OkB b ∧ ∀ g', GX g g' → Q .non g'
theorem len_need_book (ds : List D) (g : G) (Q : DK) (h : φ_need_book ds g Q) : ds.length = P_need_book.length := by
  obtain ⟨_, rfl, _⟩ := h
  rfl
theorem bal_drop {w : List It} {i n : Nat} {s : It} (h : w[i]? = some s) : bal n (w.drop i) = bal n (s :: w.drop (i + 1)) := by rw [drop_of h]
section
variable {P : Program} {w : World} {K : PySem.W.Frag} {mg : Str → Option Value} {base : Heap}
theorem d_are_branches (T : Txt K mg) {f : Addr} {fd : FuncData} (F : FnT K "are_branches" "are_branches" s_are_branches f fd) (hm : mg "are_branches" = some (.ref f))
    (H_is_letter : CallD P w K mg base 1 "is_letter" (pF fIsLetter)) : CallD P w K mg base 2 "are_branches" φ_are_branches := by
  refine callD F hm (ps := P_are_branches) (fun _ _ _ _ _ _ us hl => match us, hl with | [_], _ => rfl) (okD F sc_are_branches (by first | exact len_are_branches | exact len_are_branches _) fun cdv A outer s H E hr => ⟨_, (dss_cons (ds_set 1 de_int sc_are_branches.nd)
      (dss_cons (ds_for (di_tup (de_var 0)) (dg_name 2 sc_are_branches.nd) (dss_cons (ds_if (dw_and (db_not (db_val (de_call H_is_letter (hr.mono (by decide)) (da_cons (de_var 2) da_nil)))) (dw_and1 (db_cmp (op_inT (u65 hr)) simR_inT (de_var 2) (de_tup (da_cons (de_glob T.gOUT) (da_cons (de_glob T.gBACK) da_nil)))))).db (dss_one (ds_aug 1 iop_add simR_I0 (de_if (db_cmp op_eq simR_eq (de_var 2) (de_glob T.gOUT)) de_int (de_un un_neg simU_neg de_int)) sc_are_branches.nd)) dss_nil)
      (dss_one (ds_if (db_cmp op_lt simR_B (de_var 1) de_int) (dss_one (ds_ret de_bl)) dss_nil))))
      (dss_one (ds_ret (de_cmp op_eq simR_eq (de_var 1) de_int))))), ?_⟩)
  rintro ds g Q ⟨w, rfl, q⟩
  refine ⟨_, rfl, _, rfl, fun i Γ g' => g' = g ∧ ∃ (n : Nat) (d : Option D), Γ = [some (dW w), some (.int n), d] ∧ bal 0 w = bal n (w.drop i), ⟨rfl, 0, none, rfl, rfl⟩, fun _ _ _ _ _ => trivial, ?_, ?_⟩
  · rintro i x Γ g' hx ⟨rfl, n, d, rfl, hb⟩
    obtain ⟨s, hs, rfl⟩ := map_of hx
    rw [bal_drop hs] at hb
    cases s with
    | L j =>
      walk_at "go"
      exact hb
    | tl =>
      walk_at "go"
      exact hb
    | tr =>
      walk_at "go"
      exact hb
    | op =>
      walk_at "go"
      exact hb
    | cl =>
      cases n with
      | zero =>
        walk_at "go"
        rw [show bal 0 w = false from hb] at q
        exact q
      | succ n =>
        walk_at "go"
        refine ⟨n, some (dI .cl), ?_, hb⟩
        rw [show ((n + 1 : Nat) : Int) + -1 = n by omega]
        rfl
  · rintro Γ g' ⟨rfl, n, d, rfl, hb⟩
    walk_at "go"
    rw [List.length_map, List.drop_length] at hb
    rw [show bal 0 w = (n == 0) from hb] at q
    rw [show (n == 0) = decide ((n : Int) = 0) by rw [Bool.eq_iff_iff, beq_iff_eq, decide_eq_true_iff]; omega] at q
    exact q
theorem d_is_word (T : Txt K mg) {f : Addr} {fd : FuncData} (F : FnT K "is_word" "is_word" s_is_word f fd) (hm : mg "is_word" = some (.ref f))
    (H_are_branches : CallD P w K mg base 2 "are_branches" φ_are_branches)
    (H_is_in : CallD P w K mg base 1 "is_in" (pF fIsIn))
    (H_is_letter : CallD P w K mg base 1 "is_letter" (pF fIsLetter)) : CallD P w K mg base 3 "is_word" φ_is_word := by
  refine callD F hm (ps := P_is_word) (fun _ _ _ _ _ _ us hl => match us, hl with | [_, _], _ => rfl) (okD F sc_is_word (by first | exact len_is_word | exact len_is_word _) fun cdv A outer s H E hr => ⟨_, (dss_cons (ds_if (dw_or (db_not (db_val (de_isi .t (de_var 1) T.n_isinstance T.n_tuple (by decide +kernel)))) (dw_or1 (db_not (db_chain op_le simR_B op_le simR_B de_int (de_callB call_len simC_len T.n_len (by decide +kernel) (da_cons (de_var 1) da_nil)) (de_glob T.gMOST_WORD))))).db (dss_one (ds_ret de_bl)) dss_nil)
      (dss_cons (ds_for (di_tup (de_var 1)) (dg_name 2 sc_is_word.nd) (dss_one (ds_if (db_not (dw_or (db_val (de_call H_is_in (hr.mono (by decide)) (da_cons (de_var 2) (da_cons de_int (da_cons (de_op op_sub simR_I0 (de_var 0) de_int) da_nil))))) (dw_or1 (dw_and (db_val (de_isi .s (de_var 2) T.n_isinstance T.n_str (by decide +kernel))) (dw_and1 (db_cmp (op_inT (u65 hr)) simR_inT (de_var 2) (de_tup (da_cons (de_glob T.gLEFT) (da_cons (de_glob T.gRIGHT) (da_cons (de_glob T.gOUT) (da_cons (de_glob T.gBACK) da_nil)))))))).db)).db) (dss_one (ds_ret de_bl)) dss_nil)))
      (dss_one (ds_ret (de_and (de_call H_are_branches (hr.mono (by decide)) (da_cons (de_var 1) da_nil)) (de_one (de_cmp (op_neD hr.units) simR_neL (de_lc (own := [("item", 2)]) (di_tup (de_var 1)) sc_is_word.nd (blkOk_by (N := N_is_word) (sc := defScope s_is_word) (by decide +kernel)) (fun _ _ _ _ _ => (dgo_name 2 sc_is_word.nd)) (fun _ _ _ _ _ => (dts_one (db_val (de_call H_is_letter (hr.mono (by decide)) (da_cons (de_var 2) da_nil))))) (fun _ _ _ _ _ => (de_var 2))) (de_lst da_nil)))))))), ?_⟩)
  rintro ds g Q ⟨n, w, rfl, hw, q⟩
  have h1 := hw.ne
  have h2 := hw.le
  have h3 : (w.map dI).length = w.length := List.length_map _
  walk_at "go"
  refine ⟨fun i Γ g' => g' = g ∧ ∃ d : Option D, Γ = [some (.int n), some (dW w), d], ⟨rfl, none, rfl⟩, fun _ _ _ _ _ => trivial, ?_, ?_⟩
  · rintro i x Γ g' hx ⟨rfl, d, rfl⟩
    obtain ⟨s, hs, rfl⟩ := map_of hx
    cases s with
    | L j =>
      have hj := hw.lt j (List.mem_of_getElem? hs)
      refine ⟨_, rfl, _, rfl, _, rfl, _, rfl, ⟨_, rfl, ?_⟩⟩
      rw [decide_eq_true (show (0 : Int) ≤ (j : Nat) by omega), decide_eq_true (show ((j : Nat) : Int) ≤ (n : Int) - 1 by omega)]
      walk_at "go"
      exact ⟨_, rfl⟩
    | tl =>
      walk_at "go"
      exact ⟨_, rfl⟩
    | tr =>
      walk_at "go"
      exact ⟨_, rfl⟩
    | op =>
      walk_at "go"
      exact ⟨_, rfl⟩
    | cl =>
      walk_at "go"
      exact ⟨_, rfl⟩
  · rintro Γ g' ⟨rfl, d, rfl⟩
    walk_at "go"
    refine iteT' hw.bal ?_
    refine ⟨_, rfl, _, rfl, ?_⟩
    refine lc_pure isLD id (by rw [h3]; exact Nat.le_trans h2 (by decide)) (fun _ _ _ => trivial) (fun a i x acc N ha hx n1 n2 => ?_) (fun a ha => ?_)
    · obtain ⟨s, hs, rfl⟩ := map_of hx
      cases s with
      | L j =>
        walk_at "go"
        exact lc_yes (n2 rfl)
      | tl => walk_at "go"; exact n1 rfl
      | tr => walk_at "go"; exact n1 rfl
      | op => walk_at "go"; exact n1 rfl
      | cl => walk_at "go"; exact n1 rfl
    · intro p hp
      obtain ⟨j, hj⟩ := hw.has
      refine ⟨a, p, _, _, rfl, rfl, (gup_ne (gne gup_same hp)).trans gup_same, gup_same, ?_, rfl, ?_⟩
      · refine pdL_of fun d hd => ?_
        obtain ⟨d', hd', rfl⟩ := List.mem_map.mp hd
        obtain ⟨h4, h5⟩ := List.mem_filter.mp hd'
        cases d' <;> first | rfl | cases h5
      · have hm : dI (.L j) ∈ ((w.map dI).filter isLD).map id := by
          rw [List.map_id]
          exact List.mem_filter.mpr ⟨List.mem_map.mpr ⟨_, hj, rfl⟩, rfl⟩
        cases e : ((w.map dI).filter isLD).map id with
        | nil => rw [e] at hm; cases hm
        | cons y ys =>
          rw [e] at hp
          exact q _ ((GX.new ha).trans (GX.new hp))
theorem d_need_word (T : Txt K mg) {f : Addr} {fd : FuncData} (F : FnT K "need_word" "need_word" s_need_word f fd) (hm : mg "need_word" = some (.ref f))
    (H_is_word : CallD P w K mg base 3 "is_word" φ_is_word) : CallD P w K mg base 4 "need_word" φ_need_word := by
  refine callD F hm (ps := P_need_word) (fun _ _ _ _ _ _ us hl => match us, hl with | [_, _], _ => rfl) (okD F sc_need_word (by first | exact len_need_word | exact len_need_word _) fun cdv A outer s H E hr => ⟨_, (dss_one (ds_if (db_not (db_val (de_call H_is_word (hr.mono (by decide)) (da_cons (de_var 0) (da_cons (de_var 1) da_nil))))) (dss_one ds_never) dss_nil)), ?_⟩)
  rintro ds g Q ⟨n, w, rfl, hw, q⟩
  refine ⟨_, rfl, _, rfl, n, w, rfl, hw, fun g' e => ⟨_, rfl, ?_⟩⟩
  walk_at "go"
  exact q g' e
theorem d_need_book (T : Txt K mg) {f : Addr} {fd : FuncData} (F : FnT K "need_book" "need_book" s_need_book f fd) (hm : mg "need_book" = some (.ref f))
    (H_is_word : CallD P w K mg base 3 "is_word" φ_is_word) : CallD P w K mg base 4 "need_book" φ_need_book := by
  refine callD F hm (ps := P_need_book) (fun _ _ _ _ _ _ us hl => match us, hl with | [_], _ => rfl) (okD F sc_need_book (by first | exact len_need_book | exact len_need_book _) fun cdv A outer s H E hr => ⟨_, (dss_cons (ds_if (dw_or (db_not (db_val (de_isi .t (de_var 0) T.n_isinstance T.n_tuple (by decide +kernel)))) (dw_or (db_cmp op_ne simR_ne (de_callB call_len simC_len T.n_len (by decide +kernel) (da_cons (de_var 0) da_nil)) de_int) (dw_or1 (db_not (db_val (de_isi .t (de_ix (de_var 0) de_int) T.n_isinstance T.n_tuple (by decide +kernel))))))).db (dss_one ds_never) dss_nil)
      (dss_cons (ds_if (db_not (db_chain op_le simR_B op_le simR_B de_int (de_callB call_len simC_len T.n_len (by decide +kernel) (da_cons (de_ix (de_var 0) de_int) da_nil)) (de_glob T.gMOST_LETTERS))) (dss_one ds_never) dss_nil)
      (dss_cons (ds_for (di_enumT (de_ix (de_var 0) de_int) T.n_enumerate) (dg_tup (n := 2) (dgs_cons (dg_name 1 sc_need_book.nd) (dgs_cons (dg_name 2 sc_need_book.nd) dgs_nil))) (dss_one (ds_if (db_not (db_val (de_call H_is_word (hr.mono (by decide)) (da_cons (de_callB call_len simC_len T.n_len (by decide +kernel) (da_cons (de_ix (de_var 0) de_int) da_nil)) (da_cons (de_var 2) da_nil))))) (dss_one ds_never) dss_nil)))
      (dss_one (ds_if (db_not (db_val (de_call H_is_word (hr.mono (by decide)) (da_cons (de_callB call_len simC_len T.n_len (by decide +kernel) (da_cons (de_ix (de_var 0) de_int) da_nil)) (da_cons (de_ix (de_var 0) de_int) da_nil))))) (dss_one ds_never) dss_nil))))), ?_⟩)
  rintro ds g Q ⟨b, rfl, hb, q⟩
  have h1 := hb.n1
  have h2 := hb.n8
  have h3 : (b.ws.map dW).length = b.ws.length := List.length_map _
  walk_at "go"
  refine ⟨fun i Γ g' => GX g g' ∧ ∃ d e : Option D, Γ = [some (dB b), d, e], ⟨GX.refl g, none, none, rfl⟩, fun _ _ _ _ _ => trivial, ?_, ?_⟩
  · rintro i x Γ g' hx ⟨hg, d, e, rfl⟩
    rw [enumD_get] at hx
    cases hw : (b.ws.map dW)[i]? with
    | none => rw [hw] at hx; cases hx
    | some y =>
      rw [hw] at hx
      obtain ⟨v, hv, rfl⟩ := map_of hw
      cases hx
      refine ⟨_, rfl, rfl, _, _, rfl, _, _, rfl, rfl, _, rfl, _, rfl, _, _, rfl, rfl, _, rfl, b.ws.length, v, by rw [h3], hb.ws v (List.mem_of_getElem? hv), fun g2 e2 => ?_⟩
      walk_at "go"
      exact ⟨hg.trans e2, _, _, rfl⟩
  · rintro Γ g' ⟨hg, d, e, rfl⟩
    refine ⟨_, rfl, _, rfl, _, _, rfl, rfl, _, rfl, _, rfl, b.ws.length, b.st, by rw [h3], hb.st, fun g2 e2 => ?_⟩
    walk_at "go"
    exact q g2 (hg.trans e2)
end
end SW
set_option Elab.async false
set_option linter.all false
set_option maxRecDepth 100000
set_option maxHeartbeats 4000000
namespace SW
open PySem PySem.Spec PyProof.Rows L2 DL
local macro_rules | `(tactic| walk_at "cond") => `(tactic| first | (show (0 : Int) < _; decide) | (show (0 : Int) < _; omega) | assumption | (refine Bd.mul ?_; assumption) | (refine Or.inl ⟨?_, ?_⟩ <;> omega) | (refine Or.inr ⟨?_, ?_⟩ <;> omega) | decide)
local macro_rules | `(tactic| walk_at "go1") => `(tactic| first
  | refine ⟨_, rfl, ?_⟩
  | refine ⟨_, _, rfl, rfl, by walk_at "cond", ?_⟩
  | refine ⟨_, _, rfl, rfl, ?_⟩
  | refine ⟨_, _, rfl, ?_⟩
  | refine ⟨rfl, ?_⟩
  | refine iteT ?_
  | refine iteF ?_
  | refine ⟨_, _, _, rfl, ?_⟩
  | refine ⟨(by decide +kernel : _ = true), ?_⟩
  | refine iteT' (decide_eq_true (by omega)) ?_
  | refine iteF' (decide_eq_false (by omega)) ?_
  | (dsimp only; refine iteT' (by simp only [decide_eq_true_eq, Bool.not_eq_true', decide_eq_false_iff_not]; omega) ?_)
  | (dsimp only; refine iteF' (by simp only [decide_eq_true_eq, Bool.not_eq_false', decide_eq_false_iff_not]; omega) ?_))
local macro_rules | `(tactic| walk_at "go") => `(tactic| repeat walk_at "go1")
/-- a new list of these -/
def NewL (ds : List D) (g : G) (Q : DK) : Prop := ∀ p g', GX g g' → g p = none → g' p = some (.lst ds) → Q (.adr p) g'
/-- a pen and a list of strokes, new -/
structure StI (K : PySem.W.Frag) (g g' : G) (a l r : Addr) (p : Pn) (acc : List Stk) : Prop where
  gx : GX g g'
  pa : PenAt K g' a l p
  hr : g' r = some (.lst (acc.map dS))
  ra : r ≠ a
  rl : r ≠ l
  na : g a = none
  nl : g l = none
  nr : g r = none
theorem StI.pen {K : PySem.W.Frag} {g g' : G} {a l r : Addr} {p p2 : Pn} {acc : List Stk} (h : StI K g g' a l r p acc) : StI K g (penPut K g' a l p2) a l r p2 acc :=
  ⟨(h.gx.mut h.nl).mut h.na, penPut_at K h.pa.1, by unfold penPut; rw [gup_ne h.ra, gup_ne h.rl]; exact h.hr, h.ra, h.rl, h.na, h.nl, h.nr⟩
theorem StI.add {K : PySem.W.Frag} {g g' : G} {a l r : Addr} {p : Pn} {acc acc2 : List Stk} (h : StI K g g' a l r p acc) : StI K g (gup g' r (.lst (acc2.map dS))) a l r p acc2 :=
  ⟨h.gx.mut h.nr, ⟨h.pa.1, (gup_ne h.ra.symm).trans h.pa.2.1, (gup_ne h.rl.symm).trans h.pa.2.2⟩, gup_same, h.ra, h.rl, h.na, h.nl, h.nr⟩
def φ_strokes_of : DSp := fun ds g Q => ∃ w, ds = [dW w] ∧ bal 0 w = true ∧ w.length ≤ 900 ∧ NewL ((strokes w).map dS) g Q
theorem len_strokes_of (ds : List D) (g : G) (Q : DK) (h : φ_strokes_of ds g Q) : ds.length = P_strokes_of.length := by
  obtain ⟨_, rfl, _⟩ := h
  rfl
theorem mark_depth {p : Pn} {s : It} {r : List It} (hs : isL s = false) (h : bal p.st.length (s :: r) = true) : (s = .cl → p.st ≠ []) ∧ bal (p.mark s).st.length r = true ∧ (p.mark s).st.length ≤ p.st.length + 1 := by
  cases s with
  | L i => cases hs
  | op => exact ⟨(fun z => nomatch z), h, Nat.le_refl _⟩
  | tl => exact ⟨(fun z => nomatch z), h, Nat.le_succ _⟩
  | tr => exact ⟨(fun z => nomatch z), h, Nat.le_succ _⟩
  | cl =>
    unfold Pn.mark
    cases e : p.st with
    | nil => rw [e] at h; cases h
    | cons q t =>
      obtain ⟨x, y, z⟩ := q
      rw [e] at h
      exact ⟨fun _ => List.cons_ne_nil _ _, h, by show t.length ≤ t.length + 1 + 1; omega⟩
section
variable {P : Program} {w : World} {K : PySem.W.Frag} {mg : Str → Option Value} {base : Heap}
theorem d_strokes_of (T : Txt K mg) {f : Addr} {fd : FuncData} (F : FnT K "strokes_of" "strokes_of" s_strokes_of f fd) (hm : mg "strokes_of" = some (.ref f))
    (H_Pen___init__ : MakeD P w K mg base 1 (C_Pen K) "Pen" (φ_Pen_init K))
    (H_Pen_go : MethD P w K mg base 2 (C_Pen K) "go" (φ_Pen_go K))
    (H_Pen_mark : MethD P w K mg base 2 (C_Pen K) "mark" (φ_Pen_mark K))
    (H_is_letter : CallD P w K mg base 1 "is_letter" (pF fIsLetter)) : CallD P w K mg base 3 "strokes_of" φ_strokes_of := by
  refine callD F hm (ps := P_strokes_of) (fun _ _ _ _ _ _ us hl => match us, hl with | [_], _ => rfl) (okD F sc_strokes_of (by first | exact len_strokes_of | exact len_strokes_of _) fun cdv A outer s H E hr => ⟨_, (dss_cons (ds_par 1 2 (da_cons (de_make H_Pen___init__ (hr.mono (by decide)) (da_cons (de_tup (da_cons de_int (da_cons de_int da_nil))) (da_cons de_int da_nil))) (da_cons (de_lst da_nil) da_nil)) sc_strokes_of.nd)
      (dss_cons (ds_for (di_tup (de_var 0)) (dg_name 3 sc_strokes_of.nd) (dss_one (ds_if (db_val (de_call H_is_letter (hr.mono (by decide)) (da_cons (de_var 3) da_nil))) (dss_cons (ds_expr (de_append (de_var 2) (de_op op_catA simR_cat (de_fld T.cPen T.aPen_place (de_var 1)) (de_tup (da_cons (de_fld T.cPen T.aPen_heading (de_var 1)) (da_cons (de_var 3) da_nil))))))
      (dss_one (ds_expr (de_meth H_Pen_go (hr.mono (by decide)) (de_var 1) (da_cons (de_ix (de_glob T.gHEADINGS) de_int) (da_cons de_int da_nil)))))) (dss_one (ds_expr (de_meth H_Pen_mark (hr.mono (by decide)) (de_var 1) (da_cons (de_var 3) da_nil)))))))
      (dss_one (ds_ret (de_var 2))))), ?_⟩)
  rintro ds g Q ⟨w, rfl, hb, hl, q⟩
  refine fun a ha => ⟨a, 0, 0, 0, rfl, gup_same, fun l hlf hal => ⟨rfl, fun r hr => ⟨_, _, rfl, ?_⟩⟩⟩
  have hla : l ≠ a := fun z => hal z.symm
  have hl' : g l = none := by rw [gup_ne hla] at hlf; exact hlf
  have hra : r ≠ a := fun z => by
    rw [z] at hr
    unfold penPut at hr
    rw [gup_same] at hr
    cases hr
  have hrl : r ≠ l := fun z => by
    rw [z] at hr
    unfold penPut at hr
    rw [gup_ne hla, gup_same] at hr
    cases hr
  have hr' : g r = none := by
    unfold penPut at hr
    rw [gup_ne hra, gup_ne hrl, gup_ne hra] at hr
    exact hr
  have start : StI K g (gup (penPut K (gup g a (.ins (C_Pen K) [])) a l p0) r (.lst [])) a l r p0 [] :=
    ⟨((((GX.refl g).mut ha).mut hl').mut ha).mut hr', ⟨hal, (gup_ne hra.symm).trans gup_same, (gup_ne hrl.symm).trans (by unfold penPut; rw [gup_ne hla, gup_same])⟩, gup_same, hra, hrl, ha, hl', hr'⟩
  refine ⟨_, rfl, _, rfl, fun i Γ g' => ∃ (p : Pn) (acc : List Stk) (d : Option D), Γ = [some (dW w), some (.adr a), some (.adr r), d] ∧ StI K g g' a l r p acc ∧ PnOk p ∧ p.st.length ≤ i ∧ acc.length ≤ i ∧ bal p.st.length (w.drop i) = true ∧ strokes w = acc ++ strokesFrom p (w.drop i),
    ⟨p0, [], none, rfl, start, p0_ok, Nat.le_refl _, Nat.le_refl _, hb, rfl⟩, fun _ _ _ _ _ => trivial, ?_, ?_⟩
  · rintro i x Γ g' hx ⟨p, acc, d, rfl, hs, hp, hd, hacc, hbl, heq⟩
    obtain ⟨s, hsi, rfl⟩ := map_of hx
    have hi := (List.getElem?_eq_some_iff.mp hsi).1
    rw [drop_of hsi] at hbl heq
    rw [strokes_cons] at heq
    by_cases hL : isL s = true
    · cases s with
      | L j =>
        walk_at "go"
        refine ⟨⟨_, _, rfl, hs.hr⟩, _, rfl, _, _, _, rfl, hs.pa.2.1, rfl, _, rfl, _, _, _, rfl, hs.pa.2.1, rfl, ?_⟩
        walk_at "go"
        refine ⟨_, _, _, rfl, rfl, hs.hr, ?_, ?_⟩
        · rw [List.length_map]
          exact small1000 (by omega)
        walk_at "go"
        have hs2 : StI K g (gup g' r (.lst (List.map dS acc ++ [.tup [.int p.x, .int p.y, .int p.h, .int j]]))) a l r p (acc ++ [⟨p.x, p.y, p.h, j⟩]) := by
          have z := hs.add (acc2 := acc ++ [⟨p.x, p.y, p.h, j⟩])
          rw [List.map_append] at z
          exact z
        refine ⟨_, _, rfl, hs2.pa.2.1, rfl, ?_⟩
        walk_at "go"
        refine ⟨a, l, p, rfl, hs2.pa, hp.h, ?_⟩
        refine ⟨p.go, _, some (dI (.L j)), rfl, hs2.pen, hp.go, by show p.st.length ≤ i + 1; omega, by rw [List.length_append]; show acc.length + 1 ≤ i + 1; omega, hbl, ?_⟩
        rw [heq, List.append_assoc]
        rfl
      | _ => cases hL
    · have hL : isL s = false := by simpa using hL
      obtain ⟨m1, m2, m3⟩ := mark_depth hL hbl
      have fin : StI K g (penPut K g' a l (p.mark s)) a l r (p.mark s) acc := hs.pen
      have call : φ_Pen_mark K [.adr a, dI s] g' fun _ g2 => ∃ (p : Pn) (acc : List Stk) (d : Option D), [some (dW w), some (.adr a), some (.adr r), some (dI s)] = [some (dW w), some (.adr a), some (.adr r), d] ∧ StI K g g2 a l r p acc ∧ PnOk p ∧ p.st.length ≤ i + 1 ∧ acc.length ≤ i + 1 ∧ bal p.st.length (w.drop (i + 1)) = true ∧ strokes w = acc ++ strokesFrom p (w.drop (i + 1)) := by
        refine ⟨a, l, p, s, rfl, hs.pa, hL, m1, by omega, p.mark s, acc, _, rfl, fin, hp.mark s, by omega, by omega, m2, ?_⟩
        rw [heq]
        cases s with
        | L j => cases hL
        | _ => rfl
      cases s with
      | L j => cases hL
      | op =>
        walk_at "go"
        exact ⟨_, _, rfl, hs.pa.2.1, rfl, _, rfl, call⟩
      | cl =>
        walk_at "go"
        exact ⟨_, _, rfl, hs.pa.2.1, rfl, _, rfl, call⟩
      | tl =>
        walk_at "go"
        exact ⟨_, _, rfl, hs.pa.2.1, rfl, _, rfl, call⟩
      | tr =>
        walk_at "go"
        exact ⟨_, _, rfl, hs.pa.2.1, rfl, _, rfl, call⟩
  · rintro Γ g' ⟨p, acc, d, rfl, hs, hp, hd, hacc, hbl, heq⟩
    rw [List.length_map, List.drop_length] at heq
    have e : strokes w = acc := heq.trans (List.append_nil _)
    rw [e] at q
    exact ⟨_, rfl, q r g' hs.gx hs.nr hs.hr⟩
end
end SW
set_option Elab.async false
set_option linter.all false
set_option maxRecDepth 100000
set_option maxHeartbeats 4000000
namespace SW
open PySem PySem.Spec PyProof.Rows L2 DL
local macro_rules | `(tactic| walk_at "cond") => `(tactic| first | (show (0 : Int) < _; decide) | (show (0 : Int) < _; omega) | assumption | (refine Bd.mul ?_; assumption) | (refine Or.inl ⟨?_, ?_⟩ <;> omega) | (refine Or.inr ⟨?_, ?_⟩ <;> omega) | decide)
local macro_rules | `(tactic| walk_at "go1") => `(tactic| first
  | refine ⟨_, rfl, ?_⟩
  | refine ⟨_, _, rfl, rfl, by walk_at "cond", ?_⟩
  | refine ⟨_, _, rfl, rfl, ?_⟩
  | refine ⟨_, _, rfl, ?_⟩
  | refine ⟨rfl, ?_⟩
  | refine iteT ?_
  | refine iteF ?_
  | refine ⟨_, _, _, rfl, ?_⟩
  | refine ⟨(by decide +kernel : _ = true), ?_⟩
  | refine iteT' (decide_eq_true (by omega)) ?_
  | refine iteF' (decide_eq_false (by omega)) ?_
  | (dsimp only; refine iteT' (by simp only [decide_eq_true_eq, Bool.not_eq_true', decide_eq_false_iff_not]; omega) ?_)
  | (dsimp only; refine iteF' (by simp only [decide_eq_true_eq, Bool.not_eq_false', decide_eq_false_iff_not]; omega) ?_))
local macro_rules | `(tactic| walk_at "go") => `(tactic| repeat walk_at "go1")
def φ_laid_at : DSp := fun ds g Q => ∃ (w : List It) (px py k : Int), ds = [dW w, dP px py, .int k] ∧ bal 0 w = true ∧ w.length ≤ 900 ∧ NewL (((strokes w).map (laidS px py k)).map dS) g Q
theorem len_laid_at (ds : List D) (g : G) (Q : DK) (h : φ_laid_at ds g Q) : ds.length = P_laid_at.length := by
  obtain ⟨_, _, _, _, rfl, _⟩ := h
  rfl
def φ_letters_of : DSp := fun ds g Q => ∃ (b : Bk) (w : List It), ds = [dB b, dW w] ∧ Nat.ble (b.st.length + w.length) 1000 = true ∧ Q (dB ⟨b.ws, b.st ++ w⟩) g
theorem len_letters_of (ds : List D) (g : G) (Q : DK) (h : φ_letters_of ds g Q) : ds.length = P_letters_of.length := by
  obtain ⟨_, _, rfl, _⟩ := h
  rfl
def φ_touches : DSp := fun ds g Q => ∃ p : Pr, ds = [dPrT p] ∧ Hd p.t ∧ ∀ g', GX g g' → Q (.bl (touchB p.x p.y p.t)) g'
theorem len_touches (ds : List D) (g : G) (Q : DK) (h : φ_touches ds g Q) : ds.length = P_touches.length := by
  obtain ⟨_, rfl, _⟩ := h
  rfl
/-- the row of headings -/
abbrev dHead : D := .tup [.tup [.int 1, .int 0], .tup [.int 0, .int 1], .tup [.int (-1), .int 0], .tup [.int 0, .int (-1)]]
theorem head_ix {t : Int} {g : G} (h : Hd t) : fIx dHead (.int t) g = some (dP (rx 1 0 t) (ry 1 0 t)) := by
  obtain ⟨h1, h2⟩ := h
  rcases (show t = 0 ∨ t = 1 ∨ t = 2 ∨ t = 3 by omega) with rfl | rfl | rfl | rfl <;> rfl
theorem isE_any (x y : Int) : ([dP 0 0, dP 1 0].any fun d => eqb d (dP x y)) = isE x y := by
  simp only [List.any_cons, List.any_nil, eqb_P, Bool.or_false, isE]
  rw [Bool.eq_iff_iff]
  simp only [Bool.or_eq_true, decide_eq_true_eq]
  omega
section
variable {P : Program} {w : World} {K : PySem.W.Frag} {mg : Str → Option Value} {base : Heap}
theorem d_laid_at (T : Txt K mg) {f : Addr} {fd : FuncData} (F : FnT K "laid_at" "laid_at" s_laid_at f fd) (hm : mg "laid_at" = some (.ref f))
    (H_plus : CallD P w K mg base 1 "plus" (pF fPlus))
    (H_strokes_of : CallD P w K mg base 3 "strokes_of" φ_strokes_of)
    (H_turned : CallD P w K mg base 1 "turned" (pF fTurned)) : CallD P w K mg base 4 "laid_at" φ_laid_at := by
  refine callD F hm (ps := P_laid_at) (fun _ _ _ _ _ _ us hl => match us, hl with | [_, _, _], _ => rfl) (okD F sc_laid_at (by first | exact len_laid_at | exact len_laid_at _) fun cdv A outer s H E hr => ⟨_, (dss_cons (ds_set 3 (de_lst da_nil) sc_laid_at.nd)
      (dss_cons (ds_for (di_list (de_call H_strokes_of (hr.mono (by decide)) (da_cons (de_var 0) da_nil))) (dg_tup (n := 4) (dgs_cons (dg_name 4 sc_laid_at.nd) (dgs_cons (dg_name 5 sc_laid_at.nd) (dgs_cons (dg_name 6 sc_laid_at.nd) (dgs_cons (dg_name 7 sc_laid_at.nd) dgs_nil))))) (dss_one (ds_expr (de_append (de_var 3) (de_op op_catA simR_cat (de_call H_plus (hr.mono (by decide)) (da_cons (de_var 1) (da_cons (de_call H_turned (hr.mono (by decide)) (da_cons (de_tup (da_cons (de_var 4) (da_cons (de_var 5) da_nil))) (da_cons (de_var 2) da_nil))) da_nil))) (de_tup (da_cons (de_op op_mod simR_I (de_op op_add simR_I0 (de_var 6) (de_var 2)) de_int) (da_cons (de_var 7) da_nil))))))))
      (dss_one (ds_ret (de_var 3))))), ?_⟩)
  rintro ds g Q ⟨w, px, py, k, rfl, hb, hl, q⟩
  intro r hr
  walk_at "go"
  refine ⟨hb, hl, fun p g1 e1 hp h1 => ⟨_, _, rfl, h1, ?_⟩⟩
  have hpr : p ≠ r := fun z => by rw [z, gup_same] at hp; cases hp
  have hrp : r ≠ p := fun z => hpr z.symm
  have hsl := strokes_length_le w p0
  refine ⟨fun i Γ g' => GX g g' ∧ g' p = some (.lst ((strokes w).map dS)) ∧ g' r = some (.lst ((((strokes w).take i).map (laidS px py k)).map dS)) ∧ ∃ a b c d : Option D, Γ = [some (dW w), some (dP px py), some (.int k), some (.adr r), a, b, c, d],
    ⟨(GX.new hr).trans e1, h1, e1 r _ gup_same, none, none, none, none, rfl⟩, fun i Γ g' _ h => h.2.1, ?_, ?_⟩
  · rintro i x Γ g' hx ⟨hg, h2, h3, a, b, c, d, rfl⟩
    obtain ⟨s, hs, rfl⟩ := map_of hx
    refine ⟨_, rfl, rfl, _, _, rfl, _, _, rfl, _, _, rfl, _, _, rfl, rfl, ?_⟩
    walk_at "go"
    refine ⟨⟨_, _, rfl, h3⟩, ?_⟩
    walk_at "go"
    refine ⟨_, _, _, rfl, rfl, h3, ?_, ?_⟩
    · rw [List.length_map, List.length_map, List.length_take]
      exact small1000 (by have : (strokes w).length ≤ w.length := hsl; omega)
    · refine ⟨hg.mut hr, (gup_ne hpr).trans h2, ?_, _, _, _, _, rfl⟩
      rw [gup_same, List.take_add_one, hs]
      simp only [List.map_append, Option.toList, List.map_cons, List.map_nil]
      rfl
  · rintro Γ g' ⟨hg, h2, h3, a, b, c, d, rfl⟩
    rw [List.length_map, List.take_length] at h3
    refine ⟨_, rfl, q r g' hg hr h3⟩
theorem d_letters_of (T : Txt K mg) {f : Addr} {fd : FuncData} (F : FnT K "letters_of" "letters_of" s_letters_of f fd) (hm : mg "letters_of" = some (.ref f)) : CallD P w K mg base 1 "letters_of" φ_letters_of := by
  refine callD F hm (ps := P_letters_of) (fun _ _ _ _ _ _ us hl => match us, hl with | [_, _], _ => rfl) (okD F sc_letters_of (by first | exact len_letters_of | exact len_letters_of _) fun cdv A outer s H E hr => ⟨_, (dss_one (ds_ret (de_tup (da_cons (de_ix (de_var 0) de_int) (da_cons (de_op op_catA simR_cat (de_ix (de_var 0) de_int) (de_var 1)) da_nil))))), ?_⟩)
  rintro ds g Q ⟨b, w, rfl, hl, q⟩
  walk_at "go"
  refine ⟨by rw [List.length_map, List.length_map]; exact hl, ?_⟩
  unfold dB dW at q
  rw [List.map_append] at q
  exact q
theorem d_touches (T : Txt K mg) {f : Addr} {fd : FuncData} (F : FnT K "touches" "touches" s_touches f fd) (hm : mg "touches" = some (.ref f))
    (H_plus : CallD P w K mg base 1 "plus" (pF fPlus)) : CallD P w K mg base 2 "touches" φ_touches := by
  refine callD F hm (ps := P_touches) (fun _ _ _ _ _ _ us hl => match us, hl with | [_], _ => rfl) (okD F sc_touches (by first | exact len_touches | exact len_touches _) fun cdv A outer s H E hr => ⟨_, (dss_cons (ds_set 1 (de_tup (da_cons (de_slT (de_var 0) do_none (do_some de_int)) (da_cons (de_call H_plus (hr.mono (by decide)) (da_cons (de_slT (de_var 0) do_none (do_some de_int)) (da_cons (de_ix (de_glob T.gHEADINGS) (de_ix (de_var 0) de_int)) da_nil))) da_nil))) sc_touches.nd)
      (dss_one (ds_ret (de_cmp (op_neD hr.units) simR_neL (de_lc (own := [("end", 2)]) (di_tup (de_var 1)) sc_touches.nd (blkOk_by (N := N_touches) (sc := defScope s_touches) (by decide +kernel)) (fun _ _ _ _ _ => (dgo_name 2 sc_touches.nd)) (fun _ _ _ _ _ => (dts_one (db_cmp (op_inT (u65 hr)) simR_inT (de_var 2) (de_tup (da_cons (de_tup (da_cons de_int (da_cons de_int da_nil))) (da_cons (de_tup (da_cons de_int (da_cons de_int da_nil))) da_nil)))))) (fun _ _ _ _ _ => (de_var 2))) (de_lst da_nil))))), ?_⟩)
  rintro ds g Q ⟨p, rfl, ht, q⟩
  walk_at "go"
  refine ⟨_, head_ix ht, ?_⟩
  walk_at "go"
  refine lc_pure (fun d => [dP 0 0, dP 1 0].any fun y => eqb y d) id (by show 2 ≤ sizeLine; decide) (fun _ _ _ => trivial) (fun a i x acc N ha hx n1 n2 => ?_) (fun a ha r hr => ?_)
  · obtain ⟨u, v, rfl⟩ : ∃ u v, x = dP u v := by
      match i, hx with
      | 0, hx => cases hx; exact ⟨_, _, rfl⟩
      | 1, hx => cases hx; exact ⟨_, _, rfl⟩
    walk_at "go"
    refine iteB (fun hc => ?_) (fun hc => ?_)
    · exact ⟨_, rfl, lc_yes (n2 hc)⟩
    · exact n1 hc
  · have hra : r ≠ a := fun z => by rw [z, gup_same] at hr; cases hr
    have hl : ∀ l : List D, l = (List.filter (fun d => [dP 0 0, dP 1 0].any fun y => eqb y d) [D.tup (DL.cutD [D.int p.x, D.int p.y, D.int ↑p.a, D.int p.t, D.int ↑p.b] none (some 2)), dP (p.x + rx 1 0 p.t) (p.y + ry 1 0 p.t)]).map id →
        pdL 8 l = true ∧ (!eqbL l []) = touchB p.x p.y p.t := by
      intro l el
      have f1 : ([dP 0 0, dP 1 0].any fun y => eqb y (D.tup (DL.cutD [D.int p.x, D.int p.y, D.int ↑p.a, D.int p.t, D.int ↑p.b] none (some 2)))) = isE p.x p.y := isE_any p.x p.y
      have f2 := isE_any (p.x + rx 1 0 p.t) (p.y + ry 1 0 p.t)
      unfold touchB
      rw [List.map_id, List.filter_cons, List.filter_cons, f1, f2] at el
      subst el
      cases isE p.x p.y <;> cases isE (p.x + rx 1 0 p.t) (p.y + ry 1 0 p.t) <;> exact ⟨rfl, rfl⟩
    obtain ⟨l1, l2⟩ := hl _ rfl
    refine ⟨a, r, _, _, rfl, rfl, (gup_ne hra.symm).trans gup_same, gup_same, l1, rfl, ?_⟩
    rw [l2]
    exact q _ ((GX.new ha).trans (GX.new hr))
end
end SW
set_option Elab.async false
set_option linter.all false
set_option maxRecDepth 100000
set_option maxHeartbeats 4000000
namespace SW
open PySem PySem.Spec PyProof.Rows L2 DL
local macro_rules | `(tactic| walk_at "cond") => `(tactic| first | (show (0 : Int) < _; decide) | (show (0 : Int) < _; omega) | assumption | (refine Bd.mul ?_; assumption) | (refine Or.inl ⟨?_, ?_⟩ <;> omega) | (refine Or.inr ⟨?_, ?_⟩ <;> omega) | decide)
local macro_rules | `(tactic| walk_at "go1") => `(tactic| first
  | refine ⟨_, rfl, ?_⟩
  | refine ⟨_, _, rfl, rfl, by walk_at "cond", ?_⟩
  | refine ⟨_, _, rfl, rfl, ?_⟩
  | refine ⟨_, _, rfl, ?_⟩
  | refine ⟨rfl, ?_⟩
  | refine iteT ?_
  | refine iteF ?_
  | refine ⟨_, _, _, rfl, ?_⟩
  | refine ⟨(by decide +kernel : _ = true), ?_⟩
  | refine iteT' (decide_eq_true (by omega)) ?_
  | refine iteF' (decide_eq_false (by omega)) ?_
  | (dsimp only; refine iteT' (by simp only [decide_eq_true_eq, Bool.not_eq_true', decide_eq_false_iff_not]; omega) ?_)
  | (dsimp only; refine iteF' (by simp only [decide_eq_true_eq, Bool.not_eq_false', decide_eq_false_iff_not]; omega) ?_))
local macro_rules | `(tactic| walk_at "go") => `(tactic| repeat walk_at "go1")
abbrev flWeb (b : Bk) (mx my f : Int) (d : Addr) : List (Str × D) := [("book", dB b), ("move", dP mx my), ("far", .int f), ("words", .adr d)]
/-- a web at W that knows the letters L -/
def WebAt (K : PySem.W.Frag) (g : G) (W : Addr) (b : Bk) (mx my f : Int) (L : List Nat) : Prop := ∃ d kvs, g W = some (.ins (C_Web K) (flWeb b mx my f d)) ∧ g d = some (.dI kvs) ∧
  ∀ l ∈ L, ∃ p, dgetD kvs (l : Int) = some (.adr p) ∧ g p = some (.lst ((strokes (b.ws.getD l [])).map dS))
theorem WebAt.gx {K : PySem.W.Frag} {g g' : G} {W : Addr} {b : Bk} {mx my f : Int} {L : List Nat} (h : WebAt K g W b mx my f L) (e : GX g g') : WebAt K g' W b mx my f L := by
  obtain ⟨d, kvs, h1, h2, h3⟩ := h
  exact ⟨d, kvs, e _ _ h1, e _ _ h2, fun l hl => let ⟨p, a, b⟩ := h3 l hl; ⟨p, a, e _ _ b⟩⟩
def KidL : List Pr → List D → Prop
  | [], ds => ds = []
  | p :: r, ds => ∃ (i j : Int) (s : List D), ds = .tup [dPr p, .int i, .int j] :: s ∧ KidL r s
theorem KidL.append : ∀ {ps qs : List Pr} {ds es : List D}, KidL ps ds → KidL qs es → KidL (ps ++ qs) (ds ++ es)
  | [], _, _, _, h, k => by
    cases (show _ = [] from h)
    exact k
  | _ :: _, _, _, _, h, k => by
    obtain ⟨i, j, s, rfl, h⟩ := h
    exact ⟨i, j, _, rfl, KidL.append h k⟩
theorem KidL.length : ∀ {ps : List Pr} {ds : List D}, KidL ps ds → ds.length = ps.length
  | [], _, h => by
    cases (show _ = [] from h)
    rfl
  | _ :: _, _, h => by
    obtain ⟨i, j, s, rfl, h⟩ := h
    rw [List.length_cons, List.length_cons, KidL.length h]
theorem sum_le_of {n : Nat} : ∀ {l : List Nat}, (∀ x ∈ l, x ≤ n) → l.sum ≤ l.length * n
  | [], _ => Nat.zero_le _
  | a :: r, h => by
    have h1 := h a List.mem_cons_self
    have h2 := sum_le_of (l := r) fun x hx => h x (List.mem_cons_of_mem _ hx)
    rw [List.sum_cons, List.length_cons, Nat.succ_mul]
    omega
section
variable (K : PySem.W.Frag)
def φ_Web_is_near : DSp := fun ds g Q => ∃ W b mx my f d p, ds = [.adr W, dPrT p] ∧ g W = some (.ins (C_Web K) (flWeb b mx my f d)) ∧ (Bd p.x ∧ Bd p.y) ∧ (0 ≤ f ∧ f ≤ 1000000) ∧ Q (.bl (near f p)) g
theorem len_Web_is_near (ds : List D) (g : G) (Q : DK) (h : φ_Web_is_near K ds g Q) : ds.length = P_Web_is_near.length := by
  obtain ⟨_, _, _, _, _, _, _, rfl, _⟩ := h
  rfl
def φ_Web_laid : DSp := fun ds g Q => ∃ W b mx my f L l px py k, ds = [.adr W, .int (l : Nat), dP px py, .int k] ∧ WebAt K g W b mx my f L ∧ l ∈ L ∧ (Bd mx ∧ Bd my) ∧ (b.ws.getD l []).length ≤ 900 ∧ NewL ((laidW b.ws mx my l px py k).map dS) g Q
theorem len_Web_laid (ds : List D) (g : G) (Q : DK) (h : φ_Web_laid K ds g Q) : ds.length = P_Web_laid.length := by
  obtain ⟨_, _, _, _, _, _, _, _, _, _, rfl, _⟩ := h
  rfl
def φ_Web_children : DSp := fun ds g Q => ∃ W b mx my f L p, ds = [.adr W, dPrT p] ∧ WebAt K g W b mx my f L ∧ (p.a ∈ L ∧ p.b ∈ L) ∧ (Bd mx ∧ Bd my) ∧ (0 ≤ f ∧ f ≤ 1000000) ∧ ((b.ws.getD p.a []).length ≤ 100 ∧ (b.ws.getD p.b []).length ≤ 100) ∧
  (∀ o ∈ laidW b.ws mx my p.a 0 0 0, ∀ s ∈ laidW b.ws mx my p.b p.x p.y p.t, Bd (pairOf o s).x ∧ Bd (pairOf o s).y) ∧ ∀ ds', KidL (kids b.ws mx my f p) ds' → NewL ds' g Q
theorem len_Web_children (ds : List D) (g : G) (Q : DK) (h : φ_Web_children K ds g Q) : ds.length = P_Web_children.length := by
  obtain ⟨_, _, _, _, _, _, _, rfl, _⟩ := h
  rfl
end
section
variable {P : Program} {w : World} {K : PySem.W.Frag} {mg : Str → Option Value} {base : Heap}
theorem d_Web_is_near (T : Txt K mg) {f : Addr} {fd : FuncData} (F : FnT K "is_near" "Web.is_near" s_Web_is_near f fd) (hm : Meth K (C_Web K) "is_near" f)
    (H_size : CallD P w K mg base 1 "size" φ_size) : MethD P w K mg base 2 (C_Web K) "is_near" (φ_Web_is_near K) := by
  refine methD F hm T.cWeb (ps := P_Web_is_near) (fun _ _ _ _ _ _ us hl => match us, hl with | [_, _], _ => rfl) (okD F sc_Web_is_near (by first | exact len_Web_is_near | exact len_Web_is_near _) fun cdv A outer s H E hr => ⟨_, (dss_one (ds_ret (de_cmp op_le simR_B (de_call H_size (hr.mono (by decide)) (da_cons (de_slT (de_var 1) do_none (do_some de_int)) da_nil)) (de_op op_mul simR_I (de_fld T.cWeb T.aWeb_far (de_var 0)) (de_fld T.cWeb T.aWeb_far (de_var 0)))))), ?_⟩)
  rintro ds g Q ⟨W, b, mx, my, f, d, p, rfl, hW, hp, ⟨hf0, hf⟩, q⟩
  walk_at "go"
  have hc : CMul f f := .inl ⟨by omega, by omega⟩
  exact ⟨hp, _, rfl, _, _, _, rfl, hW, rfl, _, rfl, _, _, _, rfl, hW, rfl, _, _, rfl, rfl, hc, _, rfl, q⟩
theorem d_Web_laid (T : Txt K mg) {f : Addr} {fd : FuncData} (F : FnT K "laid" "Web.laid" s_Web_laid f fd) (hm : Meth K (C_Web K) "laid" f)
    (H_plus : CallD P w K mg base 1 "plus" (pF fPlus))
    (H_times : CallD P w K mg base 1 "times" φ_times)
    (H_turned : CallD P w K mg base 1 "turned" (pF fTurned)) : MethD P w K mg base 2 (C_Web K) "laid" (φ_Web_laid K) := by
  refine methD F hm T.cWeb (ps := P_Web_laid) (fun _ _ _ _ _ _ us hl => match us, hl with | [_, _, _, _], _ => rfl) (okD F sc_Web_laid (by first | exact len_Web_laid | exact len_Web_laid _) fun cdv A outer s H E hr => ⟨_, (dss_cons (ds_par 4 5 (da_cons (de_call H_times (hr.mono (by decide)) (da_cons (de_fld T.cWeb T.aWeb_move (de_var 0)) (da_cons (de_var 2) da_nil))) (da_cons (de_lst da_nil) da_nil)) sc_Web_laid.nd)
      (dss_cons (ds_for (di_list (de_dget (u65 hr) (de_fld T.cWeb T.aWeb_words (de_var 0)) (de_var 1))) (dg_tup (n := 4) (dgs_cons (dg_name 6 sc_Web_laid.nd) (dgs_cons (dg_name 7 sc_Web_laid.nd) (dgs_cons (dg_name 8 sc_Web_laid.nd) (dgs_cons (dg_name 9 sc_Web_laid.nd) dgs_nil))))) (dss_one (ds_expr (de_append (de_var 5) (de_op op_catA simR_cat (de_call H_plus (hr.mono (by decide)) (da_cons (de_var 4) (da_cons (de_call H_turned (hr.mono (by decide)) (da_cons (de_tup (da_cons (de_var 6) (da_cons (de_var 7) da_nil))) (da_cons (de_var 3) da_nil))) da_nil))) (de_tup (da_cons (de_op op_mod simR_I (de_op op_add simR_I0 (de_var 8) (de_var 3)) de_int) (da_cons (de_var 9) da_nil))))))))
      (dss_one (ds_ret (de_var 5))))), ?_⟩)
  rintro ds g Q ⟨W, b, mx, my, f, L, l, px, py, k, rfl, ⟨d, kvs, hW, hd, hL⟩, hl, ⟨hmx, hmy⟩, hw, q⟩
  obtain ⟨p, hp1, hp2⟩ := hL l hl
  walk_at "go"
  refine ⟨_, _, _, rfl, hW, rfl, _, rfl, mx, my, px, py, rfl, ⟨hmx, hmy⟩, fun r hr => ⟨_, _, rfl, ?_⟩⟩
  have hpr := gne hp2 hr
  have hrp : r ≠ p := fun z => hpr z.symm
  have hsl := strokes_length_le (b.ws.getD l []) p0
  refine ⟨_, rfl, _, _, _, rfl, (GX.new hr) _ _ hW, rfl, _, rfl, .adr p, ?_, _, _, rfl, (GX.new hr) _ _ hp2, ?_⟩
  · rw [← hp1]
    exact .i (.inl ((GX.new hr) _ _ hd))
  refine ⟨fun i Γ g' => GX g g' ∧ g' p = some (.lst ((strokes (b.ws.getD l [])).map dS)) ∧ g' r = some (.lst ((((strokes (b.ws.getD l [])).take i).map (laidS (mx * px - my * py) (mx * py + my * px) k)).map dS)) ∧ ∃ u v c d : Option D, Γ = [some (.adr W), some (.int l), some (dP px py), some (.int k), some (dP (mx * px - my * py) (mx * py + my * px)), some (.adr r), u, v, c, d],
    ⟨GX.new hr, (GX.new hr) _ _ hp2, gup_same, none, none, none, none, rfl⟩, fun i Γ g' _ h => h.2.1, ?_, ?_⟩
  · rintro i x Γ g' hx ⟨hg, h2, h3, u, v, c, e, rfl⟩
    obtain ⟨s, hs, rfl⟩ := map_of hx
    refine ⟨_, rfl, rfl, _, _, rfl, _, _, rfl, _, _, rfl, _, _, rfl, rfl, ?_⟩
    walk_at "go"
    refine ⟨⟨_, _, rfl, h3⟩, ?_⟩
    walk_at "go"
    refine ⟨_, _, _, rfl, rfl, h3, ?_, ?_⟩
    · rw [List.length_map, List.length_map, List.length_take]
      exact small1000 (by have : (strokes (b.ws.getD l [])).length ≤ (b.ws.getD l []).length := hsl; omega)
    · refine ⟨hg.mut hr, (gup_ne hpr).trans h2, ?_, _, _, _, _, rfl⟩
      rw [gup_same, List.take_add_one, hs]
      simp only [List.map_append, Option.toList, List.map_cons, List.map_nil]
      rfl
  · rintro Γ g' ⟨hg, h2, h3, u, v, c, e, rfl⟩
    rw [List.length_map, List.take_length] at h3
    exact ⟨_, rfl, q r g' hg hr h3⟩
theorem d_Web_children (T : Txt K mg) {f : Addr} {fd : FuncData} (F : FnT K "children" "Web.children" s_Web_children f fd) (hm : Meth K (C_Web K) "children" f)
    (H_Web_is_near : MethD P w K mg base 2 (C_Web K) "is_near" (φ_Web_is_near K))
    (H_Web_laid : MethD P w K mg base 2 (C_Web K) "laid" (φ_Web_laid K))
    (H_pair_of : CallD P w K mg base 2 "pair_of" (pF fPairOf)) : MethD P w K mg base 3 (C_Web K) "children" (φ_Web_children K) := by
  refine methD F hm T.cWeb (ps := P_Web_children) (fun _ _ _ _ _ _ us hl => match us, hl with | [_, _], _ => rfl) (okD F sc_Web_children (by first | exact len_Web_children | exact len_Web_children _) fun cdv A outer s H E hr => ⟨_, (dss_cons (ds_par 2 3 (da_cons (de_meth H_Web_laid (hr.mono (by decide)) (de_var 0) (da_cons (de_ix (de_var 1) de_int) (da_cons (de_tup (da_cons de_int (da_cons de_int da_nil))) (da_cons de_int da_nil)))) (da_cons (de_meth H_Web_laid (hr.mono (by decide)) (de_var 0) (da_cons (de_ix (de_var 1) de_int) (da_cons (de_slT (de_var 1) do_none (do_some de_int)) (da_cons (de_ix (de_var 1) de_int) da_nil)))) da_nil)) sc_Web_children.nd)
      (dss_cons (ds_set 4 (de_lst da_nil) sc_Web_children.nd)
      (dss_cons (ds_for (di_enumL (de_var 2) T.n_enumerate) (dg_tup (n := 2) (dgs_cons (dg_name 5 sc_Web_children.nd) (dgs_cons (dg_name 6 sc_Web_children.nd) dgs_nil))) (dss_one (ds_for (di_enumL (de_var 3) T.n_enumerate) (dg_tup (n := 2) (dgs_cons (dg_name 7 sc_Web_children.nd) (dgs_cons (dg_name 8 sc_Web_children.nd) dgs_nil))) (dss_cons (ds_set 9 (de_call H_pair_of (hr.mono (by decide)) (da_cons (de_var 6) (da_cons (de_var 8) da_nil))) sc_Web_children.nd)
      (dss_one (ds_if (db_val (de_meth H_Web_is_near (hr.mono (by decide)) (de_var 0) (da_cons (de_varO 9) da_nil))) (dss_one (ds_expr (de_append (de_var 4) (de_tup (da_cons (de_var 9) (da_cons (de_var 5) (da_cons (de_var 7) da_nil))))))) dss_nil))))))
      (dss_one (ds_ret (de_var 4)))))), ?_⟩)
  rintro ds g Q ⟨W, b, mx, my, f, L, p, rfl, hW, ⟨hla, hlb⟩, hm, hf, ⟨hwa, hwb⟩, hb, q⟩
  obtain ⟨d, kvs, hW1, hd, hL⟩ := id hW
  walk_at "go"
  refine ⟨_, _, rfl, hW1, rfl, ?_⟩
  walk_at "go"
  refine ⟨W, b, mx, my, f, L, p.a, 0, 0, 0, rfl, hW, hla, hm, by omega, fun po g1 e1 npo hpo => ?_⟩
  walk_at "go"
  refine ⟨_, _, rfl, e1 _ _ hW1, rfl, ?_⟩
  walk_at "go"
  refine ⟨W, b, mx, my, f, L, p.b, p.x, p.y, p.t, rfl, hW.gx e1, hlb, hm, by omega, fun pt g2 e2 npt hpt => ⟨_, _, rfl, fun r hr => ?_⟩⟩
  have e12 := e1.trans e2
  have nr := e12.free hr
  have hor : po ≠ r := gne (e2 _ _ hpo) hr
  have htr : pt ≠ r := gne hpt hr
  have hWr := gne (e12 _ _ hW1) hr
  -- the names' values
  generalize hO : laidW b.ws mx my p.a 0 0 0 = O at *
  generalize hT : laidW b.ws mx my p.b p.x p.y p.t = Z at *
  have lO : O.length ≤ 100 := by
    rw [← hO]
    unfold laidW
    rw [List.length_map]
    exact Nat.le_trans (strokes_length_le _ p0) hwa
  have lZ : Z.length ≤ 100 := by
    rw [← hT]
    unfold laidW
    rw [List.length_map]
    exact Nat.le_trans (strokes_length_le _ p0) hwb
  have hkids : kids b.ws mx my f p = kidsOf f O Z := by
    unfold kids
    rw [hO, hT]
  have klen : ∀ i o, kidsOf f (O.take i) Z = kidsOf f (O.take i) Z → (kidsOf f (O.take i) Z ++ ((o : List Pr))).length ≤ i * 100 + o.length := by
    intro i o _
    rw [List.length_append]
    have : (kidsOf f (O.take i) Z).length ≤ i * 100 := by
      unfold kidsOf
      rw [List.length_flatMap]
      have hb2 : ∀ x ∈ (O.take i).map (fun o => ((Z.map (pairOf o)).filter (near f)).length), x ≤ 100 := by
        intro x hx
        obtain ⟨o, _, rfl⟩ := List.mem_map.mp hx
        exact Nat.le_trans (List.length_filter_le _ _) (by rw [List.length_map]; exact lZ)
      have hs := sum_le_of hb2
      rw [List.length_map, List.length_take] at hs
      have : min i O.length ≤ i := Nat.min_le_left _ _
      have := Nat.mul_le_mul_right 100 this
      omega
    omega
  refine ⟨_, rfl, _, _, rfl, (gup_ne hor).trans (e2 _ _ hpo), ?_⟩
  refine ⟨fun i Γ g' => GX g g' ∧ g' po = some (.lst (O.map dS)) ∧ g' pt = some (.lst (Z.map dS)) ∧ (∃ acc, g' r = some (.lst acc) ∧ KidL (kidsOf f (O.take i) Z) acc) ∧ ∃ x1 x2 x3 x4 x5 : Option D, Γ = [some (.adr W), some (dPrT p), some (.adr po), some (.adr pt), some (.adr r), x1, x2, x3, x4, x5],
    ⟨e12.trans (GX.new hr), (gup_ne hor).trans (e2 _ _ hpo), (gup_ne htr).trans hpt, ⟨[], gup_same, rfl⟩, none, none, none, none, none, rfl⟩, fun i Γ g' _ h => h.2.1, ?_, ?_⟩
  · rintro i x Γ g' hx ⟨hg, h2, h3, ⟨acc, h4, h5⟩, x1, x2, x3, x4, x5, rfl⟩
    rw [enumD_get] at hx
    cases ho : (O.map dS)[i]? with
    | none => rw [ho] at hx; cases hx
    | some y =>
      rw [ho] at hx
      obtain ⟨o, ho', rfl⟩ := map_of ho
      cases hx
      have hi := (List.getElem?_eq_some_iff.mp ho').1
      refine ⟨_, rfl, rfl, _, _, rfl, _, _, rfl, rfl, ?_⟩
      refine ⟨_, rfl, _, _, rfl, h3, ?_⟩
      refine ⟨fun j Γ g' => GX g g' ∧ g' po = some (.lst (O.map dS)) ∧ g' pt = some (.lst (Z.map dS)) ∧ (∃ acc, g' r = some (.lst acc) ∧ KidL (kidsOf f (O.take i) Z ++ ((Z.take j).map (pairOf o)).filter (near f)) acc) ∧ ∃ x3 x4 x5 : Option D, Γ = [some (.adr W), some (dPrT p), some (.adr po), some (.adr pt), some (.adr r), some (.int ((0 + i : Nat) : Int)), some (dS o), x3, x4, x5],
        ⟨hg, h2, h3, ⟨acc, h4, by simpa using h5⟩, _, _, _, rfl⟩, fun j Γ g' _ h => h.2.2.1, ?_, ?_⟩
      · rintro j x Γ g3 hx ⟨hg, h2, h3, ⟨acc, h4, h5⟩, x3, x4, x5, rfl⟩
        rw [enumD_get] at hx
        cases ht : (Z.map dS)[j]? with
        | none => rw [ht] at hx; cases hx
        | some y =>
          rw [ht] at hx
          obtain ⟨z, ht', rfl⟩ := map_of ht
          cases hx
          have hj := (List.getElem?_eq_some_iff.mp ht').1
          refine ⟨_, rfl, rfl, _, _, rfl, _, _, rfl, rfl, ?_⟩
          walk_at "go"
          have hbd := hb o (List.mem_of_getElem? ho') z (List.mem_of_getElem? ht')
          have et : Z.take (j + 1) = Z.take j ++ [z] := by rw [List.take_add_one, ht'] <;> rfl
          have len := h5.length
          have hlen2 : acc.length ≤ i * 100 + j := by
            rw [len]
            refine Nat.le_trans (klen i _ rfl) ?_
            have : (((Z.take j).map (pairOf o)).filter (near f)).length ≤ j := Nat.le_trans (List.length_filter_le _ _) (by rw [List.length_map, List.length_take]; exact Nat.min_le_left _ _)
            omega
          refine ⟨_, _, rfl, hg _ _ hW1, rfl, ?_⟩
          walk_at "go"
          refine ⟨W, b, mx, my, f, d, pairOf o z, rfl, hg _ _ hW1, hbd, hf, _, rfl, iteB (fun hn => ?_) (fun hn => ?_)⟩
          · refine ⟨_, rfl, ⟨_, _, rfl, h4⟩, _, rfl, _, rfl, _, rfl, _, _, _, rfl, rfl, h4, ?_, ?_⟩
            · have h64 : i * 100 ≤ 100 * 100 := Nat.mul_le_mul_right 100 (by omega)
              have : sizeLine = 16777216 := sizeLine_eq
              omega
            · refine ⟨hg.mut nr, (gup_ne hor).trans h2, (gup_ne htr).trans h3, ⟨_, gup_same, ?_⟩, _, _, _, rfl⟩
              have e : ((Z.take (j + 1)).map (pairOf o)).filter (near f) = ((Z.take j).map (pairOf o)).filter (near f) ++ [pairOf o z] := by
                rw [et, List.map_append, List.filter_append]
                simp [hn]
              rw [e, ← List.append_assoc]
              exact h5.append ⟨_, _, _, rfl, rfl⟩
          · refine ⟨hg, h2, h3, ⟨acc, h4, ?_⟩, _, _, _, rfl⟩
            have e : ((Z.take (j + 1)).map (pairOf o)).filter (near f) = ((Z.take j).map (pairOf o)).filter (near f) := by
              rw [et, List.map_append, List.filter_append]
              simp [hn]
            rw [e]
            exact h5
      · rintro Γ g3 ⟨hg, h2, h3, ⟨acc, h4, h5⟩, x3, x4, x5, rfl⟩
        refine ⟨hg, h2, h3, ⟨acc, h4, ?_⟩, _, _, _, _, _, rfl⟩
        rw [enumD_len, List.length_map, List.take_length] at h5
        rw [List.take_add_one, ho']
        unfold kidsOf at h5 ⊢
        rw [List.flatMap_append]
        simpa using h5
  · rintro Γ g' ⟨hg, h2, h3, ⟨acc, h4, h5⟩, x1, x2, x3, x4, x5, rfl⟩
    rw [enumD_len, List.length_map, List.take_length, ← hkids] at h5
    exact ⟨_, rfl, q acc h5 r g' hg nr h4⟩
end
end SW
set_option Elab.async false
set_option linter.all false
set_option maxRecDepth 100000
set_option maxHeartbeats 4000000
namespace SW
open PySem PySem.Spec PyProof.Rows L2 DL
local macro_rules | `(tactic| walk_at "cond") => `(tactic| first | (show (0 : Int) < _; decide) | (show (0 : Int) < _; omega) | assumption | (refine Bd.mul ?_; assumption) | (refine Or.inl ⟨?_, ?_⟩ <;> omega) | (refine Or.inr ⟨?_, ?_⟩ <;> omega) | decide)
local macro_rules | `(tactic| walk_at "go1") => `(tactic| first
  | refine ⟨_, rfl, ?_⟩
  | refine ⟨_, _, rfl, rfl, by walk_at "cond", ?_⟩
  | refine ⟨_, _, rfl, rfl, ?_⟩
  | refine ⟨_, _, rfl, ?_⟩
  | refine ⟨rfl, ?_⟩
  | refine iteT ?_
  | refine iteF ?_
  | refine ⟨_, _, _, rfl, ?_⟩
  | refine ⟨(by decide +kernel : _ = true), ?_⟩
  | refine iteT' (decide_eq_true (by omega)) ?_
  | refine iteF' (decide_eq_false (by omega)) ?_
  | (dsimp only; refine iteT' (by simp only [decide_eq_true_eq, Bool.not_eq_true', decide_eq_false_iff_not]; omega) ?_)
  | (dsimp only; refine iteF' (by simp only [decide_eq_true_eq, Bool.not_eq_false', decide_eq_false_iff_not]; omega) ?_))
local macro_rules | `(tactic| walk_at "go") => `(tactic| repeat walk_at "go1")
def nI (ls : List Nat) : List Int := ls.map fun (l : Nat) => (l : Int)
/-- what letters_that_come gives -/
def LtcOk (b : Bk) (kvs : List (Int × D)) : Prop := ∃ (ks : List Nat) (ms : List Int), kvs.map Prod.fst = nI ks ∧ kvs.map Prod.snd = ms.map D.int ∧ ks.Pairwise (· < ·) ∧ (∀ l, l ∈ ks ↔ Reach b l) ∧ ks ≠ [] ∧ ∀ m ∈ ms, 0 ≤ m ∧ m ≤ 8
def Few (b : Bk) : Prop := b.st.length < 60 ∧ ∃ M, (∀ w ∈ b.ws, w.length ≤ M) ∧ b.ws.length * M < 60
def φ_letters_that_come : DSp := fun ds g Q => ∃ b, ds = [dB b] ∧ OkB b ∧ Few b ∧ ∀ kvs, LtcOk b kvs → ∀ p g', GX g g' → g p = none → g' p = some (.dI kvs) → Q (.adr p) g'
theorem len_letters_that_come (ds : List D) (g : G) (Q : DK) (h : φ_letters_that_come ds g Q) : ds.length = P_letters_that_come.length := by
  obtain ⟨_, rfl, _⟩ := h
  rfl
def ltrs (w : List It) : List Nat := w.filterMap fun s => match s with
  | .L i => some i
  | _ => none
theorem mem_ltrs {w : List It} {l : Nat} : l ∈ ltrs w ↔ It.L l ∈ w := by
  unfold ltrs
  rw [List.mem_filterMap]
  constructor
  · rintro ⟨s, hs, h⟩
    cases s <;> first | (cases h; exact hs) | cases h
  · intro h
    exact ⟨_, h, rfl⟩
theorem ltrs_fil (w : List It) : ((w.map dI).filter isLD).map id = (nI (ltrs w)).map D.int := by
  rw [List.map_id]
  induction w with
  | nil => rfl
  | cons s r ih =>
    cases s with
    | L j =>
      show D.int j :: List.filter isLD (r.map dI) = D.int j :: (nI (ltrs r)).map D.int
      rw [ih]
    | tl => exact ih
    | tr => exact ih
    | op => exact ih
    | cl => exact ih
theorem dget_some {kvs : List (Int × D)} {k : Int} : (dgetD kvs k).isSome = decide (k ∈ kvs.map Prod.fst) := by
  induction kvs with
  | nil => rfl
  | cons p r ih =>
    rw [dget_cons]
    by_cases h : p.1 = k
    · rw [if_pos h]
      simp [h]
    · rw [if_neg h, ih]
      simp [Ne.symm h]
theorem dput_new {kvs : List (Int × D)} {k : Int} {v : D} (h : k ∉ kvs.map Prod.fst) : dputD kvs k v = kvs ++ [(k, v)] := by
  unfold dputD
  rw [if_neg]
  intro z
  obtain ⟨p, hp, e⟩ := List.any_eq_true.mp z
  exact h (List.mem_map.mpr ⟨p, hp, of_decide_eq_true e⟩)
theorem dget_val {kvs : List (Int × D)} {k : Int} {d : D} (h : dgetD kvs k = some d) : d ∈ kvs.map Prod.snd := by
  induction kvs with
  | nil => cases h
  | cons p r ih =>
    rw [dget_cons] at h
    by_cases e : p.1 = k
    · rw [if_pos e] at h
      cases h
      exact List.mem_cons_self
    · rw [if_neg e] at h
      exact List.mem_cons_of_mem _ (ih h)
theorem mem_nI {ls : List Nat} {k : Int} : k ∈ nI ls ↔ ∃ l : Nat, l ∈ ls ∧ k = l := by
  unfold nI
  rw [List.mem_map]
  exact ⟨fun ⟨l, h, e⟩ => ⟨l, h, e.symm⟩, fun ⟨l, h, e⟩ => ⟨l, h, e.symm⟩⟩
theorem mem_nI' {ls : List Nat} {l : Nat} : (l : Int) ∈ nI ls ↔ l ∈ ls := by
  rw [mem_nI]
  exact ⟨fun ⟨m, h, e⟩ => by rw [show l = m by omega]; exact h, fun h => ⟨l, h, rfl⟩⟩
theorem nI_of : ∀ {ys : List Int}, (∀ k ∈ ys, ∃ n : Nat, k = n) → ∃ ls, ys = nI ls
  | [], _ => ⟨[], rfl⟩
  | k :: r, h => by
    obtain ⟨n, hn⟩ := h k List.mem_cons_self
    obtain ⟨ls, e⟩ := nI_of fun j hj => h j (List.mem_cons_of_mem _ hj)
    exact ⟨n :: ls, by rw [hn, e]; rfl⟩
theorem nI_lt {ls : List Nat} (h : (nI ls).Pairwise (· < ·)) : ls.Pairwise (· < ·) := by
  unfold nI at h
  rw [List.pairwise_map] at h
  exact h.imp fun h => by omega
theorem pw_nodup {ls : List Nat} (h : ls.Pairwise (· < ·)) : ls.Nodup := h.imp fun h e => by omega
theorem nodup_le {ls : List Nat} {n : Nat} (h : ls.Nodup) (hl : ∀ l ∈ ls, l < n) : ls.length ≤ n := by
  have := nat_nodup_len ls (List.range n) h (fun x hx => List.mem_range.mpr (hl x hx))
  rwa [List.length_range] at this
theorem atI_nat {l : List D} {n : Nat} {d : D} (h : l[n]? = some d) : atI l (n : Int) = some d := by
  have hn := (List.getElem?_eq_some_iff.mp h).1
  unfold atI ixN
  rw [if_pos (by omega), if_pos (by omega), Int.toNat_natCast]
  exact h
theorem ltrs_len (w : List It) : (ltrs w).length ≤ w.length := List.length_filterMap_le _ _
section
variable {P : Program} {w : World} {K : PySem.W.Frag} {mg : Str → Option Value} {base : Heap}
theorem d_letters_that_come (T : Txt K mg) {f : Addr} {fd : FuncData} (F : FnT K "letters_that_come" "letters_that_come" s_letters_that_come f fd) (hm : mg "letters_that_come" = some (.ref f))
    (H_is_letter : CallD P w K mg base 1 "is_letter" (pF fIsLetter)) : CallD P w K mg base 2 "letters_that_come" φ_letters_that_come := by
  refine callD F hm (ps := P_letters_that_come) (fun _ _ _ _ _ _ us hl => match us, hl with | [_], _ => rfl) (okD F sc_letters_that_come (by first | exact len_letters_that_come | exact len_letters_that_come _) fun cdv A outer s H E hr => ⟨_, (dss_cons (ds_asg (de_tup (da_cons de_dnewI (da_cons (de_sortSet (de_lc (own := [("item", 4)]) (di_tup (de_ix (de_var 0) de_int)) sc_letters_that_come.nd (blkOk_by (N := N_letters_that_come) (sc := defScope s_letters_that_come) (by decide +kernel)) (fun _ _ _ _ _ => (dgo_name 4 sc_letters_that_come.nd)) (fun _ _ _ _ _ => (dts_one (db_val (de_call H_is_letter (hr.mono (by decide)) (da_cons (de_var 4) da_nil))))) (fun _ _ _ _ _ => (de_var 4))) T.n_sorted T.n_set) (da_cons de_int da_nil)))) (dg_tup (n := 3) (dgs_cons (dg_name 1 sc_letters_that_come.nd) (dgs_cons (dg_name 2 sc_letters_that_come.nd) (dgs_cons (dg_name 3 sc_letters_that_come.nd) dgs_nil)))))
      (dss_cons (ds_while (db_cmp (op_neD hr.units) simR_neL (de_var 2) (de_lst da_nil)) (dss_cons (ds_for (di_list (de_var 2)) (dg_name 5 sc_letters_that_come.nd) (dss_one (ds_dput (u65 hr) (de_var 1) (de_var 5) (de_var 3))))
      (dss_cons (ds_set 6 (de_lst da_nil) sc_letters_that_come.nd)
      (dss_cons (ds_for (di_list (de_var 2)) (dg_name 5 sc_letters_that_come.nd) (dss_one (ds_aug 6 iop_ext simR_ext (de_lc (own := [("item", 4)]) (di_tup (de_ix (de_ix (de_var 0) de_int) (de_var 5))) sc_letters_that_come.nd (blkOk_by (N := N_letters_that_come) (sc := defScope s_letters_that_come) (by decide +kernel)) (fun _ _ _ _ _ => (dgo_name 4 sc_letters_that_come.nd)) (fun _ _ _ _ _ => (dts_one (db_val (de_call H_is_letter (hr.mono (by decide)) (da_cons (de_var 4) da_nil))))) (fun _ _ _ _ _ => (de_var 4))) sc_letters_that_come.nd)))
      (dss_one (ds_par 2 3 (da_cons (de_sortSet (de_lc (own := [("letter", 5)]) (di_list (de_var 6)) sc_letters_that_come.nd (blkOk_by (N := N_letters_that_come) (sc := defScope s_letters_that_come) (by decide +kernel)) (fun _ _ _ _ _ => (dgo_name 5 sc_letters_that_come.nd)) (fun _ _ _ _ _ => (dts_one (db_dnotin (u65 hr) (de_var 5) (de_var 1)))) (fun _ _ _ _ _ => (de_var 5))) T.n_sorted T.n_set) (da_cons (de_op op_add simR_I0 (de_var 3) de_int) da_nil)) sc_letters_that_come.nd))))))
      (dss_one (ds_ret (de_dc (own := [("letter", 5)]) (di_list (de_sortK (de_var 1) T.n_sorted)) sc_letters_that_come.nd (blkOk_by (N := N_letters_that_come) (sc := defScope s_letters_that_come) (by decide +kernel)) (fun _ _ _ _ _ => (dgo_name 5 sc_letters_that_come.nd)) (fun _ _ _ _ _ => dts_nil) (fun _ _ _ _ _ => (de_var 5)) (fun _ _ _ _ _ => (de_dget (u65 hr) (de_var 1) (de_var 5)))))))), ?_⟩)
  rintro ds g Q ⟨b, rfl, hb, ⟨f1, M, f2, f3⟩, q⟩
  intro F hF
  have lcl : ∀ (v : List It) (Γ : Gm) (g1 : G) (Q : DK), v.length ≤ 40 → Γ.length = 7 → (∀ a, g1 a = none → Q (.adr a) (gup g1 a (.lst ((nI (ltrs v)).map D.int)))) → dLcI (v.map dI) (fun _ => True) (gNm 4) (dVal (dCall (pF fIsLetter) (dCons (dVar 4) dNil))) (dVar 4) (List.map (fun x => x.2) [(("item" : Str), 4)]) Γ g1 Q := by
    intro v Γ g1 Q hv hΓ hq
    refine lc_pure isLD id (by rw [List.length_map]; exact Nat.le_trans hv (by decide)) (fun _ _ _ => trivial) (fun a i x acc N ha hx n1 n2 => ?_) (fun a ha => by rw [ltrs_fil]; exact hq a ha)
    obtain ⟨s, hs, rfl⟩ := map_of hx
    have gv : ∀ d : D, ((wipeG Γ [4]).set 4 (some d))[4]? = some (some d) := fun d => List.getElem?_set_self (by show 4 < ((wipeG Γ []).set 4 none).length; rw [List.length_set]; show 4 < Γ.length; omega)
    cases s with
    | L j => exact ⟨_, gv _, _, rfl, _, rfl, ⟨_, gv _, lc_yes (n2 rfl)⟩⟩
    | tl => exact ⟨_, gv _, _, rfl, _, rfl, n1 rfl⟩
    | tr => exact ⟨_, gv _, _, rfl, _, rfl, n1 rfl⟩
    | op => exact ⟨_, gv _, _, rfl, _, rfl, n1 rfl⟩
    | cl => exact ⟨_, gv _, _, rfl, _, rfl, n1 rfl⟩
  refine ⟨_, rfl, _, rfl, _, rfl, ?_⟩
  refine lcl b.st _ _ _ hb.st.le rfl fun a ha => ?_
  refine ⟨a, _, rfl, gup_same, by show (List.map _ _).length < 60; rw [List.length_map]; exact Nat.lt_of_le_of_lt (ltrs_len _) f1, fun ys y hys hym hyl hy => ?_⟩
  walk_at "go"
  have hya : y ≠ a := fun z => by rw [z, gup_same] at hy; cases hy
  rw [gup_ne hya] at hy
  have hyF : y ≠ F := fun z => by rw [z, gup_same] at hy; cases hy
  rw [gup_ne hyF] at hy
  have haF : a ≠ F := fun z => by rw [z, gup_same] at ha; cases ha
  rw [gup_ne haF] at ha
  obtain ⟨l0, rfl⟩ := nI_of fun k hk => by
    obtain ⟨l, _, e⟩ := mem_nI.mp ((hym k).mp hk)
    exact ⟨l, e⟩
  have hl0 : ∀ l, l ∈ l0 ↔ It.L l ∈ b.st := fun l => by
    rw [← mem_nI', hym, mem_nI', mem_ltrs]
  refine ⟨fun Γ g' => ∃ (y : Addr) (n : Nat) (ks ls : List Nat) (kvs : List (Int × D)) (ms : List Int) (x4 x5 x6 : Option D), Γ = [some (dB b), some (.adr F), some (.adr y), some (.int n), x4, x5, x6] ∧ GX g g' ∧ g' F = some (.dI kvs) ∧ g' y = some (.lst ((nI ls).map D.int)) ∧ y ≠ F ∧
      kvs.map Prod.fst = nI ks ∧ kvs.map Prod.snd = ms.map D.int ∧ (∀ m ∈ ms, 0 ≤ m ∧ m ≤ 8) ∧ n ≤ ks.length ∧ ks.Nodup ∧ ls.Pairwise (· < ·) ∧ (∀ l ∈ ls, l ∉ ks) ∧ (∀ l, l ∈ ks ∨ l ∈ ls → Reach b l) ∧ (∀ m, It.L m ∈ b.st → m ∈ ks ∨ m ∈ ls) ∧ ∀ l ∈ ks, ∀ m, It.L m ∈ b.ws.getD l [] → m ∈ ks ∨ m ∈ ls,
    fun _ g' => (match g' F with
      | some (.dI kvs) => 20 - kvs.length
      | _ => 0),
    ⟨y, 0, [], l0, [], [], none, none, none, rfl, (((GX.refl g).mut hF).mut ha).mut hy, (gup_ne hyF.symm).trans ((gup_ne haF.symm).trans gup_same), gup_same, hyF, rfl, rfl, (fun _ h => absurd h List.not_mem_nil), Nat.le_refl _, List.nodup_nil, nI_lt hys, fun _ _ => List.not_mem_nil, fun l h => ?_, fun m h => .inr ((hl0 m).mpr h), (fun _ h => absurd h List.not_mem_nil)⟩, ?_⟩
  · rcases h with h | h
    · cases h
    · exact .st ((hl0 l).mp h)
  rintro Γ g' ⟨y, n, ks, ls, kvs, ms, x4, x5, x6, rfl, hg, h1, h2, hyF, h3, h4, h5, h6, h7, h8, h9, h10, h11, h12⟩
  have kl : kvs.length = ks.length := by
    have := congrArg List.length h3
    rw [List.length_map] at this
    rw [this]
    exact List.length_map _
  have k8 : ks.length ≤ b.ws.length := nodup_le h7 fun l hl => (h10 l (.inl hl)).lt hb
  have l8 : ls.length ≤ b.ws.length := nodup_le (pw_nodup h8) fun l hl => (h10 l (.inr hl)).lt hb
  have b8 := hb.n8
  refine ⟨_, rfl, fun e he => ?_⟩
  have hye := gne h2 he
  refine ⟨y, e, _, _, rfl, rfl, (gup_ne hye).trans h2, gup_same, pdL_of fun d hd => ?_, rfl, _, rfl, iteB (fun hc => ?_) (fun hc => ?_)⟩
  · obtain ⟨k, _, rfl⟩ := List.mem_map.mp hd
    rfl
  · -- a turn
    have hls : ls ≠ [] := fun z => by rw [z] at hc; cases hc
    have ge : GX g' (gup g' e (.lst [])) := GX.new he
    refine ⟨_, rfl, y, _, rfl, ge _ _ h2, ?_⟩
    refine ⟨fun i Γ g2 => ∃ (kvs2 : List (Int × D)) (ms2 : List Int) (x5 : Option D), Γ = [some (dB b), some (.adr F), some (.adr y), some (.int n), x4, x5, x6] ∧ GX g g2 ∧ g2 F = some (.dI kvs2) ∧ g2 y = some (.lst ((nI ls).map D.int)) ∧ kvs2.map Prod.fst = nI (ks ++ ls.take i) ∧ kvs2.map Prod.snd = ms2.map D.int ∧ ∀ m ∈ ms2, 0 ≤ m ∧ m ≤ 8,
      ⟨kvs, ms, x5, rfl, hg.trans ge, ge _ _ h1, ge _ _ h2, by simpa using h3, h4, h5⟩, fun i Γ g2 _ h => ?_, ?_, ?_⟩
    · obtain ⟨_, _, _, _, _, _, h, _⟩ := h
      exact h
    · rintro i x Γ g2 hx ⟨kvs2, ms2, x5, rfl, hg2, e1, e2, e3, e4, e5⟩
      obtain ⟨k, hk, rfl⟩ := map_of hx
      obtain ⟨l, hl, rfl⟩ := map_of hk
      have hmem := List.mem_of_getElem? hl
      have hnot : (l : Int) ∉ kvs2.map Prod.fst := by
        rw [e3, mem_nI', List.mem_append, not_or]
        refine ⟨h9 l hmem, fun z => ?_⟩
        have hi := (List.getElem?_eq_some_iff.mp hl).1
        obtain ⟨j, ej⟩ := List.mem_iff_getElem?.mp z
        have hj := (List.getElem?_eq_some_iff.mp ej).1
        rw [List.length_take] at hj
        rw [List.getElem?_take_of_lt (by omega)] at ej
        have hj2 := (List.getElem?_eq_some_iff.mp ej).1
        have p := List.pairwise_iff_getElem.mp h8 j i hj2 hi (by omega)
        rw [List.getElem?_eq_getElem hj2] at ej
        rw [List.getElem?_eq_getElem hi] at hl
        have e6 := Option.some.inj ej
        have e7 := Option.some.inj hl
        omega
      have len2 : kvs2.length ≤ 40 := by
        have := congrArg List.length e3
        rw [List.length_map] at this
        rw [this]
        unfold nI
        rw [List.length_map, List.length_append, List.length_take]
        omega
      refine ⟨_, rfl, _, rfl, _, rfl, _, .i e1 (Nat.lt_of_le_of_lt len2 (by decide)), kvs2 ++ [((l : Int), .int n)], ms2 ++ [(n : Int)], _, rfl, hg2.mut hF, ?_, (gup_ne hyF).trans e2, ?_, ?_, ?_⟩
      · rw [gup_same, dput_new hnot]
      · rw [List.map_append, e3, List.take_add_one, hl]
        simp [nI]
      · rw [List.map_append, List.map_append, e4]
        rfl
      · intro m hm
        rcases List.mem_append.mp hm with h | h
        · exact e5 m h
        · rw [List.mem_singleton.mp h]
          omega
    · rintro Γ g2 ⟨kvs2, ms2, x5, rfl, hg2, e1, e2, e3, e4, e5⟩
      have elen : ((nI ls).map D.int).length = ls.length := by unfold nI; rw [List.length_map, List.length_map]
      rw [elen, List.take_length] at e3
      intro r hr
      have hrF := gne e1 hr
      have hry := gne e2 hr
      have gr : GX g2 (gup g2 r (.lst [])) := GX.new hr
      refine ⟨_, rfl, y, _, rfl, gr _ _ e2, ?_⟩
      refine ⟨fun i Γ g3 => ∃ (lt : List Nat) (x5 : Option D), Γ = [some (dB b), some (.adr F), some (.adr y), some (.int n), x4, x5, some (.adr r)] ∧ GX g2 g3 ∧ g3 r = some (.lst ((nI lt).map D.int)) ∧ (∀ m, m ∈ lt ↔ ∃ l ∈ ls.take i, It.L m ∈ b.ws.getD l []) ∧ lt.length ≤ i * M,
        ⟨[], x5, rfl, gr, gup_same, fun m => by simp, Nat.zero_le _⟩, fun i Γ g3 _ h => ?_, ?_, ?_⟩
      · obtain ⟨_, _, _, h, _⟩ := h
        exact h _ _ e2
      · rintro i x Γ g3 hx ⟨lt, x5, rfl, hg3, d1, d2, d3⟩
        obtain ⟨k, hk, rfl⟩ := map_of hx
        obtain ⟨l, hl, rfl⟩ := map_of hk
        have hi := (List.getElem?_eq_some_iff.mp hl).1
        have hlt := (h10 l (.inr (List.mem_of_getElem? hl))).lt hb
        have ew : b.ws.getD l [] = b.ws[l] := by rw [List.getD_eq_getElem?_getD, List.getElem?_eq_getElem hlt] <;> rfl
        have hw : b.ws.getD l [] ∈ b.ws := by rw [ew]; exact List.getElem_mem hlt
        have hix : fIx (.tup (b.ws.map dW)) (.int (l : Nat)) g3 = some (dW (b.ws.getD l [])) := by
          show atI (b.ws.map dW) (l : Int) = _
          rw [ew]
          exact atI_nat (by rw [List.getElem?_map, List.getElem?_eq_getElem hlt] <;> rfl)
        refine ⟨.adr r, rfl, _, rfl, _, rfl, _, rfl, _, hix, _, rfl, ?_⟩
        refine lcl (b.ws.getD l []) _ _ _ (hb.ws _ hw).le rfl fun c hc => ?_
        have hrc := gne d1 hc
        have mM := Nat.le_trans (ltrs_len (b.ws.getD l [])) (f2 _ hw)
        have tot : lt.length + (ltrs (b.ws.getD l [])).length ≤ (i + 1) * M := by rw [Nat.succ_mul]; omega
        have t60 : (i + 1) * M ≤ b.ws.length * M := Nat.mul_le_mul_right M (by omega)
        refine ⟨r, c, _, _, rfl, rfl, (gup_ne hrc).trans d1, gup_same, ?_, lt ++ ltrs (b.ws.getD l []), _, rfl, (hg3.trans (GX.new hc)).mut hr, ?_, fun m => ?_, by rw [List.length_append]; exact tot⟩
        · unfold nI
          rw [List.length_map, List.length_map, List.length_map, List.length_map]
          have : sizeLine = 16777216 := sizeLine_eq
          omega
        · rw [gup_same]
          unfold nI
          rw [List.map_append, List.map_append]
        · rw [List.mem_append, d2, List.take_add_one, hl, mem_ltrs]
          simp only [List.mem_append, Option.toList, List.mem_singleton]
          constructor
          · rintro (⟨l', h, k⟩ | h)
            · exact ⟨l', .inl h, k⟩
            · exact ⟨l, .inr rfl, h⟩
          · rintro ⟨l', h | rfl, k⟩
            · exact .inl ⟨l', h, k⟩
            · exact .inr k
      · rintro Γ g3 ⟨lt, x5, rfl, hg3, d1, d2, d3⟩
        rw [elen] at d2 d3
        rw [List.take_length] at d2
        have eF := hg3 _ _ e1
        have t60 : ls.length * M ≤ b.ws.length * M := Nat.mul_le_mul_right M l8
        refine ⟨_, rfl, r, _, rfl, d1, ?_⟩
        refine lc_pure (fun d => (match d with | .int k => !(dgetD kvs2 k).isSome | _ => false)) id (by unfold nI; rw [List.length_map, List.length_map]; have : sizeLine = 16777216 := sizeLine_eq; omega) (fun c acc hc => (gup_ne (gne d1 hc)).trans d1) (fun c i x acc N hc hx n1 n2 => ?_) (fun c hc => ?_)
        · obtain ⟨k, hk, rfl⟩ := map_of hx
          refine ⟨_, rfl, _, rfl, dgetD kvs2 k, .i (.inl ((gup_ne (gne eF hc)).trans eF)), iteB (fun hb => ?_) (fun hb => ?_)⟩
          · exact ⟨_, rfl, lc_yes (n2 hb)⟩
          · exact n1 hb
        · have efl : (((nI lt).map D.int).filter (fun d => (match d with | .int k => !(dgetD kvs2 k).isSome | _ => false))).map id = (nI (lt.filter fun l => !(dgetD kvs2 (l : Int)).isSome)).map D.int := by
            rw [List.map_id]
            unfold nI
            rw [List.map_map, List.map_map, List.filter_map]
            rfl
          rw [efl]
          have hyc := gne (hg3 _ _ e2) hc
          have hFc := gne eF hc
          refine ⟨c, _, rfl, gup_same, ?_, fun zs z hzs hzm hzl hz => ?_⟩
          · unfold nI
            rw [List.length_map]
            have := List.length_filter_le (fun l : Nat => !(dgetD kvs2 (l : Int)).isSome) lt
            omega
          obtain ⟨l1, rfl⟩ := nI_of fun k hk => by
            obtain ⟨l, _, e⟩ := mem_nI.mp ((hzm k).mp hk)
            exact ⟨l, e⟩
          have hl1 : ∀ l, l ∈ l1 ↔ l ∈ lt ∧ l ∉ ks ++ ls := fun l => by
            rw [← mem_nI', hzm, mem_nI', List.mem_filter, dget_some, e3, Bool.not_eq_true', decide_eq_false_iff_not, mem_nI']
          have hzF : z ≠ F := fun e => by rw [e, gup_ne hFc, eF] at hz; cases hz
          have hzc : z ≠ c := fun e => by rw [e, gup_same] at hz; cases hz
          have hz' := hz
          rw [gup_ne hzc] at hz'
          have nc : g c = none := ((hg2.trans hg3)).free hc
          have nz : g z = none := ((hg2.trans hg3)).free hz'
          have fin : gup (gup g3 c (.lst ((nI (lt.filter fun l => !(dgetD kvs2 (l : Int)).isSome)).map D.int))) z (.lst ((nI l1).map D.int)) F = some (.dI kvs2) := (gup_ne hzF.symm).trans ((gup_ne hFc).trans eF)
          have l2len : kvs2.length = ks.length + ls.length := by
            have := congrArg List.length e3
            rw [List.length_map] at this
            rw [this]
            unfold nI
            rw [List.length_map, List.length_append]
          have lpos : 0 < ls.length := List.length_pos_iff.mpr hls
          refine ⟨_, rfl, _, rfl, _, _, rfl, ⟨z, n + 1, ks ++ ls, l1, kvs2, ms2, x4, x5, _, rfl, ((hg2.trans hg3).mut nc).mut nz, fin, gup_same, hzF, e3, e4, e5, by rw [List.length_append]; omega, ?_, nI_lt hzs, fun l h => ((hl1 l).mp h).2, fun l h => ?_, fun m h => ?_, fun l h m hm => ?_⟩, ?_⟩
          · exact List.nodup_append.mpr ⟨h7, pw_nodup h8, fun x hx y hy e => h9 y hy (e ▸ hx)⟩
          · rcases h with h | h
            · exact h10 l (List.mem_append.mp h)
            · obtain ⟨l', h', hm⟩ := (d2 l).mp ((hl1 l).mp h).1
              exact (h10 l' (.inr h')).wd hm
          · exact .inl (List.mem_append.mpr (h11 m h))
          · rcases List.mem_append.mp h with h | h
            · exact .inl (List.mem_append.mpr (h12 l h m hm))
            · by_cases hin : m ∈ ks ++ ls
              · exact .inl hin
              · exact .inr ((hl1 m).mpr ⟨(d2 m).mpr ⟨l, h, hm⟩, hin⟩)
          · simp only [fin, h1]
            omega
  · -- the end
    have hls : ls = [] := by
      cases ls with
      | nil => rfl
      | cons _ _ => cases hc
    subst hls
    have hmem : ∀ l, l ∈ ks ↔ Reach b l := fun l => ⟨fun h => h10 l (.inl h), fun h => by
      induction h with
      | st h => exact (h11 _ h).elim id fun z => absurd z List.not_mem_nil
      | wd _ h ih => exact (h12 _ ih _ h).elim id fun z => absurd z List.not_mem_nil⟩
    have g1F : gup g' e (.lst []) F = some (.dI kvs) := (gup_ne (gne h1 he)).trans h1
    have gx1 : GX g (gup g' e (.lst [])) := hg.mut (hg.free he)
    refine ⟨_, rfl, F, kvs, rfl, g1F, by omega, fun ys z hp hs hz => ⟨z, _, rfl, gup_same, ?_⟩⟩
    have hzF := gne g1F hz
    have hyn : ys.Nodup := by
      refine hp.nodup_iff.mpr ?_
      rw [h3]
      unfold nI
      exact (List.pairwise_map.mpr (h7.imp fun h e => h (by omega)))
    have ylen : ys.length = ks.length := by
      rw [hp.length_eq, List.length_map]
      exact kl
    have hval : ∀ k ∈ ys, ∃ m : Int, dgetD kvs k = some (.int m) ∧ 0 ≤ m ∧ m ≤ 8 := fun k hk => by
      have hk2 : k ∈ kvs.map Prod.fst := hp.mem_iff.mp hk
      have := dget_some (kvs := kvs) (k := k)
      rw [decide_eq_true hk2] at this
      obtain ⟨d, hd⟩ := Option.isSome_iff_exists.mp this
      have hd2 := dget_val hd
      rw [h4] at hd2
      obtain ⟨m, hm, rfl⟩ := List.mem_map.mp hd2
      exact ⟨m, hd, h5 m hm⟩
    let val : Int → D := fun k => (dgetD kvs k).getD .non
    intro c hc
    have hcz : c ≠ z := fun e => by rw [e, gup_same] at hc; cases hc
    have hc1 := hc
    rw [gup_ne hcz] at hc1
    have hFc := gne g1F hc1
    refine ⟨by rw [List.length_map]; have : sizeLine = 16777216 := sizeLine_eq; omega, fun i acc g2 => g2 = gup (gup (gup g' e (.lst [])) z (.lst (ys.map D.int))) c (.dI acc) ∧ acc = (ys.take i).map fun k => (k, val k), ⟨rfl, rfl⟩, fun i acc g2 _ h => ?_, ?_, ?_⟩
    · obtain ⟨rfl, _⟩ := h
      exact ⟨(gup_ne hcz.symm).trans gup_same, gup_same⟩
    · rintro i x acc g2 hx ⟨rfl, ea⟩
      obtain ⟨k, hk, rfl⟩ := map_of hx
      obtain ⟨m, hm, _⟩ := hval k (List.mem_of_getElem? hk)
      have hi := (List.getElem?_eq_some_iff.mp hk).1
      have gF : gup (gup (gup g' e (.lst [])) z (.lst (ys.map D.int))) c (.dI acc) F = some (.dI kvs) := (gup_ne hFc).trans ((gup_ne hzF).trans g1F)
      refine ⟨_, rfl, _, rfl, _, rfl, .int m, ?_, k, rfl, gup_same, ?_, ?_, ?_⟩
      · rw [← hm]
        exact .i (.inl gF)
      · rw [ea, List.length_map, List.length_take]
        exact Nat.min_le_left _ _
      · rw [gup_gup]
      · have hnot : k ∉ acc.map Prod.fst := by
          rw [ea, List.map_map]
          intro hin
          obtain ⟨j', hj', e⟩ := List.mem_map.mp hin
          have e : j' = k := e
          subst e
          obtain ⟨j, ej⟩ := List.mem_iff_getElem?.mp hj'
          have hj := (List.getElem?_eq_some_iff.mp ej).1
          rw [List.length_take] at hj
          rw [List.getElem?_take_of_lt (by omega)] at ej
          have := (List.getElem?_inj (by omega) hyn).mp (ej.trans hk.symm)
          omega
        rw [dput_new hnot, List.take_add_one, hk, ea]
        simp only [List.map_append, Option.toList, List.map_cons, List.map_nil]
        rw [show val k = .int m by show (dgetD kvs k).getD .non = _; rw [hm] <;> rfl]
    · rintro acc g2 ⟨rfl, ea⟩
      rw [List.length_map, List.take_length] at ea
      obtain ⟨ks2, hk2⟩ := nI_of (ys := ys) fun k hk => by
        have := hp.mem_iff.mp hk
        rw [h3] at this
        obtain ⟨l, _, e⟩ := mem_nI.mp this
        exact ⟨l, e⟩
      have fst : acc.map Prod.fst = ys := by
        rw [ea, List.map_map]
        exact List.map_id _
      obtain ⟨ms2, hm2, hm3⟩ : ∃ ms2 : List Int, acc.map Prod.snd = ms2.map D.int ∧ ∀ m ∈ ms2, 0 ≤ m ∧ m ≤ 8 := by
        rw [ea, List.map_map]
        clear ea fst hk2 ylen hyn hp hs hz hc
        induction ys with
        | nil => exact ⟨[], rfl, fun _ h => absurd h List.not_mem_nil⟩
        | cons k r ih =>
          obtain ⟨m, hm, hb⟩ := hval k List.mem_cons_self
          obtain ⟨ms2, i1, i2⟩ := ih fun j hj => hval j (List.mem_cons_of_mem _ hj)
          refine ⟨m :: ms2, ?_, fun j hj => ?_⟩
          · rw [List.map_cons, i1]
            show val k :: _ = _
            rw [show val k = .int m by show (dgetD kvs k).getD .non = _; rw [hm] <;> rfl]
            rfl
          · rcases List.mem_cons.mp hj with h | h
            · rw [h]; exact hb
            · exact i2 j h
      have hmem2 : ∀ l, l ∈ ks2 ↔ Reach b l := fun l => by
        rw [← hmem l, ← mem_nI', ← mem_nI' (ls := ks), ← hk2, hp.mem_iff, h3]
      refine q acc ⟨ks2, ms2, fst.trans hk2, hm2, ?_, hmem2, fun e0 => ?_, hm3⟩ c _ ?_ ?_ gup_same
      · refine nI_lt ?_
        rw [← hk2]
        exact (hs.and hyn).imp fun ⟨h1, h2⟩ => by omega
      · obtain ⟨j, hj⟩ := hb.st.has
        have := (hmem2 j).mpr (.st hj)
        rw [e0] at this
        cases this
      · have nz : g z = none := gx1.free hz
        have nc : g c = none := gx1.free hc1
        exact (gx1.mut nz).mut nc
      · exact gx1.free hc1
end
end SW
set_option Elab.async false
set_option linter.all false
set_option maxRecDepth 100000
set_option maxHeartbeats 4000000
namespace SW
open PySem PySem.Spec PyProof.Rows L2 DL
local macro_rules | `(tactic| walk_at "cond") => `(tactic| first | (show (0 : Int) < _; decide) | (show (0 : Int) < _; omega) | assumption | (refine Bd.mul ?_; assumption) | (refine Or.inl ⟨?_, ?_⟩ <;> omega) | (refine Or.inr ⟨?_, ?_⟩ <;> omega) | decide)
local macro_rules | `(tactic| walk_at "go1") => `(tactic| first
  | refine ⟨_, rfl, ?_⟩
  | refine ⟨_, _, rfl, rfl, by walk_at "cond", ?_⟩
  | refine ⟨_, _, rfl, rfl, ?_⟩
  | refine ⟨_, _, rfl, ?_⟩
  | refine ⟨rfl, ?_⟩
  | refine iteT ?_
  | refine iteF ?_
  | refine ⟨_, _, _, rfl, ?_⟩
  | refine ⟨(by decide +kernel : _ = true), ?_⟩
  | refine iteT' (decide_eq_true (by omega)) ?_
  | refine iteF' (decide_eq_false (by omega)) ?_
  | (dsimp only; refine iteT' (by simp only [decide_eq_true_eq, Bool.not_eq_true', decide_eq_false_iff_not]; omega) ?_)
  | (dsimp only; refine iteF' (by simp only [decide_eq_true_eq, Bool.not_eq_false', decide_eq_false_iff_not]; omega) ?_))
local macro_rules | `(tactic| walk_at "go") => `(tactic| repeat walk_at "go1")
/-- a list of (pair, how) -/
def LayL : List Pr → List D → Prop
  | [], ds => ds = []
  | p :: r, ds => ∃ (h : D) (s : List D), ds = .tup [dPr p, h] :: s ∧ pd 6 h = true ∧ LayL r s
theorem LayL.append : ∀ {ps qs : List Pr} {ds es : List D}, LayL ps ds → LayL qs es → LayL (ps ++ qs) (ds ++ es)
  | [], _, _, _, h, k => by
    cases (show _ = [] from h)
    exact k
  | _ :: _, _, _, _, h, k => by
    obtain ⟨x, s, rfl, hx, h⟩ := h
    exact ⟨x, _, rfl, hx, LayL.append h k⟩
theorem LayL.length : ∀ {ps : List Pr} {ds : List D}, LayL ps ds → ds.length = ps.length
  | [], _, h => by
    cases (show _ = [] from h)
    rfl
  | _ :: _, _, h => by
    obtain ⟨x, s, rfl, hx, h⟩ := h
    rw [List.length_cons, List.length_cons, LayL.length h]
theorem LayL.at : ∀ {ps : List Pr} {ds : List D} {i : Nat} {d : D}, LayL ps ds → ds[i]? = some d → ∃ p h, ps[i]? = some p ∧ d = .tup [dPr p, h] ∧ pd 6 h = true
  | [], _, _, _, h, e => by
    cases (show _ = [] from h)
    simp at e
  | p :: _, _, 0, d, h, e => by
    obtain ⟨x, s, rfl, hx, h⟩ := h
    simp at e
    exact ⟨p, x, rfl, e.symm, hx⟩
  | _ :: _, _, i + 1, d, h, e => by
    obtain ⟨x, s, rfl, hx, h⟩ := h
    exact LayL.at (i := i) h (by simpa using e)
theorem pd_le : ∀ (n : Nat) (d : D), pd n d = true → pd (n + 1) d = true := by
  intro n d
  induction n using Nat.strongRecOn generalizing d with
  | _ n ih =>
    have pl : ∀ m, m < n → ∀ ds : List D, pdL m ds = true → pdL (m + 1) ds = true := by
      intro m hm ds
      induction ds with
      | nil => intro _; rfl
      | cons x r ih2 =>
        intro h
        simp only [pdL, Bool.and_eq_true] at h ⊢
        exact ⟨ih m hm x h.1, ih2 h.2⟩
    cases d with
    | tup ds =>
      intro h
      cases n with
      | zero => simp [pd] at h
      | succ n =>
        simp only [pd] at h ⊢
        exact pl n (Nat.lt_succ_self n) ds h
    | own ds =>
      intro h
      cases n with
      | zero => simp [pd] at h
      | succ n =>
        simp only [pd] at h ⊢
        exact pl n (Nat.lt_succ_self n) ds h
    | _ => intro h; simpa [pd] using h
theorem LayL.pd {ps : List Pr} {ds : List D} (h : LayL ps ds) : pdL 8 ds = true := pdL_of fun d hd => by
  obtain ⟨i, hi⟩ := List.mem_iff_getElem?.mp hd
  obtain ⟨p, x, _, rfl, hx⟩ := h.at hi
  simp only [DL.pd, pdL, Bool.and_true, Bool.and_eq_true]
  exact ⟨rfl, pd_le 6 x hx⟩
def fK (p : Pr) : D → D
  | .tup [c, i, j] => .tup [c, .tup [.str "pair", dPr p, i, j]]
  | d => d
theorem KidL.at : ∀ {ps : List Pr} {ds : List D} {i : Nat} {d : D}, KidL ps ds → ds[i]? = some d → ∃ (p : Pr) (u v : Int), d = .tup [dPr p, .int u, .int v]
  | [], _, _, _, h, e => by
    cases (show _ = [] from h)
    simp at e
  | p :: _, _, 0, d, h, e => by
    obtain ⟨u, v, s, rfl, h⟩ := h
    simp at e
    exact ⟨p, u, v, e.symm⟩
  | _ :: _, _, i + 1, d, h, e => by
    obtain ⟨u, v, s, rfl, h⟩ := h
    exact KidL.at (i := i) h (by simpa using e)
theorem KidL.lay (q : Pr) : ∀ {ps : List Pr} {ds : List D}, KidL ps ds → LayL ps (ds.map (fK q))
  | [], _, h => by
    cases (show _ = [] from h)
    rfl
  | p :: _, _, h => by
    obtain ⟨u, v, s, rfl, h⟩ := h
    exact ⟨.tup [.str "pair", dPr q, .int u, .int v], _, rfl, by simp [DL.pd, pdL]; decide +kernel, KidL.lay q h⟩
/-- a web's rows -/
def KvL : List (Pr × Nat) → List (List Int × D) → Prop
  | [], ks => ks = []
  | p :: r, ks => ∃ (h : D) (s : List (List Int × D)), ks = (prK p.1, .tup [.int (p.2 : Nat), h]) :: s ∧ KvL r s
theorem prK_inj {p q : Pr} (h : prK p = prK q) : p = q := by
  obtain ⟨x, y, a, t, b⟩ := p
  obtain ⟨x', y', a', t', b'⟩ := q
  simp only [prK, List.cons.injEq, and_true, Int.ofNat_inj] at h
  obtain ⟨rfl, rfl, h3, rfl, h5⟩ := h
  have h3 : a = a' := by omega
  have h5 : b = b' := by omega
  rw [h3, h5]
theorem KvL.append : ∀ {ps qs : List (Pr × Nat)} {ds es : List (List Int × D)}, KvL ps ds → KvL qs es → KvL (ps ++ qs) (ds ++ es)
  | [], _, _, _, h, k => by
    cases (show _ = [] from h)
    exact k
  | _ :: _, _, _, _, h, k => by
    obtain ⟨x, s, rfl, h⟩ := h
    exact ⟨x, _, rfl, KvL.append h k⟩
theorem KvL.length : ∀ {ps : List (Pr × Nat)} {ds : List (List Int × D)}, KvL ps ds → ds.length = ps.length
  | [], _, h => by
    cases (show _ = [] from h)
    rfl
  | _ :: _, _, h => by
    obtain ⟨x, s, rfl, h⟩ := h
    rw [List.length_cons, List.length_cons, KvL.length h]
theorem KvL.some : ∀ {ps : List (Pr × Nat)} {ds : List (List Int × D)} {p : Pr}, KvL ps ds → (dgetD ds (prK p)).isSome = decide (p ∈ ps.map (·.1))
  | [], _, _, h => by
    cases (show _ = [] from h)
    rfl
  | q :: r, _, p, h => by
    obtain ⟨x, s, rfl, h⟩ := h
    rw [dget_cons]
    by_cases e : prK q.1 = prK p
    · rw [if_pos e]
      have := prK_inj e
      simp [this]
    · rw [if_neg e, KvL.some h]
      have : q.1 ≠ p := fun z => e (by rw [z])
      simp [Ne.symm this]
theorem KvL.any : ∀ {ps : List (Pr × Nat)} {ds : List (List Int × D)} {p : Pr}, KvL ps ds → (ds.any fun kv => decide (kv.1 = prK p)) = decide (p ∈ ps.map (·.1))
  | [], _, _, h => by
    cases (show _ = [] from h)
    rfl
  | q :: r, _, p, h => by
    obtain ⟨x, s, rfl, h⟩ := h
    rw [List.any_cons, KvL.any h]
    by_cases e : prK q.1 = prK p
    · have := prK_inj e
      simp [this]
    · have : q.1 ≠ p := fun z => e (by rw [z])
      simp [Ne.symm this, e]
/-- p comes first at age a -/
def First (nn : Nat → Pr → Prop) (a : Nat) (p : Pr) : Prop := nn a p ∧ ∀ k, k < a → ¬ nn k p
/-- what a web holds: each pair once, with its age -/
def WebRes (nn : Nat → Pr → Prop) (kvs : List (List Int × D)) : Prop := ∃ ps, KvL ps kvs ∧ (∀ p a, (p, a) ∈ ps ↔ First nn a p) ∧ (ps.map (·.1)).Nodup
theorem nodup_sub_len {α : Type} [DecidableEq α] : ∀ {l m : List α}, l.Nodup → (∀ x ∈ l, x ∈ m) → l.length ≤ m.length
  | [], _, _, _ => Nat.zero_le _
  | a :: r, m, h, k => by
    have hn := List.nodup_cons.mp h
    have ih := nodup_sub_len (l := r) (m := m.erase a) hn.2 fun x hx => (List.mem_erase_of_ne (fun e => hn.1 (by rw [← e]; exact hx))).mpr (k x (List.mem_cons_of_mem _ hx))
    have hm := k a List.mem_cons_self
    rw [List.length_erase_of_mem hm] at ih
    have := List.length_pos_of_mem hm
    rw [List.length_cons]
    omega
theorem kids_len {f : Int} {os ps : List Stk} {m : Nat} (h : ps.length ≤ m) : (kidsOf f os ps).length ≤ os.length * m := by
  unfold kidsOf
  rw [List.length_flatMap]
  have hb : ∀ x ∈ os.map (fun o => ((ps.map (pairOf o)).filter (near f)).length), x ≤ m := by
    intro x hx
    obtain ⟨o, _, rfl⟩ := List.mem_map.mp hx
    exact Nat.le_trans (List.length_filter_le _ _) (by rw [List.length_map]; exact h)
  have hs := sum_le_of hb
  rw [List.length_map] at hs
  exact hs
theorem laidW_len (ws : List (List It)) (mx my : Int) (l : Nat) (px py k : Int) : (laidW ws mx my l px py k).length ≤ (ws.getD l []).length := by
  unfold laidW
  rw [List.length_map]
  exact strokes_length_le _ p0
def growMu (F : Addr) (Γ : Gm) (g : G) : Nat := 2 * (20001 - (match g F with
  | some (GO.dT kvs) => kvs.length
  | _ => 0)) + (match Γ[4]? with
  | some (some (D.adr y)) => (match g y with
    | some (GO.lst (_ :: _)) => 1
    | _ => 0)
  | _ => 0) + (match Γ[5]? with
  | some (some (D.int n)) => (11 - n).toNat
  | _ => 0)
theorem growMu_eq {F y : Addr} {n : Int} {Γ : Gm} {g : G} {kvs : List (List Int × D)} {cd : List D} (h4 : Γ[4]? = some (some (.adr y))) (h5 : Γ[5]? = some (some (.int n))) (hF : g F = some (.dT kvs)) (hy : g y = some (.lst cd)) :
    growMu F Γ g = 2 * (20001 - kvs.length) + min cd.length 1 + (11 - n).toNat := by
  unfold growMu
  rw [h4, h5, hF]
  dsimp only
  rw [hy]
  cases cd with
  | nil => rfl
  | cons a r =>
    have : min (a :: r).length 1 = 1 := by rw [List.length_cons]; omega
    rw [this]
section
variable (K : PySem.W.Frag)
def φ_Web_grow : DSp := fun ds g Q => ∃ W b mx my f L s prs lds U, ds = [.adr W, .adr s, .bl false] ∧ WebAt K g W b mx my f L ∧ (OkB b ∧ Few b) ∧ (Bd mx ∧ Bd my) ∧ (0 ≤ f ∧ f ≤ 1000000) ∧ g s = some (.lst lds) ∧ LayL prs lds ∧ prs.length ≤ 10000 ∧
  (U : List Pr).length ≤ 20000 ∧ (∀ p ∈ prs, p ∈ U) ∧ (∀ p ∈ U, ∀ c ∈ kids b.ws mx my f p, c ∈ U) ∧
  (∀ p ∈ U, (p.a ∈ L ∧ p.b ∈ L) ∧ ((b.ws.getD p.a []).length ≤ 25 ∧ (b.ws.getD p.b []).length ≤ 25) ∧ ∀ o ∈ laidW b.ws mx my p.a 0 0 0, ∀ s ∈ laidW b.ws mx my p.b p.x p.y p.t, Bd (pairOf o s).x ∧ Bd (pairOf o s).y) ∧
  ∀ kvs, WebRes (NN prs (kids b.ws mx my f)) kvs → ∀ p g', GX g g' → g p = none → g' p = some (.dT kvs) → Q (.adr p) g'
theorem len_Web_grow (ds : List D) (g : G) (Q : DK) (h : φ_Web_grow K ds g Q) : ds.length = P_Web_grow.length := by
  obtain ⟨_, _, _, _, _, _, _, _, _, _, rfl, _⟩ := h
  rfl
end
section
variable {P : Program} {w : World} {K : PySem.W.Frag} {mg : Str → Option Value} {base : Heap}
theorem d_Web_grow (T : Txt K mg) {f : Addr} {fd : FuncData} (F : FnT K "grow" "Web.grow" s_Web_grow f fd) (hm : Meth K (C_Web K) "grow" f)
    (H_Web_children : MethD P w K mg base 3 (C_Web K) "children" (φ_Web_children K))
    (H_letters_that_come : CallD P w K mg base 2 "letters_that_come" φ_letters_that_come) : MethD P w K mg base 4 (C_Web K) "grow" (φ_Web_grow K) := by
  refine methD F hm T.cWeb (ps := P_Web_grow) (fun _ _ _ _ _ _ us hl => match us, hl with | [_, _, _], _ => rfl) (okD F sc_Web_grow (by first | exact len_Web_grow | exact len_Web_grow _) fun cdv A outer s H E hr => ⟨_, (dss_cons (ds_par3 3 4 5 (da_cons de_dnewT (da_cons (de_callTy call_list_of simC_listOf T.n_list (by decide +kernel) (da_cons (de_var 1) da_nil)) (da_cons de_int da_nil))) sc_Web_grow.nd)
      (dss_cons (ds_set 6 (de_op op_add simR_I0 (de_maxV (de_call H_letters_that_come (hr.mono (by decide)) (da_cons (de_fld T.cWeb T.aWeb_book (de_var 0)) da_nil)) T.n_max) de_int) sc_Web_grow.nd)
      (dss_cons (ds_while (dw_or (db_cmp (op_neD hr.units) simR_neL (de_var 4) (de_lst da_nil)) (dw_or1 (db_cmp op_le simR_B (de_var 5) (de_var 6)))).db (dss_cons (ds_set 7 (de_lst da_nil) sc_Web_grow.nd)
      (dss_cons (ds_for (di_list (de_op op_cat simR_catL (de_var 4) (de_if (db_val (de_var 2)) de_never (de_lst da_nil)))) (dg_tup (n := 2) (dgs_cons (dg_name 8 sc_Web_grow.nd) (dgs_cons (dg_name 9 sc_Web_grow.nd) dgs_nil))) (dss_one (ds_if (db_dnotin (u65 hr) (de_var 8) (de_var 3)) (dss_cons (ds_dput (u65 hr) (de_var 3) (de_var 8) (de_tup (da_cons (de_var 5) (da_cons (de_var 9) da_nil))))
      (dss_one (ds_expr (de_append (de_var 7) (de_var 8))))) dss_nil)))
      (dss_cons (ds_if (db_cmp op_gt simR_B (de_callB call_len_dT simC_lenT T.n_len (by decide +kernel) (da_cons (de_var 3) da_nil)) (de_glob T.gMOST_PAIRS)) (dss_one ds_never) dss_nil)
      (dss_cons (ds_set 4 (de_lst da_nil) sc_Web_grow.nd)
      (dss_cons (ds_for (di_list (de_var 7)) (dg_name 8 sc_Web_grow.nd) (dss_one (ds_aug 4 iop_ext simR_ext (de_lc (own := [("child", 10), ("first", 11), ("later", 12)]) (di_list (de_meth H_Web_children (hr.mono (by decide)) (de_var 0) (da_cons (de_varO 8) da_nil))) sc_Web_grow.nd (blkOk_by (N := N_Web_grow) (sc := defScope s_Web_grow) (by decide +kernel)) (fun _ _ _ _ _ => (dgo_tup (n := 3) (dgos_cons (dgo_name 10 sc_Web_grow.nd) (dgos_cons (dgo_name 11 sc_Web_grow.nd) (dgos_cons (dgo_name 12 sc_Web_grow.nd) dgos_nil))))) (fun _ _ _ _ _ => dts_nil) (fun _ _ _ _ _ => (de_tup (da_cons (de_var 10) (da_cons (de_tup (da_cons de_str (da_cons (de_var 8) (da_cons (de_var 11) (da_cons (de_var 12) da_nil))))) da_nil))))) sc_Web_grow.nd)))
      (dss_one (ds_aug 5 iop_add simR_I0 de_int sc_Web_grow.nd))))))))
      (dss_one (ds_ret (de_var 3)))))), ?_⟩)
  rintro ds g Q ⟨W, b, mx, my, f, L, s, prs, lds, U, rfl, hW, hb, hm, hf, hs, hlay, hpl, hU, hsU, hcU, hpU, q⟩
  obtain ⟨wd, wk, hW1, hW2, hW3⟩ := id hW
  have sz : sizeLine = 16777216 := sizeLine_eq
  intro F hF
  have hsF : s ≠ F := gne hs hF
  refine ⟨_, rfl, .adr s, lds, rfl, .inr ⟨s, rfl, (gup_ne hsF).trans hs⟩, fun y hy => ⟨_, _, _, rfl, ?_⟩⟩
  have hyF : y ≠ F := fun z => by rw [z, gup_same] at hy; cases hy
  have ny : g y = none := by rw [gup_ne hyF] at hy; exact hy
  generalize hg0 : gup (gup g F (.dT [])) y (.lst lds) = g0
  have x0 : GX g g0 := by rw [← hg0]; exact ((GX.refl g).mut hF).mut ny
  have F0 : g0 F = some (.dT []) := by rw [← hg0]; exact (gup_ne hyF.symm).trans gup_same
  have y0 : g0 y = some (.lst lds) := by rw [← hg0]; exact gup_same
  refine ⟨_, rfl, _, _, _, rfl, x0 _ _ hW1, rfl, b, rfl, hb.1, hb.2, fun kv hkv A gA eA nA hA => ?_⟩
  obtain ⟨ks, ms, k1, k2, k3, k4, k5, k6⟩ := hkv
  have mlen : 0 < ms.length := by
    have e1 := congrArg List.length k1
    have e2 := congrArg List.length k2
    rw [List.length_map] at e1 e2
    unfold nI at e1
    rw [List.length_map] at e1 e2
    rw [← e2, e1]
    exact List.length_pos_iff.mpr k5
  refine ⟨A, kv, ms, rfl, hA, k2, mlen, fun last hlast _ => ⟨_, rfl, ?_⟩⟩
  obtain ⟨la0, la8⟩ := k6 last hlast
  have xA : GX g gA := x0.trans eA
  refine ⟨fun Γ g' => ∃ (y : Addr) (n : Nat) (ps : List (Pr × Nat)) (kvs : List (List Int × D)) (cur : List Pr) (cd : List D) (x7 x8 x9 x10 x11 x12 : Option D), Γ = [some (.adr W), some (.adr s), some (.bl false), some (.adr F), some (.adr y), some (.int n), some (.int (last + 1)), x7, x8, x9, x10, x11, x12] ∧ GX g g' ∧ g' F = some (.dT kvs) ∧ KvL ps kvs ∧ g' y = some (.lst cd) ∧ LayL cur cd ∧ y ≠ F ∧
      cur.length ≤ 12500000 ∧ (∀ p ∈ cur, p ∈ U) ∧ (∀ p a, (p, a) ∈ ps → First (NN prs (kids b.ws mx my f)) a p ∧ a < n) ∧ (∀ p ∈ ps.map (·.1), p ∈ U) ∧ (∀ k p, k < n → NN prs (kids b.ws mx my f) k p → p ∈ ps.map (·.1)) ∧
      (∀ p ∈ cur, NN prs (kids b.ws mx my f) n p) ∧ (∀ p, NN prs (kids b.ws mx my f) n p → p ∈ cur ∨ p ∈ ps.map (·.1)) ∧ (ps.map (·.1)).Nodup,
    growMu F,
    ⟨y, 0, [], [], prs, lds, none, none, none, none, none, none, rfl, xA, eA _ _ F0, rfl, eA _ _ y0, hlay, hyF, by omega, hsU, (fun _ _ h => absurd h List.not_mem_nil), (fun _ h => absurd h List.not_mem_nil), (fun _ _ h => absurd h (Nat.not_lt_zero _)), fun p h => h, fun p h => .inl h, List.nodup_nil⟩, ?_⟩
  rintro Γ g' ⟨y, n, ps, kvs, cur, cd, x7, x8, x9, x10, x11, x12, rfl, hg, hF1, hkv, hy1, hcd, hyF, hcl, hcU2, hps, hpsU, h2, h3, h4, h5⟩
  refine ⟨_, rfl, fun e he => ?_⟩
  have hye := gne hy1 he
  have ge : GX g' (gup g' e (.lst [])) := GX.new he
  refine ⟨y, e, _, _, rfl, rfl, (gup_ne hye).trans hy1, gup_same, hcd.pd, rfl, _, rfl, ?_⟩
  have psl : ps.length ≤ U.length := by
    have := nodup_sub_len h5 hpsU
    rwa [List.length_map] at this
  have kvl := hkv.length
  refine (fun (main : (cur ≠ [] ∨ (n : Int) ≤ last + 1) → _) => iteB (fun hc => iteT' rfl (main (.inl fun z => ?zz))) (fun hcn => ⟨_, rfl, _, rfl, _, rfl, _, rfl, iteB (fun hd => main (.inr (of_decide_eq_true hd))) (fun hd => ?fin)⟩)) ?main
  case zz =>
    subst z
    rw [show cd = [] from hcd] at hc
    cases hc
  case fin =>
    have hcur : cur = [] := by
      cases cd with
      | nil =>
        cases cur with
        | nil => rfl
        | cons _ _ =>
          obtain ⟨_, _, z, _⟩ := hcd
          cases z
      | cons _ _ => cases hcn
    subst hcur
    have all : ∀ k p, NN prs (kids b.ws mx my f) k p → p ∈ ps.map (·.1) := by
      intro k
      induction k with
      | zero =>
        intro p hp
        by_cases h0 : 0 < n
        · exact h2 0 p h0 hp
        · have : n = 0 := by omega
          subst this
          exact (h4 p hp).elim (fun z => absurd z List.not_mem_nil) id
      | succ k ih =>
        intro p hp
        obtain ⟨q', hq, hk⟩ := hp
        obtain ⟨⟨q2, a⟩, hqa, rfl⟩ := List.mem_map.mp (ih q' hq)
        obtain ⟨hf1, ha⟩ := hps q2 a hqa
        have hn : NN prs (kids b.ws mx my f) (a + 1) p := ⟨q2, hf1.1, hk⟩
        by_cases h0 : a + 1 < n
        · exact h2 _ p h0 hn
        · have : a + 1 = n := by omega
          rw [this] at hn
          exact (h4 p hn).elim (fun z => absurd z List.not_mem_nil) id
    refine ⟨_, rfl, q kvs ⟨ps, hkv, fun p a => ⟨fun h => (hps p a h).1, fun h => ?_⟩, h5⟩ F _ (hg.trans ge) hF (ge _ _ hF1)⟩
    obtain ⟨⟨p2, a2⟩, hpa, e⟩ := List.mem_map.mp (all a p h.1)
    have e : p2 = p := e
    subst e
    obtain ⟨hf2, _⟩ := hps p2 a2 hpa
    have : a2 = a := by
      rcases Nat.lt_trichotomy a2 a with z | z | z
      · exact absurd hf2.1 (h.2 a2 z)
      · exact z
      · exact absurd h.1 (hf2.2 a z)
    rw [← this]
    exact hpa
  case main =>
    intro hgo t ht
    have htF : F ≠ t := gne (ge _ _ hF1) ht
    have hyt : y ≠ t := gne (ge _ _ hy1) ht
    refine ⟨_, rfl, _, rfl, false, rfl, iteF' rfl ?_⟩
    intro c hc
    have hcF : F ≠ c := gne ((GX.new ht) _ _ (ge _ _ hF1)) hc
    have hct : t ≠ c := gne gup_same hc
    have hyc : y ≠ c := gne ((GX.new ht) _ _ (ge _ _ hy1)) hc
    have x1 : GX g' (gup (gup (gup g' e (.lst [])) t (.lst [])) c (.lst [])) := (ge.trans (GX.new ht)).trans (GX.new hc)
    generalize hgc : gup (gup (gup g' e (.lst [])) t (.lst [])) c (.lst []) = gc at x1
    have c1 : gc c = some (.lst []) := by rw [← hgc]; exact gup_same
    have t1 : gc t = some (.lst []) := by rw [← hgc]; exact (gup_ne hct).trans gup_same
    refine ⟨y, c, cd, [], rfl, rfl, x1 _ _ hy1, c1, by rw [hcd.length, List.length_nil]; omega, fun r hr => ?_⟩
    have hrF : F ≠ r := gne (x1 _ _ hF1) hr
    have hrt : t ≠ r := gne t1 hr
    have nt : g t = none := (hg.trans ge).free ht
    have nr : g r = none := (hg.trans x1).free hr
    rw [List.append_nil]
    refine ⟨r, cd, rfl, gup_same, ?_⟩
    refine ⟨fun i Γ g3 => ∃ (kvs3 : List (List Int × D)) (fr : List Pr) (x8 x9 : Option D), Γ = [some (.adr W), some (.adr s), some (.bl false), some (.adr F), some (.adr y), some (.int n), some (.int (last + 1)), some (.adr t), x8, x9, x10, x11, x12] ∧ GX g g3 ∧ g3 r = some (.lst cd) ∧ g3 F = some (.dT kvs3) ∧
        KvL (ps ++ fr.map fun p => (p, n)) kvs3 ∧ g3 t = some (.lst (fr.map dPr)) ∧ ((ps ++ fr.map fun p => (p, n)).map (·.1)).Nodup ∧ (∀ p ∈ cur.take i, p ∈ (ps ++ fr.map fun p => (p, n)).map (·.1)) ∧ ∀ p ∈ fr, p ∈ cur,
      ⟨kvs, [], x8, x9, rfl, (hg.trans x1).mut nr, gup_same, (gup_ne hrF).trans (x1 _ _ hF1), by simpa using hkv, (gup_ne hrt).trans t1, by simpa using h5, (fun p hp => by simp at hp), (fun p hp => absurd hp List.not_mem_nil)⟩, fun i Γ g3 _ h => ?_, ?_, ?_⟩
    · obtain ⟨_, _, _, _, _, _, h, _⟩ := h
      exact h
    · rintro i x Γ g3 hx ⟨kvs3, fr, x8, x9, rfl, hg3, e1, e2, e3, e4, e5, e6, e7⟩
      obtain ⟨p, h, hp, rfl, hh⟩ := hcd.at hx
      have hpm := List.mem_of_getElem? hp
      have hU3 : ∀ p ∈ (ps ++ fr.map fun p => (p, n)).map (·.1), p ∈ U := fun p hp => by
        rw [List.map_append, List.mem_append] at hp
        rcases hp with hp | hp
        · exact hpsU p hp
        · rw [List.map_map] at hp
          obtain ⟨p', hp', rfl⟩ := List.mem_map.mp hp
          exact hcU2 p' (e7 p' hp')
      have len3 : kvs3.length ≤ 20000 := by
        rw [e3.length]
        have := nodup_sub_len e5 hU3
        rw [List.length_map] at this
        omega
      have lenf : fr.length ≤ 20000 := by
        have := e3.length
        rw [List.length_append, List.length_map] at this
        omega
      refine ⟨_, rfl, rfl, _, _, rfl, _, _, rfl, rfl, _, rfl, _, rfl, dgetD kvs3 (prK p), .t (.inl e2), iteB (fun hin => ?_) (fun hin => ?_)⟩
      · have hnot : p ∉ (ps ++ fr.map fun p => (p, n)).map (·.1) := by
          rw [e3.some, Bool.not_eq_true', decide_eq_false_iff_not] at hin
          exact hin
        have hput : dputD kvs3 (prK p) (.tup [.int n, h]) = kvs3 ++ [(prK p, .tup [.int n, h])] := by
          unfold dputD
          rw [e3.any, decide_eq_false hnot]
          rfl
        have eassoc : ps ++ (fr ++ [p]).map (fun p => (p, n)) = (ps ++ fr.map fun p => (p, n)) ++ [(p, n)] := by
          rw [List.map_append, List.append_assoc]
          rfl
        refine ⟨_, rfl, _, rfl, _, rfl, _, rfl, _, .t e2 (by omega), ?_⟩
        refine ⟨_, rfl, ⟨_, _, rfl, (gup_ne htF.symm).trans e4⟩, _, rfl, t, _, _, rfl, rfl, (gup_ne htF.symm).trans e4, by rw [List.length_map]; omega, ?_⟩
        refine ⟨kvs3 ++ [(prK p, .tup [.int n, h])], fr ++ [p], _, _, rfl, (hg3.mut hF).mut nt, (gup_ne hrt.symm).trans ((gup_ne hrF.symm).trans e1), ?_, ?_, ?_, ?_, fun p' hp' => ?_, fun p' hp' => ?_⟩
        · rw [gup_ne htF, gup_same, hput]
        · rw [eassoc]
          exact e3.append ⟨h, [], rfl, rfl⟩
        · rw [gup_same, List.map_append]
          rfl
        · rw [eassoc, List.map_append]
          refine List.nodup_append.mpr ⟨e5, by simp, fun a ha c hc e => hnot ?_⟩
          rw [List.map_cons, List.map_nil, List.mem_singleton] at hc
          rw [e, hc] at ha
          exact ha
        · rw [eassoc, List.map_append, List.mem_append]
          rw [List.take_add_one, hp, List.mem_append] at hp'
          rcases hp' with hp' | hp'
          · exact .inl (e6 p' hp')
          · have : p' = p := by simpa using hp'
            right
            rw [this]
            exact List.mem_singleton.mpr rfl
        · rcases List.mem_append.mp hp' with hp' | hp'
          · exact e7 p' hp'
          · rw [List.mem_singleton.mp hp']
            exact hpm
      · have hin2 : p ∈ (ps ++ fr.map fun p => (p, n)).map (·.1) := by
          rw [e3.some, Bool.not_eq_false', decide_eq_true_iff] at hin
          exact hin
        refine ⟨kvs3, fr, _, _, rfl, hg3, e1, e2, e3, e4, e5, fun p' hp' => ?_, e7⟩
        rw [List.take_add_one, hp, List.mem_append] at hp'
        rcases hp' with hp' | hp'
        · exact e6 p' hp'
        · have : p' = p := by simpa using hp'
          rw [this]
          exact hin2
    · rintro Γ g3 ⟨kvs3, fr, x8, x9, rfl, hg3, e1, e2, e3, e4, e5, e6, e7⟩
      rw [hcd.length, List.take_length] at e6
      have hU3 : ∀ p ∈ (ps ++ fr.map fun p => (p, n)).map (·.1), p ∈ U := fun p hp => by
        rw [List.map_append, List.mem_append] at hp
        rcases hp with hp | hp
        · exact hpsU p hp
        · rw [List.map_map] at hp
          obtain ⟨p', hp', rfl⟩ := List.mem_map.mp hp
          exact hcU2 p' (e7 p' hp')
      have len3 : kvs3.length ≤ 20000 := by
        rw [e3.length]
        have := nodup_sub_len e5 hU3
        rw [List.length_map] at this
        omega
      have len4 : kvs3.length = ps.length + fr.length := by
        have := e3.length
        rw [List.length_append, List.length_map] at this
        exact this
      refine ⟨_, rfl, F, kvs3, rfl, e2, _, rfl, _, rfl, ?_⟩
      refine iteF' (decide_eq_false (by omega)) ?_
      intro z hz
      have hzF : F ≠ z := gne e2 hz
      have hzt : t ≠ z := gne e4 hz
      have nz : g z = none := hg3.free hz
      refine ⟨_, rfl, t, _, rfl, (gup_ne hzt).trans e4, ?_⟩
      refine ⟨fun i Γ g4 => ∃ (lds : List D) (x8 x10 x11 x12 : Option D), Γ = [some (.adr W), some (.adr s), some (.bl false), some (.adr F), some (.adr z), some (.int n), some (.int (last + 1)), some (.adr t), x8, x9, x10, x11, x12] ∧ GX g g4 ∧ g4 t = some (.lst (fr.map dPr)) ∧ g4 F = some (.dT kvs3) ∧ g4 z = some (.lst lds) ∧
          LayL ((fr.take i).flatMap (kids b.ws mx my f)) lds ∧ lds.length ≤ i * 625,
        ⟨[], x8, x10, x11, x12, rfl, hg3.mut nz, (gup_ne hzt).trans e4, (gup_ne hzF).trans e2, gup_same, rfl, Nat.zero_le _⟩, fun i Γ g4 _ h => ?_, ?_, ?_⟩
      · obtain ⟨_, _, _, _, _, _, _, h, _⟩ := h
        exact h
      · rintro i x Γ g4 hx ⟨l4, x8, x10, x11, x12, rfl, hg4, d1, d2, d3, d4, d5⟩
        obtain ⟨p, hp, rfl⟩ := map_of hx
        have hpm := List.mem_of_getElem? hp
        have hi := (List.getElem?_eq_some_iff.mp hp).1
        have hpU1 := hcU2 p (e7 p hpm)
        obtain ⟨u1, u2, u3⟩ := hpU p hpU1
        refine ⟨_, rfl, _, rfl, W, _, rfl, hg4 _ _ hW1, rfl, _, rfl, W, b, mx, my, f, L, p, rfl, hW.gx hg4, u1, hm, hf, ⟨by omega, by omega⟩, u3, fun cs hcs po g5 e5' npo hpo => ⟨po, cs, rfl, hpo, ?_⟩⟩
        have klen : cs.length ≤ 625 := by
          rw [hcs.length]
          have k1 := kids_len (f := f) (os := laidW b.ws mx my p.a 0 0 0) (ps := laidW b.ws mx my p.b p.x p.y p.t) (m := 25) (Nat.le_trans (laidW_len ..) u2.2)
          have k2 := Nat.le_trans (laidW_len b.ws mx my p.a 0 0 0) u2.1
          have k3 := Nat.mul_le_mul_right 25 k2
          exact Nat.le_trans k1 k3
        have hg5 : GX g g5 := hg4.trans e5'
        refine lc_map (fK p) (by omega) (fun a acc ha => (gup_ne (gne hpo ha)).trans hpo) (fun a j x acc N ha hx hN => ?_) (fun c2 hc2 => ?_)
        · obtain ⟨pr, u, v, rfl⟩ := hcs.at hx
          exact ⟨_, rfl, rfl, _, _, rfl, _, _, rfl, _, _, rfl, rfl, _, rfl, _, rfl, _, rfl, _, rfl, lc_yes hN⟩
        · have g5z := e5' _ _ d3
          have hzc := gne g5z hc2
          refine ⟨z, c2, l4, _, rfl, rfl, (gup_ne hzc).trans g5z, gup_same, ?_, ?_⟩
          · rw [List.length_map]
            have : i * 625 ≤ 20000 * 625 := Nat.mul_le_mul_right 625 (by omega)
            omega
          · refine ⟨l4 ++ cs.map (fK p), _, _, _, _, rfl, (hg5.mut (hg5.free hc2)).mut nz, (gup_ne hzt).trans ((gup_ne (gne (e5' _ _ d1) hc2)).trans (e5' _ _ d1)), (gup_ne hzF).trans ((gup_ne (gne (e5' _ _ d2) hc2)).trans (e5' _ _ d2)), gup_same, ?_, ?_⟩
            · rw [List.take_add_one, hp]
              simp only [Option.toList, List.flatMap_append, List.flatMap_cons, List.flatMap_nil, List.append_nil]
              exact d4.append (hcs.lay p)
            · rw [List.length_append, List.length_map, Nat.succ_mul]
              omega
      · rintro Γ g4 ⟨l4, x8, x10, x11, x12, rfl, hg4, d1, d2, d3, d4, d5⟩
        rw [List.length_map] at d4 d5
        rw [List.take_length] at d4
        have hl4 := d4.length
        have fr625 : fr.length * 625 ≤ 20000 * 625 := Nat.mul_le_mul_right 625 (by omega)
        have mfr : ∀ {p : Pr}, p ∈ (ps ++ fr.map fun p => (p, n)).map (·.1) ↔ p ∈ ps.map (·.1) ∨ p ∈ fr := fun {p} => by
          rw [List.map_append, List.mem_append, List.map_map]
          have : fr.map ((fun x : Pr × Nat => x.1) ∘ fun p => (p, n)) = fr := List.map_id _
          rw [this]
        have e5a : ∀ p ∈ fr, p ∉ ps.map (·.1) := by
          rw [List.map_append, List.map_map] at e5
          have : fr.map ((fun x : Pr × Nat => x.1) ∘ fun p => (p, n)) = fr := List.map_id _
          rw [this] at e5
          exact fun p hp hq => (List.nodup_append.mp e5).2.2 p hq p hp rfl
        refine ⟨_, rfl, _, rfl, ⟨z, n + 1, ps ++ fr.map (fun p => (p, n)), kvs3, fr.flatMap (kids b.ws mx my f), l4, _, _, _, _, _, _, rfl, hg4, d2, e3, d3, d4, hzF.symm, by omega, fun p hp => ?_, fun p a hp => ?_, hU3, fun k p hk hn => ?_, fun p hp => ?_, fun p hp => ?_, e5⟩, ?_⟩
        · obtain ⟨p', hp', hk⟩ := List.mem_flatMap.mp hp
          exact hcU p' (hcU2 p' (e7 p' hp')) p hk
        · rcases List.mem_append.mp hp with hp | hp
          · obtain ⟨h6, h7⟩ := hps p a hp
            exact ⟨h6, by omega⟩
          · obtain ⟨p', hp', e⟩ := List.mem_map.mp hp
            cases e
            exact ⟨⟨h3 p (e7 p hp'), fun k hk hn => e5a p hp' (h2 k p hk hn)⟩, by omega⟩
        · by_cases hkn : k < n
          · exact mfr.mpr (.inl (h2 k p hkn hn))
          · have : k = n := by omega
            subst this
            rcases h4 p hn with h | h
            · exact e6 p h
            · exact mfr.mpr (.inl h)
        · obtain ⟨p', hp', hk⟩ := List.mem_flatMap.mp hp
          exact ⟨p', h3 p' (e7 p' hp'), hk⟩
        · obtain ⟨q', hq, hk⟩ := hp
          have hq2 : q' ∈ ps.map (·.1) ∨ q' ∈ fr := by
            rcases h4 q' hq with h | h
            · exact mfr.mp (e6 q' h)
            · exact .inl h
          rcases hq2 with h | h
          · obtain ⟨⟨q2, a⟩, hqa, rfl⟩ := List.mem_map.mp h
            obtain ⟨hf1, ha⟩ := hps q2 a hqa
            have hn : NN prs (kids b.ws mx my f) (a + 1) p := ⟨q2, hf1.1, hk⟩
            right
            by_cases h0 : a + 1 < n
            · exact mfr.mpr (.inl (h2 _ p h0 hn))
            · have : a + 1 = n := by omega
              rw [this] at hn
              rcases h4 p hn with h | h
              · exact e6 p h
              · exact mfr.mpr (.inl h)
          · exact .inl (List.mem_flatMap.mpr ⟨q', h, hk⟩)
        · refine Nat.lt_of_le_of_lt (Nat.le_of_eq (growMu_eq rfl rfl d2 d3)) (Nat.lt_of_lt_of_le ?_ (Nat.le_of_eq (growMu_eq rfl rfl hF1 hy1).symm))
          have hcdl := hcd.length
          by_cases hfr : fr = []
          · subst hfr
            have : l4.length = 0 := hl4
            rw [this]
            have z0 : kvs3.length = kvs.length := by rw [len4, kvl]; rfl
            rw [z0]
            rcases hgo with h | h
            · have := List.length_pos_iff.mpr h
              omega
            · by_cases hc0 : cd.length = 0
              · rw [hc0]
                omega
              · omega
          · have := List.length_pos_iff.mpr hfr
            omega
end
end SW
set_option Elab.async false
set_option linter.all false
set_option maxRecDepth 100000
set_option maxHeartbeats 4000000
namespace SW
open PySem PySem.Spec PyProof.Rows L2 DL
local macro_rules | `(tactic| walk_at "cond") => `(tactic| first | (show (0 : Int) < _; decide) | (show (0 : Int) < _; omega) | assumption | (refine Bd.mul ?_; assumption) | (refine Or.inl ⟨?_, ?_⟩ <;> omega) | (refine Or.inr ⟨?_, ?_⟩ <;> omega) | decide)
local macro_rules | `(tactic| walk_at "go1") => `(tactic| first
  | refine ⟨_, rfl, ?_⟩
  | refine ⟨_, _, rfl, rfl, by walk_at "cond", ?_⟩
  | refine ⟨_, _, rfl, rfl, ?_⟩
  | refine ⟨_, _, rfl, ?_⟩
  | refine ⟨rfl, ?_⟩
  | refine iteT ?_
  | refine iteF ?_
  | refine ⟨_, _, _, rfl, ?_⟩
  | refine ⟨(by decide +kernel : _ = true), ?_⟩
  | refine iteT' (decide_eq_true (by omega)) ?_
  | refine iteF' (decide_eq_false (by omega)) ?_
  | (dsimp only; refine iteT' (by simp only [decide_eq_true_eq, Bool.not_eq_true', decide_eq_false_iff_not]; omega) ?_)
  | (dsimp only; refine iteF' (by simp only [decide_eq_true_eq, Bool.not_eq_false', decide_eq_false_iff_not]; omega) ?_))
local macro_rules | `(tactic| walk_at "go") => `(tactic| repeat walk_at "go1")
abbrev flSum (m ex ey t wx wy ar : Int) : List (Str × D) := [("many", .int m), ("end", dP ex ey), ("turns", .int t), ("ways", dP wx wy), ("area", .int ar)]
section
variable (K : PySem.W.Frag)
def SumP (g : G) (p : Addr) (ex ey t : Int) : Prop := ∃ m wx wy ar, g p = some (.ins (C_Sum K) (flSum m ex ey t wx wy ar))
theorem SumP.gx {K : PySem.W.Frag} {g g' : G} {p : Addr} {ex ey t : Int} (h : SumP K g p ex ey t) (e : GX g g') : SumP K g' p ex ey t := by
  obtain ⟨m, wx, wy, ar, h⟩ := h
  exact ⟨m, wx, wy, ar, e _ _ h⟩
/-- a new sum -/
def NewS (ex ey t : Int) (g : G) (Q : DK) : Prop := ∀ p m wx wy ar, g p = none → Q (.adr p) (gup g p (.ins (C_Sum K) (flSum m ex ey t wx wy ar)))
def φ_Sum_init : DSp := fun ds g Q => ∃ a m ex ey t wx wy ar, ds = [.adr a, .int m, dP ex ey, .int t, dP wx wy, .int ar] ∧ g a = some (.ins (C_Sum K) []) ∧ Q .non (gup g a (.ins (C_Sum K) (flSum m ex ey t wx wy ar)))
theorem len_Sum___init__ (ds : List D) (g : G) (Q : DK) (h : φ_Sum_init K ds g Q) : ds.length = P_Sum___init__.length := by
  obtain ⟨_, _, _, _, _, _, _, _, rfl, _⟩ := h
  rfl
def φ_nothing : DSp := fun ds g Q => ds = [] ∧ NewS K 0 0 0 g Q
theorem len_nothing (ds : List D) (g : G) (Q : DK) (h : φ_nothing K ds g Q) : ds.length = P_nothing.length := by
  obtain ⟨rfl, _⟩ := h
  rfl
def Unit1 (g : G) (u : Addr) : Prop := g u = some (.ins (C_Sum K) (flSum 1 1 0 0 1 0 0))
def φ_Sum_then : DSp := fun ds g Q => ∃ a u ex ey t, ds = [.adr a, .adr u] ∧ SumP K g a ex ey t ∧ Unit1 K g u ∧ (Bd ex ∧ Bd ey) ∧ NewS K (ex + rx 1 0 t) (ey + ry 1 0 t) t g Q
theorem len_Sum_then (ds : List D) (g : G) (Q : DK) (h : φ_Sum_then K ds g Q) : ds.length = P_Sum_then.length := by
  obtain ⟨_, _, _, _, _, rfl, _⟩ := h
  rfl
def φ_Sum_turning : DSp := fun ds g Q => ∃ a ex ey t, SumP K g a ex ey t ∧ ((ds = [.adr a, .str "+"] ∧ NewS K ex ey (t + 1) g Q) ∨ (ds = [.adr a, .str "-"] ∧ NewS K ex ey (t + -1) g Q))
theorem len_Sum_turning (ds : List D) (g : G) (Q : DK) (h : φ_Sum_turning K ds g Q) : ds.length = P_Sum_turning.length := by
  obtain ⟨_, _, _, _, _, ⟨rfl, _⟩ | ⟨rfl, _⟩⟩ := h <;> rfl
def φ_Sum_back_at : DSp := fun ds g Q => ∃ a c ex ey t ex' ey' t', ds = [.adr a, .adr c] ∧ SumP K g a ex ey t ∧ SumP K g c ex' ey' t' ∧ NewS K ex' ey' t' g Q
theorem len_Sum_back_at (ds : List D) (g : G) (Q : DK) (h : φ_Sum_back_at K ds g Q) : ds.length = P_Sum_back_at.length := by
  obtain ⟨_, _, _, _, _, _, _, _, rfl, _⟩ := h
  rfl
end
section
variable {P : Program} {w : World} {K : PySem.W.Frag} {mg : Str → Option Value} {base : Heap}
theorem d_Sum___init__ (T : Txt K mg) {f : Addr} {fd : FuncData} (F : FnT K "__init__" "Sum.__init__" s_Sum___init__ f fd) (hm : mg "Sum" = some (.ref (C_Sum K))) (hc : Mk K (C_Sum K) f) : MakeD P w K mg base 1 (C_Sum K) "Sum" (φ_Sum_init K) := by
  refine makeD F hm hc (ps := P_Sum___init__) (fun _ _ _ _ _ _ us hl => match us, hl with | [_, _, _, _, _, _], _ => rfl) (okD F sc_Sum___init__ (by first | exact len_Sum___init__ | exact len_Sum___init__ _) fun cdv A outer s H E hr => ⟨_, (dss_cons (ds_setf T.cSum T.aSum_many (de_var 0) (de_var 1))
      (dss_cons (ds_setf T.cSum T.aSum_end (de_var 0) (de_var 2))
      (dss_cons (ds_setf T.cSum T.aSum_turns (de_var 0) (de_var 3))
      (dss_cons (ds_setf T.cSum T.aSum_ways (de_var 0) (de_var 4))
      (dss_one (ds_setf T.cSum T.aSum_area (de_var 0) (de_var 5))))))), ?_⟩)
  rintro ds g Q ⟨a, m, ex, ey, t, wx, wy, ar, rfl, ha, q⟩
  refine ⟨_, rfl, _, rfl, a, _, rfl, ha, lt1000 rfl, _, rfl, _, rfl, a, _, rfl, gup_same, lt1000 rfl, _, rfl, _, rfl, a, _, rfl, gup_same, lt1000 rfl, _, rfl, _, rfl, a, _, rfl, gup_same, lt1000 rfl, _, rfl, _, rfl, a, _, rfl, gup_same, lt1000 rfl, ?_⟩
  rw [gup_gup, gup_gup, gup_gup, gup_gup]
  exact q
theorem d_nothing (T : Txt K mg) {f : Addr} {fd : FuncData} (F : FnT K "nothing" "nothing" s_nothing f fd) (hm : mg "nothing" = some (.ref f))
    (H_Sum___init__ : MakeD P w K mg base 1 (C_Sum K) "Sum" (φ_Sum_init K)) : CallD P w K mg base 3 "nothing" (φ_nothing K) := by
  refine callD F hm (ps := P_nothing) (fun _ _ _ _ _ _ us hl => match us, hl with | [], _ => rfl) (okD F sc_nothing (by first | exact len_nothing | exact len_nothing _) fun cdv A outer s H E hr => ⟨_, (dss_one (ds_ret (de_make H_Sum___init__ (hr.mono (by decide)) (da_cons de_int (da_cons (de_tup (da_cons de_int (da_cons de_int da_nil))) (da_cons de_int (da_cons (de_tup (da_cons de_int (da_cons de_int da_nil))) (da_cons de_int da_nil)))))))), ?_⟩)
  rintro ds g Q ⟨rfl, q⟩
  intro x hx
  refine ⟨x, 0, 0, 0, 0, 0, 0, 0, rfl, gup_same, rfl, ?_⟩
  rw [gup_gup]
  exact q x 0 0 0 0 hx
theorem d_Sum_then (T : Txt K mg) {f : Addr} {fd : FuncData} (F : FnT K "then" "Sum.then" s_Sum_then f fd) (hm : Meth K (C_Sum K) "then" f)
    (H_Sum___init__ : MakeD P w K mg base 1 (C_Sum K) "Sum" (φ_Sum_init K))
    (H_plus : CallD P w K mg base 1 "plus" (pF fPlus))
    (H_turned : CallD P w K mg base 1 "turned" (pF fTurned)) : MethD P w K mg base 3 (C_Sum K) "then" (φ_Sum_then K) := by
  refine methD F hm T.cSum (ps := P_Sum_then) (fun _ _ _ _ _ _ us hl => match us, hl with | [_, _], _ => rfl) (okD F sc_Sum_then (by first | exact len_Sum_then | exact len_Sum_then _) fun cdv A outer s H E hr => ⟨_, (dss_cons (ds_par 2 3 (da_cons (de_call H_turned (hr.mono (by decide)) (da_cons (de_fld T.cSum T.aSum_end (de_var 1)) (da_cons (de_fld T.cSum T.aSum_turns (de_var 0)) da_nil))) (da_cons (de_call H_turned (hr.mono (by decide)) (da_cons (de_fld T.cSum T.aSum_ways (de_var 1)) (da_cons (de_fld T.cSum T.aSum_turns (de_var 0)) da_nil))) da_nil)) sc_Sum_then.nd)
      (dss_cons (ds_set 4 (de_op op_sub simR_I0 (de_op op_add simR_I0 (de_op op_add simR_I0 (de_fld T.cSum T.aSum_area (de_var 0)) (de_fld T.cSum T.aSum_area (de_var 1))) (de_op op_mul simR_I (de_ix (de_fld T.cSum T.aSum_end (de_var 0)) de_int) (de_ix (de_var 3) de_int))) (de_op op_mul simR_I (de_ix (de_fld T.cSum T.aSum_end (de_var 0)) de_int) (de_ix (de_var 3) de_int))) sc_Sum_then.nd)
      (dss_cons (ds_par 5 6 (da_cons (de_call H_plus (hr.mono (by decide)) (da_cons (de_fld T.cSum T.aSum_end (de_var 0)) (da_cons (de_var 2) da_nil))) (da_cons (de_op op_add simR_I0 (de_fld T.cSum T.aSum_turns (de_var 0)) (de_fld T.cSum T.aSum_turns (de_var 1))) da_nil)) sc_Sum_then.nd)
      (dss_one (ds_ret (de_make H_Sum___init__ (hr.mono (by decide)) (da_cons (de_op op_add simR_I0 (de_fld T.cSum T.aSum_many (de_var 0)) (de_fld T.cSum T.aSum_many (de_var 1))) (da_cons (de_var 5) (da_cons (de_var 6) (da_cons (de_call H_plus (hr.mono (by decide)) (da_cons (de_fld T.cSum T.aSum_ways (de_var 0)) (da_cons (de_var 3) da_nil))) (da_cons (de_var 4) da_nil))))))))))), ?_⟩)
  rintro ds g Q ⟨a, u, ex, ey, t, rfl, ⟨m, wx, wy, ar, ha⟩, hu, ⟨hx, hy⟩, q⟩
  repeat (first | refine ⟨_, _, _, rfl, ha, rfl, ?_⟩ | refine ⟨_, _, _, rfl, hu, rfl, ?_⟩ | walk_at "go1")
  intro x hx
  refine ⟨x, _, _, _, _, _, _, _, rfl, gup_same, rfl, ?_⟩
  rw [gup_gup, Int.add_zero]
  exact q x _ _ _ _ hx
theorem d_Sum_turning (T : Txt K mg) {f : Addr} {fd : FuncData} (F : FnT K "turning" "Sum.turning" s_Sum_turning f fd) (hm : Meth K (C_Sum K) "turning" f)
    (H_Sum___init__ : MakeD P w K mg base 1 (C_Sum K) "Sum" (φ_Sum_init K))
    (H_quarters : CallD P w K mg base 1 "quarters" φ_quarters) : MethD P w K mg base 3 (C_Sum K) "turning" (φ_Sum_turning K) := by
  refine methD F hm T.cSum (ps := P_Sum_turning) (fun _ _ _ _ _ _ us hl => match us, hl with | [_, _], _ => rfl) (okD F sc_Sum_turning (by first | exact len_Sum_turning | exact len_Sum_turning _) fun cdv A outer s H E hr => ⟨_, (dss_cons (ds_set 2 (de_op op_add simR_I0 (de_fld T.cSum T.aSum_turns (de_var 0)) (de_if (db_cmp op_eq simR_eq (de_call H_quarters (hr.mono (by decide)) (da_cons (de_var 1) da_nil)) de_int) de_int (de_un un_neg simU_neg de_int))) sc_Sum_turning.nd)
      (dss_one (ds_ret (de_make H_Sum___init__ (hr.mono (by decide)) (da_cons (de_fld T.cSum T.aSum_many (de_var 0)) (da_cons (de_fld T.cSum T.aSum_end (de_var 0)) (da_cons (de_var 2) (da_cons (de_fld T.cSum T.aSum_ways (de_var 0)) (da_cons (de_fld T.cSum T.aSum_area (de_var 0)) da_nil))))))))), ?_⟩)
  rintro ds g Q ⟨a, ex, ey, t, ⟨m, wx, wy, ar, ha⟩, ⟨rfl, q⟩ | ⟨rfl, q⟩⟩
  · walk_at "go"
    refine ⟨_, _, _, rfl, ha, rfl, _, rfl, .inl ⟨rfl, ?_⟩⟩
    walk_at "go"
    refine ⟨_, _, _, rfl, ha, rfl, _, rfl, _, _, _, rfl, ha, rfl, _, rfl, _, rfl, _, _, _, rfl, ha, rfl, _, rfl, _, _, _, rfl, ha, rfl, ?_⟩
    intro x hx
    refine ⟨x, _, _, _, _, _, _, _, rfl, gup_same, rfl, ?_⟩
    rw [gup_gup]
    exact q x _ _ _ _ hx
  · walk_at "go"
    refine ⟨_, _, _, rfl, ha, rfl, _, rfl, .inr ⟨rfl, ?_⟩⟩
    walk_at "go"
    refine ⟨_, _, _, rfl, ha, rfl, _, rfl, _, _, _, rfl, ha, rfl, _, rfl, _, rfl, _, _, _, rfl, ha, rfl, _, rfl, _, _, _, rfl, ha, rfl, ?_⟩
    intro x hx
    refine ⟨x, _, _, _, _, _, _, _, rfl, gup_same, rfl, ?_⟩
    rw [gup_gup]
    exact q x _ _ _ _ hx
theorem d_Sum_back_at (T : Txt K mg) {f : Addr} {fd : FuncData} (F : FnT K "back_at" "Sum.back_at" s_Sum_back_at f fd) (hm : Meth K (C_Sum K) "back_at" f)
    (H_Sum___init__ : MakeD P w K mg base 1 (C_Sum K) "Sum" (φ_Sum_init K)) : MethD P w K mg base 3 (C_Sum K) "back_at" (φ_Sum_back_at K) := by
  refine methD F hm T.cSum (ps := P_Sum_back_at) (fun _ _ _ _ _ _ us hl => match us, hl with | [_, _], _ => rfl) (okD F sc_Sum_back_at (by first | exact len_Sum_back_at | exact len_Sum_back_at _) fun cdv A outer s H E hr => ⟨_, (dss_one (ds_ret (de_make H_Sum___init__ (hr.mono (by decide)) (da_cons (de_fld T.cSum T.aSum_many (de_var 0)) (da_cons (de_fld T.cSum T.aSum_end (de_var 1)) (da_cons (de_fld T.cSum T.aSum_turns (de_var 1)) (da_cons (de_fld T.cSum T.aSum_ways (de_var 0)) (da_cons (de_fld T.cSum T.aSum_area (de_var 0)) da_nil)))))))), ?_⟩)
  rintro ds g Q ⟨a, c, ex, ey, t, ex', ey', t', rfl, ⟨m, wx, wy, ar, ha⟩, ⟨m', wx', wy', ar', hc⟩, q⟩
  refine ⟨_, rfl, _, _, _, rfl, ha, rfl, _, rfl, _, _, _, rfl, hc, rfl, _, rfl, _, _, _, rfl, hc, rfl, _, rfl, _, _, _, rfl, ha, rfl, _, rfl, _, _, _, rfl, ha, rfl, ?_⟩
  intro x hx
  refine ⟨x, _, _, _, _, _, _, _, rfl, gup_same, rfl, ?_⟩
  rw [gup_gup]
  exact q x _ _ _ _ hx
end
end SW
set_option Elab.async false
set_option linter.all false
set_option maxRecDepth 100000
set_option maxHeartbeats 4000000
namespace SW
open PySem PySem.Spec PyProof.Rows L2 DL
local macro_rules | `(tactic| walk_at "cond") => `(tactic| first | (show (0 : Int) < _; decide) | (show (0 : Int) < _; omega) | assumption | (refine Bd.mul ?_; assumption) | (refine Or.inl ⟨?_, ?_⟩ <;> omega) | (refine Or.inr ⟨?_, ?_⟩ <;> omega) | decide)
local macro_rules | `(tactic| walk_at "go1") => `(tactic| first
  | refine ⟨_, rfl, ?_⟩
  | refine ⟨_, _, rfl, rfl, by walk_at "cond", ?_⟩
  | refine ⟨_, _, rfl, rfl, ?_⟩
  | refine ⟨_, _, rfl, ?_⟩
  | refine ⟨rfl, ?_⟩
  | refine iteT ?_
  | refine iteF ?_
  | refine ⟨_, _, _, rfl, ?_⟩
  | refine ⟨(by decide +kernel : _ = true), ?_⟩
  | refine iteT' (decide_eq_true (by omega)) ?_
  | refine iteF' (decide_eq_false (by omega)) ?_
  | (dsimp only; refine iteT' (by simp only [decide_eq_true_eq, Bool.not_eq_true', decide_eq_false_iff_not]; omega) ?_)
  | (dsimp only; refine iteF' (by simp only [decide_eq_true_eq, Bool.not_eq_false', decide_eq_false_iff_not]; omega) ?_))
local macro_rules | `(tactic| walk_at "go") => `(tactic| repeat walk_at "go1")
def StkR (K : PySem.W.Frag) (g : G) : List Addr → List (Int × Int × Int) → Prop
  | [], st => st = []
  | a :: r, st => ∃ x y h t s, st = (x, y, h) :: s ∧ SumP K g a x y t ∧ t % 4 = h ∧ StkR K g r s
theorem StkR.gx {K : PySem.W.Frag} {g g' : G} (e : GX g g') : ∀ {l : List Addr} {st : List (Int × Int × Int)}, StkR K g l st → StkR K g' l st
  | [], _, h => h
  | _ :: _, _, h => by
    obtain ⟨x, y, u, t, s, rfl, h1, h2, h3⟩ := h
    exact ⟨x, y, u, t, s, rfl, h1.gx e, h2, StkR.gx e h3⟩
theorem StkR.length {K : PySem.W.Frag} {g : G} : ∀ {l : List Addr} {st : List (Int × Int × Int)}, StkR K g l st → l.length = st.length
  | [], _, h => by
    cases (show _ = [] from h)
    rfl
  | _ :: _, _, h => by
    obtain ⟨x, y, u, t, s, rfl, h1, h2, h3⟩ := h
    rw [List.length_cons, List.length_cons, StkR.length h3]
/-- the bounds of a pen -/
def PnBd (p : Pn) (n : Int) : Prop := (-n ≤ p.x ∧ p.x ≤ n ∧ -n ≤ p.y ∧ p.y ≤ n) ∧ ∀ q ∈ p.st, -n ≤ q.1 ∧ q.1 ≤ n ∧ -n ≤ q.2.1 ∧ q.2.1 ≤ n
theorem r1_bd (k : Int) : -1 ≤ rx 1 0 k ∧ rx 1 0 k ≤ 1 ∧ -1 ≤ ry 1 0 k ∧ ry 1 0 k ≤ 1 := by
  unfold rx ry
  rcases h_mod k with h | h | h | h <;> rw [h] <;> decide
theorem PnBd.step {p : Pn} {n : Int} (h : PnBd p n) (s : It) : PnBd (p.step s) (n + 1) := by
  obtain ⟨⟨h1, h2, h3, h4⟩, h5⟩ := h
  have up : ∀ q ∈ p.st, -(n + 1) ≤ q.1 ∧ q.1 ≤ n + 1 ∧ -(n + 1) ≤ q.2.1 ∧ q.2.1 ≤ n + 1 := fun q hq => by
    obtain ⟨a, b, c, d⟩ := h5 q hq
    exact ⟨by omega, by omega, by omega, by omega⟩
  have r := r1_bd p.h
  cases s with
  | L i => exact ⟨⟨by show _ ≤ p.x + rx 1 0 p.h; omega, by show p.x + rx 1 0 p.h ≤ _; omega, by show _ ≤ p.y + ry 1 0 p.h; omega, by show p.y + ry 1 0 p.h ≤ _; omega⟩, up⟩
  | tl => exact ⟨⟨by show _ ≤ p.x; omega, by show p.x ≤ _; omega, by show _ ≤ p.y; omega, by show p.y ≤ _; omega⟩, up⟩
  | tr => exact ⟨⟨by show _ ≤ p.x; omega, by show p.x ≤ _; omega, by show _ ≤ p.y; omega, by show p.y ≤ _; omega⟩, up⟩
  | op =>
    refine ⟨⟨by show _ ≤ p.x; omega, by show p.x ≤ _; omega, by show _ ≤ p.y; omega, by show p.y ≤ _; omega⟩, fun q hq => ?_⟩
    rcases List.mem_cons.mp hq with e | hq
    · rw [e]
      exact ⟨by show _ ≤ p.x; omega, by show p.x ≤ _; omega, by show _ ≤ p.y; omega, by show p.y ≤ _; omega⟩
    · exact up q hq
  | cl =>
    show PnBd (p.mark .cl) (n + 1)
    cases e : p.st with
    | nil =>
      have em : p.mark .cl = p := by
        unfold Pn.mark
        rw [e]
      rw [em]
      exact ⟨⟨by omega, by omega, by omega, by omega⟩, up⟩
    | cons q r =>
      obtain ⟨x, y, z⟩ := q
      have em : p.mark .cl = ⟨x, y, z, r⟩ := by
        unfold Pn.mark
        rw [e]
      rw [em]
      rw [e] at up
      exact ⟨up (x, y, z) List.mem_cons_self, fun q hq => up q (List.mem_cons_of_mem _ hq)⟩
theorem r1_mod (k : Int) : rx 1 0 (k % 4) = rx 1 0 k ∧ ry 1 0 (k % 4) = ry 1 0 k := by
  unfold rx ry
  rw [show k % 4 % 4 = k % 4 by omega]
  exact ⟨rfl, rfl⟩
structure JI (K : PySem.W.Frag) (g g' : G) (r : Addr) (w : List It) (i : Nat) (c : Addr) (p : Pn) (t : Int) (sts : List Addr) : Prop where
  gx : GX g g'
  sm : SumP K g' c p.x p.y t
  hd : t % 4 = p.h
  ls : g' r = some (.lst (sts.reverse.map D.adr))
  st : StkR K g' sts p.st
  le : p.st.length ≤ i
  bd : PnBd p i
  ok : PnOk p
  bl : bal p.st.length (w.drop i) = true
  rn : run p0 w = run p (w.drop i)
theorem JI.mk2 {K : PySem.W.Frag} {g g2 : G} {r : Addr} {w : List It} {i : Nat} {p2 : Pn} {sts : List Addr} (gx : GX g g2) (ls : g2 r = some (.lst (sts.reverse.map D.adr))) (st : StkR K g2 sts p2.st) (le : p2.st.length ≤ i) (bd : PnBd p2 i) (ok : PnOk p2) (bl : bal p2.st.length (w.drop i) = true) (rn : run p0 w = run p2 (w.drop i))
    {pp : Addr} {m wx wy ar t' : Int} (hp : g2 pp = none) (ht : t' % 4 = p2.h) : JI K g (gup g2 pp (.ins (C_Sum K) (flSum m p2.x p2.y t' wx wy ar))) r w i pp p2 t' sts :=
  ⟨gx.mut (gx.free hp), ⟨m, wx, wy, ar, gup_same⟩, ht, (gup_ne (gne ls hp)).trans ls, st.gx (GX.new hp), le, bd, ok, bl, rn⟩
theorem StkR.mutL {K : PySem.W.Frag} {g : G} {r : Addr} {l : List D} {o : GO} (hr : g r = some (.lst l)) : ∀ {sts : List Addr} {st : List (Int × Int × Int)}, StkR K g sts st → StkR K (gup g r o) sts st
  | [], _, h => h
  | a :: _, _, h => by
    obtain ⟨x, y, u, t, s, rfl, ⟨m, wx, wy, ar, h1⟩, h2, h3⟩ := h
    have : a ≠ r := fun e => by rw [e, hr] at h1; cases h1
    exact ⟨x, y, u, t, s, rfl, ⟨m, wx, wy, ar, (gup_ne this).trans h1⟩, h2, StkR.mutL hr h3⟩
theorem JI.new {K : PySem.W.Frag} {g g' : G} {r c : Addr} {w : List It} {i : Nat} {p : Pn} {t : Int} {sts : List Addr} (h : JI K g g' r w i c p t sts) (nr : g r = none) {s : It} (hs : w[i]? = some s) (hst : (p.step s).st = p.st) (hb : bal p.st.length (w.drop (i + 1)) = true)
    {pp : Addr} {m wx wy ar t' x y : Int} (hx : x = (p.step s).x) (hy : y = (p.step s).y) (hp : g' pp = none) (ht : t' % 4 = (p.step s).h) : JI K g (gup g' pp (.ins (C_Sum K) (flSum m x y t' wx wy ar))) r w (i + 1) pp (p.step s) t' sts := by
  subst hx hy
  have hrp := gne h.ls hp
  have rn := h.rn
  rw [drop_of hs] at rn
  exact ⟨h.gx.mut (h.gx.free hp), ⟨m, wx, wy, ar, gup_same⟩, ht, (gup_ne hrp).trans h.ls, by rw [hst]; exact h.st.gx (GX.new hp), by rw [hst]; have := h.le; omega, h.bd.step s, h.ok.step s, by rw [hst]; exact hb, rn⟩
section
variable (K : PySem.W.Frag)
def φ_joined : DSp := fun ds g Q => ∃ (S : Addr) (us : List Addr) (w : List It), ds = [.adr S, dW w] ∧ g S = some (.lst (us.map D.adr)) ∧ (bal 0 w = true ∧ w.length ≤ 900) ∧ (∀ j, It.L j ∈ w → ∃ u, us[j]? = some u ∧ Unit1 K g u) ∧
  ∀ p g' t, GX g g' → SumP K g' p (run p0 w).x (run p0 w).y t → t % 4 = (run p0 w).h → Q (.adr p) g'
theorem len_joined (ds : List D) (g : G) (Q : DK) (h : φ_joined K ds g Q) : ds.length = P_joined.length := by
  obtain ⟨_, _, _, rfl, _⟩ := h
  rfl
end
section
variable {P : Program} {w : World} {K : PySem.W.Frag} {mg : Str → Option Value} {base : Heap}
theorem d_joined (T : Txt K mg) {f : Addr} {fd : FuncData} (F : FnT K "joined" "joined" s_joined f fd) (hm : mg "joined" = some (.ref f))
    (H_Sum_back_at : MethD P w K mg base 3 (C_Sum K) "back_at" (φ_Sum_back_at K))
    (H_Sum_then : MethD P w K mg base 3 (C_Sum K) "then" (φ_Sum_then K))
    (H_Sum_turning : MethD P w K mg base 3 (C_Sum K) "turning" (φ_Sum_turning K))
    (H_is_letter : CallD P w K mg base 1 "is_letter" (pF fIsLetter))
    (H_nothing : CallD P w K mg base 3 "nothing" (φ_nothing K)) : CallD P w K mg base 4 "joined" (φ_joined K) := by
  refine callD F hm (ps := P_joined) (fun _ _ _ _ _ _ us hl => match us, hl with | [_, _], _ => rfl) (okD F sc_joined (by first | exact len_joined | exact len_joined _) fun cdv A outer s H E hr => ⟨_, (dss_cons (ds_par 2 3 (da_cons (de_call0 H_nothing (hr.mono (by decide))) (da_cons (de_lst da_nil) da_nil)) sc_joined.nd)
      (dss_cons (ds_for (di_tup (de_var 1)) (dg_name 4 sc_joined.nd) (dss_one (ds_if (db_val (de_call H_is_letter (hr.mono (by decide)) (da_cons (de_var 4) da_nil))) (dss_one (ds_set 2 (de_meth H_Sum_then (hr.mono (by decide)) (de_var 2) (da_cons (de_ix (de_var 0) (de_var 4)) da_nil)) sc_joined.nd)) (dss_one (ds_if (db_cmp op_eq simR_eq (de_var 4) (de_glob T.gOUT)) (dss_one (ds_expr (de_append (de_var 3) (de_var 2)))) (dss_one (ds_if (db_cmp op_eq simR_eq (de_var 4) (de_glob T.gBACK)) (dss_one (ds_set 2 (de_meth H_Sum_back_at (hr.mono (by decide)) (de_var 2) (da_cons (de_pop (de_var 3)) da_nil)) sc_joined.nd)) (dss_one (ds_set 2 (de_meth H_Sum_turning (hr.mono (by decide)) (de_var 2) (da_cons (de_var 4) da_nil)) sc_joined.nd)))))))))
      (dss_one (ds_ret (de_var 2))))), ?_⟩)
  rintro ds g Q ⟨S, us, w, rfl, hS, ⟨hb, hl⟩, hu, q⟩
  refine ⟨rfl, fun a m wx wy ar ha r hr => ⟨_, _, rfl, ?_⟩⟩
  have har := gne gup_same hr
  have nr : g r = none := by rw [gup_ne har.symm] at hr; exact hr
  refine ⟨_, rfl, _, rfl, fun i Γ g' => ∃ (c : Addr) (p : Pn) (t : Int) (sts : List Addr) (x4 : Option D), Γ = [some (.adr S), some (dW w), some (.adr c), some (.adr r), x4] ∧ JI K g g' r w i c p t sts,
    ⟨a, p0, 0, [], none, rfl, ((GX.refl g).mut ha).mut nr, ⟨m, wx, wy, ar, (gup_ne har).trans gup_same⟩, rfl, gup_same, rfl, Nat.le_refl _, ⟨by decide, fun q hq => absurd hq List.not_mem_nil⟩, p0_ok, hb, rfl⟩, fun _ _ _ _ _ => trivial, ?_, ?_⟩
  · rintro i x Γ g' hx ⟨c, p, t, sts, x4, rfl, J⟩
    obtain ⟨s, hs, rfl⟩ := map_of hx
    have hi := (List.getElem?_eq_some_iff.mp hs).1
    obtain ⟨m, wx, wy, ar, hc⟩ := id J.sm
    have hbl := J.bl
    rw [drop_of hs] at hbl
    have hle := J.le
    have bd : Bd p.x ∧ Bd p.y := by
      obtain ⟨⟨b1, b2, b3, b4⟩, _⟩ := J.bd
      exact ⟨⟨by omega, by omega⟩, ⟨by omega, by omega⟩⟩
    cases s with
    | L j =>
      obtain ⟨u, hu1, hu2⟩ := hu j (List.mem_of_getElem? hs)
      walk_at "go"
      refine ⟨_, _, rfl, hc, rfl, ?_⟩
      walk_at "go"
      refine ⟨.adr u, fIx_l (J.gx _ _ hS) (atI_nat (by rw [List.getElem?_map, hu1] <;> rfl)), c, u, p.x, p.y, t, rfl, J.sm, J.gx _ _ hu2, bd, fun pp m wx wy ar hp => ⟨pp, _, _, sts, _, rfl, J.new nr hs rfl hbl ?_ ?_ hp J.hd⟩⟩
      · show _ = p.x + rx 1 0 p.h
        rw [← J.hd, (r1_mod t).1]
      · show _ = p.y + ry 1 0 p.h
        rw [← J.hd, (r1_mod t).2]
    | op =>
      walk_at "go"
      refine ⟨⟨_, _, rfl, J.ls⟩, ?_⟩
      have hcr : c ≠ r := fun e => by rw [e, J.ls] at hc; cases hc
      have stl := J.st.length
      have rn := J.rn
      rw [drop_of hs] at rn
      walk_at "go"
      refine ⟨r, _, _, rfl, rfl, J.ls, ?_, c, p.step .op, t, c :: sts, _, rfl, J.gx.mut nr, ⟨m, wx, wy, ar, (gup_ne hcr).trans hc⟩, J.hd, ?_, ⟨p.x, p.y, p.h, t, p.st, rfl, ⟨m, wx, wy, ar, (gup_ne hcr).trans hc⟩, J.hd, J.st.mutL J.ls⟩, by show p.st.length + 1 ≤ i + 1; omega, J.bd.step .op, J.ok.step .op, hbl, rn⟩
      · rw [List.length_map, List.length_reverse]
        have : sizeLine = 16777216 := sizeLine_eq
        omega
      · rw [gup_same, List.reverse_cons, List.map_append]
        rfl
    | cl =>
      walk_at "go"
      refine ⟨_, _, rfl, hc, rfl, ?_⟩
      have hst := J.st
      have hok := J.ok.step .cl
      have hbd := J.bd.step .cl
      have rn := J.rn
      rw [drop_of hs] at rn
      have rn : run p0 w = run (p.mark .cl) (w.drop (i + 1)) := rn
      cases e : p.st with
      | nil =>
        rw [e] at hbl
        cases hbl
      | cons q0 tl =>
        obtain ⟨qx, qy, qh⟩ := q0
        have em : p.mark .cl = ⟨qx, qy, qh, tl⟩ := by
          unfold Pn.mark
          rw [e]
        have hok : PnOk (p.mark .cl) := hok
        have hbd : PnBd (p.mark .cl) ((i : Int) + 1) := hbd
        rw [em] at hok hbd rn
        rw [e] at hst hbl hle
        cases sts with
        | nil => cases (show _ = [] from hst)
        | cons a' sr =>
          obtain ⟨x', y', h', t', s', e', ⟨m', wx', wy', ar', ha'⟩, ht', hst'⟩ := hst
          cases e'
          have hl := J.ls
          rw [List.reverse_cons, List.map_append] at hl
          have har' : a' ≠ r := fun z => by rw [z, J.ls] at ha'; cases ha'
          have hcr : c ≠ r := fun e => by rw [e, J.ls] at hc; cases hc
          have hle2 : tl.length + 1 ≤ i := hle
          walk_at "go"
          refine ⟨⟨_, _, rfl, J.ls⟩, r, _, _, rfl, rfl, hl, c, a', p.x, p.y, t, qx, qy, t', rfl, ⟨m, wx, wy, ar, (gup_ne hcr).trans hc⟩, ⟨m', wx', wy', ar', (gup_ne har').trans ha'⟩, fun pp m wx wy ar hp => ⟨pp, ⟨qx, qy, qh, tl⟩, t', sr, _, rfl, ?_⟩⟩
          exact JI.mk2 (p2 := ⟨qx, qy, qh, tl⟩) (J.gx.mut nr) gup_same (hst'.mutL J.ls) (by show tl.length ≤ i + 1; omega) hbd hok hbl rn hp ht'
    | tl =>
      walk_at "go"
      refine ⟨_, _, rfl, hc, rfl, _, rfl, c, p.x, p.y, t, J.sm, .inl ⟨rfl, fun pp m wx wy ar hp => ⟨pp, _, _, sts, _, rfl, J.new nr hs rfl hbl rfl rfl hp ?_⟩⟩⟩
      show (t + 1) % 4 = (p.h + 1) % 4
      rw [← J.hd]
      omega
    | tr =>
      walk_at "go"
      refine ⟨_, _, rfl, hc, rfl, _, rfl, c, p.x, p.y, t, J.sm, .inr ⟨rfl, fun pp m wx wy ar hp => ⟨pp, _, _, sts, _, rfl, J.new nr hs rfl hbl rfl rfl hp ?_⟩⟩⟩
      show (t + -1) % 4 = (p.h + 3) % 4
      rw [← J.hd]
      omega
  · rintro Γ g' ⟨c, p, t, sts, x4, rfl, J⟩
    have h7 := J.rn
    rw [List.length_map, List.drop_length] at h7
    have h7 : run p0 w = p := h7
    rw [h7] at q
    exact ⟨_, rfl, q c g' t J.gx J.sm J.hd⟩
end
end SW
set_option Elab.async false
set_option linter.all false
set_option maxRecDepth 100000
set_option maxHeartbeats 4000000
namespace SW
open PySem PySem.Spec PyProof.Rows L2 DL
local macro_rules | `(tactic| walk_at "cond") => `(tactic| first | (show (0 : Int) < _; decide) | (show (0 : Int) < _; omega) | assumption | (refine Bd.mul ?_; assumption) | (refine Or.inl ⟨?_, ?_⟩ <;> omega) | (refine Or.inr ⟨?_, ?_⟩ <;> omega) | decide)
local macro_rules | `(tactic| walk_at "go1") => `(tactic| first
  | refine ⟨_, rfl, ?_⟩
  | refine ⟨_, _, rfl, rfl, by walk_at "cond", ?_⟩
  | refine ⟨_, _, rfl, rfl, ?_⟩
  | refine ⟨_, _, rfl, ?_⟩
  | refine ⟨rfl, ?_⟩
  | refine iteT ?_
  | refine iteF ?_
  | refine ⟨_, _, _, rfl, ?_⟩
  | refine ⟨(by decide +kernel : _ = true), ?_⟩
  | refine iteT' (decide_eq_true (by omega)) ?_
  | refine iteF' (decide_eq_false (by omega)) ?_
  | (dsimp only; refine iteT' (by simp only [decide_eq_true_eq, Bool.not_eq_true', decide_eq_false_iff_not]; omega) ?_)
  | (dsimp only; refine iteF' (by simp only [decide_eq_true_eq, Bool.not_eq_false', decide_eq_false_iff_not]; omega) ?_))
local macro_rules | `(tactic| walk_at "go") => `(tactic| repeat walk_at "go1")
abbrev flAges (b : Bk) (R : Addr) : List (Str × D) := [("book", dB b), ("rows", .adr R)]
/-- each word's end -/
def EndsL (K : PySem.W.Frag) (g : G) : List (List It) → List Addr → Prop
  | [], us => us = []
  | w :: r, us => ∃ u t s, us = u :: s ∧ SumP K g u (run p0 w).x (run p0 w).y t ∧ t % 4 = (run p0 w).h ∧ EndsL K g r s
theorem EndsL.gx {K : PySem.W.Frag} {g g' : G} (e : GX g g') : ∀ {ws : List (List It)} {us : List Addr}, EndsL K g ws us → EndsL K g' ws us
  | [], _, h => h
  | _ :: _, _, h => by
    obtain ⟨u, t, s, rfl, h1, h2, h3⟩ := h
    exact ⟨u, t, s, rfl, h1.gx e, h2, EndsL.gx e h3⟩
theorem EndsL.append {K : PySem.W.Frag} {g : G} : ∀ {ws vs : List (List It)} {us xs : List Addr}, EndsL K g ws us → EndsL K g vs xs → EndsL K g (ws ++ vs) (us ++ xs)
  | [], _, _, _, h, k => by
    cases (show _ = [] from h)
    exact k
  | _ :: _, _, _, _, h, k => by
    obtain ⟨u, t, s, rfl, h1, h2, h3⟩ := h
    exact ⟨u, t, _, rfl, h1, h2, EndsL.append h3 k⟩
theorem EndsL.at {K : PySem.W.Frag} {g : G} : ∀ {ws : List (List It)} {us : List Addr} {i : Nat} {w : List It}, EndsL K g ws us → ws[i]? = some w → ∃ u t, us[i]? = some u ∧ SumP K g u (run p0 w).x (run p0 w).y t ∧ t % 4 = (run p0 w).h
  | [], _, _, _, h, e => by simp at e
  | v :: _, _, 0, w, h, e => by
    obtain ⟨u, t, s, rfl, h1, h2, h3⟩ := h
    have : v = w := by simpa using e
    subst this
    exact ⟨u, t, rfl, h1, h2⟩
  | _ :: _, _, i + 1, w, h, e => by
    obtain ⟨u, t, s, rfl, h1, h2, h3⟩ := h
    exact EndsL.at (i := i) h3 (by simpa using e)
theorem EndsL.mutL {K : PySem.W.Frag} {g : G} {r : Addr} {l : List D} {o : GO} (hr : g r = some (.lst l)) : ∀ {ws : List (List It)} {us : List Addr}, EndsL K g ws us → EndsL K (gup g r o) ws us
  | [], _, h => h
  | _ :: _, _, h => by
    obtain ⟨u, t, s, rfl, ⟨m, wx, wy, ar, h1⟩, h2, h3⟩ := h
    have : u ≠ r := fun e => by rw [e, hr] at h1; cases h1
    exact ⟨u, t, s, rfl, ⟨m, wx, wy, ar, (gup_ne this).trans h1⟩, h2, EndsL.mutL hr h3⟩
section
variable (K : PySem.W.Frag)
def φ_Ages_init : DSp := fun ds g Q => ∃ a b, ds = [.adr a, dB b, .int 1] ∧ g a = some (.ins (C_Ages K) []) ∧ OkB b ∧
  ∀ g' R r0 us r1, (∀ x o, x ≠ a → g x = some o → g' x = some o) → g' a = some (.ins (C_Ages K) (flAges b R)) → g' R = some (.lst [.adr r0, .adr r1]) → g' r1 = some (.lst (us.map D.adr)) → EndsL K g' b.ws us → Q .non g'
/-- each letter that comes has a word that ends there, heading as it began -/
def EvenB (b : Bk) (mx my : Int) : Prop := ∀ l, Reach b l → (run p0 (b.ws.getD l [])).x = mx ∧ (run p0 (b.ws.getD l [])).y = my ∧ (run p0 (b.ws.getD l [])).h = 0
def φ_is_still : DSp := fun ds g Q => ∃ b, ds = [dB b] ∧ OkB b ∧ Few b ∧ (∃ mx my, EvenB b mx my) ∧ ∀ g', GX g g' → Q (.bl true) g'
theorem len_is_still (ds : List D) (g : G) (Q : DK) (h : φ_is_still ds g Q) : ds.length = P_is_still.length := by
  obtain ⟨_, rfl, _⟩ := h
  rfl
def φ_multiple_of : DSp := fun ds g Q => ∃ b mx my, ds = [dB b] ∧ OkB b ∧ Few b ∧ EvenB b mx my ∧ ∀ g', GX g g' → Q (dP mx my) g'
theorem len_multiple_of (ds : List D) (g : G) (Q : DK) (h : φ_multiple_of ds g Q) : ds.length = P_multiple_of.length := by
  obtain ⟨_, _, _, rfl, _⟩ := h
  rfl
def φ_longer : DSp := fun ds g Q => ∃ b mx my, ds = [dB b] ∧ OkB b ∧ Few b ∧ EvenB b mx my ∧ (Bd mx ∧ Bd my) ∧ 2 ≤ mx * mx + my * my ∧ ∀ g', GX g g' → Q (dP mx my) g'
theorem len_longer (ds : List D) (g : G) (Q : DK) (h : φ_longer ds g Q) : ds.length = P_longer.length := by
  obtain ⟨_, _, _, rfl, _⟩ := h
  rfl
theorem len_Ages___init__ (ds : List D) (g : G) (Q : DK) (h : φ_Ages_init K ds g Q) : ds.length = P_Ages___init__.length := by
  obtain ⟨_, _, rfl, _⟩ := h
  rfl
end
section
variable {P : Program} {w : World} {K : PySem.W.Frag} {mg : Str → Option Value} {base : Heap}
theorem d_Ages___init__ (T : Txt K mg) {f : Addr} {fd : FuncData} (F : FnT K "__init__" "Ages.__init__" s_Ages___init__ f fd) (hm : mg "Ages" = some (.ref (C_Ages K))) (hc : Mk K (C_Ages K) f)
    (H_Sum___init__ : MakeD P w K mg base 1 (C_Sum K) "Sum" (φ_Sum_init K))
    (H_joined : CallD P w K mg base 4 "joined" (φ_joined K)) : MakeD P w K mg base 5 (C_Ages K) "Ages" (φ_Ages_init K) := by
  refine makeD F hm hc (ps := P_Ages___init__) (fun _ _ _ _ _ _ us hl => match us, hl with | [_, _, _], _ => rfl) (okD F sc_Ages___init__ (by first | exact len_Ages___init__ | exact len_Ages___init__ _) fun cdv A outer s H E hr => ⟨_, (dss_cons (ds_setf T.cAges T.aAges_book (de_var 0) (de_var 1))
      (dss_cons (ds_setf T.cAges T.aAges_rows (de_var 0) (de_lst (da_cons (de_lc (own := [("letter", 3)]) (di_range (de_callB call_len simC_len T.n_len (by decide +kernel) (da_cons (de_ix (de_var 1) de_int) da_nil)) T.n_range) sc_Ages___init__.nd (blkOk_by (N := N_Ages___init__) (sc := defScope s_Ages___init__) (by decide +kernel)) (fun _ _ _ _ _ => (dgo_name 3 sc_Ages___init__.nd)) (fun _ _ _ _ _ => dts_nil) (fun _ _ _ _ _ => (de_make H_Sum___init__ (hr.mono (by decide)) (da_cons de_int (da_cons (de_ix (de_glob T.gHEADINGS) de_int) (da_cons de_int (da_cons (de_ix (de_glob T.gHEADINGS) de_int) (da_cons de_int da_nil)))))))) da_nil)))
      (dss_one (ds_for (di_range (de_var 2) T.n_range) (dg_name 4 sc_Ages___init__.nd) (dss_one (ds_expr (de_append (de_fld T.cAges T.aAges_rows (de_var 0)) (de_lc (own := [("word", 5)]) (di_tup (de_ix (de_var 1) de_int)) sc_Ages___init__.nd (blkOk_by (N := N_Ages___init__) (sc := defScope s_Ages___init__) (by decide +kernel)) (fun _ _ _ _ _ => (dgo_name 5 sc_Ages___init__.nd)) (fun _ _ _ _ _ => dts_nil) (fun _ _ _ _ _ => (de_call H_joined (hr.mono (by decide)) (da_cons (de_ix (de_fld T.cAges T.aAges_rows (de_var 0)) (de_un un_neg simU_neg de_int)) (da_cons (de_var 5) da_nil)))))))))))), ?_⟩)
  rintro ds g Q ⟨a, b, rfl, ha, hb, q⟩
  refine ⟨_, rfl, _, rfl, a, _, rfl, ha, lt1000 rfl, ?_⟩
  have h3 : (b.ws.map dW).length = b.ws.length := List.length_map _
  have n8 := hb.n8
  have sz : sizeLine = 16777216 := sizeLine_eq
  walk_at "go"
  refine ⟨⟨by omega, by omega⟩, ?_⟩
  have ga0 : gup g a (.ins (C_Ages K) (putD ("book" : Str) (dB b) [])) a = some (.ins (C_Ages K) [("book", dB b)]) := gup_same
  have gx0 : ∀ x o, x ≠ a → g x = some o → gup g a (.ins (C_Ages K) (putD ("book" : Str) (dB b) [])) x = some o := fun x o hx h => (gup_ne hx).trans h
  generalize gup g a (.ins (C_Ages K) (putD ("book" : Str) (dB b) [])) = gA at ga0 gx0 ⊢
  intro c hc
  have hac := gne ga0 hc
  refine ⟨by rw [rng_len]; omega, fun j acc g2 => ∃ us : List Addr, acc = us.map D.adr ∧ us.length = j ∧ (∀ u ∈ us, Unit1 K g2 u) ∧ GX gA g2 ∧ g2 c = some (.lst acc), ⟨[], rfl, rfl, fun _ h => absurd h List.not_mem_nil, GX.new hc, gup_same⟩, fun j acc g2 _ h => ?_, ?_, ?_⟩
  · obtain ⟨_, _, _, _, _, h⟩ := h
    exact ⟨trivial, h⟩
  · rintro j x acc g2 hx ⟨us, rfl, hl, hu, hg, h1⟩
    walk_at "go"
    intro y hy
    have hcy := gne h1 hy
    refine ⟨y, 1, 1, 0, 0, 1, 0, 0, rfl, gup_same, rfl, ?_⟩
    rw [gup_gup]
    have hu2 : ∀ u ∈ us, u ≠ c := fun u hu' e => by
      have := hu u hu'
      rw [e] at this
      unfold Unit1 at this
      rw [h1] at this
      cases this
    refine ⟨(gup_ne hcy).trans h1, us ++ [y], by rw [List.map_append]; rfl, by rw [List.length_append, hl]; rfl, fun u hu' => ?_, (hg.trans (GX.new hy)).mut hc, gup_same⟩
    rcases List.mem_append.mp hu' with h | h
    · have h2 := hu u h
      exact (gup_ne (hu2 u h)).trans ((gup_ne (gne h2 hy)).trans h2)
    · rw [List.mem_singleton.mp h]
      exact (gup_ne hcy.symm).trans gup_same
  · rintro acc g2 ⟨us, rfl, hl, hu, hg, h1⟩
    rw [rng_len, h3] at hl
    intro R hR
    have hcR := gne h1 hR
    have g2a := hg _ _ ga0
    have haR := gne g2a hR
    refine ⟨_, rfl, a, _, rfl, (gup_ne haR).trans g2a, lt1000 rfl, ?_⟩
    have hca : c ≠ a := fun e => by rw [e, g2a] at h1; cases h1
    have gBa : gup (gup g2 R (.lst [.adr c])) a (.ins (C_Ages K) (flAges b R)) a = some (.ins (C_Ages K) (flAges b R)) := gup_same
    have gBR : gup (gup g2 R (.lst [.adr c])) a (.ins (C_Ages K) (flAges b R)) R = some (.lst [.adr c]) := (gup_ne haR.symm).trans gup_same
    have gBc : gup (gup g2 R (.lst [.adr c])) a (.ins (C_Ages K) (flAges b R)) c = some (.lst (us.map D.adr)) := (gup_ne hca).trans ((gup_ne hcR).trans h1)
    have gBu : ∀ u ∈ us, Unit1 K (gup (gup g2 R (.lst [.adr c])) a (.ins (C_Ages K) (flAges b R))) u := fun u hu' => by
      have h2 := hu u hu'
      have hua : u ≠ a := fun e => by
        rw [e] at h2
        unfold Unit1 at h2
        rw [g2a] at h2
        have := congrArg (fun o => match o with | some (GO.ins C fs) => fs.length | _ => 0) h2
        cases this
      exact (gup_ne hua).trans ((gup_ne (gne h2 hR)).trans h2)
    have gBx : ∀ x o, x ≠ a → g x = some o → gup (gup g2 R (.lst [.adr c])) a (.ins (C_Ages K) (flAges b R)) x = some o := fun x o hx h => by
      have h2 := hg _ _ (gx0 x o hx h)
      exact (gup_ne hx).trans ((gup_ne (gne h2 hR)).trans h2)
    rw [show putD ("rows" : Str) (.adr R) [(("book" : Str), dB b)] = flAges b R from rfl]
    generalize gup (gup g2 R (.lst [.adr c])) a (.ins (C_Ages K) (flAges b R)) = gB at gBa gBR gBc gBu gBx ⊢
    refine ⟨_, rfl, 1, rfl, ⟨by decide, by decide⟩, fun i Γ g3 => ∃ x4 : Option D, Γ = [some (.adr a), some (dB b), some (.int 1), none, x4, none] ∧ ((i = 0 ∧ g3 = gB) ∨ (i = 1 ∧ ∃ r1 vs, (∀ x o, x ≠ a → g x = some o → g3 x = some o) ∧ g3 a = some (.ins (C_Ages K) (flAges b R)) ∧ g3 R = some (.lst [.adr c, .adr r1]) ∧ g3 r1 = some (.lst (vs.map D.adr)) ∧ EndsL K g3 b.ws vs)),
      ⟨none, rfl, .inl ⟨rfl, rfl⟩⟩, fun _ _ _ _ _ => trivial, ?_, ?_⟩
    · rintro i x Γ g3 hx ⟨x4, rfl, ⟨rfl, rfl⟩ | ⟨rfl, _⟩⟩
      · refine ⟨_, rfl, _, _, _, rfl, gBa, rfl, ⟨_, _, rfl, gBR⟩, _, rfl, _, rfl, _, rfl, ?_⟩
        intro r1 hr1
        have har := gne gBa hr1
        have hRr := gne gBR hr1
        have hcr := gne gBc hr1
        refine ⟨by rw [h3]; omega, fun j acc g4 => ∃ vs : List Addr, acc = vs.map D.adr ∧ EndsL K g4 (b.ws.take j) vs ∧ GX g3 g4 ∧ g4 r1 = some (.lst acc), ⟨[], rfl, rfl, GX.new hr1, gup_same⟩, fun j acc g4 _ h => ?_, ?_, ?_⟩
        · obtain ⟨_, _, _, _, h⟩ := h
          exact ⟨trivial, h⟩
        · rintro j x acc g4 hx ⟨vs, rfl, hE, hg4, h4⟩
          obtain ⟨w, hw, rfl⟩ := map_of hx
          have hwo := hb.ws w (List.mem_of_getElem? hw)
          refine ⟨_, rfl, _, _, _, rfl, hg4 _ _ gBa, rfl, _, rfl, .adr c, fIx_l (hg4 _ _ gBR) rfl, _, rfl, c, us, w, rfl, hg4 _ _ gBc, ⟨hwo.bal, by have := hwo.le; omega⟩, fun l hl' => ?_, fun p g5 t e5 hp ht => ?_⟩
          · have hlt : l < us.length := by rw [hl]; exact hwo.lt l hl'
            exact ⟨us[l], List.getElem?_eq_getElem hlt, hg4 _ _ (gBu _ (List.getElem_mem hlt))⟩
          · have h5 := e5 _ _ h4
            refine ⟨h5, vs ++ [p], by rw [List.map_append]; rfl, ?_, (hg4.trans e5).mut hr1, gup_same⟩
            rw [List.take_add_one, hw]
            refine EndsL.append ((hE.gx e5).mutL h5) ?_
            obtain ⟨m, wx, wy, ar, hp⟩ := hp
            have hpr : p ≠ r1 := fun e => by rw [e, h5] at hp; cases hp
            exact ⟨p, t, [], rfl, ⟨m, wx, wy, ar, (gup_ne hpr).trans hp⟩, ht, rfl⟩
        · rintro acc g4 ⟨vs, rfl, hE, hg4, h4⟩
          rw [h3, List.take_length] at hE
          have hRr1 : R ≠ r1 := hRr
          have hRa : R ≠ a := fun e => haR e.symm
          refine ⟨R, _, _, rfl, rfl, hg4 _ _ gBR, by show 1 < sizeLine; decide, some x, rfl, .inr ⟨rfl, r1, vs, fun x o hx h => ?_, (gup_ne haR).trans (hg4 _ _ gBa), gup_same, (gup_ne hRr1.symm).trans h4, hE.mutL (hg4 _ _ gBR)⟩⟩
          have h6 := gBx x o hx h
          have : x ≠ R := gne (hg _ _ (gx0 x o hx h)) hR
          exact (gup_ne this).trans (hg4 _ _ h6)
      · have hi := (List.getElem?_eq_some_iff.mp hx).1
        rw [rng_len] at hi
        exact absurd hi (by decide)
    · rintro Γ g3 ⟨x4, rfl, ⟨h0, _⟩ | ⟨_, r1, vs, e1, e2, e3, e4, e5⟩⟩
      · rw [rng_len] at h0
        cases h0
      · exact q g3 R c vs r1 e1 e2 e3 e4 e5
theorem d_is_still (T : Txt K mg) {f : Addr} {fd : FuncData} (F : FnT K "is_still" "is_still" s_is_still f fd) (hm : mg "is_still" = some (.ref f))
    (H_Ages___init__ : MakeD P w K mg base 5 (C_Ages K) "Ages" (φ_Ages_init K))
    (H_letters_that_come : CallD P w K mg base 2 "letters_that_come" φ_letters_that_come) : CallD P w K mg base 7 "is_still" φ_is_still := by
  refine callD F hm (ps := P_is_still) (fun _ _ _ _ _ _ us hl => match us, hl with | [_], _ => rfl) (okD F sc_is_still (by first | exact len_is_still | exact len_is_still _) fun cdv A outer s H E hr => ⟨_, (dss_cons (ds_set 1 (de_ix (de_fld T.cAges T.aAges_rows (de_make H_Ages___init__ (hr.mono (by decide)) (da_cons (de_var 0) (da_cons de_int da_nil)))) de_int) sc_is_still.nd)
      (dss_one (ds_ret (de_cmp (op_eqD hr.units) simR_eqL (de_lc (own := [("letter", 2)]) (di_keysI (de_call H_letters_that_come (hr.mono (by decide)) (da_cons (de_var 0) da_nil))) sc_is_still.nd (blkOk_by (N := N_is_still) (sc := defScope s_is_still) (by decide +kernel)) (fun _ _ _ _ _ => (dgo_name 2 sc_is_still.nd)) (fun _ _ _ _ _ => (dts_one (db_cmp op_ne simR_ne (de_op op_mod simR_I (de_fld T.cSum T.aSum_turns (de_ix (de_var 1) (de_var 2))) de_int) de_int))) (fun _ _ _ _ _ => (de_var 2))) (de_lst da_nil))))), ?_⟩)
  rintro ds g Q ⟨b, rfl, hb, hf, ⟨mx, my, hE⟩, q⟩
  refine ⟨_, rfl, fun a ha => ⟨a, b, rfl, gup_same, hb, fun g1 R r0 us r1 e1 h1 h2 h3 h4 => ⟨rfl, ?_⟩⟩⟩
  have x1 : GX g g1 := fun x o h => e1 x o (gne h ha) ((gup_ne (gne h ha)).trans h)
  refine ⟨_, _, _, rfl, h1, rfl, .adr r1, fIx_l h2 rfl, ?_⟩
  refine ⟨_, rfl, b, rfl, hb, hf, fun kv hkv A gA eA nA hA => ⟨A, kv, rfl, hA, ?_⟩⟩
  obtain ⟨ks, ms, k1, k2, k3, k4, k5, k6⟩ := hkv
  have eW : GX g1 (gup gA A (.wI kv)) := eA.mut nA
  have klen : kv.length = ks.length := by
    have := congrArg List.length k1
    unfold nI at this
    rw [List.length_map, List.length_map] at this
    exact this
  have k8 : ks.length ≤ b.ws.length := nodup_le (pw_nodup k3) fun l hl => ((k4 l).mp hl).lt hb
  have n8 := hb.n8
  have sz : sizeLine = 16777216 := sizeLine_eq
  refine lc_pure (fun _ => false) id (by rw [List.length_map]; omega) (fun _ _ _ => trivial) (fun c i x acc N hc hx n1 n2 => ?_) (fun c hc => ?_)
  · obtain ⟨p, hp, rfl⟩ := map_of hx
    have hmem : p.1 ∈ kv.map Prod.fst := List.mem_map.mpr ⟨p, List.mem_of_getElem? hp, rfl⟩
    rw [k1] at hmem
    obtain ⟨l, hl, e⟩ := mem_nI.mp hmem
    have hr := (k4 l).mp hl
    have hlt := hr.lt hb
    obtain ⟨u, t, hu, ⟨m, wx, wy, ar, hs⟩, ht⟩ := h4.at (List.getElem?_eq_getElem hlt)
    have ew : b.ws.getD l [] = b.ws[l] := by rw [List.getD_eq_getElem?_getD, List.getElem?_eq_getElem hlt] <;> rfl
    have h0 := (hE l hr).2.2
    rw [ew] at h0
    rw [h0] at ht
    rw [e]
    have gs := eW _ _ hs
    have gr := eW _ _ h3
    refine ⟨_, rfl, _, rfl, .adr u, fIx_l ((gup_ne (gne gr hc)).trans gr) (atI_nat (by rw [List.getElem?_map, hu] <;> rfl)), _, _, _, rfl, (gup_ne (gne gs hc)).trans gs, rfl, ?_⟩
    walk_at "go"
    exact n1 rfl
  · intro z hz
    have hcz : c ≠ z := gne gup_same hz
    have efl : (List.filter (fun _ : D => false) (kv.map fun p => D.int p.1)).map id = [] := by
      rw [List.map_id]
      exact List.filter_eq_nil_iff.mpr fun _ _ => by decide
    rw [efl] at hz ⊢
    exact ⟨c, z, _, _, rfl, rfl, (gup_ne hcz).trans gup_same, gup_same, rfl, rfl, q _ (((x1.trans eW).trans (GX.new hc)).trans (GX.new hz))⟩
theorem d_multiple_of (T : Txt K mg) {f : Addr} {fd : FuncData} (F : FnT K "multiple_of" "multiple_of" s_multiple_of f fd) (hm : mg "multiple_of" = some (.ref f))
    (H_Ages___init__ : MakeD P w K mg base 5 (C_Ages K) "Ages" (φ_Ages_init K))
    (H_is_still : CallD P w K mg base 7 "is_still" φ_is_still)
    (H_letters_that_come : CallD P w K mg base 2 "letters_that_come" φ_letters_that_come) : CallD P w K mg base 8 "multiple_of" φ_multiple_of := by
  refine callD F hm (ps := P_multiple_of) (fun _ _ _ _ _ _ us hl => match us, hl with | [_], _ => rfl) (okD F sc_multiple_of (by first | exact len_multiple_of | exact len_multiple_of _) fun cdv A outer s H E hr => ⟨_, (dss_cons (ds_if (db_not (db_val (de_call H_is_still (hr.mono (by decide)) (da_cons (de_var 0) da_nil)))) (dss_one (ds_ret de_non)) dss_nil)
      (dss_cons (ds_set 1 (de_ix (de_fld T.cAges T.aAges_rows (de_make H_Ages___init__ (hr.mono (by decide)) (da_cons (de_var 0) (da_cons de_int da_nil)))) de_int) sc_multiple_of.nd)
      (dss_cons (ds_set 2 (de_sortSet1 (de_lc (own := [("letter", 3)]) (di_keysI (de_call H_letters_that_come (hr.mono (by decide)) (da_cons (de_var 0) da_nil))) sc_multiple_of.nd (blkOk_by (N := N_multiple_of) (sc := defScope s_multiple_of) (by decide +kernel)) (fun _ _ _ _ _ => (dgo_name 3 sc_multiple_of.nd)) (fun _ _ _ _ _ => dts_nil) (fun _ _ _ _ _ => (de_fld T.cSum T.aSum_end (de_ix (de_var 1) (de_var 3))))) (u65 hr) T.n_sorted T.n_set) sc_multiple_of.nd)
      (dss_one (ds_ret (de_if (db_cmp op_eq simR_eq (de_callB call_len simC_len T.n_len (by decide +kernel) (da_cons (de_var 2) da_nil)) de_int) (de_ix (de_var 2) de_int) de_non)))))), ?_⟩)
  rintro ds g Q ⟨b, mx, my, rfl, hb, hf, hE, q⟩
  refine ⟨_, rfl, b, rfl, hb, hf, ⟨mx, my, hE⟩, fun g0 e0 => ⟨_, rfl, iteF' rfl ?_⟩⟩
  refine ⟨_, rfl, fun a ha => ⟨a, b, rfl, gup_same, hb, fun g1 R r0 us r1 e1 h1 h2 h3 h4 => ⟨rfl, ?_⟩⟩⟩
  have x1 : GX g0 g1 := fun x o h => e1 x o (gne h ha) ((gup_ne (gne h ha)).trans h)
  refine ⟨_, _, _, rfl, h1, rfl, .adr r1, fIx_l h2 rfl, ?_⟩
  refine ⟨_, rfl, b, rfl, hb, hf, fun kv hkv A gA eA nA hA => ⟨A, kv, rfl, hA, ?_⟩⟩
  obtain ⟨ks, ms, k1, k2, k3, k4, k5, k6⟩ := hkv
  have eW : GX g1 (gup gA A (.wI kv)) := eA.mut nA
  have klen : kv.length = ks.length := by
    have := congrArg List.length k1
    unfold nI at this
    rw [List.length_map, List.length_map] at this
    exact this
  have k8 : ks.length ≤ b.ws.length := nodup_le (pw_nodup k3) fun l hl => ((k4 l).mp hl).lt hb
  have kpos : 0 < ks.length := List.length_pos_iff.mpr k5
  have n8 := hb.n8
  have sz : sizeLine = 16777216 := sizeLine_eq
  refine lc_map (fun _ => dP mx my) (by rw [List.length_map]; omega) (fun _ _ _ => trivial) (fun c i x acc N hc hx hN => ?_) (fun c hc => ?_)
  · obtain ⟨p, hp, rfl⟩ := map_of hx
    have hmem : p.1 ∈ kv.map Prod.fst := List.mem_map.mpr ⟨p, List.mem_of_getElem? hp, rfl⟩
    rw [k1] at hmem
    obtain ⟨l, hl, e⟩ := mem_nI.mp hmem
    have hr := (k4 l).mp hl
    have hlt := hr.lt hb
    obtain ⟨u, t, hu, ⟨m, wx, wy, ar, hs⟩, ht⟩ := h4.at (List.getElem?_eq_getElem hlt)
    have ew : b.ws.getD l [] = b.ws[l] := by rw [List.getD_eq_getElem?_getD, List.getElem?_eq_getElem hlt] <;> rfl
    obtain ⟨hx1, hy1, _⟩ := hE l hr
    rw [ew] at hx1 hy1
    rw [hx1, hy1] at hs
    rw [e]
    have gs := eW _ _ hs
    have gr := eW _ _ h3
    exact ⟨_, rfl, _, rfl, .adr u, fIx_l ((gup_ne (gne gr hc)).trans gr) (atI_nat (by rw [List.getElem?_map, hu] <;> rfl)), _, _, _, rfl, (gup_ne (gne gs hc)).trans gs, rfl, lc_yes hN⟩
  · refine ⟨c, kv.length - 1, mx, my, rfl, ?_, by omega, fun p hp => ?_⟩
    · rw [gup_same, List.map_map]
      have : kv.length - 1 + 1 = kv.length := by omega
      rw [this]
      congr 2
      exact List.map_const' ..
    · have gp : gup (gup (gup gA A (.wI kv)) c (.lst ((kv.map fun p => D.int p.1).map fun _ => dP mx my))) p (.lst [.tup [.int mx, .int my]]) p = some (.lst [dP mx my]) := gup_same
      refine ⟨_, rfl, _, 1, rfl, fLen_l gp, _, rfl, _, rfl, iteT' rfl ⟨_, rfl, .tup [.int mx, .int my], fIx_l gp rfl, ?_⟩⟩
      exact q _ ((((e0.trans x1).trans eW).trans (GX.new hc)).trans (GX.new hp))
theorem d_longer (T : Txt K mg) {f : Addr} {fd : FuncData} (F : FnT K "longer" "longer" s_longer f fd) (hm : mg "longer" = some (.ref f))
    (H_multiple_of : CallD P w K mg base 8 "multiple_of" φ_multiple_of)
    (H_size : CallD P w K mg base 1 "size" φ_size) : CallD P w K mg base 9 "longer" φ_longer := by
  refine callD F hm (ps := P_longer) (fun _ _ _ _ _ _ us hl => match us, hl with | [_], _ => rfl) (okD F sc_longer (by first | exact len_longer | exact len_longer _) fun cdv A outer s H E hr => ⟨_, (dss_cons (ds_set 1 (de_call H_multiple_of (hr.mono (by decide)) (da_cons (de_var 0) da_nil)) sc_longer.nd)
      (dss_cons (ds_if (dw_or (db_cmp op_isN simR_isN (de_var 1) de_non) (dw_or1 (db_cmp op_lt simR_B (de_call H_size (hr.mono (by decide)) (da_cons (de_var 1) da_nil)) de_int))).db (dss_one ds_never) dss_nil)
      (dss_one (ds_ret (de_var 1))))), ?_⟩)
  rintro ds g Q ⟨b, mx, my, rfl, hb, hf, hE, hm, h2, q⟩
  refine ⟨_, rfl, b, mx, my, rfl, hb, hf, hE, fun g' e => ?_⟩
  walk_at "go"
  refine ⟨hm, _, rfl, _, rfl, iteF' (decide_eq_false (by omega)) ?_⟩
  exact ⟨_, rfl, q g' e⟩
end
end SW
set_option Elab.async false
set_option linter.all false
set_option maxRecDepth 100000
set_option maxHeartbeats 4000000
namespace SW
open PySem PySem.Spec PyProof.Rows L2 DL
local macro_rules | `(tactic| walk_at "cond") => `(tactic| first | (show (0 : Int) < _; decide) | (show (0 : Int) < _; omega) | assumption | (refine Bd.mul ?_; assumption) | (refine Or.inl ⟨?_, ?_⟩ <;> omega) | (refine Or.inr ⟨?_, ?_⟩ <;> omega) | decide)
local macro_rules | `(tactic| walk_at "go1") => `(tactic| first
  | refine ⟨_, rfl, ?_⟩
  | refine ⟨_, _, rfl, rfl, by walk_at "cond", ?_⟩
  | refine ⟨_, _, rfl, rfl, ?_⟩
  | refine ⟨_, _, rfl, ?_⟩
  | refine ⟨rfl, ?_⟩
  | refine iteT ?_
  | refine iteF ?_
  | refine ⟨_, _, _, rfl, ?_⟩
  | refine ⟨(by decide +kernel : _ = true), ?_⟩
  | refine iteT' (decide_eq_true (by omega)) ?_
  | refine iteF' (decide_eq_false (by omega)) ?_
  | (dsimp only; refine iteT' (by simp only [decide_eq_true_eq, Bool.not_eq_true', decide_eq_false_iff_not]; omega) ?_)
  | (dsimp only; refine iteF' (by simp only [decide_eq_true_eq, Bool.not_eq_false', decide_eq_false_iff_not]; omega) ?_))
local macro_rules | `(tactic| walk_at "go") => `(tactic| repeat walk_at "go1")
/-- a stroke and its end lie within r (squared) -/
def InR (r : Int) (s : Stk) : Prop := s.x * s.x + s.y * s.y ≤ r ∧ (s.x + rx 1 0 s.h) * (s.x + rx 1 0 s.h) + (s.y + ry 1 0 s.h) * (s.y + ry 1 0 s.h) ≤ r
/-- the farness of a book -/
def FarOk (b : Bk) (m2 : Int) (W : Nat) (f : Nat) : Prop := ∃ wd : Nat, wd ≤ W ∧ (∀ l, Reach b l → ∀ s ∈ strokes (b.ws.getD l []), InR (wd * wd) s) ∧ 2 ≤ f ∧ (f + 2 * wd) * (f + 2 * wd) < m2 * f * f ∧ ∀ k : Nat, 2 ≤ k → k < f → m2 * k * k ≤ (k + 2 * wd) * (k + 2 * wd)
/-- what far_enough asks -/
structure FarQ (b : Bk) (mx my : Int) (W : Nat) : Prop where
  ok : OkB b
  few : Few b
  w40 : W ≤ 40
  bd : (-1000 ≤ mx ∧ mx ≤ 1000) ∧ -1000 ≤ my ∧ my ≤ 1000
  two : 2 ≤ mx * mx + my * my
  inr : ∀ l, Reach b l → ∀ s ∈ strokes (b.ws.getD l []), InR (W * W) s
def φ_far_enough : DSp := fun ds g Q => ∃ b mx my W, ds = [dB b, dP mx my] ∧ FarQ b mx my W ∧ ∀ f, FarOk b (mx * mx + my * my) W f → ∀ g', GX g g' → Q (.int (f : Nat)) g'
theorem len_far_enough (ds : List D) (g : G) (Q : DK) (h : φ_far_enough ds g Q) : ds.length = P_far_enough.length := by
  obtain ⟨_, _, _, _, rfl, _⟩ := h
  rfl
section
variable {P : Program} {w : World} {K : PySem.W.Frag} {mg : Str → Option Value} {base : Heap}
theorem d_far_enough (T : Txt K mg) {f : Addr} {fd : FuncData} (F : FnT K "far_enough" "far_enough" s_far_enough f fd) (hm : mg "far_enough" = some (.ref f))
    (H_least_root : CallD P w K mg base 1 "least_root" φ_least_root)
    (H_letters_that_come : CallD P w K mg base 2 "letters_that_come" φ_letters_that_come)
    (H_plus : CallD P w K mg base 1 "plus" (pF fPlus))
    (H_size : CallD P w K mg base 1 "size" φ_size)
    (H_strokes_of : CallD P w K mg base 3 "strokes_of" φ_strokes_of) : CallD P w K mg base 4 "far_enough" φ_far_enough := by
  refine callD F hm (ps := P_far_enough) (fun _ _ _ _ _ _ us hl => match us, hl with | [_, _], _ => rfl) (okD F sc_far_enough (by first | exact len_far_enough | exact len_far_enough _) fun cdv A outer s H E hr => ⟨_, (dss_cons (ds_set 2 de_int sc_far_enough.nd)
      (dss_cons (ds_for (di_keysI (de_call H_letters_that_come (hr.mono (by decide)) (da_cons (de_var 0) da_nil))) (dg_name 3 sc_far_enough.nd) (dss_one (ds_for (di_list (de_call H_strokes_of (hr.mono (by decide)) (da_cons (de_ix (de_ix (de_var 0) de_int) (de_var 3)) da_nil))) (dg_name 4 sc_far_enough.nd) (dss_one (ds_set 2 (de_callB (call_max3Nu rfl) simC_max3 T.n_max (by decide +kernel) (da_cons (de_var 2) (da_cons (de_call H_size (hr.mono (by decide)) (da_cons (de_slT (de_var 4) do_none (do_some de_int)) da_nil)) (da_cons (de_call H_size (hr.mono (by decide)) (da_cons (de_call H_plus (hr.mono (by decide)) (da_cons (de_slT (de_var 4) do_none (do_some de_int)) (da_cons (de_ix (de_glob T.gHEADINGS) (de_ix (de_var 4) de_int)) da_nil))) da_nil)) da_nil)))) sc_far_enough.nd)))))
      (dss_cons (ds_par 5 6 (da_cons (de_call H_least_root (hr.mono (by decide)) (da_cons (de_var 2) da_nil)) (da_cons de_int da_nil)) sc_far_enough.nd)
      (dss_cons (ds_while (db_cmp op_le simR_B (de_op op_mul simR_I (de_op op_mul simR_I (de_call H_size (hr.mono (by decide)) (da_cons (de_var 1) da_nil)) (de_var 6)) (de_var 6)) (de_op op_mul simR_I (de_op op_add simR_I0 (de_var 6) (de_op op_mul simR_I de_int (de_var 5))) (de_op op_add simR_I0 (de_var 6) (de_op op_mul simR_I de_int (de_var 5))))) (dss_one (ds_aug 6 iop_add simR_I0 de_int sc_far_enough.nd)))
      (dss_one (ds_ret (de_var 6))))))), ?_⟩)
  rintro ds g Q ⟨b, mx, my, W, rfl, F, q⟩
  refine ⟨_, rfl, b, rfl, F.ok, F.few, fun kv hkv A gA eA nA hA => ⟨A, kv, rfl, hA, ?_⟩⟩
  obtain ⟨ks, ms, k1, k2, k3, k4, k5, k6⟩ := hkv
  have eW : GX g (gup gA A (.wI kv)) := eA.mut nA
  have sz : sizeLine = 16777216 := sizeLine_eq
  have w40 := F.w40
  have ww : W * W ≤ 40 * 40 := Nat.mul_le_mul w40 w40
  refine ⟨fun i Γ g' => ∃ (r : Nat) (x3 x4 x5 x6 : Option D), Γ = [some (dB b), some (dP mx my), some (.int r), x3, x4, x5, x6] ∧ GX g g' ∧ r ≤ W * W ∧ ∀ l ∈ ks.take i, ∀ s ∈ strokes (b.ws.getD l []), InR r s,
    ⟨0, none, none, none, none, rfl, eW, Nat.zero_le _, fun l h => by simp at h⟩, fun _ _ _ _ _ => trivial, ?_, ?_⟩
  · rintro i x Γ g' hx ⟨r, x3, x4, x5, x6, rfl, hg, hr, hin⟩
    obtain ⟨p, hp, rfl⟩ := map_of hx
    have hki : (nI ks)[i]? = some p.1 := by rw [← k1, List.getElem?_map, hp] <;> rfl
    obtain ⟨l, hl, e⟩ := map_of hki
    have hrl := (k4 l).mp (List.mem_of_getElem? hl)
    have hlt := hrl.lt F.ok
    have ew : b.ws.getD l [] = b.ws[l] := by rw [List.getD_eq_getElem?_getD, List.getElem?_eq_getElem hlt] <;> rfl
    have hwo := F.ok.ws _ (List.getElem_mem hlt)
    rw [e]
    refine ⟨_, rfl, _, rfl, _, rfl, _, atI_nat (by rw [List.getElem?_map, List.getElem?_eq_getElem hlt] <;> rfl), b.ws[l], rfl, hwo.bal, by have := hwo.le; omega, fun po g1 e1 npo hpo => ⟨po, _, rfl, hpo, ?_⟩⟩
    refine ⟨fun j Γ g2 => ∃ (r : Nat) (x4 : Option D), Γ = [some (dB b), some (dP mx my), some (.int r), some (.int l), x4, x5, x6] ∧ GX g g2 ∧ g2 po = some (.lst ((strokes b.ws[l]).map dS)) ∧ r ≤ W * W ∧ (∀ l ∈ ks.take i, ∀ s ∈ strokes (b.ws.getD l []), InR r s) ∧ ∀ s ∈ (strokes b.ws[l]).take j, InR r s,
      ⟨r, x4, rfl, hg.trans e1, hpo, hr, hin, fun s h => by simp at h⟩, fun j Γ g2 _ h => ?_, ?_, ?_⟩
    · obtain ⟨_, _, _, _, h, _⟩ := h
      exact h
    · rintro j x Γ g2 hx ⟨r, x4, rfl, hg2, h1, hr, hin, hin2⟩
      obtain ⟨s, hs, rfl⟩ := map_of hx
      have hsm := List.mem_of_getElem? hs
      have hInW := F.inr l hrl s (by rw [ew]; exact hsm)
      have hh := (strokes_hd b.ws[l] p0_ok s hsm).1
      have hW0 : (0 : Int) ≤ W := by omega
      obtain ⟨⟨a1, a2⟩, a3, a4⟩ := abs_of_sum hW0 hInW.1
      obtain ⟨⟨b1, b2⟩, b3, b4⟩ := abs_of_sum hW0 hInW.2
      have w1600 : (W : Int) * W ≤ W * W := Int.le_refl _
      have c1 := sq_nn s.x
      have c2 := sq_nn s.y
      obtain ⟨r2, hr2⟩ : ∃ r2 : Nat, (r2 : Int) = max (max (r : Int) (s.x * s.x + s.y * s.y)) ((s.x + rx 1 0 s.h) * (s.x + rx 1 0 s.h) + (s.y + ry 1 0 s.h) * (s.y + ry 1 0 s.h)) := ⟨(max (max (r : Int) (s.x * s.x + s.y * s.y)) ((s.x + rx 1 0 s.h) * (s.x + rx 1 0 s.h) + (s.y + ry 1 0 s.h) * (s.y + ry 1 0 s.h))).toNat, by omega⟩
      walk_at "go"
      refine ⟨⟨⟨by omega, by omega⟩, by omega, by omega⟩, ?_⟩
      walk_at "go"
      refine ⟨_, head_ix hh, ?_⟩
      walk_at "go"
      refine ⟨⟨⟨by omega, by omega⟩, by omega, by omega⟩, ?_⟩
      walk_at "go"
      rw [← hr2]
      have up : ∀ s', InR r s' → InR r2 s' := fun s' h => ⟨by have := h.1; omega, by have := h.2; omega⟩
      have hInW1 := hInW.1
      have hInW2 := hInW.2
      have cast : ((W * W : Nat) : Int) = (W : Int) * W := by simp
      refine ⟨r2, _, rfl, hg2, h1, by omega, fun l' hl' s' hs' => up s' (hin l' hl' s' hs'), fun s' hs' => ?_⟩
      rw [List.take_add_one, hs, List.mem_append] at hs'
      rcases hs' with h | h
      · exact up s' (hin2 s' h)
      · have : s' = s := by simpa using h
        rw [this]
        exact ⟨by omega, by omega⟩
    · rintro Γ g2 ⟨r, x4, rfl, hg2, h1, hr, hin, hin2⟩
      rw [List.length_map, List.take_length] at hin2
      refine ⟨r, _, _, _, _, rfl, hg2, hr, fun l' hl' => ?_⟩
      rw [List.take_add_one, hl, List.mem_append] at hl'
      rcases hl' with h | h
      · exact hin l' h
      · have : l' = l := by simpa using h
        subst this
        rw [ew]
        exact hin2
  · rintro Γ g' ⟨r, x3, x4, x5, x6, rfl, hg, hr, hin⟩
    walk_at "go"
    refine ⟨by omega, fun wd hwd1 hwd2 => ?_⟩
    have hwW : wd ≤ W := by
      apply Nat.not_lt.mp
      intro z
      have := hwd2 W z
      omega
    have hinr : ∀ l, Reach b l → ∀ s ∈ strokes (b.ws.getD l []), InR (wd * wd) s := fun l hl s hs => by
      have hlk : l ∈ ks := (k4 l).mpr hl
      have len : ks.length = kv.length := by
        have := congrArg List.length k1
        unfold nI at this
        rw [List.length_map, List.length_map] at this
        exact this.symm
      have h := hin l (by rw [List.length_map, ← len, List.take_length]; exact hlk) s hs
      have c : ((wd * wd : Nat) : Int) = (wd : Int) * wd := by simp
      exact ⟨by have := h.1; omega, by have := h.2; omega⟩
    obtain ⟨⟨m1, m2⟩, m3, m4⟩ := F.bd
    have two := F.two
    have bmx : Bd mx := ⟨by omega, by omega⟩
    have bmy : Bd my := ⟨by omega, by omega⟩
    have mm1 : mx * mx ≤ 1000000 := by
      have := sq_nn mx
      have e : (1000 - mx) * (1000 + mx) = 1000000 - mx * mx := by grind
      have := Int.mul_nonneg (show 0 ≤ 1000 - mx by omega) (show 0 ≤ 1000 + mx by omega)
      omega
    have mm2 : my * my ≤ 1000000 := by
      have := sq_nn my
      have e : (1000 - my) * (1000 + my) = 1000000 - my * my := by grind
      have := Int.mul_nonneg (show 0 ≤ 1000 - my by omega) (show 0 ≤ 1000 + my by omega)
      omega
    generalize hm2 : mx * mx + my * my = m2 at *
    refine ⟨_, _, rfl, fun Γ g2 => ∃ v : Nat, Γ = [some (dB b), some (dP mx my), some (.int r), x3, x4, some (.int wd), some (.int v)] ∧ g2 = g' ∧ 2 ≤ v ∧ v ≤ 5 * wd + 2 ∧ ∀ k : Nat, 2 ≤ k → k < v → m2 * k * k ≤ (k + 2 * wd) * (k + 2 * wd), fun Γ _ => (match Γ with
        | [_, _, _, _, _, _, some (.int v)] => 1000 - v.toNat
        | _ => 0), ⟨2, rfl, rfl, Nat.le_refl _, by omega, fun k h1 h2 => by omega⟩, ?_⟩
    rintro Γ g2 ⟨v, rfl, rfl, hv2, hv5, hk⟩
    have cm1 : CMul m2 (v : Int) := .inl ⟨by omega, by omega⟩
    have v202 : (v : Int) ≤ 202 := by omega
    have hmv : m2 * (v : Int) ≤ 2000000 * 202 := Int.mul_le_mul (by omega) v202 (by omega) (by omega)
    have hmv0 : 0 ≤ m2 * (v : Int) := Int.mul_nonneg (by omega) (by omega)
    have cm2 : CMul (m2 * (v : Int)) (v : Int) := .inl ⟨by omega, by omega⟩
    have cm3 : CMul 2 (wd : Int) := .inl ⟨by decide, by decide⟩
    have cm4 : CMul ((v : Int) + 2 * wd) ((v : Int) + 2 * wd) := .inl ⟨by omega, by omega⟩
    refine ⟨_, rfl, mx, my, rfl, ⟨bmx, bmy⟩, ?_⟩
    rw [hm2]
    refine ⟨_, rfl, _, _, rfl, rfl, cm1, _, rfl, _, _, rfl, rfl, cm2, _, rfl, _, rfl, _, _, rfl, rfl, cm3, _, rfl, _, rfl, _, rfl, _, _, rfl, rfl, cm3, _, rfl, _, _, rfl, rfl, cm4, _, rfl, _, rfl, iteB (fun hc => ?_) (fun hc => ?_)⟩
    · have hc := of_decide_eq_true hc
      have hlt : v < 5 * wd + 2 := by
        apply Nat.lt_of_le_of_ne hv5
        intro e
        have ev : (v : Int) = 5 * wd + 2 := by omega
        rw [ev] at hc
        have h1 : 2 * (5 * (wd : Int) + 2) * (5 * wd + 2) ≤ m2 * (5 * (wd : Int) + 2) * (5 * wd + 2) := Int.mul_le_mul_of_nonneg_right (Int.mul_le_mul_of_nonneg_right two (by omega)) (by omega)
        have e1 : 2 * (5 * (wd : Int) + 2) * (5 * wd + 2) = 50 * (wd * wd) + 40 * wd + 8 := by grind
        have e2 : (5 * (wd : Int) + 2 + 2 * wd) * (5 * wd + 2 + 2 * wd) = 49 * (wd * wd) + 28 * wd + 4 := by grind
        have := sq_nn (wd : Int)
        omega
      refine ⟨_, rfl, _, rfl, ⟨v + 1, rfl, rfl, by omega, by omega, fun k h1 h2 => ?_⟩, ?_⟩
      · by_cases hkv : k < v
        · exact hk k h1 hkv
        · have : k = v := by omega
          subst this
          exact hc
      · show 1000 - ((v : Int) + 1).toNat < 1000 - (v : Int).toNat
        omega
    · have hc := of_decide_eq_false hc
      exact ⟨_, rfl, q v ⟨wd, hwW, hinr, hv2, by omega, hk⟩ g2 hg⟩
end
end SW
set_option Elab.async false
set_option linter.all false
set_option maxRecDepth 100000
set_option maxHeartbeats 4000000
namespace SW
open PySem PySem.Spec PyProof.Rows L2 DL
local macro_rules | `(tactic| walk_at "cond") => `(tactic| first | (show (0 : Int) < _; decide) | (show (0 : Int) < _; omega) | assumption | (refine Bd.mul ?_; assumption) | (refine Or.inl ⟨?_, ?_⟩ <;> omega) | (refine Or.inr ⟨?_, ?_⟩ <;> omega) | decide)
local macro_rules | `(tactic| walk_at "go1") => `(tactic| first
  | refine ⟨_, rfl, ?_⟩
  | refine ⟨_, _, rfl, rfl, by walk_at "cond", ?_⟩
  | refine ⟨_, _, rfl, rfl, ?_⟩
  | refine ⟨_, _, rfl, ?_⟩
  | refine ⟨rfl, ?_⟩
  | refine iteT ?_
  | refine iteF ?_
  | refine ⟨_, _, _, rfl, ?_⟩
  | refine ⟨(by decide +kernel : _ = true), ?_⟩
  | refine iteT' (decide_eq_true (by omega)) ?_
  | refine iteF' (decide_eq_false (by omega)) ?_
  | (dsimp only; refine iteT' (by simp only [decide_eq_true_eq, Bool.not_eq_true', decide_eq_false_iff_not]; omega) ?_)
  | (dsimp only; refine iteF' (by simp only [decide_eq_true_eq, Bool.not_eq_false', decide_eq_false_iff_not]; omega) ?_))
local macro_rules | `(tactic| walk_at "go") => `(tactic| repeat walk_at "go1")
theorem dget_app {κ : Type} [DecidableEq κ] {a c : List (κ × D)} {k : κ} {d : D} (h : dgetD a k = some d) : dgetD (a ++ c) k = some d := by
  induction a with
  | nil => cases h
  | cons p r ih =>
    rw [dget_cons] at h
    rw [List.cons_append, dget_cons]
    by_cases e : p.1 = k
    · rw [if_pos e] at h ⊢
      exact h
    · rw [if_neg e] at h ⊢
      exact ih h
theorem dget_app_none {κ : Type} [DecidableEq κ] {a c : List (κ × D)} {k : κ} (h : dgetD a k = none) : dgetD (a ++ c) k = dgetD c k := by
  induction a with
  | nil => rfl
  | cons p r ih =>
    rw [dget_cons] at h
    rw [List.cons_append, dget_cons]
    by_cases e : p.1 = k
    · rw [if_pos e] at h
      cases h
    · rw [if_neg e] at h ⊢
      exact ih h
section
variable (K : PySem.W.Frag)
def φ_Web_init : DSp := fun ds g Q => ∃ a b mx my W, ds = [.adr a, dB b, dP mx my] ∧ g a = some (.ins (C_Web K) []) ∧ FarQ b mx my W ∧
  ∀ f g', FarOk b (mx * mx + my * my) W f → (∀ x o, x ≠ a → g x = some o → g' x = some o) → (∀ L, (∀ l ∈ L, Reach b l) → WebAt K g' a b mx my (f : Nat) L) → Q .non g'
theorem len_Web___init__ (ds : List D) (g : G) (Q : DK) (h : φ_Web_init K ds g Q) : ds.length = P_Web___init__.length := by
  obtain ⟨_, _, _, _, _, rfl, _⟩ := h
  rfl
end
def OkP (px py k : Int) : Prop := (-1000 ≤ px ∧ px ≤ 1000 ∧ -1000 ≤ py ∧ py ≤ 1000) ∧ 0 ≤ k ∧ k ≤ 3
def φ_need_both : DSp := fun ds g Q => ∃ b v px py k mx my, ds = [dB b, dW v, dP px py, .int k] ∧ OkB b ∧ Few b ∧ OkW b.ws.length v ∧ OkP px py k ∧ OkB ⟨b.ws, b.st ++ v⟩ ∧ Few ⟨b.ws, b.st ++ v⟩ ∧ EvenB b mx my ∧ EvenB ⟨b.ws, b.st ++ v⟩ mx my ∧ (Bd mx ∧ Bd my) ∧ 2 ≤ mx * mx + my * my ∧ ∀ g', GX g g' → Q (dP mx my) g'
theorem len_need_both (ds : List D) (g : G) (Q : DK) (h : φ_need_both ds g Q) : ds.length = P_need_both.length := by
  obtain ⟨_, _, _, _, _, _, _, rfl, _⟩ := h
  rfl
section
variable {P : Program} {w : World} {K : PySem.W.Frag} {mg : Str → Option Value} {base : Heap}
theorem d_Web___init__ (T : Txt K mg) {f : Addr} {fd : FuncData} (F : FnT K "__init__" "Web.__init__" s_Web___init__ f fd) (hm : mg "Web" = some (.ref (C_Web K))) (hc : Mk K (C_Web K) f)
    (H_far_enough : CallD P w K mg base 4 "far_enough" φ_far_enough)
    (H_letters_that_come : CallD P w K mg base 2 "letters_that_come" φ_letters_that_come)
    (H_strokes_of : CallD P w K mg base 3 "strokes_of" φ_strokes_of) : MakeD P w K mg base 5 (C_Web K) "Web" (φ_Web_init K) := by
  refine makeD F hm hc (ps := P_Web___init__) (fun _ _ _ _ _ _ us hl => match us, hl with | [_, _, _], _ => rfl) (okD F sc_Web___init__ (by first | exact len_Web___init__ | exact len_Web___init__ _) fun cdv A outer s H E hr => ⟨_, (dss_cons (ds_setf T.cWeb T.aWeb_book (de_var 0) (de_var 1))
      (dss_cons (ds_setf T.cWeb T.aWeb_move (de_var 0) (de_var 2))
      (dss_cons (ds_setf T.cWeb T.aWeb_far (de_var 0) (de_call H_far_enough (hr.mono (by decide)) (da_cons (de_var 1) (da_cons (de_var 2) da_nil))))
      (dss_one (ds_setf T.cWeb T.aWeb_words (de_var 0) (de_dc (own := [("letter", 3)]) (di_keysI (de_call H_letters_that_come (hr.mono (by decide)) (da_cons (de_var 1) da_nil))) sc_Web___init__.nd (blkOk_by (N := N_Web___init__) (sc := defScope s_Web___init__) (by decide +kernel)) (fun _ _ _ _ _ => (dgo_name 3 sc_Web___init__.nd)) (fun _ _ _ _ _ => dts_nil) (fun _ _ _ _ _ => (de_var 3)) (fun _ _ _ _ _ => (de_call H_strokes_of (hr.mono (by decide)) (da_cons (de_ix (de_ix (de_var 1) de_int) (de_var 3)) da_nil))))))))), ?_⟩)
  rintro ds g Q ⟨a, b, mx, my, W, rfl, ha, F, q⟩
  refine ⟨_, rfl, _, rfl, a, _, rfl, ha, lt1000 rfl, _, rfl, _, rfl, a, _, rfl, gup_same, lt1000 rfl, ?_⟩
  rw [gup_gup]
  rw [show putD ("move" : Str) (dP mx my) (putD ("book" : Str) (dB b) []) = [(("book" : Str), dB b), (("move" : Str), dP mx my)] from rfl]
  have ga0 : gup g a (.ins (C_Web K) [(("book" : Str), dB b), (("move" : Str), dP mx my)]) a = some (.ins (C_Web K) [(("book" : Str), dB b), (("move" : Str), dP mx my)]) := gup_same
  have gx0 : ∀ x o, x ≠ a → g x = some o → gup g a (.ins (C_Web K) [(("book" : Str), dB b), (("move" : Str), dP mx my)]) x = some o := fun x o hx h => (gup_ne hx).trans h
  generalize gup g a (.ins (C_Web K) [(("book" : Str), dB b), (("move" : Str), dP mx my)]) = gA at ga0 gx0 ⊢
  refine ⟨_, rfl, _, rfl, b, mx, my, W, rfl, F, fun f hf g1 e1 => ⟨_, rfl, a, _, rfl, e1 _ _ ga0, lt1000 rfl, ?_⟩⟩
  rw [show putD ("far" : Str) (.int (f : Nat)) [(("book" : Str), dB b), (("move" : Str), dP mx my)] = [(("book" : Str), dB b), (("move" : Str), dP mx my), (("far" : Str), .int (f : Nat))] from rfl]
  have gb0 : gup g1 a (.ins (C_Web K) [(("book" : Str), dB b), (("move" : Str), dP mx my), (("far" : Str), .int (f : Nat))]) a = some (.ins (C_Web K) [(("book" : Str), dB b), (("move" : Str), dP mx my), (("far" : Str), .int (f : Nat))]) := gup_same
  have gx1 : ∀ x o, x ≠ a → g x = some o → gup g1 a (.ins (C_Web K) [(("book" : Str), dB b), (("move" : Str), dP mx my), (("far" : Str), .int (f : Nat))]) x = some o := fun x o hx h => (gup_ne hx).trans (e1 _ _ (gx0 x o hx h))
  generalize gup g1 a (.ins (C_Web K) [(("book" : Str), dB b), (("move" : Str), dP mx my), (("far" : Str), .int (f : Nat))]) = gB at gb0 gx1 ⊢
  refine ⟨_, rfl, b, rfl, F.ok, F.few, fun kv hkv A gA2 eA nA hA => ⟨A, kv, rfl, hA, ?_⟩⟩
  obtain ⟨ks, ms, k1, k2, k3, k4, k5, k6⟩ := hkv
  have eW : GX gB (gup gA2 A (.wI kv)) := eA.mut nA
  have sz : sizeLine = 16777216 := sizeLine_eq
  have klen : kv.length = ks.length := by
    have := congrArg List.length k1
    unfold nI at this
    rw [List.length_map, List.length_map] at this
    exact this
  have k8 : ks.length ≤ b.ws.length := nodup_le (pw_nodup k3) fun l hl => ((k4 l).mp hl).lt F.ok
  have n8 := F.ok.n8
  intro c hc
  have gWa := eW _ _ gb0
  have hac := gne gWa hc
  refine ⟨by rw [List.length_map]; omega, fun i acc g2 => GX gB g2 ∧ g2 c = some (.dI acc) ∧ acc.length ≤ i ∧ (∀ l : Nat, (l : Int) ∈ acc.map Prod.fst ↔ l ∈ ks.take i) ∧ ∀ l ∈ ks.take i, ∃ p, dgetD acc (l : Int) = some (.adr p) ∧ g2 p = some (.lst ((strokes (b.ws.getD l [])).map dS)),
    ⟨eW.trans (GX.new hc), gup_same, Nat.le_refl _, fun l => by simp, fun l h => by simp at h⟩, fun i acc g2 _ h => ⟨trivial, h.2.1⟩, ?_, ?_⟩
  · rintro i x acc g2 hx ⟨hg, h1, h2, h3, h4⟩
    obtain ⟨p, hp, rfl⟩ := map_of hx
    have hki : (nI ks)[i]? = some p.1 := by rw [← k1, List.getElem?_map, hp] <;> rfl
    obtain ⟨l, hl, e⟩ := map_of hki
    have hrl := (k4 l).mp (List.mem_of_getElem? hl)
    have hlt := hrl.lt F.ok
    have ew : b.ws.getD l [] = b.ws[l] := by rw [List.getD_eq_getElem?_getD, List.getElem?_eq_getElem hlt] <;> rfl
    have hwo := F.ok.ws _ (List.getElem_mem hlt)
    rw [e]
    walk_at "go"
    refine ⟨_, atI_nat (by rw [List.getElem?_map, List.getElem?_eq_getElem hlt] <;> rfl), b.ws[l], rfl, hwo.bal, by have := hwo.le; omega, fun q5 g5 e5 nq hq => ⟨l, rfl, e5 _ _ h1, h2, ?_⟩⟩
    have hnot : (l : Int) ∉ acc.map Prod.fst := by
      rw [h3]
      intro z
      obtain ⟨j, ej⟩ := List.mem_iff_getElem?.mp z
      have hj := (List.getElem?_eq_some_iff.mp ej).1
      rw [List.length_take] at hj
      rw [List.getElem?_take_of_lt (by omega)] at ej
      have := (List.getElem?_inj (by omega) (pw_nodup k3)).mp (ej.trans hl.symm)
      omega
    have hqc : q5 ≠ c := gne' h1 nq |>.symm |> fun z => fun e => z (by rw [e])
    rw [dput_new hnot]
    refine ⟨(hg.trans e5).mut ((eW.free hc)), gup_same, by rw [List.length_append, List.length_singleton]; omega, fun l' => ?_, fun l' hl' => ?_⟩
    · rw [List.map_append, List.mem_append, h3, List.take_add_one, hl, List.mem_append]
      simp only [List.map_cons, List.map_nil, List.mem_singleton, Option.toList]
      exact or_congr Iff.rfl ⟨fun h => by omega, fun h => by rw [h]⟩
    · rw [List.take_add_one, hl, List.mem_append] at hl'
      rcases hl' with h | h
      · obtain ⟨p', d1, d2⟩ := h4 l' h
        have hpc : p' ≠ c := fun e => by rw [e, h1] at d2; cases d2
        exact ⟨p', dget_app d1, (gup_ne hpc).trans (e5 _ _ d2)⟩
      · have : l' = l := by simpa using h
        subst this
        refine ⟨q5, ?_, (gup_ne hqc).trans (by rw [ew]; exact hq)⟩
        rw [dget_app_none (by
          have := dget_some (kvs := acc) (k := (l' : Int))
          rw [decide_eq_false hnot] at this
          exact Option.not_isSome_iff_eq_none.mp (by rw [this]; decide)), dget_cons, if_pos rfl]
  · rintro acc g2 ⟨hg, h1, h2, h3, h4⟩
    rw [List.length_map, klen, List.take_length] at h3 h4
    have g2a := hg _ _ gb0
    have hca : c ≠ a := fun e => hac e.symm
    refine ⟨_, rfl, a, _, rfl, g2a, lt1000 rfl, q f _ hf (fun x o hx h => (gup_ne hx).trans (hg _ _ (gx1 x o hx h))) fun L hL => ⟨c, acc, gup_same, (gup_ne hca).trans h1, fun l hl => ?_⟩⟩
    obtain ⟨p', d1, d2⟩ := h4 l ((k4 l).mpr (hL l hl))
    have hpa : p' ≠ a := fun e => by rw [e, g2a] at d2; cases d2
    exact ⟨p', d1, (gup_ne hpa).trans d2⟩
theorem d_need_both (T : Txt K mg) {f : Addr} {fd : FuncData} (F : FnT K "need_both" "need_both" s_need_both f fd) (hm : mg "need_both" = some (.ref f))
    (H_letters_of : CallD P w K mg base 1 "letters_of" φ_letters_of)
    (H_longer : CallD P w K mg base 9 "longer" φ_longer)
    (H_need_book : CallD P w K mg base 4 "need_book" φ_need_book)
    (H_need_number : CallD P w K mg base 2 "need_number" φ_need_number)
    (H_need_place : CallD P w K mg base 2 "need_place" φ_need_place)
    (H_need_word : CallD P w K mg base 4 "need_word" φ_need_word) : CallD P w K mg base 10 "need_both" φ_need_both := by
  refine callD F hm (ps := P_need_both) (fun _ _ _ _ _ _ us hl => match us, hl with | [_, _, _, _], _ => rfl) (okD F sc_need_both (by first | exact len_need_both | exact len_need_both _) fun cdv A outer s H E hr => ⟨_, (dss_cons (ds_expr (de_call H_need_book (hr.mono (by decide)) (da_cons (de_var 0) da_nil)))
      (dss_cons (ds_expr (de_call H_need_word (hr.mono (by decide)) (da_cons (de_callB call_len simC_len T.n_len (by decide +kernel) (da_cons (de_ix (de_var 0) de_int) da_nil)) (da_cons (de_var 1) da_nil))))
      (dss_cons (ds_expr (de_call H_need_place (hr.mono (by decide)) (da_cons (de_var 2) da_nil)))
      (dss_cons (ds_expr (de_call H_need_number (hr.mono (by decide)) (da_cons (de_var 3) (da_cons de_int (da_cons de_int da_nil)))))
      (dss_cons (ds_expr (de_call H_longer (hr.mono (by decide)) (da_cons (de_var 0) da_nil)))
      (dss_one (ds_ret (de_call H_longer (hr.mono (by decide)) (da_cons (de_call H_letters_of (hr.mono (by decide)) (da_cons (de_var 0) (da_cons (de_var 1) da_nil))) da_nil))))))))), ?_⟩)
  rintro ds g Q ⟨b, v, px, py, k, mx, my, rfl, hb, hf, hv, ⟨hp, hk⟩, hb2, hf2, hE, hE2, hm, h2, q⟩
  refine ⟨_, rfl, b, rfl, hb, fun g1 e1 => ?_⟩
  have h3 : (b.ws.map dW).length = b.ws.length := List.length_map _
  walk_at "go"
  refine ⟨by rw [h3]; exact hv, fun g2 e2 => ?_⟩
  have l1 := hb.st.le
  have l2 := hv.le
  refine ⟨_, rfl, px, py, rfl, hp, ?_⟩
  refine ⟨_, rfl, k, 0, 3, rfl, hk, ?_⟩
  refine ⟨_, rfl, b, mx, my, rfl, hb, hf, hE, hm, h2, fun g3 e3 => ?_⟩
  refine ⟨_, rfl, _, rfl, b, v, rfl, Nat.ble_eq_true_of_le (by omega), ⟨b.ws, b.st ++ v⟩, mx, my, rfl, hb2, hf2, hE2, hm, h2, fun g4 e4 => ?_⟩
  exact q g4 (((e1.trans e2).trans e3).trans e4)
end
end SW
set_option Elab.async false
set_option linter.all false
set_option maxRecDepth 100000
set_option maxHeartbeats 4000000
namespace SW
open PySem PySem.Spec PyProof.Rows L2 DL
local macro_rules | `(tactic| walk_at "cond") => `(tactic| first | (show (0 : Int) < _; decide) | (show (0 : Int) < _; omega) | assumption | (refine Bd.mul ?_; assumption) | (refine Or.inl ⟨?_, ?_⟩ <;> omega) | (refine Or.inr ⟨?_, ?_⟩ <;> omega) | decide)
local macro_rules | `(tactic| walk_at "go1") => `(tactic| first
  | refine ⟨_, rfl, ?_⟩
  | refine ⟨_, _, rfl, rfl, by walk_at "cond", ?_⟩
  | refine ⟨_, _, rfl, rfl, ?_⟩
  | refine ⟨_, _, rfl, ?_⟩
  | refine ⟨rfl, ?_⟩
  | refine iteT ?_
  | refine iteF ?_
  | refine ⟨_, _, _, rfl, ?_⟩
  | refine ⟨(by decide +kernel : _ = true), ?_⟩
  | refine iteT' (decide_eq_true (by omega)) ?_
  | refine iteF' (decide_eq_false (by omega)) ?_
  | (dsimp only; refine iteT' (by simp only [decide_eq_true_eq, Bool.not_eq_true', decide_eq_false_iff_not]; omega) ?_)
  | (dsimp only; refine iteF' (by simp only [decide_eq_true_eq, Bool.not_eq_false', decide_eq_false_iff_not]; omega) ?_))
local macro_rules | `(tactic| walk_at "go") => `(tactic| repeat walk_at "go1")
abbrev both (b : Bk) (v : List It) : Bk := ⟨b.ws, b.st ++ v⟩
/-- the start's pairs -/
def prs0 (b : Bk) (v : List It) (px py k f : Int) : List Pr := kidsOf f (strokes b.st) ((strokes v).map (laidS px py k))
/-- all pairs that may come -/
structure UOk (b : Bk) (mx my f : Int) (prs U : List Pr) : Prop where
  len : U.length ≤ 20000
  st : ∀ p ∈ prs, p ∈ U
  kd : ∀ p ∈ U, ∀ c ∈ kids b.ws mx my f p, c ∈ U
  rc : ∀ p ∈ U, Reach b p.a ∧ Reach b p.b
  wl : ∀ p ∈ U, (b.ws.getD p.a []).length ≤ 25 ∧ (b.ws.getD p.b []).length ≤ 25
  bd : ∀ p ∈ U, ∀ o ∈ laidW b.ws mx my p.a 0 0 0, ∀ s ∈ laidW b.ws mx my p.b p.x p.y p.t, Bd (pairOf o s).x ∧ Bd (pairOf o s).y
structure SideQ (b : Bk) (v : List It) (px py k mx my : Int) (W : Nat) : Prop where
  ok : OkB b
  few : Few b
  okw : OkW b.ws.length v
  okp : OkP px py k
  ok2 : OkB (both b v)
  few2 : Few (both b v)
  ev : EvenB b mx my
  ev2 : EvenB (both b v) mx my
  far : FarQ (both b v) mx my W
  nb : ∀ o ∈ strokes b.st, ∀ s ∈ (strokes v).map (laidS px py k), Bd (pairOf o s).x ∧ Bd (pairOf o s).y
  f6 : ∀ f, FarOk (both b v) (mx * mx + my * my) W f → f ≤ 1000000
  uu : ∀ f, FarOk (both b v) (mx * mx + my * my) W f → ∃ U, UOk (both b v) mx my (f : Nat) (prs0 b v px py k (f : Nat)) U
def NNf (b : Bk) (v : List It) (px py k mx my : Int) (f : Nat) : Nat → Pr → Prop := NN (prs0 b v px py k f) (kids b.ws mx my f)
def φ_side_web : DSp := fun ds g Q => ∃ b v px py k mx my W, ds = [dB b, dW v, dP px py, .int k] ∧ SideQ b v px py k mx my W ∧
  ∀ f kvs, FarOk (both b v) (mx * mx + my * my) W f → WebRes (NNf b v px py k mx my f) kvs → ∀ p g', GX g g' → g p = none → g' p = some (.dT kvs) → Q (.adr p) g'
theorem len_side_web (ds : List D) (g : G) (Q : DK) (h : φ_side_web ds g Q) : ds.length = P_side_web.length := by
  obtain ⟨_, _, _, _, _, _, _, _, rfl, _⟩ := h
  rfl
/-- the least age of those that have it -/
def LeastAge (nn : Nat → Pr → Prop) (c : Pr → Bool) : Option Nat → Prop
  | none => ∀ n p, nn n p → c p = false
  | some n => (∃ p, nn n p ∧ c p = true) ∧ ∀ k p, k < n → nn k p → c p = false
def dO : Option Nat → D
  | none => .non
  | some n => .int (n : Nat)
/-- a comprehension whose body makes objects, but keeps those that stand -/
theorem lc_grow {ds : List D} {keep : G → Prop} {tg : DTG} {tt : DTT} {te : DTE} {vs : List Nat} {Γ : Gm} {g1 : G} {Q : DK} (p : D → Bool) (f : D → D) (hz : ds.length ≤ sizeLine) (kp : ∀ g, GX g1 g → keep g)
    (hs : ∀ (a : Addr) (i : Nat) (x : D) (acc : List D) (g : G) (N : List D → G → Prop), g1 a = none → GX g1 g → g a = some (.lst acc) → ds[i]? = some x → (∀ g', GX g g' → p x = false → N acc g') → (∀ g', GX g g' → p x = true → N (acc ++ [f x]) (gup g' a (.lst (acc ++ [f x])))) →
      tg x (wipeG Γ vs) g fun Γ2 g2 => tt Γ2 g2 fun b g3 => if b = true then te Γ2 g3 fun y g4 => g4 a = some (.lst acc) ∧ N (acc ++ [y]) (gup g4 a (.lst (acc ++ [y]))) else N acc g3)
    (hq : ∀ a g, GX g1 g → g1 a = none → g a = some (.lst ((ds.filter p).map f)) → Q (.adr a) g) : dLcI ds keep tg tt te vs Γ g1 Q := by
  intro a ha
  refine ⟨hz, fun i acc g => GX g1 g ∧ g a = some (.lst acc) ∧ acc = ((ds.take i).filter p).map f, ⟨GX.new ha, gup_same, by simp⟩, fun i acc g hi ⟨e0, e1, e2⟩ => ⟨kp g e0, e1⟩, fun i x acc g hx ⟨e0, e1, e2⟩ => ?_, fun acc g ⟨e0, e1, e2⟩ => ?_⟩
  · have et : ds.take (i + 1) = ds.take i ++ [x] := by rw [List.take_add_one, hx] <;> rfl
    refine hs a i x acc g (fun acc' g' => GX g1 g' ∧ g' a = some (.lst acc') ∧ acc' = ((ds.take (i + 1)).filter p).map f) ha e0 e1 hx (fun g' e hb => ⟨e0.trans e, e _ _ e1, ?_⟩) fun g' e hb => ⟨(e0.trans e).mut ha, gup_same, ?_⟩
    · rw [et, List.filter_append, e2]; simp [hb]
    · rw [et, List.filter_append, e2]; simp [hb]
  · subst e2
    rw [List.take_length] at e1
    exact hq a g e0 ha e1
def keyOf : D → List Int
  | .own ds => ds.map fun d => match d with
    | .int i => i
    | _ => 0
  | _ => []
def ageD (kvs : List (List Int × D)) (d : D) : D := match dgetD kvs (keyOf d) with
  | some (.tup (a :: _)) => a
  | _ => .non
def onPr (c : Pr → Bool) : D → Bool
  | .own [.int x, .int y, .int a, .int t, .int b] => c ⟨x, y, a.toNat, t, b.toNat⟩
  | _ => false
theorem onPr_pr (c : Pr → Bool) (p : Pr) : onPr c (dPr p) = c p := by
  show c ⟨p.x, p.y, (p.a : Int).toNat, p.t, (p.b : Int).toNat⟩ = c p
  rw [Int.toNat_natCast, Int.toNat_natCast]
theorem KvL.keys : ∀ {ps : List (Pr × Nat)} {ds : List (List Int × D)}, KvL ps ds → (ds.map fun p => dKey p.1) = ps.map fun q => dPr q.1
  | [], _, h => by
    cases (show _ = [] from h)
    rfl
  | q :: r, _, h => by
    obtain ⟨x, s, rfl, h⟩ := h
    rw [List.map_cons, List.map_cons, KvL.keys h]
theorem KvL.get : ∀ {ps : List (Pr × Nat)} {ds : List (List Int × D)} {p : Pr} {a : Nat}, KvL ps ds → (ps.map (·.1)).Nodup → (p, a) ∈ ps → ∃ h : D, dgetD ds (prK p) = Option.some (D.tup [.int (a : Nat), h])
  | [], _, _, _, _, _, m => by cases m
  | q :: r, _, p, a, h, n, m => by
    obtain ⟨x, s, rfl, h⟩ := h
    rw [List.map_cons, List.nodup_cons] at n
    rw [dget_cons]
    by_cases e : prK q.1 = prK p
    · rw [if_pos e]
      have e2 := prK_inj e
      rcases List.mem_cons.mp m with z | z
      · rw [← z]
        exact ⟨x, rfl⟩
      · exact absurd (List.mem_map.mpr ⟨(p, a), z, rfl⟩) (by rw [← e2]; exact n.1)
    · rw [if_neg e]
      rcases List.mem_cons.mp m with z | z
      · exact absurd (by rw [← z]) e
      · exact KvL.get h n.2 z
theorem key_pr (p : Pr) : keyOf (dPr p) = prK p := by
  simp [keyOf]
theorem age_pr {ps : List (Pr × Nat)} {kvs : List (List Int × D)} {p : Pr} {a : Nat} (h : KvL ps kvs) (n : (ps.map (·.1)).Nodup) (m : (p, a) ∈ ps) : ageD kvs (dPr p) = .int (a : Nat) := by
  obtain ⟨x, e⟩ := h.get n m
  unfold ageD
  rw [key_pr, e]
theorem ages_of {ps : List (Pr × Nat)} {kvs : List (List Int × D)} (c : Pr → Bool) (h : KvL ps kvs) (n : (ps.map (·.1)).Nodup) : (((kvs.map fun p => dKey p.1).filter (onPr c)).map (ageD kvs)) = ((ps.filter fun q => c q.1).map fun q => (q.2 : Int)).map D.int := by
  rw [h.keys, List.filter_map, List.map_map, List.map_map]
  have e : (onPr c ∘ fun q : Pr × Nat => dPr q.1) = fun q => c q.1 := funext fun q => onPr_pr c q.1
  rw [e]
  refine List.map_congr_left fun q hq => ?_
  exact age_pr h n (List.mem_filter.mp hq).1
theorem first_of {nn : Nat → Pr → Prop} {p : Pr} : ∀ {n : Nat}, nn n p → ∃ a, a ≤ n ∧ First nn a p := by
  intro n
  induction n using Nat.strongRecOn with
  | _ n ih =>
    intro h
    by_cases hk : ∃ k, k < n ∧ nn k p
    · obtain ⟨k, hk, hn⟩ := hk
      obtain ⟨a, ha, hf⟩ := ih k hk hn
      exact ⟨a, by omega, hf⟩
    · exact ⟨n, Nat.le_refl _, h, fun k hk' hn => hk ⟨k, hk', hn⟩⟩
theorem least_none {nn : Nat → Pr → Prop} {ps : List (Pr × Nat)} {c : Pr → Bool} (h : ∀ p a, (p, a) ∈ ps ↔ First nn a p) (e : ps.filter (fun q => c q.1) = []) : LeastAge nn c none := fun n p hn => by
  obtain ⟨a, _, hf⟩ := first_of hn
  have m := (h p a).mpr hf
  have := List.filter_eq_nil_iff.mp e (p, a) m
  simpa using this
theorem least_some {nn : Nat → Pr → Prop} {ps : List (Pr × Nat)} {c : Pr → Bool} (h : ∀ p a, (p, a) ∈ ps ↔ First nn a p) {q : Pr × Nat} (hq : q ∈ ps.filter fun q => c q.1) (hm : ∀ r ∈ ps.filter (fun q => c q.1), q.2 ≤ r.2) : LeastAge nn c (some q.2) := by
  obtain ⟨h1, h2⟩ := List.mem_filter.mp hq
  refine ⟨⟨q.1, ((h q.1 q.2).mp h1).1, h2⟩, fun k p hk hn => ?_⟩
  obtain ⟨a, ha, hf⟩ := first_of hn
  cases hc : c p with
  | false => rfl
  | true =>
    have := hm (p, a) (List.mem_filter.mpr ⟨(h p a).mpr hf, hc⟩)
    have : q.2 ≤ a := this
    omega
def clashP (p : Pr) : Bool := clash p.x p.y p.t
def touchP (p : Pr) : Bool := touchB p.x p.y p.t
def φ_age (c : Pr → Bool) : DSp := fun ds g Q => ∃ b v px py k mx my W, ds = [dB b, dW v, dP px py, .int k] ∧ SideQ b v px py k mx my W ∧ (∀ f, FarOk (both b v) (mx * mx + my * my) W f → ∀ n p, NNf b v px py k mx my f n p → Hd p.t) ∧
  ∀ f r, FarOk (both b v) (mx * mx + my * my) W f → LeastAge (NNf b v px py k mx my f) c r → ∀ g', GX g g' → Q (dO r) g'
theorem len_share_age (ds : List D) (g : G) (Q : DK) (h : φ_age clashP ds g Q) : ds.length = P_share_age.length := by
  obtain ⟨_, _, _, _, _, _, _, _, rfl, _⟩ := h
  rfl
theorem len_touch_age (ds : List D) (g : G) (Q : DK) (h : φ_age touchP ds g Q) : ds.length = P_touch_age.length := by
  obtain ⟨_, _, _, _, _, _, _, _, rfl, _⟩ := h
  rfl
def φ_never_share : DSp := fun ds g Q => ∃ b v px py k mx my W, ds = [dB b, dW v, dP px py, .int k] ∧ SideQ b v px py k mx my W ∧ (∀ f, FarOk (both b v) (mx * mx + my * my) W f → ∀ n p, NNf b v px py k mx my f n p → Hd p.t) ∧
  ∀ f r, FarOk (both b v) (mx * mx + my * my) W f → LeastAge (NNf b v px py k mx my f) clashP r → ∀ g', GX g g' → Q (.bl r.isNone) g'
theorem len_never_share (ds : List D) (g : G) (Q : DK) (h : φ_never_share ds g Q) : ds.length = P_never_share.length := by
  obtain ⟨_, _, _, _, _, _, _, _, rfl, _⟩ := h
  rfl
section
variable {P : Program} {w : World} {K : PySem.W.Frag} {mg : Str → Option Value} {base : Heap}
theorem d_side_web (T : Txt K mg) {f : Addr} {fd : FuncData} (F : FnT K "side_web" "side_web" s_side_web f fd) (hm : mg "side_web" = some (.ref f))
    (H_Web___init__ : MakeD P w K mg base 5 (C_Web K) "Web" (φ_Web_init K))
    (H_Web_grow : MethD P w K mg base 4 (C_Web K) "grow" (φ_Web_grow K))
    (H_Web_is_near : MethD P w K mg base 2 (C_Web K) "is_near" (φ_Web_is_near K))
    (H_laid_at : CallD P w K mg base 4 "laid_at" φ_laid_at)
    (H_letters_of : CallD P w K mg base 1 "letters_of" φ_letters_of)
    (H_need_both : CallD P w K mg base 10 "need_both" φ_need_both)
    (H_pair_of : CallD P w K mg base 2 "pair_of" (pF fPairOf))
    (H_strokes_of : CallD P w K mg base 3 "strokes_of" φ_strokes_of) : CallD P w K mg base 11 "side_web" φ_side_web := by
  refine callD F hm (ps := P_side_web) (fun _ _ _ _ _ _ us hl => match us, hl with | [_, _, _, _], _ => rfl) (okD F sc_side_web (by first | exact len_side_web | exact len_side_web _) fun cdv A outer s H E hr => ⟨_, (dss_cons (ds_set 4 (de_call H_need_both (hr.mono (by decide)) (da_cons (de_var 0) (da_cons (de_var 1) (da_cons (de_var 2) (da_cons (de_var 3) da_nil))))) sc_side_web.nd)
      (dss_cons (ds_set 5 (de_make H_Web___init__ (hr.mono (by decide)) (da_cons (de_call H_letters_of (hr.mono (by decide)) (da_cons (de_var 0) (da_cons (de_var 1) da_nil))) (da_cons (de_var 4) da_nil))) sc_side_web.nd)
      (dss_cons (ds_set 6 (de_lst da_nil) sc_side_web.nd)
      (dss_cons (ds_for (di_list (de_call H_strokes_of (hr.mono (by decide)) (da_cons (de_ix (de_var 0) de_int) da_nil))) (dg_name 7 sc_side_web.nd) (dss_one (ds_for (di_list (de_call H_laid_at (hr.mono (by decide)) (da_cons (de_var 1) (da_cons (de_var 2) (da_cons (de_var 3) da_nil))))) (dg_name 8 sc_side_web.nd) (dss_cons (ds_set 9 (de_call H_pair_of (hr.mono (by decide)) (da_cons (de_var 7) (da_cons (de_var 8) da_nil))) sc_side_web.nd)
      (dss_one (ds_if (db_val (de_meth H_Web_is_near (hr.mono (by decide)) (de_var 5) (da_cons (de_varO 9) da_nil))) (dss_one (ds_expr (de_append (de_var 6) (de_tup (da_cons (de_var 9) (da_cons (de_tup (da_cons de_str (da_cons de_int (da_cons de_int da_nil)))) da_nil)))))) dss_nil))))))
      (dss_one (ds_ret (de_meth H_Web_grow (hr.mono (by decide)) (de_var 5) (da_cons (de_var 6) (da_cons de_bl da_nil))))))))), ?_⟩)
  rintro ds g Q ⟨b, v, px, py, k, mx, my, W, rfl, S, q⟩
  refine ⟨_, rfl, _, rfl, _, rfl, _, rfl, b, v, px, py, k, mx, my, rfl, S.ok, S.few, S.okw, S.okp, S.ok2, S.few2, S.ev, S.ev2, ?_, S.far.two, fun g1 e1 => ?_⟩
  · obtain ⟨⟨a1, a2⟩, a3, a4⟩ := S.far.bd
    exact ⟨⟨by omega, by omega⟩, ⟨by omega, by omega⟩⟩
  have l1 := S.ok.st.le
  have l2 := S.okw.le
  refine ⟨_, rfl, _, rfl, b, v, rfl, Nat.ble_eq_true_of_le (by omega), _, rfl, fun X hX => ?_⟩
  refine ⟨X, both b v, mx, my, W, rfl, gup_same, S.far, fun f g2 hf e2 hW => ⟨rfl, ?_⟩⟩
  have e12 : GX g1 g2 := fun x o h => e2 x o (gne h hX) ((gup_ne (gne h hX)).trans h)
  have hf6 := S.f6 f hf
  obtain ⟨U, hU⟩ := S.uu f hf
  have hWU := hW (U.map (·.a) ++ U.map (·.b)) (fun l hl => by
    rcases List.mem_append.mp hl with h | h
    · obtain ⟨p, hp, rfl⟩ := List.mem_map.mp h
      exact (hU.rc p hp).1
    · obtain ⟨p, hp, rfl⟩ := List.mem_map.mp h
      exact (hU.rc p hp).2)
  obtain ⟨wd, wk, hW1, hW2, hW3⟩ := id hWU
  have sz : sizeLine = 16777216 := sizeLine_eq
  intro r hr
  have hXr := gne hW1 hr
  have nr : g r = none := (e1.trans e12).free hr
  walk_at "go"
  refine ⟨S.ok.st.bal, by omega, fun po g3 e3 npo hpo => ⟨po, _, rfl, hpo, ?_⟩⟩
  have e23 : GX g2 g3 := (GX.new hr).trans e3
  have hpr : po ≠ r := fun z => by rw [z, gup_same] at npo; cases npo
  have lO : (strokes b.st).length ≤ 40 := Nat.le_trans (strokes_length_le b.st p0) l1
  have lZ : ((strokes v).map (laidS px py k)).length ≤ 40 := by
    rw [List.length_map]
    exact Nat.le_trans (strokes_length_le v p0) l2
  have hpp : prs0 b v px py k f = kidsOf f (strokes b.st) ((strokes v).map (laidS px py k)) := rfl
  have hnb := S.nb
  generalize hO : strokes b.st = O at *
  generalize hZ : (strokes v).map (laidS px py k) = Z at *
  have klen : ∀ i o, (kidsOf f (O.take i) Z ++ ((o : List Pr))).length ≤ i * 40 + o.length := by
    intro i o
    rw [List.length_append]
    have h := kids_len (f := (f : Int)) (os := O.take i) lZ
    rw [List.length_take] at h
    have := Nat.mul_le_mul_right 40 (Nat.min_le_left i O.length)
    omega
  have g3b : ∀ {x o}, g x = some o → g3 x = some o := fun h => e23 _ _ (e12 _ _ (e1 _ _ h))
  refine ⟨fun i Γ g' => GX g2 g' ∧ g' po = some (.lst (O.map dS)) ∧ (∃ acc, g' r = some (.lst acc) ∧ LayL (kidsOf f (O.take i) Z) acc) ∧ ∃ x1 x2 x3 : Option D, Γ = [some (dB b), some (dW v), some (dP px py), some (.int k), some (dP mx my), some (.adr X), some (.adr r), x1, x2, x3],
    ⟨e23, hpo, ⟨[], e3 _ _ gup_same, rfl⟩, none, none, none, rfl⟩, fun i Γ g' _ h => h.2.1, ?_, ?_⟩
  · rintro i x Γ g' hx ⟨hg, h2, ⟨acc, h4, h5⟩, x1, x2, x3, rfl⟩
    obtain ⟨o, ho, rfl⟩ := map_of hx
    have hi := (List.getElem?_eq_some_iff.mp ho).1
    refine ⟨_, rfl, _, rfl, _, rfl, v, px, py, k, rfl, S.okw.bal, by omega, ?_⟩
    rw [hZ]
    refine fun pt g4 e4 npt hpt => ⟨pt, _, rfl, hpt, ?_⟩
    have htr : pt ≠ r := fun z => by rw [z, h4] at npt; cases npt
    refine ⟨fun j Γ g' => GX g2 g' ∧ g' po = some (.lst (O.map dS)) ∧ g' pt = some (.lst (Z.map dS)) ∧ (∃ acc, g' r = some (.lst acc) ∧ LayL (kidsOf f (O.take i) Z ++ ((Z.take j).map (pairOf o)).filter (near f)) acc) ∧ ∃ x2 x3 : Option D, Γ = [some (dB b), some (dW v), some (dP px py), some (.int k), some (dP mx my), some (.adr X), some (.adr r), some (dS o), x2, x3],
      ⟨hg.trans e4, e4 _ _ h2, hpt, ⟨acc, e4 _ _ h4, by simpa using h5⟩, _, _, rfl⟩, fun j Γ g' _ h => h.2.2.1, ?_, ?_⟩
    · rintro j x Γ g5 hx ⟨hg, h2, h3, ⟨acc, h4, h5⟩, x2, x3, rfl⟩
      obtain ⟨z, hz, rfl⟩ := map_of hx
      have hj := (List.getElem?_eq_some_iff.mp hz).1
      walk_at "go"
      have hbd := hnb o (List.mem_of_getElem? ho) z (List.mem_of_getElem? hz)
      have et : Z.take (j + 1) = Z.take j ++ [z] := by rw [List.take_add_one, hz] <;> rfl
      have hlen2 : acc.length ≤ i * 40 + j := by
        rw [h5.length]
        refine Nat.le_trans (klen i _) ?_
        have : (((Z.take j).map (pairOf o)).filter (near f)).length ≤ j := Nat.le_trans (List.length_filter_le _ _) (by rw [List.length_map, List.length_take]; exact Nat.min_le_left _ _)
        omega
      refine ⟨_, _, rfl, hg _ _ hW1, rfl, ?_⟩
      walk_at "go"
      refine ⟨X, both b v, mx, my, f, wd, pairOf o z, rfl, hg _ _ hW1, hbd, ⟨by omega, by omega⟩, _, rfl, iteB (fun hn => ?_) (fun hn => ?_)⟩
      · refine ⟨_, rfl, ⟨_, _, rfl, h4⟩, _, rfl, _, _, _, rfl, rfl, h4, ?_, ?_⟩
        · have h64 : i * 40 ≤ 40 * 40 := Nat.mul_le_mul_right 40 (by omega)
          omega
        · refine ⟨hg.mut hr, (gup_ne hpr).trans h2, (gup_ne htr).trans h3, ⟨_, gup_same, ?_⟩, _, _, rfl⟩
          have e : ((Z.take (j + 1)).map (pairOf o)).filter (near f) = ((Z.take j).map (pairOf o)).filter (near f) ++ [pairOf o z] := by
            rw [et, List.map_append, List.filter_append]
            simp [hn]
          rw [e, ← List.append_assoc]
          exact h5.append ⟨_, _, rfl, by decide +kernel, rfl⟩
      · refine ⟨hg, h2, h3, ⟨acc, h4, ?_⟩, _, _, rfl⟩
        have e : ((Z.take (j + 1)).map (pairOf o)).filter (near f) = ((Z.take j).map (pairOf o)).filter (near f) := by
          rw [et, List.map_append, List.filter_append]
          simp [hn]
        rw [e]
        exact h5
    · rintro Γ g5 ⟨hg, h2, h3, ⟨acc, h4, h5⟩, x2, x3, rfl⟩
      refine ⟨hg, h2, ⟨acc, h4, ?_⟩, _, _, _, rfl⟩
      rw [List.length_map, List.take_length] at h5
      rw [List.take_add_one, ho]
      unfold kidsOf at h5 ⊢
      rw [List.flatMap_append]
      simpa using h5
  · rintro Γ g' ⟨hg, h2, ⟨acc, h4, h5⟩, x1, x2, x3, rfl⟩
    rw [List.length_map, List.take_length] at h5
    walk_at "go"
    refine ⟨_, _, rfl, hg _ _ hW1, rfl, ?_⟩
    walk_at "go"
    have kl := kids_len (f := (f : Int)) (os := O) lZ
    have kl2 := Nat.mul_le_mul_right 40 lO
    have hmb : Bd mx ∧ Bd my := by
      obtain ⟨⟨a1, a2⟩, a3, a4⟩ := S.far.bd
      exact ⟨⟨by omega, by omega⟩, ⟨by omega, by omega⟩⟩
    refine ⟨X, both b v, mx, my, f, _, r, kidsOf f O Z, acc, U, rfl, hWU.gx hg, ⟨S.ok2, S.few2⟩, hmb, ⟨by omega, by omega⟩, h4, h5, by omega, hU.len, fun p hp => hU.st p (by rw [hpp]; exact hp), hU.kd, fun p hp => ⟨⟨?_, ?_⟩, hU.wl p hp, hU.bd p hp⟩, fun kvs hkv F g6 e6 nF hF => ?_⟩
    · exact List.mem_append_left _ (List.mem_map.mpr ⟨p, hp, rfl⟩)
    · exact List.mem_append_right _ (List.mem_map.mpr ⟨p, hp, rfl⟩)
    · refine q f kvs hf ?_ F g6 (((e1.trans e12).trans hg).trans e6) (((e1.trans e12).trans hg).free nF) hF
      unfold NNf
      rw [hpp]
      exact hkv
theorem d_share_age (T : Txt K mg) {f : Addr} {fd : FuncData} (F : FnT K "share_age" "share_age" s_share_age f fd) (hm : mg "share_age" = some (.ref f))
    (H_is_clash : CallD P w K mg base 1 "is_clash" (pF fIsClash))
    (H_side_web : CallD P w K mg base 11 "side_web" φ_side_web) : CallD P w K mg base 12 "share_age" (φ_age clashP) := by
  refine callD F hm (ps := P_share_age) (fun _ _ _ _ _ _ us hl => match us, hl with | [_, _, _, _], _ => rfl) (okD F sc_share_age (by first | exact len_share_age | exact len_share_age _) fun cdv A outer s H E hr => ⟨_, (dss_cons (ds_set 4 (de_call H_side_web (hr.mono (by decide)) (da_cons (de_var 0) (da_cons (de_var 1) (da_cons (de_var 2) (da_cons (de_var 3) da_nil))))) sc_share_age.nd)
      (dss_cons (ds_lc 5 (own := [("pair", 6)]) (di_keysT (de_var 4)) sc_share_age.nd (blkOk_by (N := N_share_age) (sc := defScope s_share_age) (by decide +kernel)) (fun _ _ _ _ _ => (dgo_name 6 sc_share_age.nd)) (fun _ _ _ _ _ => (dts_one (db_val (de_call H_is_clash (hr.mono (by decide)) (da_cons (de_varO 6) da_nil))))) (fun _ _ _ _ _ => (de_ix (de_dget (u65 hr) (de_var 4) (de_var 6)) de_int)))
      (dss_one (ds_ret (de_if (db_cmp (op_neD hr.units) simR_neL (de_var 5) (de_lst da_nil)) (de_callB (cr_min rfl) simC_min T.n_min (by decide +kernel) (da_cons (de_var 5) da_nil)) de_non))))), ?_⟩)
  rintro ds g Q ⟨b, v, px, py, k, mx, my, W, rfl, S, hh, q⟩
  refine ⟨_, rfl, _, rfl, _, rfl, _, rfl, b, v, px, py, k, mx, my, W, rfl, S, fun f kvs hf hw F g1 e1 nF hF => ?_⟩
  obtain ⟨ps, hkv, hps, hnd⟩ := hw
  have sz : sizeLine = 16777216 := sizeLine_eq
  have hlen : kvs.length ≤ 20000 := by
    obtain ⟨U, hU⟩ := S.uu f hf
    have inU : ∀ n p, NNf b v px py k mx my f n p → p ∈ U := by
      intro n
      induction n with
      | zero => exact fun p hp => hU.st p hp
      | succ n ih =>
        rintro p ⟨q', hq, hk⟩
        exact hU.kd q' (ih q' hq) p hk
    have := nodup_sub_len hnd (m := U) fun p hp => by
      obtain ⟨⟨p', a⟩, hpa, rfl⟩ := List.mem_map.mp hp
      exact inU a p' ((hps p' a).mp hpa).1
    rw [List.length_map] at this
    rw [hkv.length]
    have := hU.len
    omega
  refine ⟨_, rfl, F, kvs, rfl, hF, ?_⟩
  have eW : GX g (gup g1 F (.wT kvs)) := e1.mut nF
  have gW : gup g1 F (.wT kvs) F = some (.wT kvs) := gup_same
  generalize gup g1 F (.wT kvs) = gw at eW gW ⊢
  refine lc_grow (onPr clashP) (ageD kvs) (by rw [List.length_map]; omega) (fun _ _ => trivial) (fun a i x acc g2 N ha hg h1 hx n1 n2 => ?_) (fun a g2 hg ha h1 => ?_)
  · obtain ⟨kv, hi, rfl⟩ := map_of hx
    have hki : ((kvs.map fun p => dKey p.1)[i]?) = some (dKey kv.1) := by rw [List.getElem?_map, hi] <;> rfl
    rw [hkv.keys] at hki
    obtain ⟨⟨p, ag⟩, hp, e⟩ := map_of hki
    have hpm := List.mem_of_getElem? hp
    have e : dKey kv.1 = dPr p := e
    rw [e] at n1 n2 ⊢
    rw [onPr_pr] at n1 n2
    rw [age_pr hkv hnd hpm] at n2
    obtain ⟨h, hget⟩ := hkv.get hnd hpm
    have hht := hh f hf ag p ((hps p ag).mp hpm).1
    walk_at "go"
    refine iteB (fun hc => ?_) (fun hc => n1 g2 (GX.refl g2) hc)
    refine ⟨_, rfl, _, rfl, .tup [.int ag, h], ?_, .int ag, rfl, h1, n2 g2 (GX.refl g2) hc⟩
    rw [← hget]
    exact .t (.inr (hg _ _ gW))
  · rw [ages_of clashP hkv hnd] at h1
    refine ⟨_, rfl, fun r hr => ?_⟩
    have har := gne h1 hr
    refine ⟨a, r, _, _, rfl, rfl, (gup_ne har).trans h1, gup_same, pdL_of fun d hd => ?_, rfl, _, rfl, iteB (fun hc => ?_) (fun hc => ?_)⟩
    · obtain ⟨z, _, rfl⟩ := List.mem_map.mp hd
      rfl
    · have hne : 0 < ((ps.filter fun q => clashP q.1).map fun q => (q.2 : Int)).length := by
        cases e : ((ps.filter fun q => clashP q.1).map fun q => (q.2 : Int)) with
        | nil => rw [e] at hc; cases hc
        | cons _ _ => exact Nat.succ_pos _
      refine ⟨_, rfl, a, _, rfl, (gup_ne har).trans h1, hne, fun m hm hmin => ?_⟩
      obtain ⟨z, hz, rfl⟩ := List.mem_map.mp hm
      exact q f (some z.2) hf (least_some hps hz fun r hr => by
        have := hmin (r.2 : Int) (List.mem_map.mpr ⟨r, hr, rfl⟩)
        omega) _ ((eW.trans hg).trans (GX.new hr))
    · have he : (ps.filter fun q => clashP q.1) = [] := by
        cases e : (ps.filter fun q => clashP q.1) with
        | nil => rfl
        | cons _ _ => rw [e] at hc; cases hc
      exact q f none hf (least_none hps he) _ ((eW.trans hg).trans (GX.new hr))
theorem d_touch_age (T : Txt K mg) {f : Addr} {fd : FuncData} (F : FnT K "touch_age" "touch_age" s_touch_age f fd) (hm : mg "touch_age" = some (.ref f))
    (H_side_web : CallD P w K mg base 11 "side_web" φ_side_web)
    (H_touches : CallD P w K mg base 2 "touches" φ_touches) : CallD P w K mg base 12 "touch_age" (φ_age touchP) := by
  refine callD F hm (ps := P_touch_age) (fun _ _ _ _ _ _ us hl => match us, hl with | [_, _, _, _], _ => rfl) (okD F sc_touch_age (by first | exact len_touch_age | exact len_touch_age _) fun cdv A outer s H E hr => ⟨_, (dss_cons (ds_set 4 (de_call H_side_web (hr.mono (by decide)) (da_cons (de_var 0) (da_cons (de_var 1) (da_cons (de_var 2) (da_cons (de_var 3) da_nil))))) sc_touch_age.nd)
      (dss_cons (ds_lc 5 (own := [("pair", 6)]) (di_keysT (de_var 4)) sc_touch_age.nd (blkOk_by (N := N_touch_age) (sc := defScope s_touch_age) (by decide +kernel)) (fun _ _ _ _ _ => (dgo_name 6 sc_touch_age.nd)) (fun _ _ _ _ _ => (dts_one (db_val (de_call H_touches (hr.mono (by decide)) (da_cons (de_varO 6) da_nil))))) (fun _ _ _ _ _ => (de_ix (de_dget (u65 hr) (de_var 4) (de_var 6)) de_int)))
      (dss_one (ds_ret (de_if (db_cmp (op_neD hr.units) simR_neL (de_var 5) (de_lst da_nil)) (de_callB (cr_min rfl) simC_min T.n_min (by decide +kernel) (da_cons (de_var 5) da_nil)) de_non))))), ?_⟩)
  rintro ds g Q ⟨b, v, px, py, k, mx, my, W, rfl, S, hh, q⟩
  refine ⟨_, rfl, _, rfl, _, rfl, _, rfl, b, v, px, py, k, mx, my, W, rfl, S, fun f kvs hf hw F g1 e1 nF hF => ?_⟩
  obtain ⟨ps, hkv, hps, hnd⟩ := hw
  have sz : sizeLine = 16777216 := sizeLine_eq
  have hlen : kvs.length ≤ 20000 := by
    obtain ⟨U, hU⟩ := S.uu f hf
    have inU : ∀ n p, NNf b v px py k mx my f n p → p ∈ U := by
      intro n
      induction n with
      | zero => exact fun p hp => hU.st p hp
      | succ n ih =>
        rintro p ⟨q', hq, hk⟩
        exact hU.kd q' (ih q' hq) p hk
    have := nodup_sub_len hnd (m := U) fun p hp => by
      obtain ⟨⟨p', a⟩, hpa, rfl⟩ := List.mem_map.mp hp
      exact inU a p' ((hps p' a).mp hpa).1
    rw [List.length_map] at this
    rw [hkv.length]
    have := hU.len
    omega
  refine ⟨_, rfl, F, kvs, rfl, hF, ?_⟩
  have eW : GX g (gup g1 F (.wT kvs)) := e1.mut nF
  have gW : gup g1 F (.wT kvs) F = some (.wT kvs) := gup_same
  generalize gup g1 F (.wT kvs) = gw at eW gW ⊢
  refine lc_grow (onPr touchP) (ageD kvs) (by rw [List.length_map]; omega) (fun _ _ => trivial) (fun a i x acc g2 N ha hg h1 hx n1 n2 => ?_) (fun a g2 hg ha h1 => ?_)
  · obtain ⟨kv, hi, rfl⟩ := map_of hx
    have hki : ((kvs.map fun p => dKey p.1)[i]?) = some (dKey kv.1) := by rw [List.getElem?_map, hi] <;> rfl
    rw [hkv.keys] at hki
    obtain ⟨⟨p, ag⟩, hp, e⟩ := map_of hki
    have hpm := List.mem_of_getElem? hp
    have e : dKey kv.1 = dPr p := e
    rw [e] at n1 n2 ⊢
    rw [onPr_pr] at n1 n2
    rw [age_pr hkv hnd hpm] at n2
    obtain ⟨h, hget⟩ := hkv.get hnd hpm
    have hht := hh f hf ag p ((hps p ag).mp hpm).1
    walk_at "go"
    refine ⟨hht, fun g3 e3 => ⟨_, rfl, iteB (fun hc => ?_) (fun hc => n1 g3 e3 hc)⟩⟩
    refine ⟨_, rfl, _, rfl, .tup [.int ag, h], ?_, .int ag, rfl, e3 _ _ h1, n2 g3 e3 hc⟩
    rw [← hget]
    exact .t (.inr ((hg.trans e3) _ _ gW))
  · rw [ages_of touchP hkv hnd] at h1
    refine ⟨_, rfl, fun r hr => ?_⟩
    have har := gne h1 hr
    refine ⟨a, r, _, _, rfl, rfl, (gup_ne har).trans h1, gup_same, pdL_of fun d hd => ?_, rfl, _, rfl, iteB (fun hc => ?_) (fun hc => ?_)⟩
    · obtain ⟨z, _, rfl⟩ := List.mem_map.mp hd
      rfl
    · have hne : 0 < ((ps.filter fun q => touchP q.1).map fun q => (q.2 : Int)).length := by
        cases e : ((ps.filter fun q => touchP q.1).map fun q => (q.2 : Int)) with
        | nil => rw [e] at hc; cases hc
        | cons _ _ => exact Nat.succ_pos _
      refine ⟨_, rfl, a, _, rfl, (gup_ne har).trans h1, hne, fun m hm hmin => ?_⟩
      obtain ⟨z, hz, rfl⟩ := List.mem_map.mp hm
      exact q f (some z.2) hf (least_some hps hz fun r hr => by
        have := hmin (r.2 : Int) (List.mem_map.mpr ⟨r, hr, rfl⟩)
        omega) _ ((eW.trans hg).trans (GX.new hr))
    · have he : (ps.filter fun q => touchP q.1) = [] := by
        cases e : (ps.filter fun q => touchP q.1) with
        | nil => rfl
        | cons _ _ => rw [e] at hc; cases hc
      exact q f none hf (least_none hps he) _ ((eW.trans hg).trans (GX.new hr))
theorem d_never_share (T : Txt K mg) {f : Addr} {fd : FuncData} (F : FnT K "never_share" "never_share" s_never_share f fd) (hm : mg "never_share" = some (.ref f))
    (H_share_age : CallD P w K mg base 12 "share_age" (φ_age clashP)) : CallD P w K mg base 13 "never_share" φ_never_share := by
  refine callD F hm (ps := P_never_share) (fun _ _ _ _ _ _ us hl => match us, hl with | [_, _, _, _], _ => rfl) (okD F sc_never_share (by first | exact len_never_share | exact len_never_share _) fun cdv A outer s H E hr => ⟨_, (dss_one (ds_ret (de_cmp op_isN simR_isN (de_call H_share_age (hr.mono (by decide)) (da_cons (de_var 0) (da_cons (de_var 1) (da_cons (de_var 2) (da_cons (de_var 3) da_nil))))) de_non))), ?_⟩)
  rintro ds g Q ⟨b, v, px, py, k, mx, my, W, rfl, S, hh, q⟩
  refine ⟨_, rfl, _, rfl, _, rfl, _, rfl, b, v, px, py, k, mx, my, W, rfl, S, hh, fun f r hf hr g1 e1 => ?_⟩
  cases r with
  | none => exact ⟨rfl, q f none hf hr g1 e1⟩
  | some n => exact ⟨rfl, q f (some n) hf hr g1 e1⟩
end
end SW
set_option Elab.async false
set_option linter.all false
set_option maxRecDepth 100000
set_option maxHeartbeats 4000000
namespace SW
open PySem PySem.Spec PyProof.Rows L2 DL
local macro_rules | `(tactic| walk_at "cond") => `(tactic| first | (show (0 : Int) < _; decide) | (show (0 : Int) < _; omega) | assumption | (refine Bd.mul ?_; assumption) | (refine Or.inl ⟨?_, ?_⟩ <;> omega) | (refine Or.inr ⟨?_, ?_⟩ <;> omega) | decide)
local macro_rules | `(tactic| walk_at "go1") => `(tactic| first
  | refine ⟨_, rfl, ?_⟩
  | refine ⟨_, _, rfl, rfl, by walk_at "cond", ?_⟩
  | refine ⟨_, _, rfl, rfl, ?_⟩
  | refine ⟨_, _, rfl, ?_⟩
  | refine ⟨rfl, ?_⟩
  | refine iteT ?_
  | refine iteF ?_
  | refine ⟨_, _, _, rfl, ?_⟩
  | refine ⟨(by decide +kernel : _ = true), ?_⟩
  | refine iteT' (decide_eq_true (by omega)) ?_
  | refine iteF' (decide_eq_false (by omega)) ?_
  | (dsimp only; refine iteT' (by simp only [decide_eq_true_eq, Bool.not_eq_true', decide_eq_false_iff_not]; omega) ?_)
  | (dsimp only; refine iteF' (by simp only [decide_eq_true_eq, Bool.not_eq_false', decide_eq_false_iff_not]; omega) ?_))
local macro_rules | `(tactic| walk_at "go") => `(tactic| repeat walk_at "go1")
/-- the row of what is left of the script -/
def RowOk (l : List D) : Prop := ∃ (cs : List Int) (i sd rs : Int), l = [.fz (cs.map D.int), .int i, .int sd, .int rs] ∧ 0 ≤ i ∧ 0 ≤ sd ∧ sd < 2147483647
def φ_taken : DSp := fun ds g Q => ∃ r l m, ds = [.adr r, .int m] ∧ g r = some (.lst l) ∧ RowOk l ∧ (1 ≤ m ∧ m ≤ 1000000) ∧ ∀ v l', 0 ≤ v → v < m → RowOk l' → Q (.int v) (gup g r (.lst l'))
theorem len__law_taken (ds : List D) (g : G) (Q : DK) (h : φ_taken ds g Q) : ds.length = P__law_taken.length := by
  obtain ⟨_, _, _, rfl, _⟩ := h
  rfl
/-- one of a list's things -/
def φ_pick : DSp := fun ds g Q => ∃ r l t xs, ds = [.adr r, .adr t] ∧ g r = some (.lst l) ∧ RowOk l ∧ g t = some (.lst xs) ∧ (1 ≤ xs.length ∧ xs.length ≤ 1000 ∧ t ≠ r) ∧ ∀ x l', x ∈ xs → RowOk l' → Q x (gup g r (.lst l'))
theorem len__law_pick (ds : List D) (g : G) (Q : DK) (h : φ_pick ds g Q) : ds.length = P__law_pick.length := by
  obtain ⟨_, _, _, _, rfl, _⟩ := h
  rfl
section
variable {P : Program} {w : World} {K : PySem.W.Frag} {mg : Str → Option Value} {base : Heap}
theorem d__law_taken (T : Txt K mg) {f : Addr} {fd : FuncData} (F : FnT K "_law_taken" "_law_taken" s__law_taken f fd) (hm : mg "_law_taken" = some (.ref f)) : CallD P w K mg base 1 "_law_taken" φ_taken := by
  refine callD F hm (ps := P__law_taken) (fun _ _ _ _ _ _ us hl => match us, hl with | [_, _], _ => rfl) (okD F sc__law_taken (by first | exact len__law_taken | exact len__law_taken _) fun cdv A outer s H E hr => ⟨_, (dss_cons (ds_if (db_cmp op_gt simR_B (de_ix (de_var 0) de_int) de_int) (dss_cons (ds_set 2 (de_op op_mod simR_I (de_callTy call_int1 simC_int T.n_int (by decide +kernel) (da_cons (de_ix (de_var 0) de_int) da_nil)) (de_var 1)) sc__law_taken.nd)
      (dss_cons (ds_asg (de_op op_fdiv simR_I (de_ix (de_var 0) de_int) (de_var 1)) (dg_setL (de_var 0) de_int))
      (dss_one (ds_ret (de_var 2))))) dss_nil)
      (dss_cons (ds_asg (de_op op_add simR_I0 (de_ix (de_var 0) de_int) de_int) (dg_setL (de_var 0) de_int))
      (dss_cons (ds_if (db_cmp op_gt simR_B (de_ix (de_var 0) de_int) (de_callB call_len simC_len T.n_len (by decide +kernel) (da_cons (de_ix (de_var 0) de_int) da_nil))) (dss_cons (ds_asg (de_op op_mod simR_I (de_callTy call_int1 simC_int T.n_int (by decide +kernel) (da_cons (de_op op_add simR_I0 (de_op op_mul simR_I (de_ix (de_var 0) de_int) de_int) de_int) da_nil)) de_int) (dg_setL (de_var 0) de_int))
      (dss_one (ds_ret (de_op op_mod simR_I (de_callTy call_int1 simC_int T.n_int (by decide +kernel) (da_cons (de_op op_fdiv simR_I (de_ix (de_var 0) de_int) de_int) da_nil)) (de_var 1))))) dss_nil)
      (dss_cons (ds_set 3 (de_ix (de_ix (de_var 0) de_int) (de_op op_sub simR_I0 (de_ix (de_var 0) de_int) de_int)) sc__law_taken.nd)
      (dss_cons (ds_asg (de_op op_mod simR_I (de_callTy call_int1 simC_int T.n_int (by decide +kernel) (da_cons (de_op op_add simR_I0 (de_op op_add simR_I0 (de_op op_mul simR_I (de_ix (de_var 0) de_int) de_int) (de_var 3)) de_int) da_nil)) de_int) (dg_setL (de_var 0) de_int))
      (dss_cons (ds_if (db_cmp op_ge simR_B (de_var 3) (de_op op_pow simR_I de_int de_int)) (dss_one (ds_asg (de_op op_fdiv simR_I (de_var 3) (de_var 1)) (dg_setL (de_var 0) de_int))) dss_nil)
      (dss_one (ds_ret (de_op op_mod simR_I (de_callTy call_int1 simC_int T.n_int (by decide +kernel) (da_cons (de_var 3) da_nil)) (de_var 1)))))))))), ?_⟩)
  rintro ds g Q ⟨r, l, m, rfl, hr, ⟨cs, i, sd, rs, rfl, hi, hs0, hs1⟩, ⟨hm, hm2⟩, q⟩
  have sdv : ∀ z : Int, 0 ≤ z % 2147483647 ∧ z % 2147483647 < 2147483647 := fun z => ⟨by omega, by omega⟩
  have mv : ∀ z : Int, 0 ≤ z % m ∧ z % m < m := fun z => ⟨Int.emod_nonneg _ (by omega), Int.emod_lt_of_pos _ (by omega)⟩
  have cm : CMul sd 48271 := .inl ⟨by omega, by omega⟩
  refine ⟨_, rfl, .int rs, fIx_l hr rfl, _, rfl, _, rfl, iteB (fun h3 => ?_) (fun h3 => ?_)⟩
  · have h3 := of_decide_eq_true h3
    walk_at "go"
    refine ⟨.int rs, fIx_l hr rfl, _, rfl, _, rfl, _, _, rfl, rfl, by omega, ?_⟩
    refine ⟨_, rfl, .int rs, fIx_l hr rfl, _, rfl, _, _, rfl, rfl, ⟨by omega, by omega⟩, _, rfl, r, _, 3, 3, rfl, rfl, hr, rfl, _, rfl, ?_⟩
    exact q _ _ (mv rs).1 (mv rs).2 ⟨cs, i, sd, rs / m, rfl, hi, hs0, hs1⟩
  · walk_at "go"
    refine ⟨.int i, fIx_l hr rfl, _, rfl, _, rfl, r, _, 1, 1, rfl, rfl, hr, rfl, ?_⟩
    have hcl : (cs.map D.int).length = cs.length := List.length_map _
    rw [show List.set [D.fz (cs.map D.int), .int i, .int sd, .int rs] 1 (.int (i + 1)) = [.fz (cs.map D.int), .int (i + 1), .int sd, .int rs] from rfl]
    have h1 : gup g r (.lst [.fz (cs.map D.int), .int (i + 1), .int sd, .int rs]) r = some (.lst [.fz (cs.map D.int), .int (i + 1), .int sd, .int rs]) := gup_same
    have gx : ∀ o, gup (gup g r (.lst [.fz (cs.map D.int), .int (i + 1), .int sd, .int rs])) r o = gup g r o := fun o => gup_gup
    generalize gup g r (.lst [.fz (cs.map D.int), .int (i + 1), .int sd, .int rs]) = G1 at h1 gx ⊢
    refine ⟨_, rfl, .int (i + 1), fIx_l h1 rfl, _, rfl, .fz (cs.map D.int), fIx_l h1 rfl, _, _, rfl, rfl, _, rfl, _, rfl, iteB (fun h4 => ?_) (fun h4 => ?_)⟩
    · refine ⟨_, rfl, .int sd, fIx_l h1 rfl, _, _, rfl, rfl, cm, _, rfl, _, rfl, _, _, rfl, rfl, (show (0 : Int) < 2147483647 by decide), _, rfl, r, _, 2, 2, rfl, rfl, h1, rfl, ?_⟩
      rw [gx]
      have h5 : gup g r (.lst [.fz (cs.map D.int), .int (i + 1), .int ((sd * 48271 + 11) % 2147483647), .int rs]) r = some (.lst [.fz (cs.map D.int), .int (i + 1), .int ((sd * 48271 + 11) % 2147483647), .int rs]) := gup_same
      refine ⟨_, rfl, .int ((sd * 48271 + 11) % 2147483647), fIx_l h5 rfl, _, _, rfl, rfl, ⟨by decide, by decide⟩, _, rfl, _, rfl, _, _, rfl, rfl, by omega, ?_⟩
      exact q _ _ (mv _).1 (mv _).2 ⟨cs, i + 1, _, rs, rfl, by omega, (sdv _).1, (sdv _).2⟩
    · have h4 := of_decide_eq_false h4
      rw [hcl] at h4
      have hi2 : i.toNat < cs.length := by omega
      have hix : fIx (.fz (cs.map D.int)) (.int (i + 1 - 1)) G1 = some (.int cs[i.toNat]) := by
        show atI (cs.map D.int) (i + 1 - 1) = _
        rw [show i + 1 - 1 = ((i.toNat : Nat) : Int) by omega]
        exact atI_nat (by rw [List.getElem?_map, List.getElem?_eq_getElem hi2] <;> rfl)
      generalize cs[i.toNat] = c at hix
      refine ⟨_, rfl, .fz (cs.map D.int), fIx_l h1 rfl, _, rfl, .int (i + 1), fIx_l h1 rfl, _, rfl, .int c, hix, ?_⟩
      refine ⟨_, rfl, .int sd, fIx_l h1 rfl, _, _, rfl, rfl, cm, _, rfl, _, rfl, _, rfl, _, rfl, _, _, rfl, rfl, (show (0 : Int) < 2147483647 by decide), _, rfl, r, _, 2, 2, rfl, rfl, h1, rfl, ?_⟩
      rw [gx]
      have h5 : gup g r (.lst [.fz (cs.map D.int), .int (i + 1), .int ((sd * 48271 + c + 11) % 2147483647), .int rs]) r = some (.lst [.fz (cs.map D.int), .int (i + 1), .int ((sd * 48271 + c + 11) % 2147483647), .int rs]) := gup_same
      have fin : ∀ rs', Q (.int (c % m)) (gup g r (.lst [.fz (cs.map D.int), .int (i + 1), .int ((sd * 48271 + c + 11) % 2147483647), .int rs'])) := fun rs' => q _ _ (mv c).1 (mv c).2 ⟨cs, i + 1, _, rs', rfl, by omega, (sdv _).1, (sdv _).2⟩
      refine ⟨_, rfl, _, _, rfl, rfl, ⟨by decide, by decide, by decide⟩, _, rfl, _, rfl, iteB (fun h6 => ?_) (fun h6 => ?_)⟩
      · refine ⟨_, rfl, _, rfl, _, _, rfl, rfl, ⟨by omega, by omega⟩, _, rfl, r, _, 3, 3, rfl, rfl, h5, rfl, ?_⟩
        rw [gup_gup]
        exact ⟨_, rfl, _, rfl, _, rfl, _, _, rfl, rfl, by omega, fin _⟩
      · exact ⟨_, rfl, _, rfl, _, rfl, _, _, rfl, rfl, by omega, fin _⟩
theorem d__law_pick (T : Txt K mg) {f : Addr} {fd : FuncData} (F : FnT K "_law_pick" "_law_pick" s__law_pick f fd) (hm : mg "_law_pick" = some (.ref f))
    (H__law_taken : CallD P w K mg base 1 "_law_taken" φ_taken) : CallD P w K mg base 2 "_law_pick" φ_pick := by
  refine callD F hm (ps := P__law_pick) (fun _ _ _ _ _ _ us hl => match us, hl with | [_, _], _ => rfl) (okD F sc__law_pick (by first | exact len__law_pick | exact len__law_pick _) fun cdv A outer s H E hr => ⟨_, (dss_one (ds_ret (de_ix (de_var 1) (de_call H__law_taken (hr.mono (by decide)) (da_cons (de_var 0) (da_cons (de_callB call_len simC_len T.n_len (by decide +kernel) (da_cons (de_var 1) da_nil)) da_nil)))))), ?_⟩)
  rintro ds g Q ⟨r, l, t, xs, rfl, hr, hl, ht, ⟨h1, h2, htr⟩, q⟩
  walk_at "go"
  refine ⟨_, _, rfl, fLen_l ht, r, l, xs.length, rfl, hr, hl, ⟨by omega, by omega⟩, fun v l' h3 h4 h5 => ?_⟩
  obtain ⟨n, rfl⟩ := Int.eq_ofNat_of_zero_le h3
  have hn : n < xs.length := by omega
  exact ⟨xs[n], fIx_l ((gup_ne htr).trans ht) (atI_nat (List.getElem?_eq_getElem hn)), q _ _ (List.getElem_mem hn) h5⟩
end
end SW
set_option Elab.async false
set_option linter.all false
set_option maxRecDepth 100000
set_option maxHeartbeats 4000000
namespace DL
open PySem PySem.Spec PyProof.Rows L2
/-! a list or a tuple, walked -/
def iSeqV (K : PySem.W.Frag) (tl : TE) : TI := fun σ H R => tl σ H fun x H1 => ∃ a, x = .ref a ∧ (((∃ xs, SqL K H1 a xs) ∧ R (Itl K a) H1) ∨ ((∃ xs, SqT K H1 a xs) ∧ R (Itt K a) H1))
theorem pi_seq {X : Cx} {tg l : Expr} {tl : TE} (hl : PE X l tl) : PI X tg l (iSeqV X.K tl) := by
  constructor
  intro pins s σ H R I h
  refine thn (hl.run pins s σ H _ I h) fun v s1 ⟨x, H1, I1, r1, a, e, q⟩ => ?_
  subst e
  cases r1
  have fresh : ∀ b ∈ [s1.heap.objs.size], FpOk X pins H1 b := fun b hb => by
    rw [List.mem_singleton.mp hb]
    exact I1.fpOk (Nat.le_refl _) (I1.hok.fresh (Nat.le_refl _))
  rcases q with ⟨⟨xs, hq⟩, q⟩ | ⟨⟨xs, hq⟩, q⟩
  · obtain ⟨its, rv, p, hz⟩ := I1.list hq
    exact wpAny_pyIter_list p.isList ⟨s1.heap.objs.size, [s1.heap.objs.size], _, _, H1, rfl, I1.kept (t' := s1.toks) fun b o e => Heap.get?_push_of_some _ e, turn_list a _, ⟨_, Heap.get?_push_size _ rfl, rfl, rfl⟩, fresh, q⟩
  · obtain ⟨its, rv, p, hz⟩ := I1.tuple hq
    exact wpAny_pyIter_tuple (show s1.heap.IsTuple a its.toArray from p) ⟨s1.heap.objs.size, [s1.heap.objs.size], _, _, H1, rfl, I1.kept (t' := s1.toks) fun b o e => Heap.get?_push_of_some _ e, turn_tuple a _, ⟨_, Heap.get?_push_size _ rfl, rfl, rfl⟩, fresh, q⟩
def SeqD (g : G) (x : D) (ds : List D) (keep : G → Prop) : Prop := (∃ a, x = .adr a ∧ g a = some (.lst ds) ∧ keep = fun g => g a = some (.lst ds)) ∨ (x = .tup ds ∧ keep = fun _ => True)
def iS (te : DTE) : DTI := fun Γ g Q => te Γ g fun x g1 => ∃ ds keep, SeqD g1 x ds keep ∧ Q ds keep g1
theorem di_seq {X : Cx} {tgE e : Expr} {te : DTE} (he : DE X e te) : DI X tgE e (iS te) := by
  obtain ⟨xe, pe, se⟩ := he
  refine ⟨_, pi_seq pe, fun σ H Γ g Q R hG hH k h => ?_⟩
  refine se σ H Γ g _ _ hG hH (fun d g1 v H1 t1 i1 hH1 q1 => ?_) h
  obtain ⟨ds, keep, ⟨a, rfl, hg, rfl⟩ | ⟨rfl, rfl⟩, q⟩ := q1
  · obtain ⟨xs, e1, e2⟩ := hH1 a _ hg
    refine ⟨a, i1, .inl ⟨⟨xs, SqL.of e1⟩, k _ ds _ g1 H1 t1 hH1 ⟨fun i H g _ hH hk hi => ?_, fun i H g x H' _ hH hk hi y => ?_, fun i H g _ hH hk hi => ?_⟩ q⟩⟩
    · obtain ⟨ys, f1, f2⟩ := hH a _ hk
      obtain ⟨u, hu, iu⟩ := f2.get (List.getElem?_eq_getElem hi)
      exact ⟨ys, u, SqL.of f1, hu⟩
    · obtain ⟨ys, f1, f2⟩ := hH a _ hk
      obtain ⟨u, hu, iu⟩ := f2.get (List.getElem?_eq_getElem hi)
      obtain ⟨rfl, y⟩ := y
      have ex := y ys (SqL.of f1)
      rw [hu] at ex
      cases ex
      exact ⟨_, List.getElem?_eq_getElem hi, iu, TupX.refl _, hH⟩
    · obtain ⟨ys, f1, f2⟩ := hH a _ hk
      exact ⟨ys, SqL.of f1, by rw [f2.length]; exact hi⟩
  · obtain ⟨a, xs, rfl, e1, e2⟩ := i1
    refine ⟨a, rfl, .inr ⟨⟨xs, e1⟩, k _ ds _ g1 H1 t1 hH1 ⟨fun i H g t hH hk hi => ?_, fun i H g x H' t hH hk hi y => ?_, fun i H g t hH hk hi => ?_⟩ q⟩⟩
    · obtain ⟨u, hu, iu⟩ := e2.get (List.getElem?_eq_getElem hi)
      exact ⟨xs, u, t.1 a xs e1, hu⟩
    · obtain ⟨u, hu, iu⟩ := e2.get (List.getElem?_eq_getElem hi)
      obtain ⟨rfl, y⟩ := y
      have ex := y xs (t.1 a xs e1)
      rw [hu] at ex
      cases ex
      exact ⟨_, List.getElem?_eq_getElem hi, iu.mono t, TupX.refl _, hH⟩
    · exact ⟨xs, t.1 a xs e1, by rw [e2.length]; exact hi⟩
end DL
namespace SW
open PySem PySem.Spec PyProof.Rows L2 DL
local macro_rules | `(tactic| walk_at "cond") => `(tactic| first | (show (0 : Int) < _; decide) | (show (0 : Int) < _; omega) | assumption | (refine Bd.mul ?_; assumption) | (refine Or.inl ⟨?_, ?_⟩ <;> omega) | (refine Or.inr ⟨?_, ?_⟩ <;> omega) | decide)
local macro_rules | `(tactic| walk_at "go1") => `(tactic| first
  | refine ⟨_, rfl, ?_⟩
  | refine ⟨_, _, rfl, rfl, by walk_at "cond", ?_⟩
  | refine ⟨_, _, rfl, rfl, ?_⟩
  | refine ⟨_, _, rfl, ?_⟩
  | refine ⟨rfl, ?_⟩
  | refine iteT ?_
  | refine iteF ?_
  | refine ⟨_, _, _, rfl, ?_⟩
  | refine ⟨(by decide +kernel : _ = true), ?_⟩
  | refine iteT' (decide_eq_true (by omega)) ?_
  | refine iteF' (decide_eq_false (by omega)) ?_
  | (dsimp only; refine iteT' (by simp only [decide_eq_true_eq, Bool.not_eq_true', decide_eq_false_iff_not]; omega) ?_)
  | (dsimp only; refine iteF' (by simp only [decide_eq_true_eq, Bool.not_eq_false', decide_eq_false_iff_not]; omega) ?_))
local macro_rules | `(tactic| walk_at "go") => `(tactic| repeat walk_at "go1")
def d3 (s : Int × Int × Int) : D := .tup [.int s.1, .int s.2.1, .int s.2.2]
/-- the word w, a tuple or a list -/
def SrcW (g : G) (x : D) (w : List It) : Prop := x = dW w ∨ ∃ a, x = .adr a ∧ g a = some (.lst (w.map dI))
def φ_unit : DSp := fun ds g Q => ∃ h : Int, ds = [.int h] ∧ ∀ g', GX g g' → Q (dP (rx 1 0 h) (ry 1 0 h)) g'
theorem len__law_unit (ds : List D) (g : G) (Q : DK) (h : φ_unit ds g Q) : ds.length = P__law_unit.length := by
  obtain ⟨_, rfl, _⟩ := h
  rfl
def φ_quarter : DSp := fun ds g Q => ∃ x y k : Int, ds = [dP x y, .int k] ∧ ∀ g', GX g g' → Q (dP (rx x y k) (ry x y k)) g'
theorem len__law_quarter (ds : List D) (g : G) (Q : DK) (h : φ_quarter ds g Q) : ds.length = P__law_quarter.length := by
  obtain ⟨_, _, _, rfl, _⟩ := h
  rfl
theorem len__law_product (ds : List D) (g : G) (Q : DK) (h : φ_times ds g Q) : ds.length = P__law_product.length := by
  obtain ⟨_, _, _, _, rfl, _⟩ := h
  rfl
def φ_drawn : DSp := fun ds g Q => ∃ x w, ds = [x] ∧ SrcW g x w ∧ bal 0 w = true ∧ w.length ≤ 8000000 ∧ ∀ p g', GX g g' → g p = none → g' p = some (.lst ((strokes w).map dS)) → Q (.tup [.adr p, .tup [.int (run p0 w).x, .int (run p0 w).y, .int (run p0 w).h]]) g'
theorem len__law_drawn (ds : List D) (g : G) (Q : DK) (h : φ_drawn ds g Q) : ds.length = P__law_drawn.length := by
  obtain ⟨_, _, rfl, _⟩ := h
  rfl
section
variable {P : Program} {w : World} {K : PySem.W.Frag} {mg : Str → Option Value} {base : Heap}
theorem d__law_unit (T : Txt K mg) {f : Addr} {fd : FuncData} (F : FnT K "_law_unit" "_law_unit" s__law_unit f fd) (hm : mg "_law_unit" = some (.ref f)) : CallD P w K mg base 1 "_law_unit" φ_unit := by
  refine callD F hm (ps := P__law_unit) (fun _ _ _ _ _ _ us hl => match us, hl with | [_], _ => rfl) (okD F sc__law_unit (by first | exact len__law_unit | exact len__law_unit _) fun cdv A outer s H E hr => ⟨_, (dss_one (ds_ret (de_ix (de_lst (da_cons (de_tup (da_cons de_int (da_cons de_int da_nil))) (da_cons (de_tup (da_cons de_int (da_cons de_int da_nil))) (da_cons (de_tup (da_cons (de_un un_neg simU_neg de_int) (da_cons de_int da_nil))) (da_cons (de_tup (da_cons de_int (da_cons (de_un un_neg simU_neg de_int) da_nil))) da_nil))))) (de_op op_mod simR_I (de_callTy call_int1 simC_int T.n_int (by decide +kernel) (da_cons (de_var 0) da_nil)) de_int)))), ?_⟩)
  rintro ds g Q ⟨h, rfl, q⟩
  walk_at "go"
  intro p hp
  have gp : gup g p (.lst [dP 1 0, dP 0 1, dP (-1) 0, dP 0 (-1)]) p = some (.lst [dP 1 0, dP 0 1, dP (-1) 0, dP 0 (-1)]) := gup_same
  have q := q _ (GX.new (o := .lst [dP 1 0, dP 0 1, dP (-1) 0, dP 0 (-1)]) hp)
  refine ⟨_, rfl, _, rfl, _, _, rfl, rfl, (show (0 : Int) < 4 by decide), dP (rx 1 0 h) (ry 1 0 h), fIx_l gp ?_, q⟩
  have e : rx 1 0 h = (if h % 4 = 0 then 1 else if h % 4 = 1 then -0 else if h % 4 = 2 then -1 else 0) := rfl
  have e' : ry 1 0 h = (if h % 4 = 0 then 0 else if h % 4 = 1 then 1 else if h % 4 = 2 then -0 else -1) := rfl
  rw [e, e']
  rcases h_mod h with h | h | h | h <;> rw [h] <;> rfl
theorem d__law_quarter (T : Txt K mg) {f : Addr} {fd : FuncData} (F : FnT K "_law_quarter" "_law_quarter" s__law_quarter f fd) (hm : mg "_law_quarter" = some (.ref f)) : CallD P w K mg base 1 "_law_quarter" φ_quarter := by
  refine callD F hm (ps := P__law_quarter) (fun _ _ _ _ _ _ us hl => match us, hl with | [_, _], _ => rfl) (okD F sc__law_quarter (by first | exact len__law_quarter | exact len__law_quarter _) fun cdv A outer s H E hr => ⟨_, (dss_cons (ds_asg (de_var 0) (dg_tup (n := 2) (dgs_cons (dg_name 2 sc__law_quarter.nd) (dgs_cons (dg_name 3 sc__law_quarter.nd) dgs_nil))))
      (dss_one (ds_ret (de_ix (de_lst (da_cons (de_tup (da_cons (de_var 2) (da_cons (de_var 3) da_nil))) (da_cons (de_tup (da_cons (de_op op_sub simR_I0 de_int (de_var 3)) (da_cons (de_var 2) da_nil))) (da_cons (de_tup (da_cons (de_op op_sub simR_I0 de_int (de_var 2)) (da_cons (de_op op_sub simR_I0 de_int (de_var 3)) da_nil))) (da_cons (de_tup (da_cons (de_var 3) (da_cons (de_op op_sub simR_I0 de_int (de_var 2)) da_nil))) da_nil))))) (de_op op_mod simR_I (de_callTy call_int1 simC_int T.n_int (by decide +kernel) (da_cons (de_var 1) da_nil)) de_int))))), ?_⟩)
  rintro ds g Q ⟨x, y, k, rfl, q⟩
  walk_at "go"
  intro p hp
  have gp : gup g p (.lst [dP x y, dP (0 - y) x, dP (0 - x) (0 - y), dP y (0 - x)]) p = some (.lst [dP x y, dP (0 - y) x, dP (0 - x) (0 - y), dP y (0 - x)]) := gup_same
  have q := q _ (GX.new (o := .lst [dP x y, dP (0 - y) x, dP (0 - x) (0 - y), dP y (0 - x)]) hp)
  refine ⟨_, rfl, _, rfl, _, _, rfl, rfl, (show (0 : Int) < 4 by decide), dP (rx x y k) (ry x y k), fIx_l gp ?_, q⟩
  have e : rx x y k = (if k % 4 = 0 then x else if k % 4 = 1 then -y else if k % 4 = 2 then -x else y) := rfl
  have e' : ry x y k = (if k % 4 = 0 then y else if k % 4 = 1 then x else if k % 4 = 2 then -y else -x) := rfl
  have z : ∀ a : Int, -a = 0 - a := fun a => by omega
  rw [e, e', z x, z y]
  rcases h_mod k with h | h | h | h <;> rw [h] <;> rfl
theorem d__law_product (T : Txt K mg) {f : Addr} {fd : FuncData} (F : FnT K "_law_product" "_law_product" s__law_product f fd) (hm : mg "_law_product" = some (.ref f)) : CallD P w K mg base 1 "_law_product" φ_times := by
  refine callD F hm (ps := P__law_product) (fun _ _ _ _ _ _ us hl => match us, hl with | [_, _], _ => rfl) (okD F sc__law_product (by first | exact len__law_product | exact len__law_product _) fun cdv A outer s H E hr => ⟨_, (dss_one (ds_ret (de_tup (da_cons (de_op op_sub simR_I0 (de_op op_mul simR_I (de_ix (de_var 0) de_int) (de_ix (de_var 1) de_int)) (de_op op_mul simR_I (de_ix (de_var 0) de_int) (de_ix (de_var 1) de_int))) (da_cons (de_op op_add simR_I0 (de_op op_mul simR_I (de_ix (de_var 0) de_int) (de_ix (de_var 1) de_int)) (de_op op_mul simR_I (de_ix (de_var 0) de_int) (de_ix (de_var 1) de_int))) da_nil))))), ?_⟩)
  rintro ds g Q ⟨a, b, c, d, rfl, ⟨ha, hb⟩, q⟩
  refine ⟨_, rfl, _, rfl, _, rfl, _, rfl, _, _, rfl, rfl, ha.mul, _, rfl, _, rfl, _, rfl, _, rfl, _, _, rfl, rfl, hb.mul, _, rfl, ?_⟩
  refine ⟨_, rfl, _, rfl, _, rfl, _, rfl, _, _, rfl, rfl, ha.mul, _, rfl, _, rfl, _, rfl, _, rfl, _, _, rfl, rfl, hb.mul, _, rfl, q⟩
theorem d__law_drawn (T : Txt K mg) {f : Addr} {fd : FuncData} (F : FnT K "_law_drawn" "_law_drawn" s__law_drawn f fd) (hm : mg "_law_drawn" = some (.ref f))
    (H__law_unit : CallD P w K mg base 1 "_law_unit" φ_unit) : CallD P w K mg base 2 "_law_drawn" φ_drawn := by
  refine callD F hm (ps := P__law_drawn) (fun _ _ _ _ _ _ us hl => match us, hl with | [_], _ => rfl) (okD F sc__law_drawn (by first | exact len__law_drawn | exact len__law_drawn _) fun cdv A outer s H E hr => ⟨_, (dss_cons (ds_asg (de_tup (da_cons de_int (da_cons de_int (da_cons de_int (da_cons (de_lst da_nil) (da_cons (de_lst da_nil) da_nil)))))) (dg_tup (n := 5) (dgs_cons (dg_name 1 sc__law_drawn.nd) (dgs_cons (dg_name 2 sc__law_drawn.nd) (dgs_cons (dg_name 3 sc__law_drawn.nd) (dgs_cons (dg_name 4 sc__law_drawn.nd) (dgs_cons (dg_name 5 sc__law_drawn.nd) dgs_nil)))))))
      (dss_cons (ds_for (di_seq (de_var 0)) (dg_name 6 sc__law_drawn.nd) (dss_one (ds_if (db_cmp op_eq simR_eq (de_var 6) de_str) (dss_one (ds_expr (de_append (de_var 5) (de_tup (da_cons (de_var 1) (da_cons (de_var 2) (da_cons (de_var 3) da_nil))))))) (dss_one (ds_if (db_cmp op_eq simR_eq (de_var 6) de_str) (dss_one (ds_asg (de_pop (de_var 5)) (dg_tup (n := 3) (dgs_cons (dg_name 1 sc__law_drawn.nd) (dgs_cons (dg_name 2 sc__law_drawn.nd) (dgs_cons (dg_name 3 sc__law_drawn.nd) dgs_nil)))))) (dss_one (ds_if (db_val (de_isi .s (de_var 6) T.n_isinstance T.n_str (by decide +kernel))) (dss_one (ds_set 3 (de_op op_mod simR_I (de_callTy call_int1 simC_int T.n_int (by decide +kernel) (da_cons (de_op op_add simR_I0 (de_var 3) (de_if (db_cmp op_eq simR_eq (de_var 6) de_str) de_int de_int)) da_nil)) de_int) sc__law_drawn.nd)) (dss_cons (ds_expr (de_append (de_var 4) (de_tup (da_cons (de_var 1) (da_cons (de_var 2) (da_cons (de_var 3) (da_cons (de_var 6) da_nil)))))))
      (dss_one (ds_par 1 2 (da_cons (de_op op_add simR_I0 (de_var 1) (de_ix (de_call H__law_unit (hr.mono (by decide)) (da_cons (de_var 3) da_nil)) de_int)) (da_cons (de_op op_add simR_I0 (de_var 2) (de_ix (de_call H__law_unit (hr.mono (by decide)) (da_cons (de_var 3) da_nil)) de_int)) da_nil)) sc__law_drawn.nd))))))))))
      (dss_one (ds_ret (de_tup (da_cons (de_var 4) (da_cons (de_tup (da_cons (de_var 1) (da_cons (de_var 2) (da_cons (de_var 3) da_nil)))) da_nil))))))), ?_⟩)
  rintro ds g Q ⟨x0, w, rfl, hx, hb, hl, q⟩
  intro r hr l hlf
  have hrl := gne gup_same hlf
  have nl : g l = none := by rw [gup_ne hrl.symm] at hlf; exact hlf
  have xg : GX g (gup (gup g r (.lst [])) l (.lst [])) := ((GX.refl g).mut hr).mut nl
  have sz : sizeLine = 16777216 := sizeLine_eq
  have start : ∃ keep, SeqD (gup (gup g r (.lst [])) l (.lst [])) x0 (w.map dI) keep ∧ ∀ g', GX g g' → keep g' := by
    rcases hx with rfl | ⟨a, rfl, ha⟩
    · exact ⟨_, .inr ⟨rfl, rfl⟩, fun _ _ => trivial⟩
    · exact ⟨_, .inl ⟨a, rfl, xg _ _ ha, rfl⟩, fun g' e => e _ _ ha⟩
  obtain ⟨keep, hseq, hkeep⟩ := start
  refine ⟨_, rfl, rfl, _, _, rfl, _, _, rfl, _, _, rfl, _, _, rfl, _, _, rfl, rfl, x0, rfl, w.map dI, keep, hseq, ?_⟩
  refine ⟨fun i Γ g' => ∃ (p : Pn) (acc : List Stk) (d : Option D), Γ = [some x0, some (.int p.x), some (.int p.y), some (.int p.h), some (.adr r), some (.adr l), d] ∧ GX g g' ∧ g' r = some (.lst (acc.map dS)) ∧ g' l = some (.lst (p.st.reverse.map d3)) ∧ PnOk p ∧ p.st.length ≤ i ∧ acc.length ≤ i ∧ bal p.st.length (w.drop i) = true ∧ strokes w = acc ++ strokesFrom p (w.drop i) ∧ run p0 w = run p (w.drop i),
    ⟨p0, [], none, rfl, xg, (gup_ne hrl).trans gup_same, gup_same, p0_ok, Nat.le_refl _, Nat.le_refl _, hb, rfl, rfl⟩, fun i Γ g' _ h => ?_, ?_, ?_⟩
  · obtain ⟨_, _, _, _, h, _⟩ := h
    exact hkeep g' h
  · rintro i x Γ g' hx ⟨p, acc, d, rfl, hg, h1, h2, hp, hd, hacc, hbl, heq, hrn⟩
    obtain ⟨s, hs, rfl⟩ := map_of hx
    have hi := (List.getElem?_eq_some_iff.mp hs).1
    rw [drop_of hs] at hbl heq hrn
    rw [strokes_cons] at heq
    have hrn : run p0 w = run (p.step s) (w.drop (i + 1)) := hrn
    have okp := hp.step s
    cases s with
    | L j =>
      walk_at "go"
      refine ⟨⟨_, _, rfl, h1⟩, ?_⟩
      walk_at "go"
      refine ⟨_, _, _, rfl, rfl, h1, by rw [List.length_map]; omega, ?_⟩
      have k1 : GX g (gup g' r (.lst (acc.map dS ++ [.tup [.int p.x, .int p.y, .int p.h, dI (.L j)]]))) := hg.mut hr
      have k2 : gup g' r (.lst (acc.map dS ++ [.tup [.int p.x, .int p.y, .int p.h, dI (.L j)]])) r = some (.lst ((acc ++ [(⟨p.x, p.y, p.h, j⟩ : Stk)]).map dS)) := by
        rw [gup_same, List.map_append]
        rfl
      have k3 : gup g' r (.lst (acc.map dS ++ [.tup [.int p.x, .int p.y, .int p.h, dI (.L j)]])) l = some (.lst (p.st.reverse.map d3)) := (gup_ne hrl.symm).trans h2
      generalize gup g' r (.lst (acc.map dS ++ [.tup [.int p.x, .int p.y, .int p.h, dI (.L j)]])) = G1 at k1 k2 k3 ⊢
      refine ⟨_, rfl, _, rfl, p.h, rfl, fun g2 e2 => ?_⟩
      walk_at "go"
      refine fun g3 e3 => ?_
      walk_at "go"
      refine ⟨p.go, acc ++ [⟨p.x, p.y, p.h, j⟩], _, rfl, (k1.trans e2).trans e3, e3 _ _ (e2 _ _ k2), e3 _ _ (e2 _ _ k3), okp, by show p.st.length ≤ i + 1; omega, by rw [List.length_append]; show acc.length + 1 ≤ i + 1; omega, hbl, ?_, hrn⟩
      rw [heq, List.append_assoc]
      rfl
    | op =>
      walk_at "go"
      refine ⟨⟨_, _, rfl, h2⟩, ?_⟩
      walk_at "go"
      refine ⟨_, _, _, rfl, rfl, h2, by rw [List.length_map, List.length_reverse]; omega, ?_⟩
      refine ⟨p.mark .op, acc, _, rfl, hg.mut nl, (gup_ne hrl).trans h1, ?_, okp, by show p.st.length + 1 ≤ i + 1; omega, by omega, hbl, heq, hrn⟩
      rw [gup_same]
      show some (GO.lst _) = some (GO.lst (List.map d3 ((p.x, p.y, p.h) :: p.st).reverse))
      rw [List.reverse_cons, List.map_append]
      rfl
    | cl =>
      walk_at "go"
      cases e : p.st with
      | nil => rw [e] at hbl; cases hbl
      | cons t tl =>
        obtain ⟨tx, ty, th⟩ := t
        have em : p.mark .cl = ⟨tx, ty, th, tl⟩ := by
          unfold Pn.mark
          rw [e]
        have okp : PnOk (p.mark .cl) := okp
        have hrn : run p0 w = run (p.mark .cl) (w.drop (i + 1)) := hrn
        have heq : strokes w = acc ++ strokesFrom (p.mark .cl) (w.drop (i + 1)) := heq
        rw [em] at okp hrn heq
        have hl2 := h2
        rw [e, List.reverse_cons, List.map_append] at hl2
        rw [e] at hbl hd
        have hd2 : tl.length + 1 ≤ i := hd
        refine ⟨⟨_, _, rfl, h2⟩, _, _, _, rfl, rfl, hl2, ?_⟩
        refine ⟨_, rfl, rfl, _, _, rfl, _, _, rfl, _, _, rfl, rfl, ⟨tx, ty, th, tl⟩, acc, _, rfl, hg.mut nl, (gup_ne hrl).trans h1, gup_same, okp, by show tl.length ≤ i + 1; omega, by omega, hbl, heq, hrn⟩
    | tl =>
      walk_at "go"
      exact ⟨p.mark .tl, acc, _, rfl, hg, h1, h2, okp, by show p.st.length ≤ i + 1; omega, by omega, hbl, heq, hrn⟩
    | tr =>
      walk_at "go"
      exact ⟨p.mark .tr, acc, _, rfl, hg, h1, h2, okp, by show p.st.length ≤ i + 1; omega, by omega, hbl, heq, hrn⟩
  · rintro Γ g' ⟨p, acc, d, rfl, hg, h1, h2, hp, hd, hacc, hbl, heq, hrn⟩
    rw [List.length_map, List.drop_length] at heq hrn
    have e : strokes w = acc := heq.trans (List.append_nil _)
    have e2 : run p0 w = p := hrn
    rw [e, e2] at q
    refine ⟨_, rfl, _, rfl, _, rfl, _, rfl, q r g' hg hr h1⟩
end
end SW
set_option Elab.async false
set_option linter.all false
set_option maxRecDepth 100000
set_option maxHeartbeats 4000000
namespace SW
open PySem PySem.Spec PyProof.Rows L2 DL
local macro_rules | `(tactic| walk_at "cond") => `(tactic| first | (show (0 : Int) < _; decide) | (show (0 : Int) < _; omega) | assumption | (refine Bd.mul ?_; assumption) | (refine Or.inl ⟨?_, ?_⟩ <;> omega) | (refine Or.inr ⟨?_, ?_⟩ <;> omega) | decide)
local macro_rules | `(tactic| walk_at "go1") => `(tactic| first
  | refine ⟨_, rfl, ?_⟩
  | refine ⟨_, _, rfl, rfl, by walk_at "cond", ?_⟩
  | refine ⟨_, _, rfl, rfl, ?_⟩
  | refine ⟨_, _, rfl, ?_⟩
  | refine ⟨rfl, ?_⟩
  | refine iteT ?_
  | refine iteF ?_
  | refine ⟨_, _, _, rfl, ?_⟩
  | refine ⟨(by decide +kernel : _ = true), ?_⟩
  | refine iteT' (decide_eq_true (by omega)) ?_
  | refine iteF' (decide_eq_false (by omega)) ?_
  | (dsimp only; refine iteT' (by simp only [decide_eq_true_eq, Bool.not_eq_true', decide_eq_false_iff_not]; omega) ?_)
  | (dsimp only; refine iteF' (by simp only [decide_eq_true_eq, Bool.not_eq_false', decide_eq_false_iff_not]; omega) ?_))
local macro_rules | `(tactic| walk_at "go") => `(tactic| repeat walk_at "go1")
def φ_grown : DSp := fun ds g Q => ∃ b n, ds = [dB b, .int (n : Nat)] ∧ (∀ w ∈ b.ws, ∀ i, It.L i ∈ w → i < b.ws.length) ∧ (∀ i, It.L i ∈ b.st → i < b.ws.length) ∧ (∀ k, k ≤ n → (growN b.ws k b.st).length ≤ 8000000) ∧ n ≤ 1000 ∧ NewL ((growN b.ws n b.st).map dI) g Q
theorem len__law_grown (ds : List D) (g : G) (Q : DK) (h : φ_grown ds g Q) : ds.length = P__law_grown.length := by
  obtain ⟨_, _, rfl, _⟩ := h
  rfl
def φ_lawage : DSp := fun ds g Q => ∃ b m, ds = [dB b, .int m] ∧ (∀ w ∈ b.ws, ∀ i, It.L i ∈ w → i < b.ws.length) ∧ (∀ i, It.L i ∈ b.st → i < b.ws.length) ∧
  (∀ n, n ≤ 8 → (∀ k, 1 ≤ k → k < n → ((ltrs (growN b.ws k b.st)).length : Int) ≤ m) → ∀ k, k ≤ n → (growN b.ws k b.st).length ≤ 8000000) ∧ True ∧ True ∧
  ∀ n : Nat, n ≤ 8 → (∀ k, 1 ≤ k → k ≤ n → ((ltrs (growN b.ws k b.st)).length : Int) ≤ m) → ∀ g', GX g g' → Q (.int n) g'
theorem len__law_age (ds : List D) (g : G) (Q : DK) (h : φ_lawage ds g Q) : ds.length = P__law_age.length := by
  obtain ⟨_, _, rfl, _⟩ := h
  rfl
section
variable {P : Program} {w : World} {K : PySem.W.Frag} {mg : Str → Option Value} {base : Heap}
theorem d__law_grown (T : Txt K mg) {f : Addr} {fd : FuncData} (F : FnT K "_law_grown" "_law_grown" s__law_grown f fd) (hm : mg "_law_grown" = some (.ref f)) : CallD P w K mg base 2 "_law_grown" φ_grown := by
  refine callD F hm (ps := P__law_grown) (fun _ _ _ _ _ _ us hl => match us, hl with | [_, _], _ => rfl) (okD F sc__law_grown (by first | exact len__law_grown | exact len__law_grown _) fun cdv A outer s H E hr => ⟨_, (dss_cons (ds_set 2 (de_ix (de_var 0) de_int) sc__law_grown.nd)
      (dss_cons (ds_for (di_range (de_var 1) T.n_range) (dg_name 3 sc__law_grown.nd) (dss_cons (ds_set 4 (de_lst da_nil) sc__law_grown.nd)
      (dss_cons (ds_for (di_seq (de_var 2)) (dg_name 5 sc__law_grown.nd) (dss_one (ds_set 4 (de_op op_cat simR_catL (de_var 4) (de_if (db_not (db_val (de_isi .s (de_var 5) T.n_isinstance T.n_str (by decide +kernel)))) (de_callTy call_list_of simC_listOf T.n_list (by decide +kernel) (da_cons (de_ix (de_ix (de_var 0) de_int) (de_var 5)) da_nil)) (de_lst (da_cons (de_var 5) da_nil)))) sc__law_grown.nd)))
      (dss_one (ds_set 2 (de_var 4) sc__law_grown.nd)))))
      (dss_one (ds_ret (de_callTy call_list_of simC_listOf T.n_list (by decide +kernel) (da_cons (de_var 2) da_nil)))))), ?_⟩)
  rintro ds g Q ⟨b, n, rfl, h1, h2, h3, h4, q⟩
  have sz : sizeLine = 16777216 := sizeLine_eq
  refine ⟨_, rfl, _, rfl, ?_⟩
  refine ⟨_, rfl, _, rfl, ⟨by omega, by omega⟩, ?_⟩
  refine ⟨fun i Γ g' => ∃ (y : D) (x3 x4 x5 : Option D), Γ = [some (dB b), some (.int n), some y, x3, x4, x5] ∧ GX g g' ∧ SrcW g' y (growN b.ws i b.st), ⟨dW b.st, none, none, none, rfl, GX.refl g, .inl rfl⟩, fun _ _ _ _ _ => trivial, ?_, ?_⟩
  · rintro i x Γ g' hx ⟨y, x3, x4, x5, rfl, hg, hy⟩
    obtain ⟨hi, rfl⟩ := rng_get.mp hx
    have hi : i < n := by omega
    have len0 := h3 i (by omega)
    have len1 := h3 (i + 1) (by omega)
    intro r hr
    have er : GX g' (gup g' r (.lst [])) := GX.new hr
    have hsq : ∃ keep, SeqD (gup g' r (.lst [])) y ((growN b.ws i b.st).map dI) keep ∧ ∀ g2, GX g' g2 → keep g2 := by
      rcases hy with rfl | ⟨a, rfl, ha⟩
      · exact ⟨_, .inr ⟨rfl, rfl⟩, fun _ _ => trivial⟩
      · exact ⟨_, .inl ⟨a, rfl, er _ _ ha, rfl⟩, fun g' e => e _ _ ha⟩
    obtain ⟨keep, hseq, hkeep⟩ := hsq
    refine ⟨_, rfl, _, keep, hseq, ?_⟩
    have hlt := growN_lt h1 h2 i
    have step : growN b.ws (i + 1) b.st = (growN b.ws i b.st).flatMap (sub1 b.ws) := rfl
    rw [step] at len1
    refine ⟨fun j Γ g2 => ∃ (c : Addr) (x5 : Option D), Γ = [some (dB b), some (.int n), some y, some (.int (0 + i)), some (.adr c), x5] ∧ GX g' g2 ∧ g2 c = some (.lst ((((growN b.ws i b.st).take j).flatMap (sub1 b.ws)).map dI)), ⟨r, x5, rfl, er, gup_same⟩, fun j Γ g2 _ h => ?_, ?_, ?_⟩
    · obtain ⟨_, _, _, h, _⟩ := h
      exact hkeep g2 h
    · rintro j x Γ g2 hx ⟨c, x5, rfl, hg2, hc⟩
      obtain ⟨s, hs, rfl⟩ := map_of hx
      have et : (growN b.ws i b.st).take (j + 1) = (growN b.ws i b.st).take j ++ [s] := by rw [List.take_add_one, hs] <;> rfl
      have ef : ((growN b.ws i b.st).take (j + 1)).flatMap (sub1 b.ws) = ((growN b.ws i b.st).take j).flatMap (sub1 b.ws) ++ sub1 b.ws s := by
        rw [et, List.flatMap_append]
        simp
      have le : (((growN b.ws i b.st).take (j + 1)).flatMap (sub1 b.ws)).length ≤ 8000000 := by
        have e := List.flatMap_append (xs := (growN b.ws i b.st).take (j + 1)) (ys := (growN b.ws i b.st).drop (j + 1)) (f := sub1 b.ws)
        rw [List.take_append_drop] at e
        rw [e, List.length_append] at len1
        omega
      rw [ef, List.length_append] at le
      -- what is added is a new list
      have fin : ∀ p, g2 p = none → ∃ (z : D → Prop), True := fun _ _ => ⟨fun _ => True, trivial⟩
      have add : ∀ p : Addr, g2 p = none → sCatL (.adr c) (.adr p) (gup g2 p (.lst ((sub1 b.ws s).map dI))) fun d g3 => ∃ (c : Addr) (x5 : Option D), [some (dB b), some (.int n), some y, some (.int (0 + i)), some d, some (dI s)] = [some (dB b), some (.int n), some y, some (.int (0 + i)), some (.adr c), x5] ∧ GX g' g3 ∧ g3 c = some (.lst ((((growN b.ws i b.st).take (j + 1)).flatMap (sub1 b.ws)).map dI)) := fun p hp => by
        refine ⟨c, p, _, _, rfl, rfl, (gup_ne (gne hc hp)).trans hc, gup_same, by rw [List.length_map, List.length_map]; omega, fun z hz => ⟨z, _, rfl, (hg2.trans (GX.new hp)).trans (GX.new hz), ?_⟩⟩
        rw [gup_same, ef, List.map_append]
      cases s with
      | L l =>
        have hl := hlt l (List.mem_of_getElem? hs)
        have ew : b.ws.getD l [] = b.ws[l] := by rw [List.getD_eq_getElem?_getD, List.getElem?_eq_getElem hl] <;> rfl
        walk_at "go"
        refine ⟨_, atI_nat (by rw [List.getElem?_map, List.getElem?_eq_getElem hl] <;> rfl), _, _, rfl, .inl rfl, fun p hp => ?_⟩
        have := add p hp
        rw [show sub1 b.ws (.L l) = b.ws[l] from ew] at this
        exact this
      | tl =>
        walk_at "go"
        exact fun p hp => add p hp
      | tr =>
        walk_at "go"
        exact fun p hp => add p hp
      | op =>
        walk_at "go"
        exact fun p hp => add p hp
      | cl =>
        walk_at "go"
        exact fun p hp => add p hp
    · rintro Γ g2 ⟨c, x5, rfl, hg2, hc⟩
      rw [List.length_map, List.take_length] at hc
      exact ⟨_, rfl, .adr c, _, _, _, rfl, hg.trans hg2, .inr ⟨c, rfl, hc⟩⟩
  · rintro Γ g' ⟨y, x3, x4, x5, rfl, hg, hy⟩
    rw [rng_len] at hy
    rw [show (n : Int).toNat = n by omega] at hy
    rcases hy with rfl | ⟨a, rfl, ha⟩
    · exact ⟨_, rfl, _, _, rfl, .inl rfl, fun p hp => q p _ (hg.trans (GX.new hp)) (hg.free hp) gup_same⟩
    · exact ⟨_, rfl, _, _, rfl, .inr ⟨a, rfl, ha⟩, fun p hp => q p _ (hg.trans (GX.new hp)) (hg.free hp) gup_same⟩
theorem d__law_age (T : Txt K mg) {f : Addr} {fd : FuncData} (F : FnT K "_law_age" "_law_age" s__law_age f fd) (hm : mg "_law_age" = some (.ref f))
    (H__law_grown : CallD P w K mg base 2 "_law_grown" φ_grown) : CallD P w K mg base 3 "_law_age" φ_lawage := by
  refine callD F hm (ps := P__law_age) (fun _ _ _ _ _ _ us hl => match us, hl with | [_, _], _ => rfl) (okD F sc__law_age (by first | exact len__law_age | exact len__law_age _) fun cdv A outer s H E hr => ⟨_, (dss_cons (ds_set 2 de_int sc__law_age.nd)
      (dss_cons (ds_while (dw_and (db_cmp op_lt simR_B (de_var 2) de_int) (dw_and1 (db_cmp op_le simR_B (de_callB call_len simC_len T.n_len (by decide +kernel) (da_cons (de_lc (own := [("_law_item", 3)]) (di_list (de_call H__law_grown (hr.mono (by decide)) (da_cons (de_var 0) (da_cons (de_op op_add simR_I0 (de_var 2) de_int) da_nil)))) sc__law_age.nd (blkOk_by (N := N__law_age) (sc := defScope s__law_age) (by decide +kernel)) (fun _ _ _ _ _ => (dgo_name 3 sc__law_age.nd)) (fun _ _ _ _ _ => (dts_one (db_not (db_val (de_isi .s (de_var 3) T.n_isinstance T.n_str (by decide +kernel)))))) (fun _ _ _ _ _ => (de_var 3))) da_nil)) (de_var 1)))).db (dss_one (ds_set 2 (de_op op_add simR_I0 (de_var 2) de_int) sc__law_age.nd)))
      (dss_one (ds_ret (de_var 2))))), ?_⟩)
  rintro ds g Q ⟨b, m, rfl, h1, h2, h3, h4, hm, q⟩
  refine ⟨fun Γ g' => ∃ (n : Nat) (x3 : Option D), Γ = [some (dB b), some (.int m), some (.int n), x3] ∧ GX g g' ∧ n ≤ 8 ∧ ∀ k, 1 ≤ k → k ≤ n → ((ltrs (growN b.ws k b.st)).length : Int) ≤ m, fun Γ _ => (match Γ with
      | [_, _, some (.int n), _] => (9 - n).toNat
      | _ => 0), ⟨0, none, rfl, GX.refl g, by omega, fun k a c => by omega⟩, ?_⟩
  rintro Γ g' ⟨n, x3, rfl, hg, hn, hk⟩
  have sz : sizeLine = 16777216 := sizeLine_eq
  walk_at "go"
  refine iteB (fun h8 => ?_) (fun h8 => ⟨_, rfl, q n hn hk g' hg⟩)
  have h8 := of_decide_eq_true h8
  have h8 : n < 8 := by omega
  have lens := h3 (n + 1) (by omega) fun k a c => hk k a (by omega)
  refine ⟨_, rfl, _, rfl, _, rfl, b, n + 1, rfl, h1, h2, lens, by omega, fun p g1 e1 np hp => ⟨p, _, rfl, hp, ?_⟩⟩
  refine lc_pure isLD id (by rw [List.length_map]; have := lens (n + 1) (Nat.le_refl _); omega) (fun a acc ha => (gup_ne (gne hp ha)).trans hp) (fun a i x acc N ha hx n1 n2 => ?_) (fun a ha => ?_)
  · obtain ⟨s, hs, rfl⟩ := map_of hx
    cases s with
    | L j =>
      walk_at "go"
      exact lc_yes (n2 rfl)
    | tl => walk_at "go"; exact n1 rfl
    | tr => walk_at "go"; exact n1 rfl
    | op => walk_at "go"; exact n1 rfl
    | cl => walk_at "go"; exact n1 rfl
  · rw [ltrs_fil]
    have e2 := (hg.trans e1).trans (GX.new (o := .lst ((nI (ltrs (growN b.ws (n + 1) b.st))).map D.int)) ha)
    have hl : ((nI (ltrs (growN b.ws (n + 1) b.st))).map D.int).length = (ltrs (growN b.ws (n + 1) b.st)).length := by
      unfold nI
      rw [List.length_map, List.length_map]
    refine ⟨_, _, rfl, fLen_l gup_same, _, rfl, _, rfl, _, rfl, iteB (fun h9 => ?_) (fun h9 => ⟨_, rfl, q n hn hk _ e2⟩)⟩
    have h9 := of_decide_eq_true h9
    rw [hl] at h9
    refine ⟨_, rfl, _, rfl, ⟨n + 1, x3, rfl, e2, by omega, fun k a c => ?_⟩, ?_⟩
    · by_cases hkn : k ≤ n
      · exact hk k a hkn
      · have : k = n + 1 := by omega
        subst this
        exact h9
    · show (9 - ((n : Int) + 1)).toNat < (9 - (n : Int)).toNat
      omega
end
end SW
set_option Elab.async false
set_option linter.all false
set_option maxRecDepth 100000
set_option maxHeartbeats 4000000
namespace SW
open PySem PySem.Spec PyProof.Rows L2 DL
local macro_rules | `(tactic| walk_at "cond") => `(tactic| first | (show (0 : Int) < _; decide) | (show (0 : Int) < _; omega) | assumption | (refine Bd.mul ?_; assumption) | (refine Or.inl ⟨?_, ?_⟩ <;> omega) | (refine Or.inr ⟨?_, ?_⟩ <;> omega) | decide)
local macro_rules | `(tactic| walk_at "go1") => `(tactic| first
  | refine ⟨_, rfl, ?_⟩
  | refine ⟨_, _, rfl, rfl, by walk_at "cond", ?_⟩
  | refine ⟨_, _, rfl, rfl, ?_⟩
  | refine ⟨_, _, rfl, ?_⟩
  | refine ⟨rfl, ?_⟩
  | refine iteT ?_
  | refine iteF ?_
  | refine ⟨_, _, _, rfl, ?_⟩
  | refine ⟨(by decide +kernel : _ = true), ?_⟩
  | refine iteT' (decide_eq_true (by omega)) ?_
  | refine iteF' (decide_eq_false (by omega)) ?_
  | (dsimp only; refine iteT' (by simp only [decide_eq_true_eq, Bool.not_eq_true', decide_eq_false_iff_not]; omega) ?_)
  | (dsimp only; refine iteF' (by simp only [decide_eq_true_eq, Bool.not_eq_false', decide_eq_false_iff_not]; omega) ?_))
local macro_rules | `(tactic| walk_at "go") => `(tactic| repeat walk_at "go1")
structure FarL (b : Bk) (mx my : Int) (W : Nat) : Prop where
  ok : OkB b
  two : b.ws.length ≤ 2
  w40 : W ≤ 40
  bd : (-1000 ≤ mx ∧ mx ≤ 1000) ∧ -1000 ≤ my ∧ my ≤ 1000
  m2 : 2 ≤ mx * mx + my * my
  inr : ∀ w ∈ b.ws, ∀ s ∈ strokes w, InR (W * W) s
  len : ∀ k, k ≤ 3 → (growN b.ws k b.st).length ≤ 1000000
def φ_farness : DSp := fun ds g Q => ∃ b mx my W, ds = [dB b, dP mx my] ∧ FarL b mx my W ∧
  ∀ f wd : Nat, wd ≤ W → (∀ l, Reach b l → ∀ s ∈ strokes (b.ws.getD l []), InR (wd * wd) s) → 2 ≤ f → ((f : Int) + 2 * wd) * (f + 2 * wd) < (mx * mx + my * my) * f * f → ∀ g', GX g g' → Q (.int ((f : Int) * f)) g'
theorem len__law_farness (ds : List D) (g : G) (Q : DK) (h : φ_farness ds g Q) : ds.length = P__law_farness.length := by
  obtain ⟨_, _, _, _, rfl, _⟩ := h
  rfl
def newL (cl : List Nat) (v : List It) : List Nat := (ltrs v).filter fun (l : Nat) => !(((nI cl).map D.int).any fun y => eqb y (.int (l : Int)))
theorem reach_grow (b : Bk) (h1 : ∀ w ∈ b.ws, ∀ i, It.L i ∈ w → i < b.ws.length) (h2 : ∀ i, It.L i ∈ b.st → i < b.ws.length) (h : b.ws.length ≤ 2) {l : Nat} (hl : Reach b l) : ∃ k, k ≤ 1 ∧ It.L l ∈ growN b.ws k b.st := by
  have g1 : ∀ {l m : Nat}, It.L l ∈ b.st → It.L m ∈ b.ws.getD l [] → It.L m ∈ growN b.ws 1 b.st := fun {l m} a c => List.mem_flatMap.mpr ⟨.L l, a, c⟩
  have g2 : ∀ {m : Nat}, It.L m ∈ growN b.ws 1 b.st → ∃ l, It.L l ∈ b.st ∧ It.L m ∈ b.ws.getD l [] := fun {m} a => by
    obtain ⟨s, hs, h3⟩ := List.mem_flatMap.mp a
    cases s with
    | L l => exact ⟨l, hs, h3⟩
    | tl => simp [sub1] at h3
    | tr => simp [sub1] at h3
    | op => simp [sub1] at h3
    | cl => simp [sub1] at h3
  have lt1 := growN_lt h1 h2 1
  have key : It.L l ∈ b.st ∨ It.L l ∈ growN b.ws 1 b.st := by
    induction hl with
    | st h => exact .inl h
    | @wd l m hl hm ih =>
      rcases ih with ih | ih
      · exact .inr (g1 ih hm)
      · by_cases h0 : It.L l ∈ b.st
        · exact .inr (g1 h0 hm)
        · obtain ⟨l0, hl0, hl1⟩ := g2 ih
          have a0 := h2 l0 hl0
          have a1 := lt1 l ih
          have am : m < b.ws.length := by
            rw [List.getD_eq_getElem?_getD, List.getElem?_eq_getElem a1] at hm
            exact h1 _ (List.getElem_mem a1) m hm
          have ne : l0 ≠ l := fun e => h0 (e ▸ hl0)
          rcases (show m = l0 ∨ m = l by omega) with e | e
          · rw [e]; exact .inl hl0
          · rw [e]; exact .inr ih
  rcases key with h | h
  · exact ⟨0, by omega, h⟩
  · exact ⟨1, by omega, h⟩
theorem fil_new (cl : List Nat) (v : List It) : ((v.map dI).filter (fun d => isLD d && !(((nI cl).map D.int).any fun y => eqb y d))).map id = (nI (newL cl v)).map D.int := by
  rw [List.map_id]
  induction v with
  | nil => rfl
  | cons s r ih =>
    cases s with
    | L l =>
      show List.filter _ (D.int l :: r.map dI) = (nI (List.filter _ (l :: ltrs r))).map D.int
      rw [List.filter_cons, List.filter_cons]
      cases hb : (((nI cl).map D.int).any fun y => eqb y (.int (l : Int))) with
      | true =>
        simp only [hb, Bool.not_true, Bool.and_false, Bool.false_eq_true, if_false]
        exact ih
      | false =>
        simp only [hb, show isLD (D.int (l : Int)) = true from rfl, Bool.not_false, Bool.and_true, if_true]
        rw [ih]
        rfl
    | tl => exact ih
    | tr => exact ih
    | op => exact ih
    | cl => exact ih
section
variable {P : Program} {w : World} {K : PySem.W.Frag} {mg : Str → Option Value} {base : Heap}
theorem d__law_farness (T : Txt K mg) {f : Addr} {fd : FuncData} (F : FnT K "_law_farness" "_law_farness" s__law_farness f fd) (hm : mg "_law_farness" = some (.ref f))
    (H__law_drawn : CallD P w K mg base 2 "_law_drawn" φ_drawn)
    (H__law_grown : CallD P w K mg base 2 "_law_grown" φ_grown)
    (H__law_unit : CallD P w K mg base 1 "_law_unit" φ_unit) : CallD P w K mg base 3 "_law_farness" φ_farness := by
  refine callD F hm (ps := P__law_farness) (fun _ _ _ _ _ _ us hl => match us, hl with | [_, _], _ => rfl) (okD F sc__law_farness (by first | exact len__law_farness | exact len__law_farness _) fun cdv A outer s H E hr => ⟨_, (dss_cons (ds_asg (de_tup (da_cons de_int (da_cons (de_lst da_nil) da_nil))) (dg_tup (n := 2) (dgs_cons (dg_name 2 sc__law_farness.nd) (dgs_cons (dg_name 3 sc__law_farness.nd) dgs_nil))))
      (dss_cons (ds_for (di_range de_int T.n_range) (dg_name 4 sc__law_farness.nd) (dss_one (ds_set 3 (de_op op_cat simR_catL (de_var 3) (de_lc (own := [("_law_item", 5)]) (di_list (de_call H__law_grown (hr.mono (by decide)) (da_cons (de_var 0) (da_cons (de_var 4) da_nil)))) sc__law_farness.nd (blkOk_by (N := N__law_farness) (sc := defScope s__law_farness) (by decide +kernel)) (fun _ _ _ _ _ => (dgo_name 5 sc__law_farness.nd)) (fun _ _ _ _ _ => (dts_one (dw_and (db_not (db_val (de_isi .s (de_var 5) T.n_isinstance T.n_str (by decide +kernel)))) (dw_and1 (db_cmp (op_notInD (u65 hr)) simR_notInL (de_var 5) (de_var 3)))).db)) (fun _ _ _ _ _ => (de_var 5)))) sc__law_farness.nd)))
      (dss_cons (ds_for (di_list (de_var 3)) (dg_name 6 sc__law_farness.nd) (dss_one (ds_for (di_list (de_ix (de_call H__law_drawn (hr.mono (by decide)) (da_cons (de_ix (de_ix (de_var 0) de_int) (de_var 6)) da_nil)) de_int)) (dg_tup (n := 4) (dgs_cons (dg_name 7 sc__law_farness.nd) (dgs_cons (dg_name 8 sc__law_farness.nd) (dgs_cons (dg_name 9 sc__law_farness.nd) (dgs_cons (dg_name 10 sc__law_farness.nd) dgs_nil))))) (dss_cons (ds_set 11 (de_call H__law_unit (hr.mono (by decide)) (da_cons (de_var 9) da_nil)) sc__law_farness.nd)
      (dss_one (ds_for (di_list (de_lst (da_cons (de_tup (da_cons (de_var 7) (da_cons (de_var 8) da_nil))) (da_cons (de_tup (da_cons (de_op op_add simR_I0 (de_var 7) (de_ix (de_var 11) de_int)) (da_cons (de_op op_add simR_I0 (de_var 8) (de_ix (de_var 11) de_int)) da_nil))) da_nil)))) (dg_name 12 sc__law_farness.nd) (dss_one (ds_set 2 (de_callB (call_max2 rfl) simC_max2 T.n_max (by decide +kernel) (da_cons (de_var 2) (da_cons (de_op op_add simR_I0 (de_op op_mul simR_I (de_ix (de_var 12) de_int) (de_ix (de_var 12) de_int)) (de_op op_mul simR_I (de_ix (de_var 12) de_int) (de_ix (de_var 12) de_int))) da_nil))) sc__law_farness.nd))))))))
      (dss_cons (ds_asg (de_tup (da_cons de_int (da_cons de_int da_nil))) (dg_tup (n := 2) (dgs_cons (dg_name 13 sc__law_farness.nd) (dgs_cons (dg_name 14 sc__law_farness.nd) dgs_nil))))
      (dss_cons (ds_while (db_cmp op_lt simR_B (de_op op_mul simR_I (de_var 13) (de_var 13)) (de_var 2)) (dss_one (ds_set 13 (de_op op_add simR_I0 (de_var 13) de_int) sc__law_farness.nd)))
      (dss_cons (ds_while (db_cmp op_le simR_B (de_op op_mul simR_I (de_op op_mul simR_I (de_op op_add simR_I0 (de_op op_mul simR_I (de_ix (de_var 1) de_int) (de_ix (de_var 1) de_int)) (de_op op_mul simR_I (de_ix (de_var 1) de_int) (de_ix (de_var 1) de_int))) (de_var 14)) (de_var 14)) (de_op op_mul simR_I (de_op op_add simR_I0 (de_var 14) (de_op op_mul simR_I de_int (de_var 13))) (de_op op_add simR_I0 (de_var 14) (de_op op_mul simR_I de_int (de_var 13))))) (dss_one (ds_set 14 (de_op op_add simR_I0 (de_var 14) de_int) sc__law_farness.nd)))
      (dss_one (ds_ret (de_op op_mul simR_I (de_var 14) (de_var 14)))))))))), ?_⟩)
  rintro ds g Q ⟨b, mx, my, W, rfl, F, q⟩
  intro c hc
  have sz : sizeLine = 16777216 := sizeLine_eq
  have w40 := F.w40
  have ww : W * W ≤ 40 * 40 := Nat.mul_le_mul w40 w40
  have cast : ((W * W : Nat) : Int) = (W : Int) * W := by simp
  have b2 := F.two
  have hlt1 : ∀ w ∈ b.ws, ∀ i, It.L i ∈ w → i < b.ws.length := fun w hw => (F.ok.ws w hw).lt
  have hlt2 : ∀ i, It.L i ∈ b.st → i < b.ws.length := F.ok.st.lt
  refine ⟨_, rfl, rfl, _, _, rfl, _, _, rfl, rfl, 4, rfl, ⟨by decide, by decide⟩, ?_⟩
  refine ⟨fun i Γ g' => ∃ (c : Addr) (cl : List Nat) (x4 x5 : Option D), Γ = [some (dB b), some (dP mx my), some (.int 0), some (.adr c), x4, x5, none, none, none, none, none, none, none, none, none] ∧ GX g g' ∧ g' c = some (.lst ((nI cl).map D.int)) ∧ (∀ l ∈ cl, l < b.ws.length) ∧ cl.length ≤ i * 1000000 ∧ ∀ k, k < i → ∀ l, It.L l ∈ growN b.ws k b.st → l ∈ cl,
    ⟨c, [], none, none, rfl, GX.new hc, gup_same, (fun l h => absurd h List.not_mem_nil), Nat.zero_le _, fun k h => absurd h (Nat.not_lt_zero _)⟩, fun _ _ _ _ _ => trivial, ?_, ?_⟩
  · rintro i x Γ g' hx ⟨c, cl, x4, x5, rfl, hg, h1, h2, h3, h4⟩
    obtain ⟨hi, rfl⟩ := rng_get.mp hx
    have hi : i < 4 := hi
    have len := F.len i (by omega)
    refine ⟨_, rfl, _, rfl, _, rfl, b, i, by rw [Int.zero_add], hlt1, hlt2, fun k hk => by have := F.len k (by omega); omega, by omega, fun p g1 e1 np hp => ⟨p, _, rfl, hp, ?_⟩⟩
    have h1' := e1 _ _ h1
    refine lc_pure (fun d => isLD d && !(((nI cl).map D.int).any fun y => eqb y d)) id (by rw [List.length_map]; omega) (fun a acc ha => (gup_ne (gne hp ha)).trans hp) (fun a j x acc N ha hx n1 n2 => ?_) (fun a ha => ?_)
    · obtain ⟨s, hs, rfl⟩ := map_of hx
      have hca := gne h1' ha
      cases s with
      | L l =>
        walk_at "go"
        refine ⟨c, _, rfl, (gup_ne hca).trans h1', rfl, pdL_of fun d hd => ?_, _, rfl, iteB (fun hb => ?_) (fun hb => ?_)⟩
        · obtain ⟨k, _, rfl⟩ := List.mem_map.mp hd
          rfl
        · exact ⟨_, rfl, lc_yes (n2 hb)⟩
        · exact n1 hb
      | tl => walk_at "go"; exact n1 rfl
      | tr => walk_at "go"; exact n1 rfl
      | op => walk_at "go"; exact n1 rfl
      | cl => walk_at "go"; exact n1 rfl
    · have ef := fil_new cl (growN b.ws i b.st)
      rw [ef]
      have hca := gne h1' ha
      have lf : (newL cl (growN b.ws i b.st)).length ≤ 1000000 := Nat.le_trans (List.length_filter_le _ _) (Nat.le_trans (ltrs_len _) len)
      have nl : ∀ l : List Nat, ((nI l).map D.int).length = l.length := fun l => by unfold nI; rw [List.length_map, List.length_map]
      refine ⟨c, a, _, _, rfl, rfl, (gup_ne hca).trans h1', gup_same, by rw [nl, nl]; omega, fun z hz => ⟨z, cl ++ newL cl (growN b.ws i b.st), _, _, rfl, ((hg.trans e1).trans (GX.new ha)).trans (GX.new hz), ?_, fun l hl => ?_, by rw [List.length_append, Nat.succ_mul]; omega, fun k hk l hl => ?_⟩⟩
      · rw [gup_same]
        unfold nI
        rw [List.map_append, List.map_append]
      · rcases List.mem_append.mp hl with h | h
        · exact h2 l h
        · exact growN_lt hlt1 hlt2 i l (mem_ltrs.mp (List.mem_filter.mp h).1)
      · by_cases hki : k < i
        · exact List.mem_append_left _ (h4 k hki l hl)
        · have : k = i := by omega
          subst this
          by_cases hin : l ∈ cl
          · exact List.mem_append_left _ hin
          · refine List.mem_append_right _ (List.mem_filter.mpr ⟨mem_ltrs.mpr hl, ?_⟩)
            rw [Bool.not_eq_true', Bool.eq_false_iff]
            intro z
            obtain ⟨y, hy, he⟩ := List.any_eq_true.mp z
            obtain ⟨k', hk', rfl⟩ := List.mem_map.mp hy
            have he : (k' == (l : Int)) = true := he
            rw [beq_iff_eq] at he
            rw [he, mem_nI'] at hk'
            exact hin hk'
  · rintro Γ g' ⟨c, cl, x4, x5, rfl, hg, h1, h2, h3, h4⟩
    have h4 : ∀ k, k < 4 → ∀ l, It.L l ∈ growN b.ws k b.st → l ∈ cl := h4
    have hrc : ∀ l, Reach b l → l ∈ cl := fun l hl => by
      obtain ⟨k, hk, h⟩ := reach_grow b hlt1 hlt2 b2 hl
      exact h4 k (by omega) l h
    refine ⟨_, rfl, c, _, rfl, h1, ?_⟩
    have cl6 : cl.length ≤ 4000000 := h3
    refine ⟨fun i Γ g2 => ∃ (r : Nat) (y4 y5 y6 y7 y8 y9 y10 y11 y12 : Option D), Γ = [some (dB b), some (dP mx my), some (.int r), some (.adr c), y4, y5, y6, y7, y8, y9, y10, y11, y12, none, none] ∧ GX g g2 ∧ g2 c = some (.lst ((nI cl).map D.int)) ∧ r ≤ W * W ∧ ∀ l ∈ cl.take i, ∀ s ∈ strokes (b.ws.getD l []), InR r s,
      ⟨0, x4, x5, none, none, none, none, none, none, none, rfl, hg, h1, Nat.zero_le _, fun l h => by simp at h⟩, fun i Γ g2 _ h => ?_, ?_, ?_⟩
    · obtain ⟨_, _, _, _, _, _, _, _, _, _, _, _, h, _⟩ := h
      exact h
    · rintro i x Γ g2 hx ⟨r, y4, y5, y6, y7, y8, y9, y10, y11, y12, rfl, hg2, hc2, hr, hin⟩
      obtain ⟨k, hk, rfl⟩ := map_of hx
      obtain ⟨l, hl, rfl⟩ := map_of hk
      have hlt := h2 l (List.mem_of_getElem? hl)
      have ew : b.ws.getD l [] = b.ws[l] := by rw [List.getD_eq_getElem?_getD, List.getElem?_eq_getElem hlt] <;> rfl
      have hwm := List.getElem_mem hlt
      have hwo := F.ok.ws _ hwm
      refine ⟨_, rfl, _, rfl, _, rfl, _, atI_nat (by rw [List.getElem?_map, List.getElem?_eq_getElem hlt] <;> rfl), _, b.ws[l], rfl, .inl rfl, hwo.bal, by have := hwo.le; omega, fun po g3 e3 npo hpo => ?_⟩
      refine ⟨_, rfl, po, _, rfl, hpo, ?_⟩
      refine ⟨fun j Γ g4 => ∃ (r : Nat) (y7 y8 y9 y10 y11 y12 : Option D), Γ = [some (dB b), some (dP mx my), some (.int r), some (.adr c), y4, y5, some (.int l), y7, y8, y9, y10, y11, y12, none, none] ∧ GX g3 g4 ∧ r ≤ W * W ∧ (∀ l ∈ cl.take i, ∀ s ∈ strokes (b.ws.getD l []), InR r s) ∧ ∀ s ∈ (strokes b.ws[l]).take j, InR r s,
        ⟨r, y7, y8, y9, y10, y11, y12, rfl, GX.refl _, hr, hin, fun s h => by simp at h⟩, fun j Γ g4 _ h => ?_, ?_, ?_⟩
      · obtain ⟨_, _, _, _, _, _, _, _, h, _⟩ := h
        exact h _ _ hpo
      · rintro j x Γ g4 hx ⟨r, y7, y8, y9, y10, y11, y12, rfl, hg4, hr, hin, hin2⟩
        obtain ⟨s, hs, rfl⟩ := map_of hx
        have hsm := List.mem_of_getElem? hs
        have hInW := F.inr _ hwm s hsm
        have hW0 : (0 : Int) ≤ W := by omega
        obtain ⟨⟨a1, a2⟩, a3, a4⟩ := abs_of_sum hW0 hInW.1
        obtain ⟨⟨b1, b2⟩, b3, b4⟩ := abs_of_sum hW0 hInW.2
        have cm1 : CMul s.x s.x := .inl ⟨by omega, by omega⟩
        have cm2 : CMul s.y s.y := .inl ⟨by omega, by omega⟩
        have cm3 : CMul (s.x + rx 1 0 s.h) (s.x + rx 1 0 s.h) := .inl ⟨by omega, by omega⟩
        have cm4 : CMul (s.y + ry 1 0 s.h) (s.y + ry 1 0 s.h) := .inl ⟨by omega, by omega⟩
        have c1 := sq_nn s.x
        have c2 := sq_nn s.y
        have hInW1 := hInW.1
        have hInW2 := hInW.2
        refine ⟨_, rfl, rfl, _, _, rfl, _, _, rfl, _, _, rfl, _, _, rfl, rfl, ?_⟩
        refine ⟨_, rfl, s.h, rfl, fun g5 e5 => ?_⟩
        walk_at "go"
        intro pp hpp
        have gpp : gup g5 pp (.lst [dP s.x s.y, dP (s.x + rx 1 0 s.h) (s.y + ry 1 0 s.h)]) pp = some (.lst [dP s.x s.y, dP (s.x + rx 1 0 s.h) (s.y + ry 1 0 s.h)]) := gup_same
        refine ⟨pp, _, rfl, gpp, ?_⟩
        refine ⟨fun i2 Γ g6 => ∃ (r2 : Nat) (y12 : Option D), Γ = [some (dB b), some (dP mx my), some (.int r2), some (.adr c), y4, y5, some (.int l), some (.int s.x), some (.int s.y), some (.int s.h), some (.int s.l), some (dP (rx 1 0 s.h) (ry 1 0 s.h)), y12, none, none] ∧ g6 = gup g5 pp (.lst [dP s.x s.y, dP (s.x + rx 1 0 s.h) (s.y + ry 1 0 s.h)]) ∧ r ≤ r2 ∧ r2 ≤ W * W ∧ (1 ≤ i2 → s.x * s.x + s.y * s.y ≤ r2) ∧ (2 ≤ i2 → (s.x + rx 1 0 s.h) * (s.x + rx 1 0 s.h) + (s.y + ry 1 0 s.h) * (s.y + ry 1 0 s.h) ≤ r2),
          ⟨r, y12, rfl, rfl, Nat.le_refl _, hr, fun h => by omega, fun h => by omega⟩, fun i2 Γ g6 _ h => ?_, ?_, ?_⟩
        · obtain ⟨_, _, _, rfl, _⟩ := h
          exact gpp
        · rintro i2 x Γ g6 hx ⟨r2, y12, rfl, rfl, hr1, hr2, q1, q2⟩
          match i2, hx with
          | 0, hx =>
            cases hx
            obtain ⟨r3, hr3⟩ : ∃ r3 : Nat, (r3 : Int) = if s.x * s.x + s.y * s.y > (r2 : Int) then s.x * s.x + s.y * s.y else (r2 : Int) := ⟨(if s.x * s.x + s.y * s.y > (r2 : Int) then s.x * s.x + s.y * s.y else (r2 : Int)).toNat, by split <;> omega⟩
            have hge : s.x * s.x + s.y * s.y ≤ r3 ∧ (r2 : Int) ≤ r3 ∧ (r3 : Int) ≤ W * W := by
              rw [hr3]
              split <;> omega
            walk_at "go"
            rw [← hr3]
            exact ⟨r3, _, rfl, rfl, by omega, by omega, fun _ => hge.1, fun h => by omega⟩
          | 1, hx =>
            cases hx
            have q1 := q1 (Nat.le_refl _)
            have e1 := sq_nn (s.x + rx 1 0 s.h)
            have e2 := sq_nn (s.y + ry 1 0 s.h)
            obtain ⟨r3, hr3⟩ : ∃ r3 : Nat, (r3 : Int) = if (s.x + rx 1 0 s.h) * (s.x + rx 1 0 s.h) + (s.y + ry 1 0 s.h) * (s.y + ry 1 0 s.h) > (r2 : Int) then (s.x + rx 1 0 s.h) * (s.x + rx 1 0 s.h) + (s.y + ry 1 0 s.h) * (s.y + ry 1 0 s.h) else (r2 : Int) := ⟨(if (s.x + rx 1 0 s.h) * (s.x + rx 1 0 s.h) + (s.y + ry 1 0 s.h) * (s.y + ry 1 0 s.h) > (r2 : Int) then (s.x + rx 1 0 s.h) * (s.x + rx 1 0 s.h) + (s.y + ry 1 0 s.h) * (s.y + ry 1 0 s.h) else (r2 : Int)).toNat, by split <;> omega⟩
            have hge : (s.x + rx 1 0 s.h) * (s.x + rx 1 0 s.h) + (s.y + ry 1 0 s.h) * (s.y + ry 1 0 s.h) ≤ r3 ∧ (r2 : Int) ≤ r3 ∧ (r3 : Int) ≤ W * W := by
              rw [hr3]
              split <;> omega
            walk_at "go"
            rw [← hr3]
            exact ⟨r3, _, rfl, rfl, by omega, by omega, fun _ => by omega, fun _ => hge.1⟩
          | n + 2, hx => simp at hx
        · rintro Γ g6 ⟨r2, y12, rfl, rfl, hr1, hr2, q1, q2⟩
          have q1 := q1 (by show 1 ≤ 2; decide)
          have q2 := q2 (by show 2 ≤ 2; decide)
          have up : ∀ s', InR r s' → InR r2 s' := fun s' h => ⟨by have := h.1; omega, by have := h.2; omega⟩
          refine ⟨r2, _, _, _, _, _, _, rfl, (hg4.trans e5).trans (GX.new hpp), hr2, fun l' hl' s' hs' => up s' (hin l' hl' s' hs'), fun s' hs' => ?_⟩
          rw [List.take_add_one, hs, List.mem_append] at hs'
          rcases hs' with h | h
          · exact up s' (hin2 s' h)
          · have : s' = s := by simpa using h
            rw [this]
            exact ⟨q1, q2⟩
      · rintro Γ g4 ⟨r, y7, y8, y9, y10, y11, y12, rfl, hg4, hr, hin, hin2⟩
        rw [List.length_map, List.take_length] at hin2
        refine ⟨r, _, _, _, _, _, _, _, _, _, rfl, (hg2.trans e3).trans hg4, hg4 _ _ (e3 _ _ hc2), hr, fun l' hl' => ?_⟩
        rw [List.take_add_one, hl, List.mem_append] at hl'
        rcases hl' with h | h
        · exact hin l' h
        · have : l' = l := by simpa using h
          subst this
          rw [ew]
          exact hin2
    · rintro Γ g2 ⟨r, y4, y5, y6, y7, y8, y9, y10, y11, y12, rfl, hg2, hc2, hr, hin⟩
      have nl : ((nI cl).map D.int).length = cl.length := by unfold nI; rw [List.length_map, List.length_map]
      rw [nl, List.take_length] at hin
      obtain ⟨⟨m1, m2⟩, m3, m4⟩ := F.bd
      have two := F.m2
      have mm1 : mx * mx ≤ 1000000 := by
        have := sq_nn mx
        have e : (1000 - mx) * (1000 + mx) = 1000000 - mx * mx := by grind
        have := Int.mul_nonneg (show 0 ≤ 1000 - mx by omega) (show 0 ≤ 1000 + mx by omega)
        omega
      have mm2 : my * my ≤ 1000000 := by
        have := sq_nn my
        have e : (1000 - my) * (1000 + my) = 1000000 - my * my := by grind
        have := Int.mul_nonneg (show 0 ≤ 1000 - my by omega) (show 0 ≤ 1000 + my by omega)
        omega
      have cmx : CMul mx mx := .inl ⟨by omega, by omega⟩
      have cmy : CMul my my := .inl ⟨by omega, by omega⟩
      refine ⟨_, rfl, rfl, _, _, rfl, _, _, rfl, rfl, ?_⟩
      refine ⟨fun Γ g3 => ∃ v : Nat, Γ = [some (dB b), some (dP mx my), some (.int r), some (.adr c), y4, y5, y6, y7, y8, y9, y10, y11, y12, some (.int v), some (.int 2)] ∧ g3 = g2 ∧ v ≤ W ∧ ∀ u : Nat, u < v → u * u < r, fun (Γ : Gm) _ => (match Γ[13]? with
          | some (some (D.int v)) => 1000 - v.toNat
          | _ => 0), ⟨0, rfl, rfl, Nat.zero_le _, fun u h => absurd h (Nat.not_lt_zero _)⟩, ?_⟩
      rintro Γ g3 ⟨wd, rfl, rfl, hwW, hwu⟩
      have cmw : CMul (wd : Int) (wd : Int) := .inl ⟨by omega, by omega⟩
      have castw : ((wd * wd : Nat) : Int) = (wd : Int) * wd := by simp
      refine ⟨_, rfl, _, rfl, _, _, rfl, rfl, cmw, _, rfl, _, rfl, _, rfl, iteB (fun hd => ?_) (fun hd => ?_)⟩
      · have hd := of_decide_eq_true hd
        have hlt : wd < W := by
          apply Nat.lt_of_le_of_ne hwW
          intro e
          subst e
          omega
        refine ⟨_, rfl, _, rfl, ⟨wd + 1, rfl, rfl, hlt, fun u hu => ?_⟩, ?_⟩
        · by_cases h : u < wd
          · exact hwu u h
          · have : u = wd := by omega
            subst this
            omega
        · show 1000 - ((wd : Int) + 1).toNat < 1000 - (wd : Int).toNat
          omega
      · have hd := of_decide_eq_false hd
        have hinr : ∀ l, Reach b l → ∀ s ∈ strokes (b.ws.getD l []), InR (wd * wd) s := fun l hl s hs => by
          have h := hin l (hrc l hl) s hs
          exact ⟨by have := h.1; omega, by have := h.2; omega⟩
        generalize hm2 : mx * mx + my * my = m2 at *
        refine ⟨fun Γ g2 => ∃ v : Nat, Γ = [some (dB b), some (dP mx my), some (.int r), some (.adr c), y4, y5, y6, y7, y8, y9, y10, y11, y12, some (.int wd), some (.int v)] ∧ g2 = g3 ∧ 2 ≤ v ∧ v ≤ 5 * wd + 2, fun (Γ : Gm) _ => (match Γ[14]? with
          | some (some (D.int v)) => 1000 - v.toNat
          | _ => 0), ⟨2, rfl, rfl, Nat.le_refl _, by omega⟩, ?_⟩
        rintro Γ g4 ⟨v, rfl, rfl, hv2, hv5⟩
        have cm1 : CMul m2 (v : Int) := .inl ⟨by omega, by omega⟩
        have v202 : (v : Int) ≤ 202 := by omega
        have hmv : m2 * (v : Int) ≤ 2000000 * 202 := Int.mul_le_mul (by omega) v202 (by omega) (by omega)
        have hmv0 : 0 ≤ m2 * (v : Int) := Int.mul_nonneg (by omega) (by omega)
        have cm2 : CMul (m2 * (v : Int)) (v : Int) := .inl ⟨by omega, by omega⟩
        have cm3 : CMul 2 (wd : Int) := .inl ⟨by decide, by decide⟩
        have cm4 : CMul ((v : Int) + 2 * wd) ((v : Int) + 2 * wd) := .inl ⟨by omega, by omega⟩
        refine ⟨_, rfl, _, rfl, _, rfl, _, rfl, _, _, rfl, rfl, cmx, _, rfl, _, rfl, _, rfl, _, rfl, _, _, rfl, rfl, cmy, _, rfl, ?_⟩
        rw [hm2]
        refine ⟨_, rfl, _, _, rfl, rfl, cm1, _, rfl, _, _, rfl, rfl, cm2, _, rfl, _, rfl, _, _, rfl, rfl, cm3, _, rfl, _, rfl, _, rfl, _, _, rfl, rfl, cm3, _, rfl, _, _, rfl, rfl, cm4, _, rfl, _, rfl, iteB (fun hc => ?_) (fun hc => ?_)⟩
        · have hc := of_decide_eq_true hc
          have hlt : v < 5 * wd + 2 := by
            apply Nat.lt_of_le_of_ne hv5
            intro e
            have ev : (v : Int) = 5 * wd + 2 := by omega
            rw [ev] at hc
            have h1 : 2 * (5 * (wd : Int) + 2) * (5 * wd + 2) ≤ m2 * (5 * (wd : Int) + 2) * (5 * wd + 2) := Int.mul_le_mul_of_nonneg_right (Int.mul_le_mul_of_nonneg_right two (by omega)) (by omega)
            have e1 : 2 * (5 * (wd : Int) + 2) * (5 * wd + 2) = 50 * (wd * wd) + 40 * wd + 8 := by grind
            have e2 : (5 * (wd : Int) + 2 + 2 * wd) * (5 * wd + 2 + 2 * wd) = 49 * (wd * wd) + 28 * wd + 4 := by grind
            have := sq_nn (wd : Int)
            omega
          refine ⟨_, rfl, _, rfl, ⟨v + 1, rfl, rfl, by omega, by omega⟩, ?_⟩
          show 1000 - ((v : Int) + 1).toNat < 1000 - (v : Int).toNat
          omega
        · have hc := of_decide_eq_false hc
          exact ⟨_, rfl, _, rfl, _, _, rfl, rfl, .inl ⟨by omega, by omega⟩, q v wd hwW hinr hv2 (by omega) _ hg2⟩
end
end SW
set_option Elab.async false
set_option linter.all false
set_option maxRecDepth 100000
set_option maxHeartbeats 4000000
namespace SW
open PySem PySem.Spec PyProof.Rows L2 DL
local macro_rules | `(tactic| walk_at "cond") => `(tactic| first | (show (0 : Int) < _; decide) | (show (0 : Int) < _; omega) | assumption | (refine Bd.mul ?_; assumption) | (refine Or.inl ⟨?_, ?_⟩ <;> omega) | (refine Or.inr ⟨?_, ?_⟩ <;> omega) | decide)
local macro_rules | `(tactic| walk_at "go1") => `(tactic| first
  | refine ⟨_, rfl, ?_⟩
  | refine ⟨_, _, rfl, rfl, by walk_at "cond", ?_⟩
  | refine ⟨_, _, rfl, rfl, ?_⟩
  | refine ⟨_, _, rfl, ?_⟩
  | refine ⟨rfl, ?_⟩
  | refine iteT ?_
  | refine iteF ?_
  | refine ⟨_, _, _, rfl, ?_⟩
  | refine ⟨(by decide +kernel : _ = true), ?_⟩
  | refine iteT' (decide_eq_true (by omega)) ?_
  | refine iteF' (decide_eq_false (by omega)) ?_
  | (dsimp only; refine iteT' (by simp only [decide_eq_true_eq, Bool.not_eq_true', decide_eq_false_iff_not]; omega) ?_)
  | (dsimp only; refine iteF' (by simp only [decide_eq_true_eq, Bool.not_eq_false', decide_eq_false_iff_not]; omega) ?_))
local macro_rules | `(tactic| walk_at "go") => `(tactic| repeat walk_at "go1")
/-- a place times the move, n times -/
def mulN (mx my : Int) : Nat → Int × Int → Int × Int
  | 0, p => p
  | n + 1, p => let q := mulN mx my n p; (q.1 * mx - q.2 * my, q.1 * my + q.2 * mx)
def spotX (X k : Int) (s : Stk) : Int := X + rx s.x s.y k
def spotY (Y k : Int) (s : Stk) : Int := Y + ry s.x s.y k
def headX (X k : Int) (s : Stk) : Int := spotX X k s + rx 1 0 (s.h + k)
def headY (Y k : Int) (s : Stk) : Int := spotY Y k s + ry 1 0 (s.h + k)
/-- both ends of each stroke -/
def spotsD (X Y k : Int) (ss : List Stk) : List D := ss.flatMap fun s => [dP (spotX X k s) (spotY Y k s), dP (headX X k s) (headY Y k s)]
instance (x y u v : Int) : Decidable (lexLe x y u v) := by unfold lexLe; infer_instance
def edgeD (X Y k : Int) (s : Stk) : D := if lexLe (spotX X k s) (spotY Y k s) (headX X k s) (headY Y k s) then .tup [dP (spotX X k s) (spotY Y k s), dP (headX X k s) (headY Y k s)] else .tup [dP (headX X k s) (headY Y k s), dP (spotX X k s) (spotY Y k s)]
structure BesQ (b : Bk) (v : List It) (px py mx my : Int) (n : Nat) : Prop where
  l1 : ∀ w ∈ b.ws, ∀ i, It.L i ∈ w → i < b.ws.length
  l2 : ∀ i, It.L i ∈ v → i < b.ws.length
  le : ∀ k, k ≤ n → (growN b.ws k v).length ≤ 8000000
  n9 : n ≤ 100
  bl : bal 0 (growN b.ws n v) = true
  bd : ∀ k, k ≤ n → Bd (mulN mx my k (px, py)).1 ∧ Bd (mulN mx my k (px, py)).2
def φ_beside : DSp := fun ds g Q => ∃ b v px py k mx my n, ds = [dB b, dW v, dP px py, .int k, dP mx my, .int (n : Nat)] ∧ BesQ b v px py mx my n ∧
  ∀ p r g', GX g g' → g' p = some (.lst (spotsD (mulN mx my n (px, py)).1 (mulN mx my n (px, py)).2 k (strokes (growN b.ws n v)))) → g' r = some (.lst ((strokes (growN b.ws n v)).map (edgeD (mulN mx my n (px, py)).1 (mulN mx my n (px, py)).2 k))) → Q (.tup [.adr p, .adr r]) g'
theorem atI_last (l : List D) (d : D) : atI (l ++ [d]) (-1) = some d := by
  unfold atI ixN
  rw [List.length_append, List.length_singleton, if_neg (by decide), if_pos (by omega)]
  show (l ++ [d])[(-1 + ((l.length + 1 : Nat) : Int)).toNat]? = some d
  rw [show (-1 + ((l.length + 1 : Nat) : Int)).toNat = l.length by omega, List.getElem?_append_right (Nat.le_refl _), Nat.sub_self]
  rfl
theorem len__law_beside (ds : List D) (g : G) (Q : DK) (h : φ_beside ds g Q) : ds.length = P__law_beside.length := by
  obtain ⟨_, _, _, _, _, _, _, _, rfl, _⟩ := h
  rfl
section
variable {P : Program} {w : World} {K : PySem.W.Frag} {mg : Str → Option Value} {base : Heap}
theorem d__law_beside (T : Txt K mg) {f : Addr} {fd : FuncData} (F : FnT K "_law_beside" "_law_beside" s__law_beside f fd) (hm : mg "_law_beside" = some (.ref f))
    (H__law_drawn : CallD P w K mg base 2 "_law_drawn" φ_drawn)
    (H__law_grown : CallD P w K mg base 2 "_law_grown" φ_grown)
    (H__law_product : CallD P w K mg base 1 "_law_product" φ_times)
    (H__law_quarter : CallD P w K mg base 1 "_law_quarter" φ_quarter)
    (H__law_unit : CallD P w K mg base 1 "_law_unit" φ_unit) : CallD P w K mg base 3 "_law_beside" φ_beside := by
  refine callD F hm (ps := P__law_beside) (fun _ _ _ _ _ _ us hl => match us, hl with | [_, _, _, _, _, _], _ => rfl) (okD F sc__law_beside (by first | exact len__law_beside | exact len__law_beside _) fun cdv A outer s H E hr => ⟨_, (dss_cons (ds_for (di_range (de_var 5) T.n_range) (dg_name 6 sc__law_beside.nd) (dss_one (ds_set 2 (de_call H__law_product (hr.mono (by decide)) (da_cons (de_var 2) (da_cons (de_var 4) da_nil))) sc__law_beside.nd)))
      (dss_cons (ds_par 7 8 (da_cons (de_lst da_nil) (da_cons (de_lst da_nil) da_nil)) sc__law_beside.nd)
      (dss_cons (ds_for (di_list (de_ix (de_call H__law_drawn (hr.mono (by decide)) (da_cons (de_call H__law_grown (hr.mono (by decide)) (da_cons (de_tup (da_cons (de_ix (de_var 0) de_int) (da_cons (de_var 1) da_nil))) (da_cons (de_var 5) da_nil))) da_nil)) de_int)) (dg_name 9 sc__law_beside.nd) (dss_cons (ds_par 11 12 (da_cons (de_call H__law_quarter (hr.mono (by decide)) (da_cons (de_slT (de_var 9) do_none (do_some de_int)) (da_cons (de_var 3) da_nil))) (da_cons (de_call H__law_unit (hr.mono (by decide)) (da_cons (de_op op_add simR_I0 (de_ix (de_var 9) de_int) (de_var 3)) da_nil)) da_nil)) sc__law_beside.nd)
      (dss_cons (ds_expr (de_append (de_var 7) (de_tup (da_cons (de_op op_add simR_I0 (de_ix (de_var 2) de_int) (de_ix (de_var 11) de_int)) (da_cons (de_op op_add simR_I0 (de_ix (de_var 2) de_int) (de_ix (de_var 11) de_int)) da_nil)))))
      (dss_cons (ds_set 10 (de_tup (da_cons (de_op op_add simR_I0 (de_ix (de_ix (de_var 7) (de_un un_neg simU_neg de_int)) de_int) (de_ix (de_var 12) de_int)) (da_cons (de_op op_add simR_I0 (de_ix (de_ix (de_var 7) (de_un un_neg simU_neg de_int)) de_int) (de_ix (de_var 12) de_int)) da_nil))) sc__law_beside.nd)
      (dss_cons (ds_expr (de_append (de_var 8) (de_callTy call_tuple_of simC_tupOf T.n_tuple (by decide +kernel) (da_cons (de_callB cr_sort2 simC_sort2 T.n_sorted (by decide +kernel) (da_cons (de_lst (da_cons (de_ix (de_var 7) (de_un un_neg simU_neg de_int)) (da_cons (de_var 10) da_nil))) da_nil)) da_nil))))
      (dss_one (ds_expr (de_append (de_var 7) (de_var 10)))))))))
      (dss_one (ds_ret (de_tup (da_cons (de_var 7) (da_cons (de_var 8) da_nil)))))))), ?_⟩)
  rintro ds g Q ⟨b, v, px, py, k, mx, my, n, rfl, B, q⟩
  have sz : sizeLine = 16777216 := sizeLine_eq
  have n9 := B.n9
  refine ⟨_, rfl, (n : Int), rfl, ⟨by omega, by omega⟩, ?_⟩
  refine ⟨fun i Γ g' => ∃ x6 : Option D, Γ = [some (dB b), some (dW v), some (dP (mulN mx my i (px, py)).1 (mulN mx my i (px, py)).2), some (.int k), some (dP mx my), some (.int n), x6, none, none, none, none, none, none] ∧ g' = g, ⟨none, rfl, rfl⟩, fun _ _ _ _ _ => trivial, ?_, ?_⟩
  · rintro i x Γ g' hx ⟨x6, rfl, rfl⟩
    obtain ⟨hi, rfl⟩ := rng_get.mp hx
    obtain ⟨d1, d2⟩ := B.bd i (by omega)
    exact ⟨_, rfl, _, rfl, _, _, _, _, rfl, ⟨d1, d2⟩, _, rfl, rfl⟩
  · rintro Γ g' ⟨x6, rfl, rfl⟩
    rw [rng_len, show ((n : Nat) : Int).toNat = n by omega]
    generalize mulN mx my n (px, py) = M at *
    obtain ⟨X, Y⟩ := M
    intro F hF L hL
    refine ⟨_, _, rfl, ?_⟩
    have hFL := gne gup_same hL
    have nL : g' L = none := by rw [gup_ne hFL.symm] at hL; exact hL
    have e0 : GX g' (gup (gup g' F (.lst [])) L (.lst [])) := ((GX.refl g').mut hF).mut nL
    have f0 : gup (gup g' F (.lst [])) L (.lst []) F = some (.lst []) := (gup_ne hFL).trans gup_same
    have l0 : gup (gup g' F (.lst [])) L (.lst []) L = some (.lst []) := gup_same
    generalize gup (gup g' F (.lst [])) L (.lst []) = gFL at e0 f0 l0 ⊢
    refine ⟨_, rfl, _, rfl, _, rfl, _, rfl, ⟨b.ws, v⟩, n, rfl, B.l1, B.l2, B.le, by omega, fun p g1 e1 np hp => ?_⟩
    refine ⟨.adr p, growN b.ws n v, rfl, .inr ⟨p, rfl, hp⟩, B.bl, B.le n (Nat.le_refl _), fun po g2 e2 npo hpo => ?_⟩
    refine ⟨.adr po, rfl, po, _, rfl, hpo, ?_⟩
    have hS := strokes_length_le (growN b.ws n v) p0
    have hS : (strokes (growN b.ws n v)).length ≤ (growN b.ws n v).length := hS
    have hle := B.le n (Nat.le_refl _)
    generalize strokes (growN b.ws n v) = S at *
    have f2 := e2 _ _ (e1 _ _ f0)
    have l2 := e2 _ _ (e1 _ _ l0)
    have hpF : po ≠ F := fun e => by rw [e, e1 _ _ f0] at npo; cases npo
    have hpL : po ≠ L := fun e => by rw [e, e1 _ _ l0] at npo; cases npo
    refine ⟨fun i Γ g3 => ∃ x9 x10 x11 x12 : Option D, Γ = [some (dB b), some (dW v), some (dP X Y), some (.int k), some (dP mx my), some (.int n), x6, some (.adr F), some (.adr L), x9, x10, x11, x12] ∧ GX g' g3 ∧ g3 po = some (.lst (S.map dS)) ∧ g3 F = some (.lst (spotsD X Y k (S.take i))) ∧ g3 L = some (.lst ((S.take i).map (edgeD X Y k))),
      ⟨none, none, none, none, rfl, (e0.trans e1).trans e2, hpo, f2, l2⟩, fun i Γ g3 _ h => ?_, ?_, ?_⟩
    · obtain ⟨_, _, _, _, _, _, h, _⟩ := h
      exact h
    · rintro i x Γ g3 hx ⟨x9, x10, x11, x12, rfl, hg, h1, h2, h3⟩
      obtain ⟨s, hs, rfl⟩ := map_of hx
      have hi := (List.getElem?_eq_some_iff.mp hs).1
      have et : S.take (i + 1) = S.take i ++ [s] := by rw [List.take_add_one, hs] <;> rfl
      have len1 : (spotsD X Y k (S.take i)).length ≤ 2 * i := by
        unfold spotsD
        rw [List.length_flatMap]
        have : ∀ x ∈ (S.take i).map (fun s => [dP (spotX X k s) (spotY Y k s), dP (headX X k s) (headY Y k s)].length), x ≤ 2 := by
          intro x hx
          obtain ⟨_, _, rfl⟩ := List.mem_map.mp hx
          exact Nat.le_refl _
        have h := sum_le_of this
        rw [List.length_map, List.length_take] at h
        omega
      walk_at "go"
      refine fun g4 e4 => ?_
      walk_at "go"
      refine fun g5 e5 => ?_
      have h2' := e5 _ _ (e4 _ _ h2)
      have h3' := e5 _ _ (e4 _ _ h3)
      have h1' := e5 _ _ (e4 _ _ h1)
      have hg5 := (hg.trans e4).trans e5
      walk_at "go"
      refine ⟨⟨_, _, rfl, h2'⟩, ?_⟩
      walk_at "go"
      refine ⟨F, _, _, rfl, rfl, h2', (show (spotsD X Y k (S.take i)).length < sizeLine by omega), ?_⟩
      have x1 : GX g' (gup g5 F (.lst (spotsD X Y k (S.take i) ++ [dP (X + rx s.x s.y k) (Y + ry s.x s.y k)]))) := hg5.mut hF
      have xF : gup g5 F (.lst (spotsD X Y k (S.take i) ++ [dP (X + rx s.x s.y k) (Y + ry s.x s.y k)])) F = some (.lst (spotsD X Y k (S.take i) ++ [dP (spotX X k s) (spotY Y k s)])) := gup_same
      have xL : gup g5 F (.lst (spotsD X Y k (S.take i) ++ [dP (X + rx s.x s.y k) (Y + ry s.x s.y k)])) L = some (.lst ((S.take i).map (edgeD X Y k))) := (gup_ne hFL.symm).trans h3'
      have xp : gup g5 F (.lst (spotsD X Y k (S.take i) ++ [dP (X + rx s.x s.y k) (Y + ry s.x s.y k)])) po = some (.lst (S.map dS)) := (gup_ne hpF).trans h1'
      generalize gup g5 F (.lst (spotsD X Y k (S.take i) ++ [dP (X + rx s.x s.y k) (Y + ry s.x s.y k)])) = G1 at x1 xF xL xp ⊢
      have last := fIx_l xF (atI_last (spotsD X Y k (S.take i)) (dP (spotX X k s) (spotY Y k s)))
      refine ⟨_, rfl, _, rfl, _, last, _, rfl, _, rfl, _, rfl, _, rfl, _, rfl, _, rfl, _, last, _, rfl, _, rfl, _, rfl, _, rfl, ?_⟩
      refine ⟨_, rfl, ⟨_, _, rfl, xL⟩, ?_⟩
      refine ⟨_, rfl, _, rfl, _, last, _, rfl, fun z hz => ?_⟩
      have zF := gne xF hz
      have zL := gne xL hz
      have zp := gne xp hz
      refine ⟨z, spotX X k s, spotY Y k s, headX X k s, headY Y k s, rfl, gup_same, fun p2 hp2 => ?_⟩
      -- the rest, whatever the edge
      have fin : ∀ (xs : List D), .tup xs = edgeD X Y k s → sTupOf [.adr p2] (gup (gup G1 z (.lst [dP (spotX X k s) (spotY Y k s), dP (headX X k s) (headY Y k s)])) p2 (.lst xs)) fun x g1 => sAppend (.adr L) [x] g1 fun x g1 => dDrop (dBM sAppend (dVar 7) (dCons (dVar 10) dNil)) { nx := fun Γ g3 => ∃ x9 x10 x11 x12 : Option D, Γ = [some (dB b), some (dW v), some (dP X Y), some (.int k), some (dP mx my), some (.int n), x6, some (.adr F), some (.adr L), x9, x10, x11, x12] ∧ GX g' g3 ∧ g3 po = some (.lst (S.map dS)) ∧ g3 F = some (.lst (spotsD X Y k (S.take (i + 1)))) ∧ g3 L = some (.lst ((S.take (i + 1)).map (edgeD X Y k))), rt := fun _ _ => False }
          [some (dB b), some (dW v), some (dP X Y), some (.int k), some (dP mx my), some (.int n), x6, some (.adr F), some (.adr L), some (dS s), some (dP (headX X k s) (headY Y k s)), some (dP (rx s.x s.y k) (ry s.x s.y k)), some (dP (rx 1 0 (s.h + k)) (ry 1 0 (s.h + k)))] g1 := fun xs hxs => by
        have pF := gne ((gup_ne zF).trans xF) hp2
        have pL := gne ((gup_ne zL).trans xL) hp2
        have pp := gne ((gup_ne zp).trans xp) hp2
        refine ⟨p2, xs, rfl, gup_same, L, _, _, rfl, rfl, (gup_ne pL).trans ((gup_ne zL).trans xL), by rw [List.length_map, List.length_take]; omega, ?_⟩
        refine ⟨_, rfl, ⟨_, _, rfl, (gup_ne hFL).trans ((gup_ne pF).trans ((gup_ne zF).trans xF))⟩, _, rfl, F, _, _, rfl, rfl, (gup_ne hFL).trans ((gup_ne pF).trans ((gup_ne zF).trans xF)), by rw [List.length_append, List.length_singleton]; omega, ?_⟩
        refine ⟨_, _, _, _, rfl, (((x1.trans (GX.new hz)).trans (GX.new hp2)).mut nL).mut hF, (gup_ne hpF).trans ((gup_ne hpL).trans ((gup_ne pp).trans ((gup_ne zp).trans xp))), ?_, ?_⟩
        · rw [gup_same, et]
          unfold spotsD
          rw [List.flatMap_append, List.append_assoc]
          simp
        · rw [gup_ne hFL.symm, gup_same, et, List.map_append, hxs]
          rfl
      refine ⟨fun c => fin _ ?_, fun c => fin _ ?_⟩
      · unfold edgeD
        rw [if_pos c]
      · unfold edgeD
        by_cases c' : lexLe (spotX X k s) (spotY Y k s) (headX X k s) (headY Y k s)
        · rw [if_pos c']
          have e1 : spotX X k s = headX X k s := by
            unfold lexLe at c c'
            omega
          have e2 : spotY Y k s = headY Y k s := by
            unfold lexLe at c c'
            omega
          rw [e1, e2]
        · rw [if_neg c']
    · rintro Γ g3 ⟨x9, x10, x11, x12, rfl, hg, h1, h2, h3⟩
      rw [List.length_map, List.take_length] at h2 h3
      exact ⟨_, rfl, _, rfl, q F L g3 hg h2 h3⟩
end
end SW
set_option Elab.async false
set_option linter.all false
set_option maxRecDepth 100000
set_option maxHeartbeats 4000000
namespace SW
open PySem PySem.Spec PyProof.Rows L2 DL
local macro_rules | `(tactic| walk_at "cond") => `(tactic| first | (show (0 : Int) < _; decide) | (show (0 : Int) < _; omega) | assumption | (refine Bd.mul ?_; assumption) | (refine Or.inl ⟨?_, ?_⟩ <;> omega) | (refine Or.inr ⟨?_, ?_⟩ <;> omega) | decide)
local macro_rules | `(tactic| walk_at "go1") => `(tactic| first
  | refine ⟨_, rfl, ?_⟩
  | refine ⟨_, _, rfl, rfl, by walk_at "cond", ?_⟩
  | refine ⟨_, _, rfl, rfl, ?_⟩
  | refine ⟨_, _, rfl, ?_⟩
  | refine ⟨rfl, ?_⟩
  | refine iteT ?_
  | refine iteF ?_
  | refine ⟨_, _, _, rfl, ?_⟩
  | refine ⟨(by decide +kernel : _ = true), ?_⟩
  | refine iteT' (decide_eq_true (by omega)) ?_
  | refine iteF' (decide_eq_false (by omega)) ?_
  | (dsimp only; refine iteT' (by simp only [decide_eq_true_eq, Bool.not_eq_true', decide_eq_false_iff_not]; omega) ?_)
  | (dsimp only; refine iteF' (by simp only [decide_eq_true_eq, Bool.not_eq_false', decide_eq_false_iff_not]; omega) ?_))
local macro_rules | `(tactic| walk_at "go") => `(tactic| repeat walk_at "go1")
/-- all but the row stands, and the row is a row -/
def GR1 (r : Addr) (g g' : G) : Prop := (∀ x o, x ≠ r → g x = some o → g' x = some o) ∧ ∃ l, g' r = some (.lst l) ∧ RowOk l
theorem GR1.trans {r : Addr} {g g1 g2 : G} (a : GR1 r g g1) (b : GR1 r g1 g2) : GR1 r g g2 := ⟨fun x o hx h => b.1 x o hx (a.1 x o hx h), b.2⟩
theorem GR1.gx {r : Addr} {g g1 g2 : G} (a : GR1 r g g1) (b : GX g1 g2) : GR1 r g g2 := ⟨fun x o hx h => b x o (a.1 x o hx h), let ⟨l, h1, h2⟩ := a.2; ⟨l, b _ _ h1, h2⟩⟩
theorem GR1.row {r : Addr} {g : G} {l : List D} (h : RowOk l) : GR1 r g (gup g r (.lst l)) := ⟨fun x o hx h => (gup_ne hx).trans h, l, gup_same, h⟩
theorem GR1.refl {r : Addr} {g : G} {l : List D} (h : g r = some (.lst l)) (k : RowOk l) : GR1 r g g := ⟨fun _ _ _ h => h, l, h, k⟩
/-- a piece that leaves pens and depths as they were -/
structure Loop0 (x : List It) : Prop where
  rn : ∀ p, run p x = p
  bl : ∀ n c, bal n (x ++ c) = bal n c
theorem br_loop (t : List It) (ht : t = [.tl] ∨ t = [.tr] ∨ t = []) (j : Nat) : Loop0 ([.op] ++ t ++ [.L j] ++ [.cl]) := by
  rcases ht with rfl | rfl | rfl <;> exact ⟨fun p => rfl, fun n c => rfl⟩
theorem run_ins {x : List It} (h : Loop0 x) (a c : List It) (p : Pn) : run p (a ++ x ++ c) = run p (a ++ c) := by
  rw [List.append_assoc, run_append, run_append, run_append, h.rn]
theorem bal_ins {x : List It} (h : Loop0 x) (c : List It) : ∀ (a : List It) (n : Nat), bal n (a ++ x ++ c) = bal n (a ++ c)
  | [], n => h.bl n c
  | .L _ :: a, n => bal_ins h c a n
  | .tl :: a, n => bal_ins h c a n
  | .tr :: a, n => bal_ins h c a n
  | .op :: a, n => bal_ins h c a (n + 1)
  | .cl :: a, 0 => rfl
  | .cl :: a, n + 1 => bal_ins h c a n
/-- a word of a drawn book -/
structure EW (n : Nat) (mx my : Int) (lo hi len : Nat) (w : List It) : Prop where
  rn : run p0 w = ⟨mx, my, 0, []⟩
  bl : bal 0 w = true
  lt : ∀ i, It.L i ∈ w → i < n
  lo : lo ≤ (ltrs w).length
  hi : (ltrs w).length ≤ hi
  le : w.length ≤ len
theorem ltrs_app (a c : List It) : ltrs (a ++ c) = ltrs a ++ ltrs c := List.filterMap_append
theorem cut_take {l : List D} {i : Nat} (h : i ≤ l.length) : DL.cutD l none (some (i : Int)) = l.take i := by
  unfold DL.cutD
  rw [HT.sIx_none, HT.sIx_nat, Nat.min_eq_left h]
  simp
theorem cut_drop {l : List D} {i : Nat} (h : i ≤ l.length) : DL.cutD l (some (i : Int)) none = l.drop i := by
  unfold DL.cutD
  rw [HT.sIx_none, HT.sIx_nat, Nat.min_eq_left h]
  exact List.take_of_length_le (by rw [List.length_drop]; exact Nat.le_refl _)
theorem mapI_snoc (u : List It) (x : It) (d : D) (h : dI x = d) : u.map dI ++ [d] = (u ++ [x]).map dI := by rw [List.map_append, ← h]; rfl
def φ_branched : DSp := fun ds g Q => ∃ r l w n mx my lo hi, ds = [.adr r, dW w, .int (n : Nat)] ∧ g r = some (.lst l) ∧ RowOk l ∧ (1 ≤ n ∧ n ≤ 1000) ∧ EW n mx my lo hi 17 w ∧ ∀ w' g', EW n mx my lo (hi + 1) 21 w' → GR1 r g g' → Q (dW w') g'
theorem len__law_branched (ds : List D) (g : G) (Q : DK) (h : φ_branched ds g Q) : ds.length = P__law_branched.length := by
  obtain ⟨_, _, _, _, _, _, _, _, rfl, _⟩ := h
  rfl
section
variable {P : Program} {w : World} {K : PySem.W.Frag} {mg : Str → Option Value} {base : Heap}
theorem d__law_branched (T : Txt K mg) {f : Addr} {fd : FuncData} (F : FnT K "_law_branched" "_law_branched" s__law_branched f fd) (hm : mg "_law_branched" = some (.ref f))
    (H__law_pick : CallD P w K mg base 2 "_law_pick" φ_pick)
    (H__law_taken : CallD P w K mg base 1 "_law_taken" φ_taken) : CallD P w K mg base 3 "_law_branched" φ_branched := by
  refine callD F hm (ps := P__law_branched) (fun _ _ _ _ _ _ us hl => match us, hl with | [_, _, _], _ => rfl) (okD F sc__law_branched (by first | exact len__law_branched | exact len__law_branched _) fun cdv A outer s H E hr => ⟨_, (dss_cons (ds_set 3 (de_callTy call_list_of simC_listOf T.n_list (by decide +kernel) (da_cons (de_var 1) da_nil)) sc__law_branched.nd)
      (dss_cons (ds_if (db_cmp op_eq simR_eq (de_call H__law_taken (hr.mono (by decide)) (da_cons (de_var 0) (da_cons de_int da_nil))) de_int) (dss_cons (ds_par 4 5 (da_cons (de_call H__law_taken (hr.mono (by decide)) (da_cons (de_var 0) (da_cons (de_op op_add simR_I0 (de_callB call_len simC_len T.n_len (by decide +kernel) (da_cons (de_var 3) da_nil)) de_int) da_nil))) (da_cons (de_call H__law_pick (hr.mono (by decide)) (da_cons (de_var 0) (da_cons (de_lst (da_cons (de_lst (da_cons de_str da_nil)) (da_cons (de_lst (da_cons de_str da_nil)) (da_cons (de_lst da_nil) da_nil)))) da_nil))) da_nil)) sc__law_branched.nd)
      (dss_one (ds_set 3 (de_op op_cat simR_catL (de_op op_cat simR_catL (de_op op_cat simR_catL (de_op op_cat simR_catL (de_op op_cat simR_catL (de_slL (de_var 3) do_none (do_some (de_var 4))) (de_lst (da_cons de_str da_nil))) (de_var 5)) (de_lst (da_cons (de_call H__law_taken (hr.mono (by decide)) (da_cons (de_var 0) (da_cons (de_var 2) da_nil))) da_nil))) (de_lst (da_cons de_str da_nil))) (de_slL (de_var 3) (do_some (de_var 4)) do_none)) sc__law_branched.nd))) dss_nil)
      (dss_one (ds_ret (de_callTy call_tuple_of simC_tupOf T.n_tuple (by decide +kernel) (da_cons (de_var 3) da_nil)))))), ?_⟩)
  rintro ds g Q ⟨r, l, w, n, mx, my, lo, hi, rfl, hr, hl, ⟨hn1, hn2⟩, E, q⟩
  have sz : sizeLine = 16777216 := sizeLine_eq
  have hle := E.le
  refine ⟨_, rfl, _, _, rfl, .inl rfl, fun F hF => ?_⟩
  have hFr : F ≠ r := gne' hr hF
  refine ⟨_, rfl, r, l, 3, rfl, (gup_ne hFr.symm).trans hr, hl, ⟨by decide, by decide⟩, fun v l1 hv0 hv3 hl1 => ⟨_, rfl, _, rfl, ?_⟩⟩
  have eF : GR1 r g (gup (gup g F (.lst (w.map dI))) r (.lst l1)) := ⟨fun x o hx h => (gup_ne hx).trans ((gup_ne (gne h hF)).trans h), l1, gup_same, hl1⟩
  have hF1 : gup (gup g F (.lst (w.map dI))) r (.lst l1) F = some (.lst (w.map dI)) := (gup_ne hFr).trans gup_same
  have hr1 : gup (gup g F (.lst (w.map dI))) r (.lst l1) r = some (.lst l1) := gup_same
  generalize gup (gup g F (.lst (w.map dI))) r (.lst l1) = g1 at eF hF1 hr1 ⊢
  refine iteB (fun hc => ?_) (fun hc => ?_)
  · refine ⟨_, rfl, _, rfl, _, _, rfl, fLen_l hF1, _, rfl, r, l1, _, rfl, hr1, hl1, ⟨by omega, by rw [List.length_map]; omega⟩, fun at_ l2 ha0 ha1 hl2 => ?_⟩
    rw [List.length_map] at ha1
    obtain ⟨at_, rfl⟩ := Int.eq_ofNat_of_zero_le ha0
    have hat : at_ ≤ w.length := by omega
    have e2 : GR1 r g (gup g1 r (.lst l2)) := eF.trans (GR1.row hl2)
    have F2 : gup g1 r (.lst l2) F = some (.lst (w.map dI)) := (gup_ne hFr).trans hF1
    have r2 : gup g1 r (.lst l2) r = some (.lst l2) := gup_same
    generalize gup g1 r (.lst l2) = g2 at e2 F2 r2 ⊢
    refine ⟨_, rfl, ?_⟩
    intro A hA B hB C hC T hT
    have xA : GX g2 (gup g2 A (.lst [.str "+"])) := GX.new hA
    have xB := GX.new (o := .lst [.str "-"]) hB
    have xC := GX.new (o := .lst []) hC
    have xT := GX.new (o := .lst [.adr A, .adr B, .adr C]) hT
    have x6 := ((xA.trans xB).trans xC).trans xT
    have A6 := xT _ _ (xC _ _ (xB _ _ (gup_same (g := g2) (a := A) (o := .lst [.str "+"]))))
    have B6 := xT _ _ (xC _ _ (gup_same (a := B) (o := .lst [.str "-"])))
    have C6 := xT _ _ (gup_same (a := C) (o := .lst []))
    have T6 := (gup_same (g := gup (gup (gup g2 A (.lst [.str "+"])) B (.lst [.str "-"])) C (.lst [])) (a := T) (o := .lst [.adr A, .adr B, .adr C]))
    have nr : ∀ {a : Addr}, g2 a = none → a ≠ r := fun h e => by rw [e, r2] at h; cases h
    have Ar : A ≠ r := nr hA
    have Br : B ≠ r := nr (xA.free hB)
    have Cr : C ≠ r := nr ((xA.trans xB).free hC)
    have Tr : T ≠ r := nr (((xA.trans xB).trans xC).free hT)
    have F6 := x6 _ _ F2
    have r6 := x6 _ _ r2
    have e6 := e2.gx x6
    generalize gup (gup (gup (gup g2 A (.lst [.str "+"])) B (.lst [.str "-"])) C (.lst [])) T (.lst [.adr A, .adr B, .adr C]) = g6 at *
    refine ⟨r, l2, T, _, rfl, r6, hl2, T6, ⟨by show 1 ≤ 3; decide, by show 3 ≤ 1000; decide, Tr⟩, fun x l3 hx hl3 => ⟨_, _, rfl, ?_⟩⟩
    have hx2 : ∃ (a : Addr) (t : List It), x = .adr a ∧ g6 a = some (.lst (t.map dI)) ∧ a ≠ r ∧ (t = [.tl] ∨ t = [.tr] ∨ t = []) := by
      rcases List.mem_cons.mp hx with rfl | hx
      · exact ⟨A, [.tl], rfl, A6, Ar, .inl rfl⟩
      · rcases List.mem_cons.mp hx with rfl | hx
        · exact ⟨B, [.tr], rfl, B6, Br, .inr (.inl rfl)⟩
        · rw [List.mem_singleton.mp hx]
          exact ⟨C, [], rfl, C6, Cr, .inr (.inr rfl)⟩
    obtain ⟨a, t, rfl, ha6, har, ht⟩ := hx2
    have e7 : GR1 r g (gup g6 r (.lst l3)) := e6.trans (GR1.row hl3)
    have F7 : gup g6 r (.lst l3) F = some (.lst (w.map dI)) := (gup_ne hFr).trans F6
    have a7 : gup g6 r (.lst l3) a = some (.lst (t.map dI)) := (gup_ne har).trans ha6
    have r7 : gup g6 r (.lst l3) r = some (.lst l3) := gup_same
    generalize gup g6 r (.lst l3) = g7 at e7 F7 a7 r7 ⊢
    have tl1 : t.length ≤ 1 := by rcases ht with rfl | rfl | rfl <;> simp
    have ml : ∀ (u : List It), (u.map dI).length = u.length := fun u => List.length_map _
    -- the slice in front
    refine ⟨_, rfl, _, rfl, _, rfl, F, _, rfl, F7, fun p1 hp1 => ?_⟩
    rw [cut_take (by rw [ml]; exact hat), ← List.map_take]
    intro q1 hq1
    refine ⟨p1, q1, _, _, rfl, rfl, (gup_ne (gne gup_same hq1)).trans gup_same, gup_same, by rw [ml, List.length_take]; show _ + 1 ≤ _; omega, fun p2 hp2 => ?_⟩
    have y2 := ((GX.new (o := .lst ((w.take at_).map dI)) hp1).trans (GX.new (o := .lst [.str "["]) hq1)).trans (GX.new (o := .lst ((w.take at_).map dI ++ [.str "["])) hp2)
    have c2 := gup_same (g := gup (gup g7 p1 (.lst ((w.take at_).map dI))) q1 (.lst [.str "["])) (a := p2) (o := .lst ((w.take at_).map dI ++ [.str "["]))
    rw [show (w.take at_).map dI ++ [D.str "["] = (w.take at_ ++ [It.op]).map dI by rw [List.map_append] <;> rfl] at c2 y2 ⊢
    generalize gup (gup (gup g7 p1 (.lst ((w.take at_).map dI))) q1 (.lst [.str "["])) p2 (.lst ((w.take at_ ++ [It.op]).map dI)) = g8 at y2 c2 ⊢
    -- the turn
    refine ⟨_, rfl, p2, a, _, _, rfl, rfl, c2, y2 _ _ a7, by rw [ml, ml, List.length_append, List.length_take]; show _ + 1 + _ ≤ _; omega, fun p3 hp3 => ?_⟩
    rw [← List.map_append]
    have y3 := y2.trans (GX.new (o := .lst ((w.take at_ ++ [It.op] ++ t).map dI)) hp3)
    have c3 := gup_same (g := g8) (a := p3) (o := .lst ((w.take at_ ++ [It.op] ++ t).map dI))
    generalize gup g8 p3 (.lst ((w.take at_ ++ [It.op] ++ t).map dI)) = g9 at y3 c3 ⊢
    -- a letter
    refine ⟨_, rfl, _, rfl, r, l3, n, rfl, y3 _ _ r7, hl3, ⟨by omega, by omega⟩, fun j l4 hj0 hj1 hl4 => ?_⟩
    obtain ⟨j, rfl⟩ := Int.eq_ofNat_of_zero_le hj0
    have hjn : j < n := by omega
    have r9 := y3 _ _ r7
    have a3r : p3 ≠ r := fun e => by rw [e, y2 _ _ r7] at hp3; cases hp3
    have e9 : GR1 r g (gup g9 r (.lst l4)) := (e7.gx y3).trans (GR1.row hl4)
    have F9 : gup g9 r (.lst l4) F = some (.lst (w.map dI)) := (gup_ne hFr).trans (y3 _ _ F7)
    have c9 : gup g9 r (.lst l4) p3 = some (.lst ((w.take at_ ++ [It.op] ++ t).map dI)) := (gup_ne a3r).trans c3
    generalize gup g9 r (.lst l4) = gA at e9 F9 c9 ⊢
    intro q2 hq2
    refine ⟨p3, q2, _, _, rfl, rfl, (gup_ne (gne c9 hq2)).trans c9, gup_same, by rw [ml, List.length_append, List.length_append, List.length_take]; show _ + 1 + _ + 1 ≤ _; omega, fun p4 hp4 => ?_⟩
    rw [mapI_snoc (w.take at_ ++ [It.op] ++ t) (It.L j) (.int (j : Int)) rfl]
    have y4 := (GX.new (o := .lst [.int (j : Int)]) hq2).trans (GX.new (o := .lst ((w.take at_ ++ [It.op] ++ t ++ [It.L j]).map dI)) hp4)
    have c4 := gup_same (g := gup gA q2 (.lst [.int (j : Int)])) (a := p4) (o := .lst ((w.take at_ ++ [It.op] ++ t ++ [It.L j]).map dI))
    generalize gup (gup gA q2 (.lst [.int (j : Int)])) p4 (.lst ((w.take at_ ++ [It.op] ++ t ++ [It.L j]).map dI)) = gB at y4 c4 ⊢
    intro q3 hq3
    refine ⟨p4, q3, _, _, rfl, rfl, (gup_ne (gne c4 hq3)).trans c4, gup_same, by rw [ml, List.length_append, List.length_append, List.length_append, List.length_take]; show _ + 1 + _ + 1 + 1 ≤ _; omega, fun p5 hp5 => ?_⟩
    rw [mapI_snoc (w.take at_ ++ [It.op] ++ t ++ [It.L j]) It.cl (.str "]") rfl]
    have y5 := y4.trans ((GX.new (o := .lst [.str "]"]) hq3).trans (GX.new (o := .lst ((w.take at_ ++ [It.op] ++ t ++ [It.L j] ++ [It.cl]).map dI)) hp5))
    have c5 := gup_same (g := gup gB q3 (.lst [.str "]"])) (a := p5) (o := .lst ((w.take at_ ++ [It.op] ++ t ++ [It.L j] ++ [It.cl]).map dI))
    generalize gup (gup gB q3 (.lst [.str "]"])) p5 (.lst ((w.take at_ ++ [It.op] ++ t ++ [It.L j] ++ [It.cl]).map dI)) = gC at y5 c5 ⊢
    refine ⟨_, rfl, _, rfl, _, rfl, F, _, rfl, y5 _ _ F9, fun p6 hp6 => ?_⟩
    rw [cut_drop (by rw [ml]; exact hat), ← List.map_drop]
    refine ⟨p5, p6, _, _, rfl, rfl, (gup_ne (gne c5 hp6)).trans c5, gup_same, by rw [ml, ml, List.length_append, List.length_append, List.length_append, List.length_append, List.length_take, List.length_drop]; show _ + 1 + _ + 1 + 1 + _ ≤ _; omega, fun p7 hp7 => ?_⟩
    rw [← List.map_append]
    have y7 := y5.trans ((GX.new (o := .lst ((w.drop at_).map dI)) hp6).trans (GX.new (o := .lst ((w.take at_ ++ [It.op] ++ t ++ [It.L j] ++ [It.cl] ++ w.drop at_).map dI)) hp7))
    have c7 := gup_same (g := gup gC p6 (.lst ((w.drop at_).map dI))) (a := p7) (o := .lst ((w.take at_ ++ [It.op] ++ t ++ [It.L j] ++ [It.cl] ++ w.drop at_).map dI))
    generalize gup (gup gC p6 (.lst ((w.drop at_).map dI))) p7 (.lst ((w.take at_ ++ [It.op] ++ t ++ [It.L j] ++ [It.cl] ++ w.drop at_).map dI)) = gD at y7 c7 ⊢
    refine ⟨_, rfl, p7, _, rfl, c7, q _ gD ?_ (e9.gx y7)⟩
    have ew : w.take at_ ++ [It.op] ++ t ++ [It.L j] ++ [It.cl] ++ w.drop at_ = w.take at_ ++ ([.op] ++ t ++ [.L j] ++ [.cl]) ++ w.drop at_ := by simp only [List.append_assoc]
    have et := List.take_append_drop at_ w
    have lt0 : (ltrs t).length = 0 := by rcases ht with rfl | rfl | rfl <;> rfl
    have hlt : (ltrs (w.take at_ ++ ([.op] ++ t ++ [.L j] ++ [.cl]) ++ w.drop at_)).length = (ltrs w).length + 1 := by
      have := congrArg (fun u => (ltrs u).length) et
      simp only [ltrs_app, List.length_append] at this ⊢
      show _ + (0 + (ltrs t).length + 1 + 0) + _ = _
      omega
    rw [ew]
    refine ⟨?_, ?_, fun i hi => ?_, ?_, ?_, ?_⟩
    · rw [run_ins (br_loop t ht j), et]; exact E.rn
    · rw [bal_ins (br_loop t ht j), et]; exact E.bl
    · rcases List.mem_append.mp hi with hi | hi
      · rcases List.mem_append.mp hi with hi | hi
        · exact E.lt i (List.mem_of_mem_take hi)
        · rcases ht with rfl | rfl | rfl <;> (simp at hi; omega)
      · exact E.lt i (List.mem_of_mem_drop hi)
    · rw [hlt]; have := E.lo; omega
    · rw [hlt]; have := E.hi; omega
    · have := congrArg List.length et
      simp only [List.length_append] at this ⊢
      show _ + (1 + _ + 1 + 1) + _ ≤ _
      omega
  · refine ⟨_, rfl, F, _, rfl, hF1, q w g1 ⟨E.rn, E.bl, E.lt, E.lo, by have := E.hi; omega, by omega⟩ eF⟩
end
end SW
set_option Elab.async false
set_option linter.all false
set_option maxRecDepth 100000
set_option maxHeartbeats 4000000
namespace SW
open PySem PySem.Spec PyProof.Rows L2 DL
local macro_rules | `(tactic| walk_at "cond") => `(tactic| first | (show (0 : Int) < _; decide) | (show (0 : Int) < _; omega) | assumption | (refine Bd.mul ?_; assumption) | (refine Or.inl ⟨?_, ?_⟩ <;> omega) | (refine Or.inr ⟨?_, ?_⟩ <;> omega) | decide)
local macro_rules | `(tactic| walk_at "go1") => `(tactic| first
  | refine ⟨_, rfl, ?_⟩
  | refine ⟨_, _, rfl, rfl, by walk_at "cond", ?_⟩
  | refine ⟨_, _, rfl, rfl, ?_⟩
  | refine ⟨_, _, rfl, ?_⟩
  | refine ⟨rfl, ?_⟩
  | refine iteT ?_
  | refine iteF ?_
  | refine ⟨_, _, _, rfl, ?_⟩
  | refine ⟨(by decide +kernel : _ = true), ?_⟩
  | refine iteT' (decide_eq_true (by omega)) ?_
  | refine iteF' (decide_eq_false (by omega)) ?_
  | (dsimp only; refine iteT' (by simp only [decide_eq_true_eq, Bool.not_eq_true', decide_eq_false_iff_not]; omega) ?_)
  | (dsimp only; refine iteF' (by simp only [decide_eq_true_eq, Bool.not_eq_false', decide_eq_false_iff_not]; omega) ?_))
local macro_rules | `(tactic| walk_at "go") => `(tactic| repeat walk_at "go1")
/-- the sum of unit strokes -/
def sx : List Int → Int
  | [] => 0
  | k :: r => rx 1 0 k + sx r
def sy : List Int → Int
  | [] => 0
  | k :: r => ry 1 0 k + sy r
theorem sx_app : ∀ (a c : List Int), sx (a ++ c) = sx a + sx c
  | [], c => by show _ = 0 + _; rw [Int.zero_add]; rfl
  | k :: a, c => by show _ + sx (a ++ c) = _ + _ + _; rw [sx_app a c, Int.add_assoc]
theorem sy_app : ∀ (a c : List Int), sy (a ++ c) = sy a + sy c
  | [], c => by show _ = 0 + _; rw [Int.zero_add]; rfl
  | k :: a, c => by show _ + sy (a ++ c) = _ + _ + _; rw [sy_app a c, Int.add_assoc]
theorem sx_rep (k : Int) : ∀ n : Nat, sx (List.replicate n k) = n * rx 1 0 k
  | 0 => by show 0 = _; simp
  | n + 1 => by show _ + sx (List.replicate n k) = _; rw [sx_rep k n, Int.natCast_add, Int.add_mul]; omega
theorem sy_rep (k : Int) : ∀ n : Nat, sy (List.replicate n k) = n * ry 1 0 k
  | 0 => by show 0 = _; simp
  | n + 1 => by show _ + sy (List.replicate n k) = _; rw [sy_rep k n, Int.natCast_add, Int.add_mul]; omega
theorem sx_cut : ∀ (ks : List Int) (i : Nat) (k : Int), ks[i]? = some k → rx 1 0 k + sx (ks.eraseIdx i) = sx ks
  | a :: r, 0, k, h => by cases h; rfl
  | a :: r, i + 1, k, h => by
    have := sx_cut r i k h
    show rx 1 0 k + (rx 1 0 a + sx (r.eraseIdx i)) = rx 1 0 a + sx r
    omega
theorem sy_cut : ∀ (ks : List Int) (i : Nat) (k : Int), ks[i]? = some k → ry 1 0 k + sy (ks.eraseIdx i) = sy ks
  | a :: r, 0, k, h => by cases h; rfl
  | a :: r, i + 1, k, h => by
    have := sy_cut r i k h
    show ry 1 0 k + (ry 1 0 a + sy (r.eraseIdx i)) = ry 1 0 a + sy r
    omega
/-- the marks that turn by m quarters -/
def turnsOf (m : Int) : List It := if m = 3 then [.tr] else List.replicate m.toNat .tl
theorem d4 {m : Int} (h0 : 0 ≤ m) (h1 : m < 4) : m = 0 ∨ m = 1 ∨ m = 2 ∨ m = 3 := by omega
theorem turns_run (x y : Int) (st : List (Int × Int × Int)) {h k : Int} (hh : Hd h) (hk : Hd k) : run ⟨x, y, h, st⟩ (turnsOf ((k - h) % 4)) = ⟨x, y, k, st⟩ := by
  rcases d4 hh.1 hh.2 with rfl | rfl | rfl | rfl <;> rcases d4 hk.1 hk.2 with rfl | rfl | rfl | rfl <;> rfl
structure TnOk (t : List It) : Prop where
  le : t.length ≤ 2
  lt : ltrs t = []
  no : ∀ i, It.L i ∉ t
  bl : ∀ n c, bal n (t ++ c) = bal n c
theorem turns_ok {m : Int} (h0 : 0 ≤ m) (h1 : m < 4) : TnOk (turnsOf m) := by
  rcases d4 h0 h1 with rfl | rfl | rfl | rfl
  · exact ⟨by decide, rfl, (fun i h => by cases h), fun n c => rfl⟩
  · exact ⟨by decide, rfl, (fun i h => by
      rcases List.mem_cons.mp h with h | h
      · cases h
      · cases h), fun n c => rfl⟩
  · exact ⟨by decide, rfl, (fun i h => by
      rcases List.mem_cons.mp h with h | h
      · cases h
      · rcases List.mem_cons.mp h with h | h
        · cases h
        · cases h), fun n c => rfl⟩
  · exact ⟨by decide, rfl, (fun i h => by
      rcases List.mem_cons.mp h with h | h
      · cases h
      · cases h), fun n c => rfl⟩
theorem dSeq_gen {T rest : DTS} {F : DEnds} {Γ : Gm} {g : G} (I : Gm → G → Prop) (h1 : ∀ Γ g, I Γ g → rest F Γ g) (h2 : ∀ R : DTS, (∀ Γ g, I Γ g → R F Γ g) → dSeq T R F Γ g) : dSeq T rest F Γ g := h2 rest h1
/-- the steps of a word yet to be drawn -/
structure Stp (mx my : Int) (ks : List Int) : Prop where
  x : sx ks = mx
  y : sy ks = my
  lo : mx.natAbs + my.natAbs ≤ ks.length
  hi : ks.length ≤ mx.natAbs + my.natAbs + 2
  hd : ∀ k ∈ ks, Hd k
theorem stp0 (mx my : Int) : Stp mx my (List.replicate mx.natAbs (if 0 < mx then 0 else 2) ++ List.replicate my.natAbs (if 0 < my then 1 else 3)) := by
  have r0 : rx 1 0 0 = 1 ∧ ry 1 0 0 = 0 ∧ rx 1 0 1 = 0 ∧ ry 1 0 1 = 1 ∧ rx 1 0 2 = -1 ∧ ry 1 0 2 = 0 ∧ rx 1 0 3 = 0 ∧ ry 1 0 3 = -1 := by decide
  obtain ⟨a0, b0, a1, b1, a2, b2, a3, b3⟩ := r0
  refine ⟨?_, ?_, ?_, ?_, ?_⟩
  · rw [sx_app, sx_rep, sx_rep]
    split <;> split <;> simp only [a0, a1, a2, a3] <;> omega
  · rw [sy_app, sy_rep, sy_rep]
    split <;> split <;> simp only [b0, b1, b2, b3] <;> omega
  · simp
  · simp
  · intro k h
    rcases List.mem_append.mp h with h | h
    · rw [(List.mem_replicate.mp h).2]; split <;> exact ⟨by decide, by decide⟩
    · rw [(List.mem_replicate.mp h).2]; split <;> exact ⟨by decide, by decide⟩
theorem Stp.two {mx my : Int} {ks : List Int} (h : Stp mx my ks) (hk : ks.length = mx.natAbs + my.natAbs) {v : Int} (h0 : 0 ≤ v) (h1 : v < 4) : Stp mx my (ks ++ [v, (v + 2) % 4]) := by
  have e : rx 1 0 v + rx 1 0 ((v + 2) % 4) = 0 ∧ ry 1 0 v + ry 1 0 ((v + 2) % 4) = 0 ∧ Hd ((v + 2) % 4) := by
    rcases d4 h0 h1 with rfl | rfl | rfl | rfl <;> exact ⟨rfl, rfl, by decide, by decide⟩
  refine ⟨?_, ?_, ?_, ?_, ?_⟩
  · rw [sx_app, h.x]; show _ + (_ + (_ + 0)) = _; omega
  · rw [sy_app, h.y]; show _ + (_ + (_ + 0)) = _; omega
  · rw [List.length_append]; omega
  · rw [List.length_append]; show _ + 2 ≤ _; omega
  · intro k hk
    rcases List.mem_append.mp hk with hk | hk
    · exact h.hd k hk
    · rcases List.mem_cons.mp hk with rfl | hk
      · exact ⟨h0, h1⟩
      · rw [List.mem_singleton.mp hk]; exact e.2.2
theorem di_steps {Γ : Gm} {g : G} {K : DK} (i a b mx my m : Int) (hG : Γ[2]? = some (some (.tup [.int mx, .int my]))) (hx : ∀ g, fIx (.tup [.int mx, .int my]) (.int i) g = some (.int m)) (hm : -1000 ≤ m ∧ m ≤ 1000)
    (k : ∀ S ks g1, GX g g1 → g S = none → g1 S = some (.lst (ks.map D.int)) → ks = List.replicate m.natAbs (if 0 < m then a else b) → K (.adr S) g1) :
    dIf (dVal (dOp (sF (fB fun i j => decide (j < i))) (dOp sIx (dVar 2) (dC (D.int i))) (dC (D.int 0))))
        (dOp sRep (dLst (dCons (dC (D.int a)) dNil)) (dCB sAbs (dCons (dOp sIx (dVar 2) (dC (D.int i))) dNil)))
        (dOp sRep (dLst (dCons (dC (D.int b)) dNil)) (dCB sAbs (dCons (dOp sIx (dVar 2) (dC (D.int i))) dNil))) Γ g K := by
  have key : ∀ v : Int, (∀ S ks g1, GX g g1 → g S = none → g1 S = some (.lst (ks.map D.int)) → ks = List.replicate m.natAbs v → K (.adr S) g1) → dOp sRep (dLst (dCons (dC (D.int v)) dNil)) (dCB sAbs (dCons (dOp sIx (dVar 2) (dC (D.int i))) dNil)) Γ g K := by
    intro v kk l hl
    refine ⟨_, hG, _, hx _, _, rfl, l, _, _, rfl, rfl, gup_same, by split <;> omega, by split <;> omega, fun p hp => ?_⟩
    have e : (if m < 0 then -m else m).toNat = m.natAbs := by split <;> omega
    rw [e]
    refine kk p (List.replicate m.natAbs v) _ ((GX.new hl).trans (GX.new hp)) ((GX.new hl).free hp) ?_ rfl
    rw [List.map_replicate]
    exact gup_same
  refine ⟨_, hG, _, hx _, _, rfl, _, rfl, ?_⟩
  refine iteB (fun hc => key a ?_) (fun hc => key b ?_)
  · rw [if_pos (of_decide_eq_true hc)] at k; exact k
  · rw [if_neg (of_decide_eq_false hc)] at k; exact k
theorem di_turns {Γ : Gm} {g : G} {K : DK} (m : Int) (h0 : 0 ≤ m) (h1 : m < 4) (hG : Γ[8]? = some (some (.int m)))
    (k : ∀ p g1, GX g g1 → g p = none → g1 p = some (.lst ((turnsOf m).map dI)) → K (.adr p) g1) :
    dIf (dVal (dOp sEq (dVar 8) (dC (D.int 3)))) (dLst (dCons (dC (D.str (Str.ofString "-"))) dNil)) (dOp sRep (dLst (dCons (dC (D.str (Str.ofString "+"))) dNil)) (dVar 8)) Γ g K := by
  refine ⟨_, hG, _, rfl, _, rfl, ?_⟩
  refine iteB (fun hc p hp => ?_) (fun hc l hl => ?_)
  · have : m = 3 := by simpa using hc
    subst this
    exact k p _ (GX.new hp) hp gup_same
  · have hm : m ≠ 3 := by simpa using hc
    refine ⟨_, hG, l, _, _, rfl, rfl, gup_same, by omega, by omega, fun p hp => ?_⟩
    refine k p _ ((GX.new hl).trans (GX.new hp)) ((GX.new hl).free hp) ?_
    unfold turnsOf
    rw [if_neg hm, List.map_replicate]
    exact gup_same
/-- a word half drawn -/
structure Drw (n : Nat) (mx my : Int) (ks : List Int) (u : List It) (x y h : Int) : Prop where
  rn : run p0 u = ⟨x, y, h, []⟩
  x : x + sx ks = mx
  y : y + sy ks = my
  lo : mx.natAbs + my.natAbs ≤ (ltrs u).length + ks.length
  hi : (ltrs u).length + ks.length ≤ mx.natAbs + my.natAbs + 2
  hd : ∀ k ∈ ks, Hd k
  h : Hd h
  le : u.length ≤ 3 * (ltrs u).length
  bl : ∀ c, bal 0 (u ++ c) = bal 0 c
  lt : ∀ i, It.L i ∈ u → i < n
theorem Drw.start {n : Nat} {mx my : Int} {ks : List Int} (s : Stp mx my ks) : Drw n mx my ks [] 0 0 0 :=
  ⟨rfl, by rw [Int.zero_add]; exact s.x, by rw [Int.zero_add]; exact s.y, by show _ ≤ 0 + _; rw [Nat.zero_add]; exact s.lo, by show 0 + _ ≤ _; rw [Nat.zero_add]; exact s.hi, s.hd, ⟨by decide, by decide⟩, Nat.le_refl _, fun _ => rfl, fun _ h => nomatch h⟩
theorem mem_of_erase {α : Type} : ∀ {l : List α} {i : Nat} {a : α}, a ∈ l.eraseIdx i → a ∈ l
  | _ :: _, 0, a, h => List.mem_cons_of_mem _ h
  | _ :: l, i + 1, a, h => by
    rcases List.mem_cons.mp h with rfl | h
    · exact List.mem_cons_self ..
    · exact List.mem_cons_of_mem _ (mem_of_erase h)
theorem Drw.next {n : Nat} {mx my : Int} {ks : List Int} {u : List It} {x y h k : Int} {i j : Nat} (d : Drw n mx my ks u x y h) (hk : ks[i]? = some k) (hj : j < n) :
    Drw n mx my (ks.eraseIdx i) (u ++ turnsOf ((k - h) % 4) ++ [.L j]) (x + rx 1 0 k) (y + ry 1 0 k) k := by
  have hkd := d.hd k (List.mem_of_getElem? hk)
  have t := turns_ok (m := (k - h) % 4) (by omega) (by omega)
  have il := (List.getElem?_eq_some_iff.mp hk).1
  have el : (ks.eraseIdx i).length = ks.length - 1 := List.length_eraseIdx_of_lt il
  have ll : (ltrs (u ++ turnsOf ((k - h) % 4) ++ [.L j])).length = (ltrs u).length + 1 := by
    rw [ltrs_app, ltrs_app, t.lt, List.append_nil, List.length_append]
    rfl
  refine ⟨?_, ?_, ?_, ?_, ?_, fun k hk => d.hd k (mem_of_erase hk), hkd, ?_, fun c => ?_, fun i hi => ?_⟩
  · rw [run_append, run_append, d.rn, turns_run _ _ _ d.h hkd]
    rfl
  · have := sx_cut ks i k hk; have := d.x; omega
  · have := sy_cut ks i k hk; have := d.y; omega
  · rw [ll, el]; have := d.lo; omega
  · rw [ll, el]; have := d.hi; omega
  · rw [ll, List.length_append, List.length_append]
    have := d.le; have := t.le
    show _ + _ + 1 ≤ _
    omega
  · rw [List.append_assoc, List.append_assoc, d.bl, t.bl]
    rfl
  · rcases List.mem_append.mp hi with hi | hi
    · rcases List.mem_append.mp hi with hi | hi
      · exact d.lt i hi
      · exact absurd hi (t.no i)
    · rcases List.mem_cons.mp hi with hi | hi
      · cases hi; exact hj
      · cases hi
theorem Drw.last {n : Nat} {mx my : Int} {u : List It} {x y h : Int} (d : Drw n mx my [] u x y h) (hs : mx.natAbs + my.natAbs ≤ 3) :
    EW n mx my (mx.natAbs + my.natAbs) (mx.natAbs + my.natAbs + 2) 17 (u ++ turnsOf ((0 - h) % 4)) := by
  have t := turns_ok (m := (0 - h) % 4) (by omega) (by omega)
  have ll : (ltrs (u ++ turnsOf ((0 - h) % 4))).length = (ltrs u).length := by
    rw [ltrs_app, t.lt, List.append_nil]
  have hx : x = mx := by have := d.x; simp only [sx] at this; omega
  have hy : y = my := by have := d.y; simp only [sy] at this; omega
  have lo := d.lo
  have hi := d.hi
  simp only [List.length_nil] at lo hi
  refine ⟨?_, ?_, fun i hi => ?_, by omega, by omega, ?_⟩
  · rw [run_append, d.rn, turns_run _ _ _ d.h ⟨by decide, by decide⟩, hx, hy]
  · have := d.bl (turnsOf ((0 - h) % 4) ++ [])
    rw [List.append_nil] at this
    rw [this]
    have := t.bl 0 []
    rw [List.append_nil] at this
    rw [this]
    rfl
  · rcases List.mem_append.mp hi with hi | hi
    · exact d.lt i hi
    · exact absurd hi (t.no i)
  · rw [List.length_append]
    have := d.le; have := t.le
    omega
theorem GR1.mut {r p : Addr} {g g1 : G} {o : GO} (a : GR1 r g g1) (h : g p = none) (hp : p ≠ r) : GR1 r g (gup g1 p o) :=
  ⟨fun x u hx e => (gup_ne (gne e h)).trans (a.1 x u hx e), let ⟨l, h1, h2⟩ := a.2; ⟨l, (gup_ne hp.symm).trans h1, h2⟩⟩
def lenAt (g : G) : Option (Option D) → Nat
  | some (some (.adr S)) => (match g S with
    | some (.lst l) => l.length
    | _ => 0)
  | _ => 0
theorem lenAt_lst {g : G} {S : Addr} {l : List D} (h : g S = some (.lst l)) : lenAt g (some (some (.adr S))) = l.length := by
  simp [lenAt, h]
theorem erase_map {α β : Type} (f : α → β) : ∀ (l : List α) (i : Nat), (l.map f).eraseIdx i = (l.eraseIdx i).map f
  | [], i => rfl
  | a :: l, 0 => rfl
  | a :: l, i + 1 => by show f a :: (l.map f).eraseIdx i = f a :: (l.eraseIdx i).map f; rw [erase_map f l i]
def φ_even_word : DSp := fun ds g Q => ∃ r l n mx my, ds = [.adr r, .int (n : Nat), .tup [.int mx, .int my]] ∧ g r = some (.lst l) ∧ RowOk l ∧ (1 ≤ n ∧ n ≤ 1000) ∧ mx.natAbs + my.natAbs ≤ 3 ∧
  ∀ w' g', EW n mx my (mx.natAbs + my.natAbs) (mx.natAbs + my.natAbs + 2) 17 w' → GR1 r g g' → Q (dW w') g'
theorem len__law_even_word (ds : List D) (g : G) (Q : DK) (h : φ_even_word ds g Q) : ds.length = P__law_even_word.length := by
  obtain ⟨_, _, _, _, _, rfl, _⟩ := h
  rfl
section
variable {P : Program} {w : World} {K : PySem.W.Frag} {mg : Str → Option Value} {base : Heap}
theorem d__law_even_word (T : Txt K mg) {f : Addr} {fd : FuncData} (F : FnT K "_law_even_word" "_law_even_word" s__law_even_word f fd) (hm : mg "_law_even_word" = some (.ref f))
    (H__law_taken : CallD P w K mg base 1 "_law_taken" φ_taken) : CallD P w K mg base 2 "_law_even_word" φ_even_word := by
  refine callD F hm (ps := P__law_even_word) (fun _ _ _ _ _ _ us hl => match us, hl with | [_, _, _], _ => rfl) (okD F sc__law_even_word (by first | exact len__law_even_word | exact len__law_even_word _) fun cdv A outer s H E hr => ⟨_, (dss_cons (ds_set 3 (de_if (db_cmp op_gt simR_B (de_ix (de_var 2) de_int) de_int) (de_op op_rep simR_rep (de_lst (da_cons de_int da_nil)) (de_callB call_abs simC_abs T.n_abs (by decide +kernel) (da_cons (de_ix (de_var 2) de_int) da_nil))) (de_op op_rep simR_rep (de_lst (da_cons de_int da_nil)) (de_callB call_abs simC_abs T.n_abs (by decide +kernel) (da_cons (de_ix (de_var 2) de_int) da_nil)))) sc__law_even_word.nd)
      (dss_cons (ds_set 3 (de_op op_cat simR_catL (de_var 3) (de_if (db_cmp op_gt simR_B (de_ix (de_var 2) de_int) de_int) (de_op op_rep simR_rep (de_lst (da_cons de_int da_nil)) (de_callB call_abs simC_abs T.n_abs (by decide +kernel) (da_cons (de_ix (de_var 2) de_int) da_nil))) (de_op op_rep simR_rep (de_lst (da_cons de_int da_nil)) (de_callB call_abs simC_abs T.n_abs (by decide +kernel) (da_cons (de_ix (de_var 2) de_int) da_nil))))) sc__law_even_word.nd)
      (dss_cons (ds_if (db_cmp op_eq simR_eq (de_call H__law_taken (hr.mono (by decide)) (da_cons (de_var 0) (da_cons de_int da_nil))) de_int) (dss_cons (ds_set 4 (de_call H__law_taken (hr.mono (by decide)) (da_cons (de_var 0) (da_cons de_int da_nil))) sc__law_even_word.nd)
      (dss_one (ds_set 3 (de_op op_cat simR_catL (de_var 3) (de_lst (da_cons (de_var 4) (da_cons (de_op op_mod simR_I (de_callTy call_int1 simC_int T.n_int (by decide +kernel) (da_cons (de_op op_add simR_I0 (de_var 4) de_int) da_nil)) de_int) da_nil)))) sc__law_even_word.nd))) dss_nil)
      (dss_cons (ds_par 5 6 (da_cons (de_lst da_nil) (da_cons de_int da_nil)) sc__law_even_word.nd)
      (dss_cons (ds_while (db_cmp (op_neD hr.units) simR_neL (de_var 3) (de_lst da_nil)) (dss_cons (ds_set 7 (de_popAt (de_var 3) (de_call H__law_taken (hr.mono (by decide)) (da_cons (de_var 0) (da_cons (de_callB call_len simC_len T.n_len (by decide +kernel) (da_cons (de_var 3) da_nil)) da_nil)))) sc__law_even_word.nd)
      (dss_cons (ds_set 8 (de_op op_mod simR_I (de_callTy call_int1 simC_int T.n_int (by decide +kernel) (da_cons (de_op op_sub simR_I0 (de_var 7) (de_var 6)) da_nil)) de_int) sc__law_even_word.nd)
      (dss_cons (ds_set 5 (de_op op_cat simR_catL (de_op op_cat simR_catL (de_var 5) (de_if (db_cmp op_eq simR_eq (de_var 8) de_int) (de_lst (da_cons de_str da_nil)) (de_op op_rep simR_rep (de_lst (da_cons de_str da_nil)) (de_var 8)))) (de_lst (da_cons (de_call H__law_taken (hr.mono (by decide)) (da_cons (de_var 0) (da_cons (de_var 1) da_nil))) da_nil))) sc__law_even_word.nd)
      (dss_one (ds_set 6 (de_var 7) sc__law_even_word.nd))))))
      (dss_cons (ds_set 8 (de_op op_mod simR_I (de_callTy call_int1 simC_int T.n_int (by decide +kernel) (da_cons (de_op op_sub simR_I0 de_int (de_var 6)) da_nil)) de_int) sc__law_even_word.nd)
      (dss_one (ds_ret (de_callTy call_tuple_of simC_tupOf T.n_tuple (by decide +kernel) (da_cons (de_op op_cat simR_catL (de_var 5) (de_if (db_cmp op_eq simR_eq (de_var 8) de_int) (de_lst (da_cons de_str da_nil)) (de_op op_rep simR_rep (de_lst (da_cons de_str da_nil)) (de_var 8)))) da_nil)))))))))), ?_⟩)
  rintro ds g Q ⟨r, l, n, mx, my, rfl, hr, hl, ⟨hn1, hn2⟩, hs, q⟩
  have sz : sizeLine = 16777216 := sizeLine_eq
  refine di_steps 0 0 2 mx my mx rfl (fun _ => rfl) (by omega) fun S1 k1 g1 x1 n1 e1 q1 => ?_
  refine ⟨_, rfl, ?_⟩
  refine di_steps 1 1 3 mx my my rfl (fun _ => rfl) (by omega) fun S2 k2 g2 x2 n2 e2 q2 => ?_
  have f1 := x2 _ _ e1
  have l1 : k1.length = mx.natAbs := by rw [q1]; exact List.length_replicate
  have l2 : k2.length = my.natAbs := by rw [q2]; exact List.length_replicate
  refine ⟨S1, S2, _, _, rfl, rfl, f1, e2, by rw [List.length_map, List.length_map]; omega, fun S hS => ?_⟩
  rw [← List.map_append]
  have st := stp0 mx my
  rw [← q1, ← q2] at st
  have lk : (k1 ++ k2).length = mx.natAbs + my.natAbs := by rw [List.length_append]; omega
  have x3 := (x1.trans x2).trans (GX.new (o := .lst ((k1 ++ k2).map D.int)) hS)
  have e3 := gup_same (g := g2) (a := S) (o := .lst ((k1 ++ k2).map D.int))
  have nS := (x1.trans x2).free hS
  have eR := (GR1.refl hr hl).gx x3
  have r3 := x3 _ _ hr
  generalize gup g2 S (.lst ((k1 ++ k2).map D.int)) = g3 at x3 e3 eR r3 ⊢
  generalize k1 ++ k2 = ks at st lk e3
  dsimp only
  refine dSeq_gen (fun Γ g' => ∃ (S : Addr) (ks : List Int) (x4 : Option D), Γ = [some (.adr r), some (.int n), some (.tup [.int mx, .int my]), some (.adr S), x4, none, none, none, none] ∧ GR1 r g g' ∧ g S = none ∧ g' S = some (.lst (ks.map D.int)) ∧ Stp mx my ks) (fun Γ g' => ?_) fun R hR => ?_
  · rintro ⟨S, ks, x4, rfl, eg, nS, eS, st⟩
    intro F0 hF0
    refine ⟨_, _, rfl, ?_⟩
    have r0 : g' r ≠ none := by obtain ⟨_, h, _⟩ := eg.2; rw [h]; exact fun h => nomatch h
    have nSr : S ≠ r := fun e => by rw [e, hr] at nS; cases nS
    refine ⟨fun Γ g' => ∃ (S fd : Addr) (ks : List Int) (u : List It) (x y h : Int) (x4 x7 x8 : Option D), Γ = [some (.adr r), some (.int n), some (.tup [.int mx, .int my]), some (.adr S), x4, some (.adr fd), some (.int h), x7, x8] ∧ GR1 r g g' ∧ g S = none ∧ S ≠ r ∧ fd ≠ r ∧ fd ≠ S ∧ g' S = some (.lst (ks.map D.int)) ∧ g' fd = some (.lst (u.map dI)) ∧ Drw n mx my ks u x y h,
      fun (Γ : Gm) (g' : G) => lenAt g' Γ[3]?,
      ⟨S, F0, ks, [], 0, 0, 0, x4, none, none, rfl, eg.gx (GX.new hF0), nS, nSr, fun e => r0 (e ▸ hF0), gne' eS hF0, (gup_ne (gne eS hF0)).trans eS, gup_same, Drw.start st⟩, ?_⟩
    rintro Γ g1 ⟨S, fd, ks, u, x, y, h, x4, x7, x8, rfl, eg, nS, nSr, fr, fS, eS, ef, d⟩
    obtain ⟨l1, hr1, hl1⟩ := eg.2
    have lks : ks.length ≤ 5 := by have := d.hi; omega
    have lu : u.length ≤ 15 := by have := d.hi; have := d.le; omega
    refine ⟨_, rfl, fun e he => ?_⟩
    have hSe := gne eS he
    refine ⟨S, e, _, _, rfl, rfl, (gup_ne hSe).trans eS, gup_same, pdL_of fun d hd => ?_, rfl, _, rfl, iteB (fun hc => ?_) (fun hc => ?_)⟩
    · obtain ⟨k, _, rfl⟩ := List.mem_map.mp hd
      rfl
    · have hne : ks ≠ [] := fun z => by rw [z] at hc; cases hc
      have lpos : 0 < ks.length := List.length_pos_iff.mpr hne
      have ge : GX g1 (gup g1 e (.lst [])) := GX.new he
      have eg2 := eg.gx ge
      have S2 := ge _ _ eS
      have f2 := ge _ _ ef
      have r2 := ge _ _ hr1
      generalize gup g1 e (.lst []) = g2 at ge eg2 S2 f2 r2 ⊢
      refine ⟨_, rfl, ⟨S, _, rfl, S2⟩, _, rfl, _, rfl, _, _, rfl, fLen_l S2, r, l1, _, rfl, r2, hl1, ⟨by rw [List.length_map]; omega, by rw [List.length_map]; omega⟩, fun i l2 hi0 hi1 hl2 => ?_⟩
      obtain ⟨i, rfl⟩ := Int.eq_ofNat_of_zero_le hi0
      rw [List.length_map] at hi1
      have hi : i < ks.length := by omega
      obtain ⟨k, hk⟩ : ∃ k, ks[i]? = some k := ⟨_, List.getElem?_eq_getElem hi⟩
      have hkd := d.hd k (List.mem_of_getElem? hk)
      have hhd := d.h
      have eg3 : GR1 r g (gup g2 r (.lst l2)) := eg2.trans (GR1.row hl2)
      have S3 : gup g2 r (.lst l2) S = _ := (gup_ne nSr).trans S2
      have f3 : gup g2 r (.lst l2) fd = _ := (gup_ne fr).trans f2
      have r3 : gup g2 r (.lst l2) r = some (.lst l2) := gup_same
      generalize gup g2 r (.lst l2) = g3 at eg3 S3 f3 r3 ⊢
      refine ⟨S, _, i, .int k, rfl, rfl, S3, by omega, by rw [List.length_map]; omega, by show (ks.map D.int)[i]? = _; rw [List.getElem?_map, hk]; rfl, ?_⟩
      rw [show (ks.map D.int).eraseIdx (i : Int).toNat = (ks.eraseIdx i).map D.int from erase_map ..]
      have eg4 := eg3.mut (o := .lst ((ks.eraseIdx i).map D.int)) nS nSr
      have S4 := gup_same (g := g3) (a := S) (o := .lst ((ks.eraseIdx i).map D.int))
      have f4 : gup g3 S (.lst ((ks.eraseIdx i).map D.int)) fd = _ := (gup_ne fS).trans f3
      have r4 : gup g3 S (.lst ((ks.eraseIdx i).map D.int)) r = _ := (gup_ne nSr.symm).trans r3
      generalize gup g3 S (.lst ((ks.eraseIdx i).map D.int)) = g4 at eg4 S4 f4 r4 ⊢
      refine ⟨_, rfl, _, rfl, _, rfl, _, rfl, _, _, rfl, rfl, (by decide : (0:Int) < 4), ?_⟩
      refine ⟨_, rfl, ?_⟩
      refine di_turns ((k - h) % 4) (by omega) (by omega) rfl fun p g5 x5 n5 e5 => ?_
      have tn := turns_ok (m := (k - h) % 4) (by omega) (by omega)
      refine ⟨fd, p, _, _, rfl, rfl, x5 _ _ f4, e5, by rw [List.length_map, List.length_map]; have := tn.le; omega, fun p2 hp2 => ?_⟩
      rw [← List.map_append]
      have x6 := x5.trans (GX.new (o := .lst ((u ++ turnsOf ((k - h) % 4)).map dI)) hp2)
      have c6 := gup_same (g := g5) (a := p2) (o := .lst ((u ++ turnsOf ((k - h) % 4)).map dI))
      generalize gup g5 p2 (.lst ((u ++ turnsOf ((k - h) % 4)).map dI)) = g6 at x6 c6 ⊢
      have S6 := x6 _ _ S4
      have r6 := x6 _ _ r4
      have eg6 := eg4.gx x6
      have p2r : p2 ≠ r := fun e => by rw [e, x5 _ _ r4] at hp2; cases hp2
      have p2S : p2 ≠ S := fun e => by rw [e, x5 _ _ S4] at hp2; cases hp2
      refine ⟨_, rfl, _, rfl, r, l2, n, rfl, r6, hl2, ⟨by omega, by omega⟩, fun j l7 hj0 hj1 hl7 => ?_⟩
      obtain ⟨j, rfl⟩ := Int.eq_ofNat_of_zero_le hj0
      have hjn : j < n := by omega
      have eg7 : GR1 r g (gup g6 r (.lst l7)) := eg6.trans (GR1.row hl7)
      have S7 : gup g6 r (.lst l7) S = _ := (gup_ne nSr).trans S6
      have c7 : gup g6 r (.lst l7) p2 = _ := (gup_ne p2r).trans c6
      have r7 : gup g6 r (.lst l7) r = some (.lst l7) := gup_same
      generalize gup g6 r (.lst l7) = g7 at eg7 S7 c7 r7 ⊢
      intro q1 hq1
      have dn := d.next hk hjn
      refine ⟨p2, q1, _, _, rfl, rfl, (gup_ne (gne c7 hq1)).trans c7, gup_same, by rw [List.length_map, List.length_append]; have := tn.le; show _ + _ + 1 ≤ _; omega, fun q2 hq2 => ?_⟩
      rw [mapI_snoc (u ++ turnsOf ((k - h) % 4)) (It.L j) (.int (j : Int)) rfl]
      have x8 := (GX.new (o := .lst [.int (j : Int)]) hq1).trans (GX.new (o := .lst ((u ++ turnsOf ((k - h) % 4) ++ [It.L j]).map dI)) hq2)
      have y8 := GX.new (o := .lst [.int (j : Int)]) hq1
      have q2r : q2 ≠ r := fun e => by rw [e, y8 _ _ r7] at hq2; cases hq2
      have q2S : q2 ≠ S := fun e => by rw [e, y8 _ _ S7] at hq2; cases hq2
      have c8 := gup_same (g := gup g7 q1 (.lst [.int (j : Int)])) (a := q2) (o := .lst ((u ++ turnsOf ((k - h) % 4) ++ [It.L j]).map dI))
      generalize gup (gup g7 q1 (.lst [.int (j : Int)])) q2 (.lst ((u ++ turnsOf ((k - h) % 4) ++ [It.L j]).map dI)) = g8 at x8 c8 ⊢
      have S8 := x8 _ _ S7
      refine ⟨_, rfl, ⟨S, q2, ks.eraseIdx i, _, _, _, k, x4, _, _, rfl, eg7.gx x8, nS, nSr, q2r, q2S, S8, c8, dn⟩, ?_⟩
      show lenAt g8 (some (some (.adr S))) < lenAt g1 (some (some (.adr S)))
      rw [lenAt_lst S8, lenAt_lst eS]
      rw [List.length_map, List.length_map, List.length_eraseIdx_of_lt hi]
      omega
    · have ks0 : ks = [] := by
        rcases ks with _ | ⟨k, ks⟩
        · rfl
        · cases hc
      subst ks0
      have hhd := d.h
      have ge : GX g1 (gup g1 e (.lst [])) := GX.new he
      have eg2 := eg.gx ge
      have f2 := ge _ _ ef
      generalize gup g1 e (.lst []) = g2 at ge eg2 f2 ⊢
      dsimp only
      refine ⟨_, rfl, _, rfl, _, rfl, _, _, rfl, rfl, (by decide : (0:Int) < 4), ?_⟩
      refine ⟨_, rfl, ?_⟩
      refine di_turns ((0 - h) % 4) (by omega) (by omega) rfl fun p g5 x5 n5 e5 => ?_
      have tn := turns_ok (m := (0 - h) % 4) (by omega) (by omega)
      refine ⟨fd, p, _, _, rfl, rfl, x5 _ _ f2, e5, by rw [List.length_map, List.length_map]; have := tn.le; omega, fun p2 hp2 => ?_⟩
      rw [← List.map_append]
      refine ⟨p2, _, rfl, gup_same, q _ _ (d.last hs) (eg2.gx (x5.trans (GX.new hp2)))⟩
  · refine ⟨_, rfl, r, l, 3, rfl, r3, hl, ⟨by decide, by decide⟩, fun v l' hv0 hv1 hl' => ⟨_, rfl, _, rfl, ?_⟩⟩
    have eg4 : GR1 r g (gup g3 r (.lst l')) := eR.trans (GR1.row hl')
    have Sr : S ≠ r := fun e => by rw [e] at nS; rw [hr] at nS; cases nS
    have S4 : gup g3 r (.lst l') S = _ := (gup_ne Sr).trans e3
    have r4 : gup g3 r (.lst l') r = some (.lst l') := gup_same
    generalize gup g3 r (.lst l') = g4 at eg4 S4 r4 ⊢
    refine iteB (fun hc => ?_) (fun hc => hR _ _ ⟨S, ks, none, rfl, eg4, nS, S4, st⟩)
    refine ⟨_, rfl, r, l', 4, rfl, r4, hl', ⟨by decide, by decide⟩, fun v2 l5 hw0 hw1 hl5 => ?_⟩
    have eg5 : GR1 r g (gup g4 r (.lst l5)) := eg4.trans (GR1.row hl5)
    have S5 : gup g4 r (.lst l5) S = _ := (gup_ne Sr).trans S4
    generalize gup g4 r (.lst l5) = g5 at eg5 S5 ⊢
    dsimp only
    refine ⟨_, rfl, _, rfl, _, rfl, _, rfl, _, rfl, _, _, rfl, rfl, (by decide : (0:Int) < 4), ?_⟩
    intro q1 hq1
    refine ⟨S, q1, _, _, rfl, rfl, (gup_ne (gne S5 hq1)).trans S5, gup_same, by rw [List.length_map]; show _ + 2 ≤ _; omega, fun p hp => ?_⟩
    have x6 := (GX.new (o := .lst [.int v2, .int ((v2 + 2) % 4)]) hq1).trans (GX.new (o := .lst (ks.map D.int ++ [.int v2, .int ((v2 + 2) % 4)])) hp)
    have np : g p = none := by
      cases hgp : g p with
      | none => rfl
      | some o =>
        have hpr : p ≠ r := fun e => by
          obtain ⟨lr, hlr, _⟩ := eg5.2
          have := (GX.new (o := .lst [.int v2, .int ((v2 + 2) % 4)]) hq1) _ _ hlr
          rw [← e, hp] at this
          cases this
        have := (GX.new (o := .lst [.int v2, .int ((v2 + 2) % 4)]) hq1) _ _ (eg5.1 p o hpr hgp)
        rw [hp] at this
        cases this
    exact hR _ _ ⟨p, ks ++ [v2, (v2 + 2) % 4], _, rfl, eg5.gx x6, np, by rw [List.map_append]; exact gup_same, st.two lk hw0 hw1⟩
end
end SW
set_option Elab.async false
set_option linter.all false
set_option maxRecDepth 100000
set_option maxHeartbeats 4000000
namespace SW
open PySem PySem.Spec PyProof.Rows L2 DL
local macro_rules | `(tactic| walk_at "cond") => `(tactic| first | (show (0 : Int) < _; decide) | (show (0 : Int) < _; omega) | assumption | (refine Bd.mul ?_; assumption) | (refine Or.inl ⟨?_, ?_⟩ <;> omega) | (refine Or.inr ⟨?_, ?_⟩ <;> omega) | decide)
local macro_rules | `(tactic| walk_at "go1") => `(tactic| first
  | refine ⟨_, rfl, ?_⟩
  | refine ⟨_, _, rfl, rfl, by walk_at "cond", ?_⟩
  | refine ⟨_, _, rfl, rfl, ?_⟩
  | refine ⟨_, _, rfl, ?_⟩
  | refine ⟨rfl, ?_⟩
  | refine iteT ?_
  | refine iteF ?_
  | refine ⟨_, _, _, rfl, ?_⟩
  | refine ⟨(by decide +kernel : _ = true), ?_⟩
  | refine iteT' (decide_eq_true (by omega)) ?_
  | refine iteF' (decide_eq_false (by omega)) ?_
  | (dsimp only; refine iteT' (by simp only [decide_eq_true_eq, Bool.not_eq_true', decide_eq_false_iff_not]; omega) ?_)
  | (dsimp only; refine iteF' (by simp only [decide_eq_true_eq, Bool.not_eq_false', decide_eq_false_iff_not]; omega) ?_))
local macro_rules | `(tactic| walk_at "go") => `(tactic| repeat walk_at "go1")
structure GoodB (b : Bk) (mx my : Int) (cm : Nat) : Prop where
  n1 : 1 ≤ b.ws.length
  n2 : b.ws.length ≤ 2
  wo : ∀ w ∈ b.ws, OkW b.ws.length w
  wl : ∀ w ∈ b.ws, w.length ≤ 21
  wr : ∀ w ∈ b.ws, run p0 w = ⟨mx, my, 0, []⟩
  wc : ∀ w ∈ b.ws, cm ≤ (ltrs w).length ∧ (ltrs w).length ≤ cm + 3
  so : OkW b.ws.length b.st
  sl : b.st.length ≤ 7
  cm : (cm = 2 ∧ 2 ≤ mx * mx + my * my) ∨ (cm = 3 ∧ 5 ≤ mx * mx + my * my)
  mv : mx.natAbs ≤ 3 ∧ my.natAbs ≤ 3
def okB (n : Nat) (w : List It) : Bool := decide (1 ≤ w.length) && decide (w.length ≤ 40) && (ltrs w).all (fun i => decide (i < n)) && bal 0 w && !(ltrs w).isEmpty
theorem okW_of {n : Nat} {w : List It} (h : okB n w = true) : OkW n w := by
  unfold okB at h
  simp only [Bool.and_eq_true, decide_eq_true_eq, List.all_eq_true, Bool.not_eq_true'] at h
  obtain ⟨⟨⟨⟨h1, h2⟩, h3⟩, h4⟩, h5⟩ := h
  refine ⟨h1, h2, fun i hi => h3 i (mem_ltrs.mpr hi), h4, ?_⟩
  cases e : ltrs w with
  | nil => rw [e] at h5; cases h5
  | cons i r => exact ⟨i, mem_ltrs.mp (by rw [e]; exact List.mem_cons_self ..)⟩
theorem good_of {b : Bk} {mx my : Int} {cm : Nat} (h1 : 1 ≤ b.ws.length) (h2 : b.ws.length ≤ 2) (h3 : b.ws.all (fun w => okB b.ws.length w && decide (w.length ≤ 21) && decide (run p0 w = ⟨mx, my, 0, []⟩) && decide (cm ≤ (ltrs w).length) && decide ((ltrs w).length ≤ cm + 3)) = true)
    (h4 : okB b.ws.length b.st = true) (h5 : b.st.length ≤ 7) (h6 : (cm = 2 ∧ 2 ≤ mx * mx + my * my) ∨ (cm = 3 ∧ 5 ≤ mx * mx + my * my)) (h7 : mx.natAbs ≤ 3 ∧ my.natAbs ≤ 3) : GoodB b mx my cm := by
  have k := List.all_eq_true.mp h3
  simp only [Bool.and_eq_true, decide_eq_true_eq] at k
  exact ⟨h1, h2, fun w hw => okW_of (k w hw).1.1.1.1, fun w hw => (k w hw).1.1.1.2, fun w hw => (k w hw).1.1.2, fun w hw => ⟨(k w hw).1.2, (k w hw).2⟩, okW_of h4, h5, h6, h7⟩
def dragonW : List (List It) := [[.L 0, .tl, .L 1, .tr], [.tl, .L 0, .tr, .L 1]]
def squareW : List (List It) := [[.L 0, .tl, .L 0, .tr, .L 0, .tr, .L 0, .tl, .L 0]]
def levyW : List (List It) := [[.L 0, .tl, .L 0, .tr]]
def wideW : List (List It) := [[.L 0, .tl, .L 0, .tr, .tr, .L 0, .tl, .L 0, .L 0]]
theorem good1 : GoodB ⟨dragonW, [.L 0]⟩ 1 1 2 := good_of (by decide) (by decide) (by decide) (by decide) (by decide) (by decide) (by decide)
theorem good2 : GoodB ⟨squareW, [.L 0]⟩ 3 0 3 := good_of (by decide) (by decide) (by decide) (by decide) (by decide) (by decide) (by decide)
theorem good3 : GoodB ⟨levyW, [.L 0]⟩ 1 1 2 := good_of (by decide) (by decide) (by decide) (by decide) (by decide) (by decide) (by decide)
theorem good4 : GoodB ⟨dragonW, [.L 1, .tl, .L 0]⟩ 1 1 2 := good_of (by decide) (by decide) (by decide) (by decide) (by decide) (by decide) (by decide)
theorem good5 : GoodB ⟨squareW, [.L 0, .tr, .L 0]⟩ 3 0 3 := good_of (by decide) (by decide) (by decide) (by decide) (by decide) (by decide) (by decide)
theorem good6 : GoodB ⟨wideW, [.L 0]⟩ 3 0 3 := good_of (by decide) (by decide) (by decide) (by decide) (by decide) (by decide) (by decide)
theorem GR1.pick {r T : Addr} {g : G} {l l' : List D} {o : GO} (hr : g r = some (.lst l)) (hT : g T = none) (hl' : RowOk l') : GR1 r g (gup (gup g T o) r (.lst l')) :=
  ⟨fun x u hx h => (gup_ne hx).trans ((gup_ne (gne h hT)).trans h), l', gup_same, hl'⟩
theorem ltrs_le (w : List It) : (ltrs w).length ≤ w.length := List.length_filterMap_le ..
def MvOk (mx my : Int) (cm : Nat) : Prop := ((cm = 2 ∧ 2 ≤ mx * mx + my * my) ∨ (cm = 3 ∧ 5 ≤ mx * mx + my * my)) ∧ mx.natAbs ≤ 3 ∧ my.natAbs ≤ 3
def mvL : List D := [.tup [.int 1, .int 1], .tup [.int 1, .int 1], .tup [.int 2, .int 0], .tup [.int 2, .int 1], .tup [.int 1, .int (-1)], .tup [.int (-1), .int 1], .tup [.int 0, .int 2], .tup [.int 1, .int 2], .tup [.int 3, .int 0]]
instance {mx my : Int} {cm : Nat} : Decidable (MvOk mx my cm) := by unfold MvOk; infer_instance
def φ_even_book : DSp := fun ds g Q => ∃ r l, ds = [.adr r] ∧ g r = some (.lst l) ∧ RowOk l ∧ ∀ b mx my cm g', GoodB b mx my cm → GR1 r g g' → Q (.tup [dB b, .tup [.int mx, .int my]]) g'
theorem len__law_even_book (ds : List D) (g : G) (Q : DK) (h : φ_even_book ds g Q) : ds.length = P__law_even_book.length := by
  obtain ⟨_, _, rfl, _⟩ := h
  rfl
def φ_kit : DSp := fun ds g Q => ∃ r l, ds = [.adr r] ∧ g r = some (.lst l) ∧ RowOk l ∧ ∀ b mx my cm g', GoodB b mx my cm → GR1 r g g' → Q (dB b) g'
theorem len__law_kit (ds : List D) (g : G) (Q : DK) (h : φ_kit ds g Q) : ds.length = P__law_kit.length := by
  obtain ⟨_, _, rfl, _⟩ := h
  rfl
section
variable {P : Program} {w : World} {K : PySem.W.Frag} {mg : Str → Option Value} {base : Heap}
theorem d__law_kit (T : Txt K mg) {f : Addr} {fd : FuncData} (F : FnT K "_law_kit" "_law_kit" s__law_kit f fd) (hm : mg "_law_kit" = some (.ref f))
    (H__law_pick : CallD P w K mg base 2 "_law_pick" φ_pick) : CallD P w K mg base 3 "_law_kit" φ_kit := by
  refine callD F hm (ps := P__law_kit) (fun _ _ _ _ _ _ us hl => match us, hl with | [_], _ => rfl) (okD F sc__law_kit (by first | exact len__law_kit | exact len__law_kit _) fun cdv A outer s H E hr => ⟨_, (dss_cons (ds_set 1 (de_tup (da_cons (de_tup (da_cons de_int (da_cons de_str (da_cons de_int (da_cons de_str da_nil))))) (da_cons (de_tup (da_cons de_str (da_cons de_int (da_cons de_str (da_cons de_int da_nil))))) da_nil))) sc__law_kit.nd)
      (dss_cons (ds_set 2 (de_tup (da_cons (de_tup (da_cons de_int (da_cons de_str (da_cons de_int (da_cons de_str (da_cons de_int (da_cons de_str (da_cons de_int (da_cons de_str (da_cons de_int da_nil)))))))))) da_nil)) sc__law_kit.nd)
      (dss_cons (ds_asg (de_tup (da_cons (de_tup (da_cons (de_tup (da_cons de_int (da_cons de_str (da_cons de_int (da_cons de_str da_nil))))) da_nil)) (da_cons (de_tup (da_cons (de_tup (da_cons de_int (da_cons de_str (da_cons de_int (da_cons de_str (da_cons de_str (da_cons de_int (da_cons de_str (da_cons de_int (da_cons de_int da_nil)))))))))) da_nil)) da_nil))) (dg_tup (n := 2) (dgs_cons (dg_name 3 sc__law_kit.nd) (dgs_cons (dg_name 4 sc__law_kit.nd) dgs_nil))))
      (dss_one (ds_ret (de_call H__law_pick (hr.mono (by decide)) (da_cons (de_var 0) (da_cons (de_lst (da_cons (de_tup (da_cons (de_var 1) (da_cons (de_tup (da_cons de_int da_nil)) da_nil))) (da_cons (de_tup (da_cons (de_var 2) (da_cons (de_tup (da_cons de_int da_nil)) da_nil))) (da_cons (de_tup (da_cons (de_var 3) (da_cons (de_tup (da_cons de_int da_nil)) da_nil))) (da_cons (de_tup (da_cons (de_var 1) (da_cons (de_tup (da_cons de_int (da_cons de_str (da_cons de_int da_nil)))) da_nil))) (da_cons (de_tup (da_cons (de_var 2) (da_cons (de_tup (da_cons de_int (da_cons de_str (da_cons de_int da_nil)))) da_nil))) (da_cons (de_tup (da_cons (de_var 4) (da_cons (de_tup (da_cons de_int da_nil)) da_nil))) da_nil))))))) da_nil)))))))), ?_⟩)
  rintro ds g Q ⟨r, l, rfl, hr, hl, q⟩
  refine ⟨_, rfl, rfl, _, _, rfl, _, _, rfl, rfl, ?_⟩
  refine ⟨_, rfl, _, rfl, _, rfl, _, rfl, _, rfl, _, rfl, _, rfl, ?_⟩
  intro T hT
  refine ⟨r, l, T, _, rfl, (gup_ne (gne hr hT)).trans hr, hl, gup_same, ⟨by decide, by decide, gne' hr hT⟩, fun x l' hx hl' => ?_⟩
  rcases List.mem_cons.mp hx with rfl | hx
  · exact q _ _ _ _ _ good1 (GR1.pick hr hT hl')
  rcases List.mem_cons.mp hx with rfl | hx
  · exact q _ _ _ _ _ good2 (GR1.pick hr hT hl')
  rcases List.mem_cons.mp hx with rfl | hx
  · exact q _ _ _ _ _ good3 (GR1.pick hr hT hl')
  rcases List.mem_cons.mp hx with rfl | hx
  · exact q _ _ _ _ _ good4 (GR1.pick hr hT hl')
  rcases List.mem_cons.mp hx with rfl | hx
  · exact q _ _ _ _ _ good5 (GR1.pick hr hT hl')
  rcases List.mem_cons.mp hx with rfl | hx
  · exact q _ _ _ _ _ good6 (GR1.pick hr hT hl')
  cases hx
theorem d__law_even_book (T : Txt K mg) {f : Addr} {fd : FuncData} (F : FnT K "_law_even_book" "_law_even_book" s__law_even_book f fd) (hm : mg "_law_even_book" = some (.ref f))
    (H__law_branched : CallD P w K mg base 3 "_law_branched" φ_branched)
    (H__law_even_word : CallD P w K mg base 2 "_law_even_word" φ_even_word)
    (H__law_pick : CallD P w K mg base 2 "_law_pick" φ_pick)
    (H__law_taken : CallD P w K mg base 1 "_law_taken" φ_taken) : CallD P w K mg base 4 "_law_even_book" φ_even_book := by
  refine callD F hm (ps := P__law_even_book) (fun _ _ _ _ _ _ us hl => match us, hl with | [_], _ => rfl) (okD F sc__law_even_book (by first | exact len__law_even_book | exact len__law_even_book _) fun cdv A outer s H E hr => ⟨_, (dss_cons (ds_asg (de_tup (da_cons (de_op op_add simR_I0 de_int (de_call H__law_taken (hr.mono (by decide)) (da_cons (de_var 0) (da_cons de_int da_nil)))) (da_cons (de_call H__law_pick (hr.mono (by decide)) (da_cons (de_var 0) (da_cons (de_lst (da_cons (de_tup (da_cons de_int (da_cons de_int da_nil))) (da_cons (de_tup (da_cons de_int (da_cons de_int da_nil))) (da_cons (de_tup (da_cons de_int (da_cons de_int da_nil))) (da_cons (de_tup (da_cons de_int (da_cons de_int da_nil))) (da_cons (de_tup (da_cons de_int (da_cons (de_un un_neg simU_neg de_int) da_nil))) (da_cons (de_tup (da_cons (de_un un_neg simU_neg de_int) (da_cons de_int da_nil))) (da_cons (de_tup (da_cons de_int (da_cons de_int da_nil))) (da_cons (de_tup (da_cons de_int (da_cons de_int da_nil))) (da_cons (de_tup (da_cons de_int (da_cons de_int da_nil))) da_nil)))))))))) da_nil))) da_nil))) (dg_tup (n := 2) (dgs_cons (dg_name 1 sc__law_even_book.nd) (dgs_cons (dg_name 2 sc__law_even_book.nd) dgs_nil))))
      (dss_cons (ds_set 3 (de_callTy call_tuple_of simC_tupOf T.n_tuple (by decide +kernel) (da_cons (de_lc (own := [("_law_k", 4)]) (di_range (de_var 1) T.n_range) sc__law_even_book.nd (blkOk_by (N := N__law_even_book) (sc := defScope s__law_even_book) (by decide +kernel)) (fun _ _ _ _ _ => (dgo_name 4 sc__law_even_book.nd)) (fun _ _ _ _ _ => dts_nil) (fun _ _ _ _ _ => (de_call H__law_branched (hr.mono (by decide)) (da_cons (de_var 0) (da_cons (de_call H__law_even_word (hr.mono (by decide)) (da_cons (de_var 0) (da_cons (de_var 1) (da_cons (de_var 2) da_nil)))) (da_cons (de_var 1) da_nil)))))) da_nil)) sc__law_even_book.nd)
      (dss_cons (ds_set 5 (de_call H__law_pick (hr.mono (by decide)) (da_cons (de_var 0) (da_cons (de_lst (da_cons (de_tup (da_cons de_int da_nil)) (da_cons (de_tup (da_cons de_int da_nil)) (da_cons (de_tup (da_cons de_int (da_cons de_str (da_cons de_int da_nil)))) (da_cons (de_tup (da_cons de_int (da_cons de_str (da_cons de_int (da_cons de_str (da_cons de_int (da_cons de_str (da_cons de_int da_nil)))))))) (da_cons (de_tup (da_cons (de_op op_sub simR_I0 (de_var 1) de_int) (da_cons de_int da_nil))) da_nil)))))) da_nil))) sc__law_even_book.nd)
      (dss_one (ds_ret (de_tup (da_cons (de_tup (da_cons (de_var 3) (da_cons (de_var 5) da_nil))) (da_cons (de_var 2) da_nil)))))))), ?_⟩)
  rintro ds g Q ⟨r, l, rfl, hr, hl, q⟩
  refine ⟨_, rfl, r, l, 2, rfl, hr, hl, ⟨by decide, by decide⟩, fun v l1 hv0 hv1 hl1 => ?_⟩
  obtain ⟨v, rfl⟩ := Int.eq_ofNat_of_zero_le hv0
  refine ⟨.int ((v + 1 : Nat) : Int), by show some (D.int (1 + (v : Int))) = _; rw [show (1 : Int) + (v : Int) = ((v + 1 : Nat) : Int) by omega], ?_⟩
  have hn : 1 ≤ v + 1 ∧ v + 1 ≤ 2 := by omega
  generalize v + 1 = n at hn ⊢
  have e1 : GR1 r g (gup g r (.lst l1)) := GR1.row hl1
  have r1 : gup g r (.lst l1) r = some (.lst l1) := gup_same
  generalize gup g r (.lst l1) = g1 at e1 r1 ⊢
  refine ⟨_, rfl, .int (-1), rfl, .int (-1), rfl, ?_⟩
  intro T hT
  refine ⟨r, l1, T, _, rfl, (gup_ne (gne r1 hT)).trans r1, hl1, gup_same, ⟨by decide, by decide, gne' r1 hT⟩, fun x l2 hx hl2 => ?_⟩
  have hm : ∃ mx my cm, x = .tup [.int mx, .int my] ∧ mx.natAbs + my.natAbs = cm ∧ MvOk mx my cm := by
    rcases List.mem_cons.mp hx with rfl | hx
    · exact ⟨_, _, _, rfl, rfl, by decide⟩
    rcases List.mem_cons.mp hx with rfl | hx
    · exact ⟨_, _, _, rfl, rfl, by decide⟩
    rcases List.mem_cons.mp hx with rfl | hx
    · exact ⟨_, _, _, rfl, rfl, by decide⟩
    rcases List.mem_cons.mp hx with rfl | hx
    · exact ⟨_, _, _, rfl, rfl, by decide⟩
    rcases List.mem_cons.mp hx with rfl | hx
    · exact ⟨_, _, _, rfl, rfl, by decide⟩
    rcases List.mem_cons.mp hx with rfl | hx
    · exact ⟨_, _, _, rfl, rfl, by decide⟩
    rcases List.mem_cons.mp hx with rfl | hx
    · exact ⟨_, _, _, rfl, rfl, by decide⟩
    rcases List.mem_cons.mp hx with rfl | hx
    · exact ⟨_, _, _, rfl, rfl, by decide⟩
    rcases List.mem_cons.mp hx with rfl | hx
    · exact ⟨_, _, _, rfl, rfl, by decide⟩
    cases hx
  obtain ⟨mx, my, cm, rfl, hcm, mv⟩ := hm
  have e2 : GR1 r g (gup (gup g1 T (.lst mvL)) r (.lst l2)) := e1.trans (GR1.pick r1 hT hl2)
  have r2 : gup (gup g1 T (.lst mvL)) r (.lst l2) r = some (.lst l2) := gup_same
  unfold mvL at e2 r2
  generalize gup (gup g1 T _) r (.lst l2) = g2 at e2 r2 ⊢
  refine ⟨_, rfl, rfl, _, _, rfl, _, _, rfl, rfl, ?_⟩
  refine ⟨_, rfl, _, rfl, ⟨by omega, by omega⟩, ?_⟩
  intro a ha
  have sz : sizeLine = 16777216 := sizeLine_eq
  have har : a ≠ r := gne' r2 ha
  have na : g a = none := by
    cases hga : g a with
    | none => rfl
    | some o => rw [e2.1 a o har hga] at ha; cases ha
  have ln : (rng 0 (n : Int).toNat).length = n := by unfold rng; rw [List.length_map, List.length_range]; omega
  refine ⟨by omega, fun i acc g' => GR1 r g g' ∧ g' a = some (.lst acc) ∧ ∃ ws : List (List It), acc = ws.map dW ∧ ws.length = i ∧ ∀ w ∈ ws, EW n mx my (mx.natAbs + my.natAbs) (mx.natAbs + my.natAbs + 2 + 1) 21 w, ⟨e2.gx (GX.new ha), gup_same, [], rfl, rfl, fun w h => nomatch h⟩, fun i acc g' hi h => ⟨trivial, h.2.1⟩, ?_, ?_⟩
  · rintro i x acc g' hx ⟨eg, ea, ws, rfl, lw, hw⟩
    obtain ⟨l3, r3, hl3⟩ := eg.2
    obtain ⟨hi, rfl⟩ := rng_get.mp hx
    have s3 : mx.natAbs + my.natAbs ≤ 3 := by
      rw [hcm]
      rcases mv.1 with h | h <;> omega
    simp only [dYes, if_true]
    refine ⟨_, rfl, _, rfl, _, rfl, _, rfl, r, l3, n, mx, my, rfl, r3, hl3, ⟨by omega, by omega⟩, s3, fun w1 g4 E4 e4 => ?_⟩
    obtain ⟨l4, r4, hl4⟩ := e4.2
    refine ⟨_, rfl, r, l4, w1, n, mx, my, _, _, rfl, r4, hl4, ⟨by omega, by omega⟩, E4, fun w2 g5 E5 e5 => ?_⟩
    have a5 := e5.1 _ _ har (e4.1 _ _ har ea)
    refine ⟨a5, ?_, gup_same, ws ++ [w2], by rw [List.map_append]; rfl, by rw [List.length_append, lw]; rfl, fun w hw' => ?_⟩
    · exact (GR1.trans (GR1.trans eg e4) e5).mut na har
    · rcases List.mem_append.mp hw' with h | h
      · exact hw w h
      · rw [List.mem_singleton.mp h]; exact E5
  · rintro acc g3 ⟨e3, a3, ws, rfl, lw, hw⟩
    rw [ln] at lw
    obtain ⟨l3, r3, hl3⟩ := e3.2
    refine ⟨a, _, rfl, a3, ?_⟩
    refine ⟨_, rfl, _, rfl, .int ((n - 1 : Nat) : Int), by show some (D.int ((n : Int) - 1)) = _; rw [show (n : Int) - 1 = ((n - 1 : Nat) : Int) by omega], ?_⟩
    intro T hT
    refine ⟨r, l3, T, _, rfl, (gup_ne (gne r3 hT)).trans r3, hl3, gup_same, ⟨by show 1 ≤ 5; decide, by show 5 ≤ 1000; decide, gne' r3 hT⟩, fun x l4 hx hl4 => ?_⟩
    have hst : ∃ st : List It, x = dW st ∧ okB n st = true ∧ st.length ≤ 7 := by
      rcases (show n = 1 ∨ n = 2 by omega) with rfl | rfl
      · rcases List.mem_cons.mp hx with rfl | hx
        · exact ⟨[.L 0], rfl, by decide, by decide⟩
        rcases List.mem_cons.mp hx with rfl | hx
        · exact ⟨[.L 0], rfl, by decide, by decide⟩
        rcases List.mem_cons.mp hx with rfl | hx
        · exact ⟨[.L 0, .tl, .L 0], rfl, by decide, by decide⟩
        rcases List.mem_cons.mp hx with rfl | hx
        · exact ⟨[.L 0, .tl, .L 0, .tl, .L 0, .tl, .L 0], rfl, by decide, by decide⟩
        rcases List.mem_cons.mp hx with rfl | hx
        · exact ⟨[.L 0, .L 0], rfl, by decide, by decide⟩
        cases hx
      · rcases List.mem_cons.mp hx with rfl | hx
        · exact ⟨[.L 0], rfl, by decide, by decide⟩
        rcases List.mem_cons.mp hx with rfl | hx
        · exact ⟨[.L 0], rfl, by decide, by decide⟩
        rcases List.mem_cons.mp hx with rfl | hx
        · exact ⟨[.L 0, .tl, .L 0], rfl, by decide, by decide⟩
        rcases List.mem_cons.mp hx with rfl | hx
        · exact ⟨[.L 0, .tl, .L 0, .tl, .L 0, .tl, .L 0], rfl, by decide, by decide⟩
        rcases List.mem_cons.mp hx with rfl | hx
        · exact ⟨[.L 1, .L 0], rfl, by decide, by decide⟩
        cases hx
    obtain ⟨st, rfl, s1, s2⟩ := hst
    refine ⟨_, rfl, _, rfl, _, rfl, q ⟨ws, st⟩ mx my cm _ ⟨?_, ?_, ?_, ?_, ?_, ?_, ?_, s2, mv.1, mv.2⟩ (e3.trans (GR1.pick r3 hT hl4))⟩
    · show 1 ≤ ws.length; omega
    · show ws.length ≤ 2; omega
    · intro w hw'
      have E := hw w hw'
      have l2 : 2 ≤ (ltrs w).length := by
        have := E.lo
        rcases mv.1 with h | h <;> omega
      have lw2 := ltrs_le w
      have le := E.le
      refine ⟨by omega, by omega, fun i h => by show i < ws.length; rw [lw]; exact E.lt i h, E.bl, ?_⟩
      cases e : ltrs w with
      | nil => rw [e] at l2; cases l2
      | cons i r => exact ⟨i, mem_ltrs.mp (by rw [e]; exact List.mem_cons_self ..)⟩
    · exact fun w h => (hw w h).le
    · exact fun w h => (hw w h).rn
    · intro w h
      have := (hw w h).lo
      have := (hw w h).hi
      constructor <;> omega
    · show OkW ws.length st
      rw [lw]
      exact okW_of s1
end
end SW
set_option Elab.async false
set_option linter.all false
set_option maxRecDepth 100000
set_option maxHeartbeats 4000000
namespace SW
open PySem PySem.Spec PyProof.Rows L2 DL
local macro_rules | `(tactic| walk_at "cond") => `(tactic| first | (show (0 : Int) < _; decide) | (show (0 : Int) < _; omega) | assumption | (refine Bd.mul ?_; assumption) | (refine Or.inl ⟨?_, ?_⟩ <;> omega) | (refine Or.inr ⟨?_, ?_⟩ <;> omega) | decide)
local macro_rules | `(tactic| walk_at "go1") => `(tactic| first
  | refine ⟨_, rfl, ?_⟩
  | refine ⟨_, _, rfl, rfl, by walk_at "cond", ?_⟩
  | refine ⟨_, _, rfl, rfl, ?_⟩
  | refine ⟨_, _, rfl, ?_⟩
  | refine ⟨rfl, ?_⟩
  | refine iteT ?_
  | refine iteF ?_
  | refine ⟨_, _, _, rfl, ?_⟩
  | refine ⟨(by decide +kernel : _ = true), ?_⟩
  | refine iteT' (decide_eq_true (by omega)) ?_
  | refine iteF' (decide_eq_false (by omega)) ?_
  | (dsimp only; refine iteT' (by simp only [decide_eq_true_eq, Bool.not_eq_true', decide_eq_false_iff_not]; omega) ?_)
  | (dsimp only; refine iteF' (by simp only [decide_eq_true_eq, Bool.not_eq_false', decide_eq_false_iff_not]; omega) ?_))
local macro_rules | `(tactic| walk_at "go") => `(tactic| repeat walk_at "go1")
def φ_some_even : DSp := fun ds g Q => ∃ r l, ds = [.adr r] ∧ g r = some (.lst l) ∧ RowOk l ∧ ∀ b mx my cm g', GoodB b mx my cm → GR1 r g g' → Q (.tup [dB b, .tup [.int mx, .int my]]) g'
theorem len__law_some_even (ds : List D) (g : G) (Q : DK) (h : φ_some_even ds g Q) : ds.length = P__law_some_even.length := by
  obtain ⟨_, _, rfl, _⟩ := h
  rfl
section
variable {P : Program} {w : World} {K : PySem.W.Frag} {mg : Str → Option Value} {base : Heap}
theorem d__law_some_even (T : Txt K mg) {f : Addr} {fd : FuncData} (F : FnT K "_law_some_even" "_law_some_even" s__law_some_even f fd) (hm : mg "_law_some_even" = some (.ref f))
    (H__law_drawn : CallD P w K mg base 2 "_law_drawn" φ_drawn)
    (H__law_even_book : CallD P w K mg base 4 "_law_even_book" φ_even_book)
    (H__law_kit : CallD P w K mg base 3 "_law_kit" φ_kit)
    (H__law_pick : CallD P w K mg base 2 "_law_pick" φ_pick) : CallD P w K mg base 5 "_law_some_even" φ_some_even := by
  refine callD F hm (ps := P__law_some_even) (fun _ _ _ _ _ _ us hl => match us, hl with | [_], _ => rfl) (okD F sc__law_some_even (by first | exact len__law_some_even | exact len__law_some_even _) fun cdv A outer s H E hr => ⟨_, (dss_cons (ds_set 1 (de_call H__law_pick (hr.mono (by decide)) (da_cons (de_var 0) (da_cons (de_lst (da_cons (de_call H__law_kit (hr.mono (by decide)) (da_cons (de_var 0) da_nil)) (da_cons (de_ix (de_call H__law_even_book (hr.mono (by decide)) (da_cons (de_var 0) da_nil)) de_int) da_nil))) da_nil))) sc__law_some_even.nd)
      (dss_one (ds_ret (de_tup (da_cons (de_var 1) (da_cons (de_slT (de_ix (de_call H__law_drawn (hr.mono (by decide)) (da_cons (de_ix (de_ix (de_var 1) de_int) de_int) da_nil)) de_int) do_none (do_some de_int)) da_nil)))))), ?_⟩)
  rintro ds g Q ⟨r, l, rfl, hr, hl, q⟩
  refine ⟨_, rfl, _, rfl, r, l, rfl, hr, hl, fun b1 mx1 my1 cm1 g1 G1 e1 => ?_⟩
  obtain ⟨l1, r1, hl1⟩ := e1.2
  refine ⟨_, rfl, r, l1, rfl, r1, hl1, fun b2 mx2 my2 cm2 g2 G2 e2 => ?_⟩
  obtain ⟨l2, r2, hl2⟩ := e2.2
  refine ⟨_, rfl, ?_⟩
  intro T hT
  refine ⟨r, l2, T, _, rfl, (gup_ne (gne r2 hT)).trans r2, hl2, gup_same, ⟨by show 1 ≤ 2; decide, by show 2 ≤ 1000; decide, gne' r2 hT⟩, fun x l3 hx hl3 => ?_⟩
  have hb : ∃ b mx my cm, x = dB b ∧ GoodB b mx my cm := by
    rcases List.mem_cons.mp hx with rfl | hx
    · exact ⟨b1, _, _, _, rfl, G1⟩
    rcases List.mem_cons.mp hx with rfl | hx
    · exact ⟨b2, _, _, _, rfl, G2⟩
    cases hx
  obtain ⟨b, mx, my, cm, rfl, G0⟩ := hb
  have e3 : GR1 r g (gup (gup g2 T (.lst [dB b1, dB b2])) r (.lst l3)) := (e1.trans e2).trans (GR1.pick r2 hT hl3)
  generalize gup (gup g2 T (.lst [dB b1, dB b2])) r (.lst l3) = g3 at e3 ⊢
  obtain ⟨w0, ws0, hw0⟩ : ∃ w0 ws0, b.ws = w0 :: ws0 := by
    have := G0.n1
    cases h : b.ws with
    | nil => rw [h] at this; cases this
    | cons a c => exact ⟨a, c, rfl⟩
  have hm : w0 ∈ b.ws := by rw [hw0]; exact List.mem_cons_self ..
  refine ⟨_, rfl, _, rfl, _, rfl, dW w0, by rw [hw0]; show atI ((w0 :: ws0).map dW) ((0 : Nat) : Int) = _; rw [atI_nat]; rfl, ?_⟩
  have h34 := G0.wl w0 hm
  refine ⟨_, w0, rfl, .inl rfl, (G0.wo w0 hm).bal, by omega, fun p g4 x4 n4 e4 => ?_⟩
  rw [G0.wr w0 hm]
  refine ⟨_, rfl, _, rfl, _, rfl, ?_⟩
  exact q b mx my cm g4 G0 (e3.gx x4)
end
end SW
set_option Elab.async false
set_option linter.all false
set_option maxHeartbeats 4000000
namespace SW
/-! the plain law, part 1: how a drawing grows -/
/-- a pen laid at a place with a heading -/
def layP (a c k : Int) (p : Pn) : Pn := ⟨a + rx p.x p.y k, c + ry p.x p.y k, (p.h + k) % 4, p.st.map fun q => (a + rx q.1 q.2.1 k, c + ry q.1 q.2.1 k, (q.2.2 + k) % 4)⟩
theorem rx_add (x y z w k : Int) : rx (x + z) (y + w) k = rx x y k + rx z w k := by
  unfold rx
  split
  · rfl
  split
  · omega
  split
  · omega
  · rfl
theorem ry_add (x y z w k : Int) : ry (x + z) (y + w) k = ry x y k + ry z w k := by
  unfold ry
  split
  · rfl
  split
  · rfl
  split
  · omega
  · omega
theorem rx_rx (x y h k : Int) : rx (rx x y h) (ry x y h) k = rx x y ((h + k) % 4) ∧ ry (rx x y h) (ry x y h) k = ry x y ((h + k) % 4) := by
  unfold rx ry
  rcases h_mod h with a | a | a | a <;> rcases h_mod k with c | c | c | c <;> (have e : (h + k) % 4 % 4 = (h % 4 + k % 4) % 4 := by omega) <;> rw [a, c] at e <;> simp [a, c, e]
theorem layP_go (a c k : Int) (p : Pn) : (layP a c k p).go = layP a c k p.go := by
  unfold layP Pn.go
  simp only [Pn.mk.injEq, and_true]
  refine ⟨?_, ?_⟩
  · rw [rx_add, (rx_rx 1 0 p.h k).1]; omega
  · rw [ry_add, (rx_rx 1 0 p.h k).2]; omega
theorem layP_mark (a c k : Int) (p : Pn) (s : It) : (layP a c k p).mark s = layP a c k (p.mark s) := by
  cases s with
  | L i => rfl
  | tl => simp only [layP, Pn.mark, Pn.mk.injEq, true_and, and_true]; omega
  | tr => simp only [layP, Pn.mark, Pn.mk.injEq, true_and, and_true]; omega
  | op => rfl
  | cl =>
    rcases p with ⟨x, y, h, st⟩
    cases st with
    | nil => rfl
    | cons q r => rfl
theorem strokes_lay (a c k : Int) : ∀ (w : List It) (p : Pn), strokesFrom (layP a c k p) w = (strokesFrom p w).map (laidS a c k)
  | [], p => rfl
  | .L i :: w, p => by
    show _ :: strokesFrom (layP a c k p).go w = _ :: (strokesFrom p.go w).map _
    rw [layP_go, strokes_lay a c k w]
    rfl
  | .tl :: w, p => by show strokesFrom ((layP a c k p).mark .tl) w = (strokesFrom (p.mark .tl) w).map _; rw [layP_mark, strokes_lay a c k w]
  | .tr :: w, p => by show strokesFrom ((layP a c k p).mark .tr) w = (strokesFrom (p.mark .tr) w).map _; rw [layP_mark, strokes_lay a c k w]
  | .op :: w, p => by show strokesFrom ((layP a c k p).mark .op) w = (strokesFrom (p.mark .op) w).map _; rw [layP_mark, strokes_lay a c k w]
  | .cl :: w, p => by show strokesFrom ((layP a c k p).mark .cl) w = (strokesFrom (p.mark .cl) w).map _; rw [layP_mark, strokes_lay a c k w]
end SW
set_option Elab.async false
set_option linter.all false
set_option maxHeartbeats 4000000
namespace SW
/-! the plain law, part 2: growth -/
def onSt (r : List (Int × Int × Int)) (p : Pn) : Pn := ⟨p.x, p.y, p.h, p.st ++ r⟩
theorem frame (r : List (Int × Int × Int)) : ∀ (w : List It) (p : Pn), bal p.st.length w = true → run (onSt r p) w = onSt r (run p w) ∧ strokesFrom (onSt r p) w = strokesFrom p w
  | [], p, h => ⟨rfl, rfl⟩
  | .L i :: w, p, h => by
    have k := frame r w p.go h
    exact ⟨k.1, congrArg (_ :: ·) k.2⟩
  | .tl :: w, p, h => frame r w (p.mark .tl) h
  | .tr :: w, p, h => frame r w (p.mark .tr) h
  | .op :: w, p, h => frame r w (p.mark .op) h
  | .cl :: w, ⟨x, y, hd, st⟩, h => by
    cases st with
    | nil => cases h
    | cons q st => exact frame r w ⟨q.1, q.2.1, q.2.2, st⟩ h
theorem run_lay (a c k : Int) : ∀ (w : List It) (p : Pn), run (layP a c k p) w = layP a c k (run p w)
  | [], p => rfl
  | .L i :: w, p => by show run (layP a c k p).go w = layP a c k (run p.go w); rw [layP_go, run_lay a c k w]
  | .tl :: w, p => by show run ((layP a c k p).mark .tl) w = layP a c k (run (p.mark .tl) w); rw [layP_mark, run_lay a c k w]
  | .tr :: w, p => by show run ((layP a c k p).mark .tr) w = layP a c k (run (p.mark .tr) w); rw [layP_mark, run_lay a c k w]
  | .op :: w, p => by show run ((layP a c k p).mark .op) w = layP a c k (run (p.mark .op) w); rw [layP_mark, run_lay a c k w]
  | .cl :: w, p => by show run ((layP a c k p).mark .cl) w = layP a c k (run (p.mark .cl) w); rw [layP_mark, run_lay a c k w]
theorem strokesFrom_app : ∀ (w u : List It) (p : Pn), strokesFrom p (w ++ u) = strokesFrom p w ++ strokesFrom (run p w) u
  | [], u, p => rfl
  | .L i :: w, u, p => congrArg (_ :: ·) (strokesFrom_app w u p.go)
  | .tl :: w, u, p => strokesFrom_app w u (p.mark .tl)
  | .tr :: w, u, p => strokesFrom_app w u (p.mark .tr)
  | .op :: w, u, p => strokesFrom_app w u (p.mark .op)
  | .cl :: w, u, p => strokesFrom_app w u (p.mark .cl)
/-- the pen of a book grown by a move -/
def gp (mx my : Int) (p : Pn) : Pn := ⟨mx * p.x - my * p.y, mx * p.y + my * p.x, p.h, p.st.map fun q => (mx * q.1 - my * q.2.1, mx * q.2.1 + my * q.1, q.2.2)⟩
theorem gp_mark (mx my : Int) (p : Pn) (s : It) : (gp mx my p).mark s = gp mx my (p.mark s) := by
  cases s with
  | L i => rfl
  | tl => rfl
  | tr => rfl
  | op => rfl
  | cl =>
    rcases p with ⟨x, y, h, st⟩
    cases st with
    | nil => rfl
    | cons q r => rfl
/-- a word that makes the move -/
structure Mover (mx my : Int) (w : List It) : Prop where
  bl : bal 0 w = true
  rn : run p0 w = ⟨mx, my, 0, []⟩
theorem mover_at {mx my : Int} {w : List It} (m : Mover mx my w) (x y h : Int) (st : List (Int × Int × Int)) (hh : Hd h) :
    run ⟨x, y, h, st⟩ w = ⟨x + rx mx my h, y + ry mx my h, h, st⟩ ∧ strokesFrom ⟨x, y, h, st⟩ w = (strokes w).map (laidS x y h) := by
  have e : layP x y h p0 = ⟨x, y, h, []⟩ := by
    have : (0 + h) % 4 = h := by have := hh.1; have := hh.2; omega
    simp only [layP, p0, this, List.map_nil, Pn.mk.injEq, and_true]
    unfold rx ry
    constructor <;> (repeat' split) <;> omega
  have f := frame st w ⟨x, y, h, []⟩ m.bl
  have r := run_lay x y h w p0
  have s := strokes_lay x y h w p0
  rw [e] at r s
  rw [r, m.rn] at f
  rw [s] at f
  have e2 : (0 + h) % 4 = h := by have := hh.1; have := hh.2; omega
  refine ⟨f.1.trans ?_, f.2⟩
  simp only [onSt, layP, e2, List.map_nil, List.nil_append]
theorem mul_unit (mx my h : Int) (hh : Hd h) : rx mx my h = mx * rx 1 0 h - my * ry 1 0 h ∧ ry mx my h = mx * ry 1 0 h + my * rx 1 0 h := by
  rcases d4 hh.1 hh.2 with rfl | rfl | rfl | rfl <;> simp [rx, ry]
theorem strokes_grow {ws : List (List It)} {mx my : Int} (hm : ∀ (l : Nat) (w : List It), ws[l]? = some w → Mover mx my w) : ∀ (w : List It) (p : Pn), PnOk p → (∀ i, It.L i ∈ w → i < ws.length) →
    strokesFrom (gp mx my p) (growW ws w) = (strokesFrom p w).flatMap fun s => laidW ws mx my s.l s.x s.y s.h
  | [], p, _, _ => rfl
  | .L i :: w, p, hp, hi => by
    have hlt := hi i (List.mem_cons_self ..)
    have hw : ws.getD i [] = ws[i] := by rw [List.getD_eq_getElem?_getD, List.getElem?_eq_getElem hlt]; rfl
    have m := hm i ws[i] (List.getElem?_eq_getElem hlt)
    show strokesFrom (gp mx my p) (ws.getD i [] ++ growW ws w) = laidW ws mx my i p.x p.y p.h ++ (strokesFrom p.go w).flatMap _
    have ma := mover_at m (mx * p.x - my * p.y) (mx * p.y + my * p.x) p.h (gp mx my p).st hp.h
    rw [strokesFrom_app, ← strokes_grow hm w p.go hp.go fun j hj => hi j (List.mem_cons_of_mem _ hj)]
    unfold laidW
    rw [hw]
    refine congr (congrArg _ ma.2) (congrArg (strokesFrom · _) (ma.1.trans ?_))
    unfold gp Pn.go
    simp only [Pn.mk.injEq, and_true]
    have e := mul_unit mx my p.h hp.h
    constructor
    · rw [e.1]; grind
    · rw [e.2]; grind
  | .tl :: w, p, hp, hi => by
    show strokesFrom ((gp mx my p).mark .tl) (growW ws w) = (strokesFrom (p.mark .tl) w).flatMap _
    rw [gp_mark, strokes_grow hm w _ (hp.mark .tl) fun j hj => hi j (List.mem_cons_of_mem _ hj)]
  | .tr :: w, p, hp, hi => by
    show strokesFrom ((gp mx my p).mark .tr) (growW ws w) = (strokesFrom (p.mark .tr) w).flatMap _
    rw [gp_mark, strokes_grow hm w _ (hp.mark .tr) fun j hj => hi j (List.mem_cons_of_mem _ hj)]
  | .op :: w, p, hp, hi => by
    show strokesFrom ((gp mx my p).mark .op) (growW ws w) = (strokesFrom (p.mark .op) w).flatMap _
    rw [gp_mark, strokes_grow hm w _ (hp.mark .op) fun j hj => hi j (List.mem_cons_of_mem _ hj)]
  | .cl :: w, p, hp, hi => by
    show strokesFrom ((gp mx my p).mark .cl) (growW ws w) = (strokesFrom (p.mark .cl) w).flatMap _
    rw [gp_mark, strokes_grow hm w _ (hp.mark .cl) fun j hj => hi j (List.mem_cons_of_mem _ hj)]
end SW
set_option Elab.async false
set_option linter.all false
set_option maxHeartbeats 4000000
namespace SW
/-! the plain law, part 3: laid drawings -/
theorem laidS_comp (a c k x y h : Int) (s : Stk) : laidS a c k (laidS x y h s) = laidS (a + rx x y k) (c + ry x y k) ((h + k) % 4) s := by
  unfold laidS
  simp only [Stk.mk.injEq, and_true]
  refine ⟨?_, ?_, by omega⟩
  · rw [rx_add, (rx_rx s.x s.y h k).1]; omega
  · rw [ry_add, (rx_rx s.x s.y h k).2]; omega
theorem rx_mul (mx my x y k : Int) : rx (mx * x - my * y) (mx * y + my * x) k = mx * rx x y k - my * ry x y k ∧ ry (mx * x - my * y) (mx * y + my * x) k = mx * ry x y k + my * rx x y k := by
  unfold rx ry
  constructor <;> (repeat' split) <;> grind
/-- one stroke's children -/
def kidS (ws : List (List It)) (mx my : Int) (s : Stk) : List Stk := laidW ws mx my s.l s.x s.y s.h
theorem kid_laid (ws : List (List It)) (mx my a c k : Int) (s : Stk) :
    (kidS ws mx my s).map (laidS (mx * a - my * c) (mx * c + my * a) k) = kidS ws mx my (laidS a c k s) := by
  unfold kidS laidW
  rw [List.map_map]
  refine List.map_congr_left fun u _ => ?_
  show laidS _ _ k (laidS _ _ _ u) = _
  rw [laidS_comp, (rx_mul mx my s.x s.y k).1, (rx_mul mx my s.x s.y k).2]
  have e1 : mx * a - my * c + (mx * rx s.x s.y k - my * ry s.x s.y k) = mx * (a + rx s.x s.y k) - my * (c + ry s.x s.y k) := by grind
  have e2 : mx * c + my * a + (mx * ry s.x s.y k + my * rx s.x s.y k) = mx * (c + ry s.x s.y k) + my * (a + rx s.x s.y k) := by grind
  rw [e1, e2]
  rfl
/-- a drawing at an age, laid -/
def drw (ws : List (List It)) (v : List It) (px py k : Int) (mx my : Int) (n : Nat) : List Stk := (strokes (growN ws n v)).map (laidS (mulN mx my n (px, py)).1 (mulN mx my n (px, py)).2 k)
theorem drw_succ {ws : List (List It)} {mx my : Int} (hm : ∀ (l : Nat) (w : List It), ws[l]? = some w → Mover mx my w) (v : List It) (px py k : Int) (n : Nat) (hi : ∀ i, It.L i ∈ growN ws n v → i < ws.length) :
    drw ws v px py k mx my (n + 1) = (drw ws v px py k mx my n).flatMap (kidS ws mx my) := by
  unfold drw
  have g := strokes_grow hm (growN ws n v) p0 ⟨⟨by decide, by decide⟩, fun _ h => nomatch h⟩ hi
  have g0 : gp mx my p0 = p0 := by simp [gp, p0]
  rw [g0] at g
  show (strokesFrom p0 (growW ws (growN ws n v))).map _ = _
  rw [g, List.map_flatMap, List.flatMap_map]
  have e : ∀ f g' : Stk → List Stk, (∀ s, f s = g' s) → (strokesFrom p0 (growN ws n v)).flatMap f = (strokesFrom p0 (growN ws n v)).flatMap g' := fun f g' h => by rw [funext h]
  refine e _ _ fun s => ?_
  rw [← kid_laid]
  have m : mulN mx my (n + 1) (px, py) = (mx * (mulN mx my n (px, py)).1 - my * (mulN mx my n (px, py)).2, mx * (mulN mx my n (px, py)).2 + my * (mulN mx my n (px, py)).1) := by
    show (_, _) = _
    simp only [Prod.mk.injEq]
    constructor <;> grind
  rw [m]
  rfl
end SW
set_option Elab.async false
set_option linter.all false
set_option maxHeartbeats 4000000
namespace SW
/-! the plain law, part 4: pairs -/
/-- a stroke with a heading from 0 to 3, from another -/
theorem rx_sub (x y z w k : Int) : rx (x - z) (y - w) k = rx x y k - rx z w k ∧ ry (x - z) (y - w) k = ry x y k - ry z w k := by
  have a := rx_add (x - z) (y - w) z w k
  have b := ry_add (x - z) (y - w) z w k
  rw [show x - z + z = x by omega, show y - w + w = y by omega] at a b
  omega
/-- pairs are the same when both are laid alike -/
theorem pairOf_laid (a c k : Int) (o s : Stk) : pairOf (laidS a c k o) (laidS a c k s) = pairOf o s := by
  unfold pairOf laidS
  simp only [Pr.mk.injEq, and_true, true_and]
  have e1 : a + rx s.x s.y k - (a + rx o.x o.y k) = rx (s.x - o.x) (s.y - o.y) k := by rw [(rx_sub s.x s.y o.x o.y k).1]; omega
  have e2 : c + ry s.x s.y k - (c + ry o.x o.y k) = ry (s.x - o.x) (s.y - o.y) k := by rw [(rx_sub s.x s.y o.x o.y k).2]; omega
  rw [e1, e2, (rx_rx _ _ _ _).1, (rx_rx _ _ _ _).2]
  have e : rx (s.x - o.x) (s.y - o.y) ((k + -((o.h + k) % 4)) % 4) = rx (s.x - o.x) (s.y - o.y) (-o.h) ∧ ry (s.x - o.x) (s.y - o.y) ((k + -((o.h + k) % 4)) % 4) = ry (s.x - o.x) (s.y - o.y) (-o.h) := by
    have h : ((k + -((o.h + k) % 4)) % 4) % 4 = (-o.h) % 4 := by omega
    unfold rx ry
    rw [h]
    exact ⟨rfl, rfl⟩
  exact ⟨e.1, e.2, by omega⟩
/-- the other stroke, seen from the first: as if the first lay at the start -/
theorem laid_pair (o s : Stk) (hs : Hd s.h) : laidS o.x o.y o.h ⟨(pairOf o s).x, (pairOf o s).y, (pairOf o s).t, s.l⟩ = s := by
  unfold laidS pairOf
  rcases s with ⟨x, y, h, l⟩
  simp only [Stk.mk.injEq, and_true]
  rw [(rx_rx _ _ _ _).1, (rx_rx _ _ _ _).2]
  have h0 : (-o.h + o.h) % 4 = 0 := by omega
  rw [h0]
  have := hs.1
  have := hs.2
  dsimp only at *
  refine ⟨?_, ?_, by omega⟩
  · show o.x + rx (x - o.x) (y - o.y) 0 = x
    simp only [rx]; omega
  · show o.y + ry (x - o.x) (y - o.y) 0 = y
    simp only [ry]; omega
theorem kids_pair {ws : List (List It)} {mx my f : Int} (o s : Stk) (ho : Hd o.h) (hs : Hd s.h) (c : Pr) :
    c ∈ kids ws mx my f (pairOf o s) ↔ ∃ o' ∈ kidS ws mx my o, ∃ s' ∈ kidS ws mx my s, c = pairOf o' s' ∧ near f c = true := by
  have eo : kidS ws mx my o = (laidW ws mx my o.l 0 0 0).map (laidS (mx * o.x - my * o.y) (mx * o.y + my * o.x) o.h) := by
    rw [show laidW ws mx my o.l 0 0 0 = kidS ws mx my ⟨0, 0, 0, o.l⟩ from rfl, kid_laid]
    congr 1
    unfold laidS
    rcases o with ⟨x, y, h, l⟩
    have := ho.1
    have := ho.2
    dsimp only at *
    simp only [Stk.mk.injEq, and_true]
    refine ⟨?_, ?_, by omega⟩
    · unfold rx; (repeat' split) <;> omega
    · unfold ry; (repeat' split) <;> omega
  have es : kidS ws mx my s = (laidW ws mx my s.l (pairOf o s).x (pairOf o s).y (pairOf o s).t).map (laidS (mx * o.x - my * o.y) (mx * o.y + my * o.x) o.h) := by
    rw [show laidW ws mx my s.l (pairOf o s).x (pairOf o s).y (pairOf o s).t = kidS ws mx my ⟨(pairOf o s).x, (pairOf o s).y, (pairOf o s).t, s.l⟩ from rfl, kid_laid, laid_pair o s hs]
  unfold kids
  rw [mem_kidsOf, eo, es]
  constructor
  · rintro ⟨o1, h1, s1, h2, rfl, h3⟩
    exact ⟨_, List.mem_map_of_mem h1, _, List.mem_map_of_mem h2, (pairOf_laid ..).symm, h3⟩
  · rintro ⟨o', h1, s', h2, rfl, h3⟩
    obtain ⟨o1, k1, rfl⟩ := List.mem_map.mp h1
    obtain ⟨s1, k2, rfl⟩ := List.mem_map.mp h2
    rw [pairOf_laid] at h3 ⊢
    exact ⟨o1, k1, s1, k2, rfl, h3⟩
end SW
set_option Elab.async false
set_option linter.all false
set_option maxHeartbeats 4000000
namespace SW
/-! the plain law, part 5: far pairs have far children -/
theorem rot_sq (x y k : Int) : rx x y k * rx x y k + ry x y k * ry x y k = x * x + y * y := by
  unfold rx ry
  (repeat' split) <;> grind
theorem tri {a b c d A B : Int} (hA : 0 ≤ A) (hB : 0 ≤ B) (h1 : a * a + b * b ≤ A * A) (h2 : c * c + d * d ≤ B * B) : (a + c) * (a + c) + (b + d) * (b + d) ≤ (A + B) * (A + B) := by
  have s1 := sq_nn (a * d - b * c)
  have m1 : (a * a + b * b) * (c * c + d * d) ≤ (A * A) * (B * B) := by
    have z1 : 0 ≤ a * a + b * b := by have := sq_nn a; have := sq_nn b; omega
    have z2 : 0 ≤ B * B := sq_nn B
    exact Int.le_trans (Int.mul_le_mul_of_nonneg_left h2 z1) (Int.mul_le_mul_of_nonneg_right h1 z2)
  have e1 : (a * c + b * d) * (a * c + b * d) = (a * a + b * b) * (c * c + d * d) - (a * d - b * c) * (a * d - b * c) := by grind
  have e2 : (A * B) * (A * B) = (A * A) * (B * B) := by grind
  have k := (abs_of_sq (Int.mul_nonneg hA hB) (show (a * c + b * d) * (a * c + b * d) ≤ (A * B) * (A * B) by omega)).2
  have e3 : (a + c) * (a + c) + (b + d) * (b + d) = (a * a + b * b) + (c * c + d * d) + 2 * (a * c + b * d) := by grind
  have e4 : (A + B) * (A + B) = A * A + B * B + 2 * (A * B) := by grind
  omega
theorem near_iff {f : Int} {o s : Stk} : near f (pairOf o s) = true ↔ (s.x - o.x) * (s.x - o.x) + (s.y - o.y) * (s.y - o.y) ≤ f * f := by
  unfold near
  rw [decide_eq_true_eq]
  show rx _ _ _ * rx _ _ _ + ry _ _ _ * ry _ _ _ ≤ _ ↔ _
  rw [rot_sq]
theorem far_kids {ws : List (List It)} {mx my : Int} {f wd : Nat} {o s o' s' : Stk} (ho : ∀ u ∈ strokes (ws.getD o.l []), InR ((wd : Int) * wd) u) (hs : ∀ u ∈ strokes (ws.getD s.l []), InR ((wd : Int) * wd) u)
    (hf : ((f : Int) + 2 * wd) * (f + 2 * wd) < (mx * mx + my * my) * f * f) (h1 : o' ∈ kidS ws mx my o) (h2 : s' ∈ kidS ws mx my s) (hn : near f (pairOf o' s') = true) : near f (pairOf o s) = true := by
  obtain ⟨u, hu, rfl⟩ := List.mem_map.mp h1
  obtain ⟨v, hv, rfl⟩ := List.mem_map.mp h2
  have iu := (ho u hu).1
  have iv := (hs v hv).1
  rw [near_iff] at hn ⊢
  have ru := rot_sq u.x u.y o.h
  have rv := rot_sq v.x v.y s.h
  dsimp only [laidS] at hn
  generalize rx u.x u.y o.h = ux at *
  generalize ry u.x u.y o.h = uy at *
  generalize rx v.x v.y s.h = vx at *
  generalize ry v.x v.y s.h = vy at *
  have t1 := tri (a := ux) (b := uy) (c := -vx) (d := -vy) (A := wd) (B := wd) (Int.natCast_nonneg _) (Int.natCast_nonneg _) (by omega) (by rw [Int.neg_mul_neg, Int.neg_mul_neg]; omega)
  have t2 := tri (A := f) (B := (wd : Int) + wd) (Int.natCast_nonneg _) (by omega) hn t1
  have e1 : mx * s.x - my * s.y + vx - (mx * o.x - my * o.y + ux) + (ux + -vx) = mx * (s.x - o.x) - my * (s.y - o.y) := by grind
  have e2 : mx * s.y + my * s.x + vy - (mx * o.y + my * o.x + uy) + (uy + -vy) = mx * (s.y - o.y) + my * (s.x - o.x) := by grind
  rw [e1, e2] at t2
  generalize s.x - o.x = dx at *
  generalize s.y - o.y = dy at *
  have e3 : (mx * dx - my * dy) * (mx * dx - my * dy) + (mx * dy + my * dx) * (mx * dy + my * dx) = (mx * mx + my * my) * (dx * dx + dy * dy) := by grind
  rw [e3] at t2
  have e4 : ((f : Int) + 2 * wd) = f + (wd + wd) := by omega
  rw [e4] at hf
  have m0 : 0 ≤ mx * mx + my * my := by have := sq_nn mx; have := sq_nn my; omega
  apply Int.not_lt.mp
  intro z
  have k := Int.mul_le_mul_of_nonneg_left (show (f : Int) * f ≤ dx * dx + dy * dy by omega) m0
  have e5 : (mx * mx + my * my) * ((f : Int) * f) = (mx * mx + my * my) * f * f := by grind
  omega
end SW
set_option Elab.async false
set_option linter.all false
set_option maxHeartbeats 4000000
namespace SW
/-! the plain law, part 6: what comes at age n is the near pairs of the drawings -/
theorem NN_pairs {ws : List (List It)} {mx my : Int} {f wd : Nat} (OD PD : Nat → List Stk) (start : List Pr)
    (h0 : ∀ p, p ∈ start ↔ ∃ o ∈ OD 0, ∃ s ∈ PD 0, p = pairOf o s ∧ near f p = true)
    (ho : ∀ n, OD (n + 1) = (OD n).flatMap (kidS ws mx my)) (hp : ∀ n, PD (n + 1) = (PD n).flatMap (kidS ws mx my))
    (hh : ∀ n, (∀ o ∈ OD n, Hd o.h) ∧ ∀ s ∈ PD n, Hd s.h)
    (io : ∀ n, ∀ o ∈ OD n, ∀ u ∈ strokes (ws.getD o.l []), InR ((wd : Int) * wd) u) (ip : ∀ n, ∀ s ∈ PD n, ∀ u ∈ strokes (ws.getD s.l []), InR ((wd : Int) * wd) u)
    (hf : ((f : Int) + 2 * wd) * (f + 2 * wd) < (mx * mx + my * my) * f * f) :
    ∀ n p, NN start (kids ws mx my f) n p ↔ ∃ o ∈ OD n, ∃ s ∈ PD n, p = pairOf o s ∧ near f p = true
  | 0, p => h0 p
  | n + 1, p => by
    have ih := NN_pairs OD PD start h0 ho hp hh io ip hf n
    constructor
    · rintro ⟨q, hq, hc⟩
      obtain ⟨o, h1, s, h2, rfl, _⟩ := (ih q).mp hq
      obtain ⟨o', k1, s', k2, rfl, k3⟩ := (kids_pair o s ((hh n).1 o h1) ((hh n).2 s h2) p).mp hc
      rw [ho, hp]
      exact ⟨o', List.mem_flatMap.mpr ⟨o, h1, k1⟩, s', List.mem_flatMap.mpr ⟨s, h2, k2⟩, rfl, k3⟩
    · rintro ⟨o', k1, s', k2, rfl, k3⟩
      rw [ho] at k1
      rw [hp] at k2
      obtain ⟨o, h1, k1⟩ := List.mem_flatMap.mp k1
      obtain ⟨s, h2, k2⟩ := List.mem_flatMap.mp k2
      exact ⟨pairOf o s, (ih _).mpr ⟨o, h1, s, h2, rfl, far_kids (io n o h1) (ip n s h2) hf k1 k2 k3⟩, (kids_pair o s ((hh n).1 o h1) ((hh n).2 s h2) _).mpr ⟨o', k1, s', k2, rfl, k3⟩⟩
end SW
set_option Elab.async false
set_option linter.all false
set_option maxHeartbeats 4000000
namespace SW
open DL
/-! the plain law, part 7: shared strokes and touching spots -/
def edgeE (o : Stk) : D := edgeD 0 0 0 o
theorem eqb_PP (a c d e a' c' d' e' : Int) : eqb (.tup [dP a c, dP d e]) (.tup [dP a' c', dP d' e']) = decide (a = a' ∧ c = c' ∧ d = d' ∧ e = e') := by
  show (eqb (dP a c) (dP a' c') && (eqb (dP d e) (dP d' e') && true)) = _
  rw [eqb_P, eqb_P]
  by_cases h1 : a = a' <;> by_cases h2 : c = c' <;> by_cases h3 : d = d' <;> by_cases h4 : e = e' <;> simp [h1, h2, h3, h4]
theorem edge0 (x y : Int) (l : Nat) : edgeD 0 0 0 ⟨x, y, 0, l⟩ = .tup [dP x y, dP (x + 1) y] := by
  simp [edgeD, spotX, spotY, headX, headY, rx, ry, lexLe]
  omega
theorem edge1 (x y : Int) (l : Nat) : edgeD 0 0 0 ⟨x, y, 1, l⟩ = .tup [dP x y, dP x (y + 1)] := by
  simp [edgeD, spotX, spotY, headX, headY, rx, ry, lexLe]
  omega
theorem edge2 (x y : Int) (l : Nat) : edgeD 0 0 0 ⟨x, y, 2, l⟩ = .tup [dP (x + -1) y, dP x y] := by
  simp [edgeD, spotX, spotY, headX, headY, rx, ry, lexLe]
  omega
theorem edge3 (x y : Int) (l : Nat) : edgeD 0 0 0 ⟨x, y, 3, l⟩ = .tup [dP x (y + -1), dP x y] := by
  simp [edgeD, spotX, spotY, headX, headY, rx, ry, lexLe]
  omega
theorem edge_clash (o s : Stk) (ho : Hd o.h) (hs : Hd s.h) : eqb (edgeD 0 0 0 o) (edgeD 0 0 0 s) = clashP (pairOf o s) := by
  rcases o with ⟨x, y, h, l⟩
  rcases s with ⟨u, v, k, m⟩
  dsimp only at ho hs
  rcases d4 ho.1 ho.2 with rfl | rfl | rfl | rfl <;> rcases d4 hs.1 hs.2 with rfl | rfl | rfl | rfl <;>
    simp only [edge0, edge1, edge2, edge3, eqb_PP] <;> rw [Bool.eq_iff_iff] <;> simp [rx, ry, clashP, clash, pairOf] <;> omega
end SW
set_option Elab.async false
set_option linter.all false
set_option maxHeartbeats 4000000
namespace SW
open DL
/-! the plain law, part 8: touching spots -/
def ends2 (o : Stk) : List D := [dP o.x o.y, dP (o.x + rx 1 0 o.h) (o.y + ry 1 0 o.h)]
theorem ends_touch (o s : Stk) (ho : Hd o.h) (hs : Hd s.h) : ((ends2 s).any fun a => (ends2 o).any fun c => eqb c a) = touchP (pairOf o s) := by
  rcases o with ⟨x, y, h, l⟩
  rcases s with ⟨u, v, k, m⟩
  dsimp only at ho hs
  rcases d4 ho.1 ho.2 with rfl | rfl | rfl | rfl <;> rcases d4 hs.1 hs.2 with rfl | rfl | rfl | rfl <;>
    rw [Bool.eq_iff_iff] <;> simp [ends2, eqb_P, rx, ry, touchP, touchB, isE, pairOf] <;> omega
theorem clash_touch {p : Pr} (h : clashP p = true) : touchP p = true := by
  unfold clashP clash at h
  unfold touchP touchB isE
  simp only [Bool.and_eq_true, Bool.or_eq_true, decide_eq_true_eq] at h ⊢
  rcases h.2 with h | h
  · exact .inl (.inl ⟨h.1, h.2.1⟩)
  · exact .inl (.inr ⟨h.1, h.2.1⟩)
end SW
set_option Elab.async false
set_option linter.all false
set_option maxHeartbeats 4000000
namespace SW
open DL
/-! the plain law, part 9: the lists that the law meets -/
theorem rx_m4 (x y k : Int) : rx x y (k % 4 + 0) = rx x y k ∧ ry x y (k % 4 + 0) = ry x y k := by
  unfold rx ry
  rw [show (k % 4 + 0) % 4 = k % 4 by omega]
  exact ⟨rfl, rfl⟩
theorem r0 (x y : Int) : rx x y 0 = x ∧ ry x y 0 = y := ⟨rfl, rfl⟩
theorem edge_laid (X Y k : Int) (s : Stk) : edgeD X Y k s = edgeD 0 0 0 (laidS X Y k s) := by
  have e1 : spotX 0 0 (laidS X Y k s) = spotX X k s := by show 0 + rx _ _ 0 = _; rw [(r0 _ _).1]; show 0 + (X + _) = X + _; omega
  have e2 : spotY 0 0 (laidS X Y k s) = spotY Y k s := by show 0 + ry _ _ 0 = _; rw [(r0 _ _).2]; show 0 + (Y + _) = Y + _; omega
  have e3 : headX 0 0 (laidS X Y k s) = headX X k s := by show spotX 0 0 _ + rx 1 0 ((s.h + k) % 4 + 0) = _; rw [e1, (rx_m4 ..).1]; rfl
  have e4 : headY 0 0 (laidS X Y k s) = headY Y k s := by show spotY 0 0 _ + ry 1 0 ((s.h + k) % 4 + 0) = _; rw [e2, (rx_m4 ..).2]; rfl
  unfold edgeD
  rw [e1, e2, e3, e4]
theorem ends_laid (X Y k : Int) (s : Stk) : [dP (spotX X k s) (spotY Y k s), dP (headX X k s) (headY Y k s)] = ends2 (laidS X Y k s) := by
  unfold ends2
  show [dP (X + rx s.x s.y k) (Y + ry s.x s.y k), dP (X + rx s.x s.y k + rx 1 0 (s.h + k)) (Y + ry s.x s.y k + ry 1 0 (s.h + k))] = [dP (X + rx s.x s.y k) (Y + ry s.x s.y k), dP (X + rx s.x s.y k + rx 1 0 ((s.h + k) % 4)) (Y + ry s.x s.y k + ry 1 0 ((s.h + k) % 4))]
  have e := rx_m4 1 0 (s.h + k)
  rw [Int.add_zero] at e
  rw [e.1, e.2]
/-- what is met in both lists -/
def metL (xs ys : List D) : Bool := !eqbL (xs.filter fun x => ys.any fun y => eqb y x) []
theorem metL_iff {xs ys : List D} : metL xs ys = true ↔ ∃ x ∈ xs, ∃ y ∈ ys, eqb y x = true := by
  unfold metL
  constructor
  · intro h
    cases e : xs.filter fun x => ys.any fun y => eqb y x with
    | nil => rw [e] at h; cases h
    | cons x r =>
      have hx := List.mem_filter.mp (show x ∈ xs.filter fun x => ys.any fun y => eqb y x by rw [e]; exact List.mem_cons_self ..)
      obtain ⟨y, hy, k⟩ := List.any_eq_true.mp hx.2
      exact ⟨x, hx.1, y, hy, k⟩
  · rintro ⟨x, hx, y, hy, k⟩
    have hm : x ∈ xs.filter fun x => ys.any fun y => eqb y x := List.mem_filter.mpr ⟨hx, List.any_eq_true.mpr ⟨y, hy, k⟩⟩
    cases e : xs.filter fun x => ys.any fun y => eqb y x with
    | nil => rw [e] at hm; cases hm
    | cons x r => rfl
end SW
set_option Elab.async false
set_option linter.all false
set_option maxHeartbeats 4000000
namespace SW
open DL
/-! the plain law, part 10: met at an age -/
theorem touch_near {f : Nat} (hf : 2 ≤ f) {p : Pr} (h : touchP p = true) : near f p = true := by
  have h4 : p.x * p.x + p.y * p.y ≤ 4 := by
    rcases p with ⟨x, y, a, t, b⟩
    unfold touchP touchB isE at h
    simp only [Bool.or_eq_true, decide_eq_true_eq] at h
    dsimp only at *
    have hr : (rx 1 0 t = 1 ∧ ry 1 0 t = 0) ∨ (rx 1 0 t = 0 ∧ ry 1 0 t = 1) ∨ (rx 1 0 t = -1 ∧ ry 1 0 t = 0) ∨ (rx 1 0 t = 0 ∧ ry 1 0 t = -1) := by
      unfold rx ry
      rcases h_mod t with e | e | e | e <;> simp [e]
    have hx : (x = 0 ∧ y = 0) ∨ (x = 1 ∧ y = 0) ∨ (x = -1 ∧ y = 0) ∨ (x = 0 ∧ y = -1) ∨ (x = 0 ∧ y = 1) ∨ (x = 1 ∧ y = -1) ∨ (x = 2 ∧ y = 0) ∨ (x = 1 ∧ y = 1) := by omega
    rcases hx with ⟨rfl, rfl⟩ | ⟨rfl, rfl⟩ | ⟨rfl, rfl⟩ | ⟨rfl, rfl⟩ | ⟨rfl, rfl⟩ | ⟨rfl, rfl⟩ | ⟨rfl, rfl⟩ | ⟨rfl, rfl⟩ <;> decide
  have : (2 : Int) * 2 ≤ (f : Int) * f := by
    have h2 : (2 : Int) ≤ f := by omega
    exact Int.mul_le_mul h2 h2 (by decide) (by omega)
  unfold near
  rw [decide_eq_true_eq]
  omega
theorem met_share {OD PD : List Stk} {nn : Pr → Prop} {f : Nat} (hf : 2 ≤ f) (hn : ∀ p, nn p ↔ ∃ o ∈ OD, ∃ s ∈ PD, p = pairOf o s ∧ near f p = true) (ho : ∀ o ∈ OD, Hd o.h) (hs : ∀ s ∈ PD, Hd s.h) :
    metL (PD.map (edgeD 0 0 0)) (OD.map (edgeD 0 0 0)) = true ↔ ∃ p, nn p ∧ clashP p = true := by
  rw [metL_iff]
  constructor
  · rintro ⟨x, hx, y, hy, k⟩
    obtain ⟨s, h1, rfl⟩ := List.mem_map.mp hx
    obtain ⟨o, h2, rfl⟩ := List.mem_map.mp hy
    rw [edge_clash o s (ho o h2) (hs s h1)] at k
    exact ⟨_, (hn _).mpr ⟨o, h2, s, h1, rfl, touch_near hf (clash_touch k)⟩, k⟩
  · rintro ⟨p, hp, k⟩
    obtain ⟨o, h2, s, h1, rfl, _⟩ := (hn p).mp hp
    exact ⟨_, List.mem_map_of_mem h1, _, List.mem_map_of_mem h2, by rw [edge_clash o s (ho o h2) (hs s h1)]; exact k⟩
theorem met_touch {OD PD : List Stk} {nn : Pr → Prop} {f : Nat} (hf : 2 ≤ f) (hn : ∀ p, nn p ↔ ∃ o ∈ OD, ∃ s ∈ PD, p = pairOf o s ∧ near f p = true) (ho : ∀ o ∈ OD, Hd o.h) (hs : ∀ s ∈ PD, Hd s.h) :
    metL (PD.flatMap ends2) (OD.flatMap ends2) = true ↔ ∃ p, nn p ∧ touchP p = true := by
  rw [metL_iff]
  constructor
  · rintro ⟨x, hx, y, hy, k⟩
    obtain ⟨s, h1, hx⟩ := List.mem_flatMap.mp hx
    obtain ⟨o, h2, hy⟩ := List.mem_flatMap.mp hy
    have t : touchP (pairOf o s) = true := by
      rw [← ends_touch o s (ho o h2) (hs s h1)]
      exact List.any_eq_true.mpr ⟨x, hx, List.any_eq_true.mpr ⟨y, hy, k⟩⟩
    exact ⟨_, (hn _).mpr ⟨o, h2, s, h1, rfl, touch_near hf t⟩, t⟩
  · rintro ⟨p, hp, k⟩
    obtain ⟨o, h2, s, h1, rfl, _⟩ := (hn p).mp hp
    rw [← ends_touch o s (ho o h2) (hs s h1)] at k
    obtain ⟨x, hx, k⟩ := List.any_eq_true.mp k
    obtain ⟨y, hy, k⟩ := List.any_eq_true.mp k
    exact ⟨x, List.mem_flatMap.mpr ⟨s, h1, hx⟩, y, List.mem_flatMap.mpr ⟨o, h2, hy⟩, k⟩
end SW
set_option Elab.async false
set_option linter.all false
set_option maxHeartbeats 4000000
namespace SW
/-! the plain law, part 11: a word stays near -/
def In2 (x y : Int) (A : Nat) : Prop := x * x + y * y ≤ (A : Int) * A
theorem In2.mono {x y : Int} {A B : Nat} (h : In2 x y A) (k : A ≤ B) : In2 x y B := by
  have : (A : Int) * A ≤ (B : Int) * B := Int.mul_le_mul (by omega) (by omega) (by omega) (by omega)
  unfold In2 at *
  omega
theorem In2.step {x y : Int} {A : Nat} (h : In2 x y A) (k : Int) : In2 (x + rx 1 0 k) (y + ry 1 0 k) (A + 1) := by
  have u : rx 1 0 k * rx 1 0 k + ry 1 0 k * ry 1 0 k ≤ 1 * 1 := by rw [rot_sq]; decide
  have t := tri (A := A) (B := 1) (by omega) (by decide) h u
  unfold In2
  rw [show ((A + 1 : Nat) : Int) = (A : Int) + 1 by omega]
  exact t
structure PnIn (p : Pn) (A : Nat) : Prop where
  pt : In2 p.x p.y A
  s : ∀ q ∈ p.st, In2 q.1 q.2.1 A
theorem PnIn.mark {p : Pn} {A : Nat} (h : PnIn p A) (s : It) : PnIn (p.mark s) A := by
  cases s with
  | L i => exact h
  | tl => exact ⟨h.pt, h.s⟩
  | tr => exact ⟨h.pt, h.s⟩
  | op =>
    refine ⟨h.pt, fun q hq => ?_⟩
    rcases List.mem_cons.mp hq with rfl | hq
    · exact h.pt
    · exact h.s q hq
  | cl =>
    rcases p with ⟨x, y, hd, st⟩
    cases st with
    | nil => exact h
    | cons q r => exact ⟨h.s q (List.mem_cons_self ..), fun z hz => h.s z (List.mem_cons_of_mem _ hz)⟩
theorem PnIn.go {p : Pn} {A : Nat} (h : PnIn p A) : PnIn p.go (A + 1) := ⟨h.pt.step p.h, fun q hq => (h.s q hq).mono (by omega)⟩
theorem word_in : ∀ (w : List It) (p : Pn) (A : Nat), PnIn p A → ∀ s ∈ strokesFrom p w, In2 s.x s.y (A + (ltrs w).length) ∧ In2 (s.x + rx 1 0 s.h) (s.y + ry 1 0 s.h) (A + (ltrs w).length)
  | [], p, A, h, s, hs => nomatch hs
  | .L i :: w, p, A, h, s, hs => by
    have e : (ltrs (.L i :: w)).length = (ltrs w).length + 1 := rfl
    rw [e]
    rcases List.mem_cons.mp hs with rfl | hs
    · exact ⟨h.pt.mono (by omega), (h.pt.step p.h).mono (by omega)⟩
    · have := word_in w p.go (A + 1) h.go s hs
      rw [show A + 1 + (ltrs w).length = A + ((ltrs w).length + 1) by omega] at this
      exact this
  | .tl :: w, p, A, h, s, hs => word_in w _ A (h.mark .tl) s hs
  | .tr :: w, p, A, h, s, hs => word_in w _ A (h.mark .tr) s hs
  | .op :: w, p, A, h, s, hs => word_in w _ A (h.mark .op) s hs
  | .cl :: w, p, A, h, s, hs => word_in w _ A (h.mark .cl) s hs
theorem word_inR {w : List It} {W : Nat} (h : (ltrs w).length ≤ W) : ∀ s ∈ strokes w, InR ((W : Int) * W) s := fun s hs => by
  have k := word_in w p0 0 ⟨(by decide : (0 : Int) * 0 + 0 * 0 ≤ ((0 : Nat) : Int) * ((0 : Nat) : Int)), fun _ h => nomatch h⟩ s hs
  rw [Nat.zero_add] at k
  exact ⟨k.1.mono h, k.2.mono h⟩
end SW
set_option Elab.async false
set_option linter.all false
set_option maxRecDepth 100000
namespace SW
/-! the plain law, part 12: how long words grow -/
theorem getD_mem {ws : List (List It)} {i : Nat} (h : i < ws.length) : ws.getD i [] ∈ ws := by
  rw [List.getD_eq_getElem?_getD, List.getElem?_eq_getElem h]
  exact List.getElem_mem h
theorem lets_grow {ws : List (List It)} {lo hi : Nat} (h : ∀ w ∈ ws, lo ≤ (ltrs w).length ∧ (ltrs w).length ≤ hi) : ∀ (w : List It), (∀ i, It.L i ∈ w → i < ws.length) →
    lo * (ltrs w).length ≤ (ltrs (growW ws w)).length ∧ (ltrs (growW ws w)).length ≤ hi * (ltrs w).length
  | [], _ => ⟨Nat.le_refl _, Nat.le_refl _⟩
  | .L i :: w, k => by
    have ih := lets_grow h w fun j hj => k j (List.mem_cons_of_mem _ hj)
    have hb := h _ (getD_mem (k i (List.mem_cons_self ..)))
    have e : (ltrs (growW ws (.L i :: w))).length = (ltrs (ws.getD i [])).length + (ltrs (growW ws w)).length := by
      show (ltrs (ws.getD i [] ++ growW ws w)).length = _
      rw [ltrs_app, List.length_append]
    have e2 : (ltrs (.L i :: w)).length = (ltrs w).length + 1 := rfl
    rw [e, e2, Nat.mul_succ, Nat.mul_succ]
    omega
  | .tl :: w, k => lets_grow h w fun j hj => k j (List.mem_cons_of_mem _ hj)
  | .tr :: w, k => lets_grow h w fun j hj => k j (List.mem_cons_of_mem _ hj)
  | .op :: w, k => lets_grow h w fun j hj => k j (List.mem_cons_of_mem _ hj)
  | .cl :: w, k => lets_grow h w fun j hj => k j (List.mem_cons_of_mem _ hj)
theorem len_grow {ws : List (List It)} {M : Nat} (h : ∀ w ∈ ws, w.length ≤ M) : ∀ (w : List It), (∀ i, It.L i ∈ w → i < ws.length) → (growW ws w).length ≤ w.length + M * (ltrs w).length
  | [], _ => Nat.le_refl _
  | .L i :: w, k => by
    have ih := len_grow h w fun j hj => k j (List.mem_cons_of_mem _ hj)
    have hb := h _ (getD_mem (k i (List.mem_cons_self ..)))
    have e : (growW ws (.L i :: w)).length = (ws.getD i []).length + (growW ws w).length := by
      show (ws.getD i [] ++ growW ws w).length = _
      rw [List.length_append]
    have e2 : (ltrs (.L i :: w)).length = (ltrs w).length + 1 := rfl
    rw [e, e2, Nat.mul_succ, List.length_cons]
    omega
  | .tl :: w, k => by
    have ih := len_grow h w fun j hj => k j (List.mem_cons_of_mem _ hj)
    show (growW ws w).length + 1 ≤ w.length + 1 + M * (ltrs w).length
    omega
  | .tr :: w, k => by
    have ih := len_grow h w fun j hj => k j (List.mem_cons_of_mem _ hj)
    show (growW ws w).length + 1 ≤ w.length + 1 + M * (ltrs w).length
    omega
  | .op :: w, k => by
    have ih := len_grow h w fun j hj => k j (List.mem_cons_of_mem _ hj)
    show (growW ws w).length + 1 ≤ w.length + 1 + M * (ltrs w).length
    omega
  | .cl :: w, k => by
    have ih := len_grow h w fun j hj => k j (List.mem_cons_of_mem _ hj)
    show (growW ws w).length + 1 ≤ w.length + 1 + M * (ltrs w).length
    omega
theorem bal_app : ∀ (v : List It) (k n : Nat) (c : List It), bal k v = true → bal (n + k) (v ++ c) = bal n c
  | [], k, n, c, h => by
    have : k = 0 := by simpa [bal] using h
    subst this
    rfl
  | .L i :: v, k, n, c, h => by
    have a : bal k (.L i :: v) = bal k v := by cases k <;> rfl
    have b : bal (n + k) (.L i :: (v ++ c)) = bal (n + k) (v ++ c) := by cases (n + k) <;> rfl
    show bal (n + k) (.L i :: (v ++ c)) = _
    rw [b]
    exact bal_app v k n c (a ▸ h)
  | .tl :: v, k, n, c, h => by
    have a : bal k (.tl :: v) = bal k v := by cases k <;> rfl
    have b : bal (n + k) (.tl :: (v ++ c)) = bal (n + k) (v ++ c) := by cases (n + k) <;> rfl
    show bal (n + k) (.tl :: (v ++ c)) = _
    rw [b]
    exact bal_app v k n c (a ▸ h)
  | .tr :: v, k, n, c, h => by
    have a : bal k (.tr :: v) = bal k v := by cases k <;> rfl
    have b : bal (n + k) (.tr :: (v ++ c)) = bal (n + k) (v ++ c) := by cases (n + k) <;> rfl
    show bal (n + k) (.tr :: (v ++ c)) = _
    rw [b]
    exact bal_app v k n c (a ▸ h)
  | .op :: v, k, n, c, h => by
    have a : bal k (.op :: v) = bal (k + 1) v := by cases k <;> rfl
    have b : bal (n + k) (.op :: (v ++ c)) = bal (n + k + 1) (v ++ c) := by cases (n + k) <;> rfl
    show bal (n + k) (.op :: (v ++ c)) = _
    rw [b]
    exact bal_app v (k + 1) n c (a ▸ h)
  | .cl :: v, 0, n, c, h => by cases h
  | .cl :: v, k + 1, n, c, h => bal_app v k n c h
theorem bal_grow {ws : List (List It)} (h : ∀ w ∈ ws, bal 0 w = true) : ∀ (w : List It) (n : Nat), (∀ i, It.L i ∈ w → i < ws.length) → bal n (growW ws w) = bal n w
  | [], _, _ => rfl
  | .L i :: w, n, k => by
    have ih := bal_grow h w n fun j hj => k j (List.mem_cons_of_mem _ hj)
    have hb := h _ (getD_mem (k i (List.mem_cons_self ..)))
    show bal n (ws.getD i [] ++ growW ws w) = _
    have e := bal_app _ 0 n (growW ws w) hb
    rw [Nat.add_zero] at e
    rw [e, ih]
    cases n <;> rfl
  | .tl :: w, n, k => by
    have ih := bal_grow h w n fun j hj => k j (List.mem_cons_of_mem _ hj)
    show bal n (.tl :: growW ws w) = _
    cases n <;> exact ih
  | .tr :: w, n, k => by
    have ih := bal_grow h w n fun j hj => k j (List.mem_cons_of_mem _ hj)
    show bal n (.tr :: growW ws w) = _
    cases n <;> exact ih
  | .op :: w, n, k => by
    have ih := bal_grow h w (n + 1) fun j hj => k j (List.mem_cons_of_mem _ hj)
    show bal n (.op :: growW ws w) = _
    cases n <;> exact ih
  | .cl :: w, 0, k => rfl
  | .cl :: w, n + 1, k => bal_grow h w n fun j hj => k j (List.mem_cons_of_mem _ hj)
/-- what the words of a book are to have -/
structure Wds (ws : List (List It)) (lo hi : Nat) : Prop where
  lt : ∀ w ∈ ws, ∀ i, It.L i ∈ w → i < ws.length
  bl : ∀ w ∈ ws, bal 0 w = true
  ln : ∀ w ∈ ws, w.length ≤ 21
  lc : ∀ w ∈ ws, lo ≤ (ltrs w).length ∧ (ltrs w).length ≤ hi
theorem lets_pow {ws : List (List It)} {lo hi : Nat} (h : Wds ws lo hi) {v : List It} (hv : ∀ i, It.L i ∈ v → i < ws.length) : ∀ n,
    lo ^ n * (ltrs v).length ≤ (ltrs (growN ws n v)).length ∧ (ltrs (growN ws n v)).length ≤ hi ^ n * (ltrs v).length
  | 0 => by
    rw [Nat.pow_zero, Nat.pow_zero, Nat.one_mul]
    exact ⟨Nat.le_refl _, Nat.le_refl _⟩
  | n + 1 => by
    have ih := lets_pow h hv n
    have g := lets_grow h.lc (growN ws n v) (growN_lt h.lt hv n)
    show _ ≤ (ltrs (growW ws (growN ws n v))).length ∧ (ltrs (growW ws (growN ws n v))).length ≤ _
    have a := Nat.mul_le_mul_left lo ih.1
    have b := Nat.mul_le_mul_left hi ih.2
    have e1 : lo ^ (n + 1) * (ltrs v).length = lo * (lo ^ n * (ltrs v).length) := by rw [Nat.pow_succ, Nat.mul_comm (lo ^ n) lo, Nat.mul_assoc]
    have e2 : hi ^ (n + 1) * (ltrs v).length = hi * (hi ^ n * (ltrs v).length) := by rw [Nat.pow_succ, Nat.mul_comm (hi ^ n) hi, Nat.mul_assoc]
    rw [e1, e2]
    omega
theorem bal_growN {ws : List (List It)} {lo hi : Nat} (h : Wds ws lo hi) {v : List It} (hv : ∀ i, It.L i ∈ v → i < ws.length) (hb : bal 0 v = true) : ∀ n, bal 0 (growN ws n v) = true
  | 0 => hb
  | n + 1 => (bal_grow h.bl _ _ (growN_lt h.lt hv n)).trans (bal_growN h hv hb n)
theorem len_pow {ws : List (List It)} {lo hi : Nat} (h : Wds ws lo hi) (h2 : 2 ≤ hi) {v : List It} (hv : ∀ i, It.L i ∈ v → i < ws.length) {c d : Nat} (hc : (ltrs v).length ≤ c) (hd : v.length ≤ d) : ∀ n, (growN ws n v).length ≤ d + 21 * (c * hi ^ n)
  | 0 => by show v.length ≤ _; omega
  | n + 1 => by
    have ih := len_pow h h2 hv hc hd n
    have l := (lets_pow h hv n).2
    have g := len_grow h.ln (growN ws n v) (growN_lt h.lt hv n)
    have k : (ltrs (growN ws n v)).length ≤ c * hi ^ n := Nat.le_trans l (by rw [Nat.mul_comm]; exact Nat.mul_le_mul_right _ hc)
    have e : 2 * (c * hi ^ n) ≤ c * hi ^ (n + 1) := by
      have a := Nat.mul_le_mul_left (c * hi ^ n) h2
      have z : c * hi ^ (n + 1) = c * hi ^ n * hi := by rw [Nat.pow_succ, Nat.mul_assoc]
      rw [z, Nat.mul_comm 2]
      exact a
    show (growW ws (growN ws n v)).length ≤ _
    omega
theorem len_few {ws : List (List It)} {lo hi : Nat} (h : Wds ws lo hi) {v : List It} (hv : ∀ i, It.L i ∈ v → i < ws.length) (hc : v.length ≤ 7) {n : Nat} (hk : ∀ k, 1 ≤ k → k < n → ((ltrs (growN ws k v)).length : Int) ≤ 200) : ∀ k, k ≤ n → (growN ws k v).length ≤ 7 + 4200 * k
  | 0, _ => by show v.length ≤ _; omega
  | k + 1, hn => by
    have ih := len_few h hv hc hk k (by omega)
    have g := len_grow h.ln (growN ws k v) (growN_lt h.lt hv k)
    have l : (ltrs (growN ws k v)).length ≤ 200 := by
      cases k with
      | zero =>
        have := ltrs_le v
        show (ltrs v).length ≤ 200
        omega
      | succ j =>
        have := hk (j + 1) (by omega) (by omega)
        omega
    show (growW ws (growN ws k v)).length ≤ _
    omega
end SW
set_option Elab.async false
set_option linter.all false
set_option maxRecDepth 100000
namespace SW
/-! the plain law, part 13: what the drawn books have -/
section
variable {b : Bk} {mx my : Int} {cm : Nat}
theorem GoodB.wds (G : GoodB b mx my cm) : Wds b.ws cm (cm + 3) := ⟨fun w hw i hi => (G.wo w hw).lt i hi, fun w hw => (G.wo w hw).bal, G.wl, G.wc⟩
theorem GoodB.okb (G : GoodB b mx my cm) : OkB b := ⟨G.n1, by have := G.n2; omega, G.wo, G.so⟩
theorem GoodB.c23 (G : GoodB b mx my cm) : cm = 2 ∨ cm = 3 := by
  rcases G.cm with h | h
  · exact .inl h.1
  · exact .inr h.1
theorem GoodB.m2 (G : GoodB b mx my cm) : 2 ≤ mx * mx + my * my := by
  rcases G.cm with h | h
  · exact h.2
  · have := h.2
    omega
theorem GoodB.mover (G : GoodB b mx my cm) : ∀ (l : Nat) (w : List It), b.ws[l]? = some w → Mover mx my w := fun l w h => ⟨(G.wo w (List.mem_of_getElem? h)).bal, G.wr w (List.mem_of_getElem? h)⟩
theorem GoodB.m3 (G : GoodB b mx my cm) : (-3 ≤ mx ∧ mx ≤ 3) ∧ -3 ≤ my ∧ my ≤ 3 := by
  have := G.mv.1
  have := G.mv.2
  omega
theorem GoodB.bdm (G : GoodB b mx my cm) : (-1000 ≤ mx ∧ mx ≤ 1000) ∧ -1000 ≤ my ∧ my ≤ 1000 := by
  have := G.m3
  omega
end
/-- the other drawing's word -/
structure OthQ (n : Nat) (v : List It) : Prop where
  ok : OkW n v
  l2 : (ltrs v).length ≤ 2
  l3 : v.length ≤ 3
theorem oth1 {n i : Nat} (h : i < n) : OthQ n [.L i] := by
  refine ⟨⟨by show 1 ≤ 1; decide, by show 1 ≤ 40; decide, fun j hj => ?_, rfl, i, List.mem_cons_self ..⟩, by show 1 ≤ 2; decide, by show 1 ≤ 3; decide⟩
  simp at hj
  omega
theorem oth2 {n : Nat} (h : 1 ≤ n) : OthQ n [.L 0, .tl, .L 0] := by
  refine ⟨⟨by decide, by decide, fun j hj => ?_, rfl, 0, List.mem_cons_self ..⟩, by decide, by decide⟩
  simp at hj
  omega
theorem Reach.both_l {b : Bk} {v : List It} {l : Nat} (h : Reach b l) : Reach (both b v) l := by
  induction h with
  | st h => exact .st (List.mem_append_left _ h)
  | wd _ k ih => exact .wd ih k
theorem Reach.both_r {b : Bk} {v : List It} {l : Nat} (h : Reach ⟨b.ws, v⟩ l) : Reach (both b v) l := by
  induction h with
  | st h => exact .st (List.mem_append_right _ h)
  | wd _ k ih => exact .wd ih k
theorem reach_split {b : Bk} {v : List It} {l : Nat} (h : Reach (both b v) l) : Reach b l ∨ Reach ⟨b.ws, v⟩ l := by
  induction h with
  | st h =>
    rcases List.mem_append.mp h with h | h
    · exact .inl (.st h)
    · exact .inr (.st h)
  | wd _ k ih =>
    rcases ih with h | h
    · exact .inl (.wd h k)
    · exact .inr (.wd h k)
theorem reach_growN {b : Bk} : ∀ (n l : Nat), It.L l ∈ growN b.ws n b.st → Reach b l
  | 0, l, h => .st h
  | n + 1, l, h => by
    obtain ⟨s, hs, h1⟩ := List.mem_flatMap.mp (show It.L l ∈ (growN b.ws n b.st).flatMap (sub1 b.ws) from h)
    cases s with
    | L j => exact .wd (reach_growN n j hs) h1
    | tl => simp [sub1] at h1
    | tr => simp [sub1] at h1
    | op => simp [sub1] at h1
    | cl => simp [sub1] at h1
/-! small places -/
def Sm (A x y : Int) : Prop := (-A ≤ x ∧ x ≤ A) ∧ -A ≤ y ∧ y ≤ A
theorem Sm.rot {A x y : Int} (h : Sm A x y) (k : Int) : Sm A (rx x y k) (ry x y k) := by
  unfold Sm rx ry at *
  (repeat' split) <;> omega
theorem In2.sm {x y : Int} {A : Nat} (h : In2 x y A) : Sm A x y := abs_of_sum (by omega) h
theorem Sm.mono {A B x y : Int} (h : Sm A x y) (k : A ≤ B) : Sm B x y := by
  unfold Sm at *
  omega
theorem Sm.bd {A x y : Int} (h : Sm A x y) (k : A < 1000000000000) : Bd x ∧ Bd y := by
  unfold Sm Bd at *
  omega
theorem mul3 {m x A : Int} (hm : -3 ≤ m ∧ m ≤ 3) (hx : -A ≤ x ∧ x ≤ A) : -(3 * A) ≤ m * x ∧ m * x ≤ 3 * A := by
  have h : m = -3 ∨ m = -2 ∨ m = -1 ∨ m = 0 ∨ m = 1 ∨ m = 2 ∨ m = 3 := by omega
  rcases h with rfl | rfl | rfl | rfl | rfl | rfl | rfl <;> omega
theorem Sm.mul {A mx my x y : Int} (hm : (-3 ≤ mx ∧ mx ≤ 3) ∧ -3 ≤ my ∧ my ≤ 3) (h : Sm A x y) : Sm (6 * A) (mx * x - my * y) (mx * y + my * x) := by
  have a1 := mul3 hm.1 h.1
  have a2 := mul3 hm.2 h.2
  have a3 := mul3 hm.1 h.2
  have a4 := mul3 hm.2 h.1
  unfold Sm
  omega
theorem mulN_sm {mx my : Int} (hm : (-3 ≤ mx ∧ mx ≤ 3) ∧ -3 ≤ my ∧ my ≤ 3) {px py : Int} (hp : Sm 3 px py) : ∀ n : Nat, Sm (3 * 6 ^ n) (mulN mx my n (px, py)).1 (mulN mx my n (px, py)).2
  | 0 => by
    show Sm (3 * 6 ^ 0) px py
    exact hp.mono (by decide)
  | n + 1 => by
    have ih := mulN_sm hm hp n
    have h := Sm.mul hm ih
    have e : (3 : Int) * 6 ^ (n + 1) = 6 * (3 * 6 ^ n) := by rw [Int.pow_succ]; omega
    rw [e]
    show Sm _ ((mulN mx my n (px, py)).1 * mx - (mulN mx my n (px, py)).2 * my) ((mulN mx my n (px, py)).1 * my + (mulN mx my n (px, py)).2 * mx)
    rw [Int.mul_comm _ mx, Int.mul_comm _ my, Int.mul_comm _ my, Int.mul_comm _ mx, Int.add_comm]
    exact h
theorem Sm.pair {A B : Int} {o s : Stk} (ho : Sm A o.x o.y) (hs : Sm B s.x s.y) : Sm (A + B) (pairOf o s).x (pairOf o s).y := by
  refine Sm.rot ?_ _
  unfold Sm at *
  omega
theorem Sm.laid {A B px py k : Int} {s : Stk} (hp : Sm A px py) (hs : Sm B s.x s.y) : Sm (A + B) (laidS px py k s).x (laidS px py k s).y := by
  have h := hs.rot k
  show Sm _ (px + rx s.x s.y k) (py + ry s.x s.y k)
  unfold Sm at *
  omega
theorem word_sm {w : List It} {A : Nat} (h : (ltrs w).length ≤ A) : ∀ s ∈ strokes w, Sm A s.x s.y := fun s hs => by
  have k := word_in w p0 0 ⟨(by decide : (0 : Int) * 0 + 0 * 0 ≤ ((0 : Nat) : Int) * ((0 : Nat) : Int)), fun _ h => nomatch h⟩ s hs
  rw [Nat.zero_add] at k
  exact (k.1.mono h).sm
/-! all pairs that may come -/
def discL (R : Nat) : List (Int × Int) := ((List.range (2 * R + 1)).flatMap fun (i : Nat) => (List.range (2 * R + 1)).map fun (j : Nat) => (((i : Nat) : Int) - (R : Int), ((j : Nat) : Int) - (R : Int))).filter fun q => decide (q.1 * q.1 + q.2 * q.2 ≤ (R : Int) * R)
theorem mem_discL {R : Nat} {x y : Int} : (x, y) ∈ discL R ↔ x * x + y * y ≤ (R : Int) * R := by
  unfold discL
  rw [List.mem_filter, decide_eq_true_eq]
  refine ⟨fun h => h.2, fun h => ⟨?_, h⟩⟩
  have k := abs_of_sum (by omega) h
  refine List.mem_flatMap.mpr ⟨(x + R).toNat, List.mem_range.mpr (by omega), List.mem_map.mpr ⟨(y + R).toNat, List.mem_range.mpr (by omega), ?_⟩⟩
  simp only [Prod.mk.injEq]
  omega
theorem disc10 : (discL 10).length = 317 := by decide +kernel
theorem disc25 : (discL 25).length = 1961 := by decide +kernel
def univ (R : Nat) (as bs : List Nat) : List Pr := (discL R).flatMap fun q => [(0 : Int), 1, 2, 3].flatMap fun t => as.flatMap fun a => bs.map fun c => ⟨q.1, q.2, a, t, c⟩
theorem flat_len {α β : Type} (f : α → List β) (m : Nat) (h : ∀ a, (f a).length = m) : ∀ l : List α, (l.flatMap f).length = l.length * m
  | [] => by simp
  | a :: l => by
    rw [List.flatMap_cons, List.length_append, h a, flat_len f m h l, List.length_cons, Nat.succ_mul, Nat.add_comm]
theorem univ_len (R : Nat) (as bs : List Nat) : (univ R as bs).length = (discL R).length * (4 * (as.length * bs.length)) := by
  unfold univ
  exact flat_len _ _ (fun q => flat_len _ _ (fun t => flat_len _ _ (fun a => List.length_map _) _) _) _
theorem mem_univ {R : Nat} {as bs : List Nat} {p : Pr} : p ∈ univ R as bs ↔ (p.x, p.y) ∈ discL R ∧ Hd p.t ∧ p.a ∈ as ∧ p.b ∈ bs := by
  unfold univ
  rcases p with ⟨x, y, a, t, c⟩
  constructor
  · intro h
    obtain ⟨q, hq, h⟩ := List.mem_flatMap.mp h
    obtain ⟨t', ht, h⟩ := List.mem_flatMap.mp h
    obtain ⟨a', ha, h⟩ := List.mem_flatMap.mp h
    obtain ⟨c', hc, h⟩ := List.mem_map.mp h
    cases h
    refine ⟨hq, ?_, ha, hc⟩
    simp at ht
    unfold Hd
    dsimp only
    omega
  · rintro ⟨h1, h2, h3, h4⟩
    refine List.mem_flatMap.mpr ⟨_, h1, List.mem_flatMap.mpr ⟨t, ?_, List.mem_flatMap.mpr ⟨a, h3, List.mem_map.mpr ⟨c, h4, rfl⟩⟩⟩⟩
    have := h2.1
    have := h2.2
    dsimp only at *
    rcases (show t = 0 ∨ t = 1 ∨ t = 2 ∨ t = 3 by omega) with rfl | rfl | rfl | rfl <;> simp
noncomputable def rl (b : Bk) : List Nat := (List.range b.ws.length).filter fun l => @decide (Reach b l) (Classical.propDecidable _)
theorem mem_rl {b : Bk} {l : Nat} : l ∈ rl b ↔ l < b.ws.length ∧ Reach b l := by
  unfold rl
  rw [List.mem_filter, List.mem_range]
  have : (@decide (Reach b l) (Classical.propDecidable _) = true) ↔ Reach b l := @decide_eq_true_iff _ (Classical.propDecidable _)
  rw [this]
theorem rl_le (b : Bk) : (rl b).length ≤ b.ws.length := by
  have h := List.length_filter_le (fun l => @decide (Reach b l) (Classical.propDecidable _)) (List.range b.ws.length)
  rw [List.length_range] at h
  exact h
theorem rl_lt {b : Bk} {l : Nat} (h : l < b.ws.length) (k : ¬ Reach b l) : (rl b).length < b.ws.length := by
  have h : ((List.range b.ws.length).filter fun l => @decide (Reach b l) (Classical.propDecidable _)).length < (List.range b.ws.length).length := by
    rw [List.length_filter_lt_length_iff_exists]
    refine ⟨l, List.mem_range.mpr h, fun z => k ?_⟩
    exact @of_decide_eq_true _ (Classical.propDecidable _) z
  rw [List.length_range] at h
  exact h
end SW
set_option Elab.async false
set_option linter.all false
set_option maxRecDepth 100000
namespace SW
/-! the plain law, part 14: the pairs that may come are few -/
theorem strokes_ltr {w : List It} {s : Stk} (h : s ∈ strokes w) : Hd s.h ∧ It.L s.l ∈ w := strokes_hd w p0_ok s h
section
variable {b : Bk} {mx my : Int} {cm : Nat} {v : List It}
theorem uok (G : GoodB b mx my cm) (O : OthQ b.ws.length v) (px py k : Int) {f R : Nat} (hf : f ≤ R) (hR : R ≤ 25) (hl : (discL R).length * (4 * ((rl b).length * (rl ⟨b.ws, v⟩).length)) ≤ 20000) :
    UOk (both b v) mx my (f : Nat) (prs0 b v px py k (f : Nat)) (univ R (rl b) (rl ⟨b.ws, v⟩)) := by
  have ff : (f : Int) * f ≤ (R : Int) * R := Int.mul_le_mul (by omega) (by omega) (by omega) (by omega)
  have okv : OkB ⟨b.ws, v⟩ := ⟨G.n1, G.okb.n8, G.wo, O.ok⟩
  have nr : ∀ p, near f p = true → (p.x, p.y) ∈ discL R := fun p h => by
    rw [mem_discL]
    unfold near at h
    have := of_decide_eq_true h
    omega
  have rr : (R : Int) * R ≤ 25 * 25 := Int.mul_le_mul (by omega) (by omega) (by omega) (by omega)
  have c23 := G.c23
  constructor
  · rw [univ_len]
    exact hl
  · intro p hp
    obtain ⟨o, ho, s, hs, rfl, hn⟩ := mem_kidsOf.mp hp
    obtain ⟨u, hu, rfl⟩ := List.mem_map.mp hs
    have ro : Reach b o.l := .st (strokes_ltr ho).2
    have ru : Reach ⟨b.ws, v⟩ u.l := .st (strokes_ltr hu).2
    exact mem_univ.mpr ⟨nr _ hn, pairOf_hd, mem_rl.mpr ⟨ro.lt G.okb, ro⟩, mem_rl.mpr ⟨ru.lt okv, ru⟩⟩
  · intro p hp c hc
    obtain ⟨h1, h2, h3, h4⟩ := mem_univ.mp hp
    obtain ⟨o, ho, s, hs, rfl, hn⟩ := mem_kidsOf.mp hc
    obtain ⟨u, hu, rfl⟩ := List.mem_map.mp hs
    obtain ⟨t, ht, rfl⟩ := List.mem_map.mp ho
    have ro : Reach b t.l := .wd (mem_rl.mp h3).2 (strokes_ltr ht).2
    have ru : Reach ⟨b.ws, v⟩ u.l := .wd (mem_rl.mp h4).2 (strokes_ltr hu).2
    exact mem_univ.mpr ⟨nr _ hn, pairOf_hd, mem_rl.mpr ⟨ro.lt G.okb, ro⟩, mem_rl.mpr ⟨ru.lt okv, ru⟩⟩
  · intro p hp
    obtain ⟨h1, h2, h3, h4⟩ := mem_univ.mp hp
    exact ⟨(mem_rl.mp h3).2.both_l, (mem_rl.mp h4).2.both_r⟩
  · intro p hp
    obtain ⟨h1, h2, h3, h4⟩ := mem_univ.mp hp
    have a := G.wl _ (getD_mem (mem_rl.mp h3).1)
    have c := G.wl _ (getD_mem (mem_rl.mp h4).1)
    exact ⟨by show (b.ws.getD p.a []).length ≤ 25; omega, by show (b.ws.getD p.b []).length ≤ 25; omega⟩
  · intro p hp o ho s hs
    obtain ⟨h1, h2, h3, h4⟩ := mem_univ.mp hp
    have a := (G.wc _ (getD_mem (mem_rl.mp h3).1)).2
    have c := (G.wc _ (getD_mem (mem_rl.mp h4).1)).2
    obtain ⟨u, hu, rfl⟩ := List.mem_map.mp hs
    obtain ⟨t, ht, rfl⟩ := List.mem_map.mp ho
    have st : Sm 6 t.x t.y := word_sm (A := 6) (show (ltrs (b.ws.getD p.a [])).length ≤ 6 by omega) t ht
    have su : Sm 6 u.x u.y := word_sm (A := 6) (show (ltrs (b.ws.getD p.b [])).length ≤ 6 by omega) u hu
    have sp : Sm 25 p.x p.y := by
      have := mem_discL.mp h1
      exact abs_of_sum (by omega) (by omega)
    have s0 : Sm 0 0 0 := by unfold Sm; omega
    exact (Sm.pair (Sm.laid (s0.mul G.m3) st) (Sm.laid (sp.mul G.m3) su)).bd (by decide)
theorem word_len6 (G : GoodB b mx my cm) {l : Nat} (h : l < b.ws.length) : ∀ s ∈ strokes (b.ws.getD l []), InR (((cm + 3 : Nat) : Int) * ((cm + 3 : Nat) : Int)) s := word_inR (G.wc _ (getD_mem h)).2
theorem okw_both (G : GoodB b mx my cm) (O : OthQ b.ws.length v) : OkW b.ws.length (b.st ++ v) := by
  have := G.so.ne
  have := G.sl
  have := O.l3
  refine ⟨by rw [List.length_append]; omega, by rw [List.length_append]; omega, fun i hi => ?_, ?_, ?_⟩
  · rcases List.mem_append.mp hi with h | h
    · exact G.so.lt i h
    · exact O.ok.lt i h
  · have e := bal_app b.st 0 0 v G.so.bal
    exact e.trans O.ok.bal
  · obtain ⟨i, h⟩ := G.so.has
    exact ⟨i, List.mem_append_left _ h⟩
theorem few_of (G : GoodB b mx my cm) {st : List It} (h : st.length < 60) : Few ⟨b.ws, st⟩ := by
  have := G.n2
  exact ⟨h, 21, G.wl, by show b.ws.length * 21 < 60; omega⟩
theorem even_of (G : GoodB b mx my cm) {st : List It} (h : OkB ⟨b.ws, st⟩) : EvenB ⟨b.ws, st⟩ mx my := fun l hl => by
  have e := G.wr _ (getD_mem (hl.lt h))
  show (run p0 (b.ws.getD l [])).x = mx ∧ (run p0 (b.ws.getD l [])).y = my ∧ (run p0 (b.ws.getD l [])).h = 0
  rw [e]
  exact ⟨rfl, rfl, rfl⟩
/-- a least farness is no more than any -/
theorem sqmono {a c : Int} (h0 : 0 ≤ a) (h : a ≤ c) : a * a ≤ c * c := Int.mul_le_mul h h h0 (by omega)
theorem far_cases (G : GoodB b mx my cm) (O : OthQ b.ws.length v) {wd0 f0 : Nat} (hw : wd0 ≤ cm + 3) (hin : ∀ l, Reach b l → ∀ s ∈ strokes (b.ws.getD l []), InR ((wd0 : Int) * wd0) s)
    (h2 : 2 ≤ f0) (hfar : ((f0 : Int) + 2 * wd0) * (f0 + 2 * wd0) < (mx * mx + my * my) * f0 * f0) (h110 : (f0 : Int) * f0 ≤ 110) :
    ∃ W R : Nat, W ≤ 6 ∧ R ≤ 25 ∧ (∀ l, Reach (both b v) l → ∀ s ∈ strokes (b.ws.getD l []), InR ((W : Int) * W) s) ∧ (∀ f, FarOk (both b v) (mx * mx + my * my) W f → f ≤ R) ∧ (discL R).length * (4 * ((rl b).length * (rl ⟨b.ws, v⟩).length)) ≤ 20000 := by
  have c23 := G.c23
  have l1 : (rl b).length ≤ 2 := Nat.le_trans (rl_le b) G.n2
  have l2 : (rl ⟨b.ws, v⟩).length ≤ 2 := Nat.le_trans (rl_le ⟨b.ws, v⟩) G.n2
  have ok2 : OkB (both b v) := ⟨G.n1, G.okb.n8, G.wo, okw_both G O⟩
  by_cases hall : ∀ l, Reach (both b v) l → Reach b l
  · have f10 : f0 ≤ 10 := by
      apply Nat.not_lt.mp
      intro z
      have := sqmono (a := 11) (c := f0) (by decide) (by omega)
      omega
    refine ⟨wd0, 10, by omega, by decide, fun l hl => hin l (hall l hl), fun f hf => ?_, ?_⟩
    · obtain ⟨wd, w1, w2, w3, w4, w5⟩ := hf
      apply Nat.not_lt.mp
      intro z
      have a := w5 f0 h2 (by omega)
      have c := sqmono (a := (f0 : Int) + 2 * wd) (c := (f0 : Int) + 2 * wd0) (by omega) (by omega)
      omega
    · rw [disc10]
      have := Nat.mul_le_mul l1 l2
      omega
  · have l3 : (rl b).length ≤ 1 := by
      obtain ⟨l, h⟩ := Classical.not_forall.mp hall
      have h3 : Reach (both b v) l ∧ ¬ Reach b l := Classical.not_imp.mp h
      have h4 := rl_lt (show l < b.ws.length from h3.1.lt ok2) h3.2
      have := G.n2
      omega
    refine ⟨cm + 3, 25, by omega, by decide, fun l hl => word_len6 G (hl.lt ok2), fun f hf => ?_, ?_⟩
    · obtain ⟨wd, w1, w2, w3, w4, w5⟩ := hf
      apply Nat.not_lt.mp
      intro z
      have a := w5 25 (by decide) z
      have c := sqmono (a := (25 : Int) + 2 * wd) (c := (25 : Int) + 2 * (cm + 3 : Nat)) (by omega) (by omega)
      have a' : (mx * mx + my * my) * 25 * 25 ≤ ((25 : Int) + 2 * wd) * (25 + 2 * wd) := a
      rcases G.cm with ⟨e, h⟩ | ⟨e, h⟩ <;> subst e <;> omega
    · rw [disc25]
      have := Nat.mul_le_mul l3 l2
      omega
theorem sideq (G : GoodB b mx my cm) (O : OthQ b.ws.length v) {px py k : Int} (hp : Sm 3 px py) (hk : 0 ≤ k ∧ k ≤ 3) {wd0 f0 : Nat} (hw : wd0 ≤ cm + 3) (hin : ∀ l, Reach b l → ∀ s ∈ strokes (b.ws.getD l []), InR ((wd0 : Int) * wd0) s)
    (h2 : 2 ≤ f0) (hfar : ((f0 : Int) + 2 * wd0) * (f0 + 2 * wd0) < (mx * mx + my * my) * f0 * f0) (h110 : (f0 : Int) * f0 ≤ 110) : ∃ W, SideQ b v px py k mx my W := by
  obtain ⟨W, R, hW, hR, hinr, hfr, hlen⟩ := far_cases G O hw hin h2 hfar h110
  have ok2 : OkB (both b v) := ⟨G.n1, G.okb.n8, G.wo, okw_both G O⟩
  have sl := G.sl
  have l3 := O.l3
  have few2 : Few (both b v) := few_of G (by rw [List.length_append]; omega)
  refine ⟨W, G.okb, few_of G (by omega), O.ok, ⟨?_, hk⟩, ok2, few2, even_of G G.okb, even_of G ok2, ⟨ok2, few2, by omega, G.bdm, G.m2, hinr⟩, fun o ho s hs => ?_, fun f hf => ?_, fun f hf => ?_⟩
  · unfold Sm at hp
    omega
  · obtain ⟨u, hu, rfl⟩ := List.mem_map.mp hs
    have a : Sm 7 o.x o.y := word_sm (A := 7) (by have := ltrs_le b.st; omega) o ho
    have c : Sm 2 u.x u.y := word_sm (A := 2) O.l2 u hu
    exact (Sm.pair a (Sm.laid hp c)).bd (by decide)
  · have := hfr f hf
    omega
  · exact ⟨_, uok G O px py k (hfr f hf) hR hlen⟩
end
end SW
set_option Elab.async false
set_option linter.all false
set_option maxRecDepth 100000
namespace SW
open DL
/-! the plain law, part 15: what is seen at an age -/
def lotsOf (ws : List (List It)) (v : List It) (px py k mx my : Int) (n : Nat) : List D := (strokes (growN ws n v)).map (edgeD (mulN mx my n (px, py)).1 (mulN mx my n (px, py)).2 k)
def spotsOf (ws : List (List It)) (v : List It) (px py k mx my : Int) (n : Nat) : List D := spotsD (mulN mx my n (px, py)).1 (mulN mx my n (px, py)).2 k (strokes (growN ws n v))
theorem lots_drw (ws : List (List It)) (v : List It) (px py k mx my : Int) (n : Nat) : lotsOf ws v px py k mx my n = (drw ws v px py k mx my n).map (edgeD 0 0 0) := by
  unfold lotsOf drw
  rw [List.map_map]
  exact List.map_congr_left fun s _ => edge_laid _ _ _ s
theorem spots_drw (ws : List (List It)) (v : List It) (px py k mx my : Int) (n : Nat) : spotsOf ws v px py k mx my n = (drw ws v px py k mx my n).flatMap ends2 := by
  unfold spotsOf spotsD drw
  rw [List.flatMap_map]
  congr 1
  exact funext fun s => ends_laid _ _ _ s
def shB (b : Bk) (v : List It) (px py k mx my : Int) (n : Nat) : Bool := metL (lotsOf b.ws v px py k mx my n) (lotsOf b.ws b.st 0 0 0 mx my n)
def toB (b : Bk) (v : List It) (px py k mx my : Int) (n : Nat) : Bool := metL (spotsOf b.ws v px py k mx my n) (spotsOf b.ws b.st 0 0 0 mx my n)
/-- the least age at which it is so -/
def LeastN (S : Nat → Bool) : Option Nat → Prop
  | none => ∀ n, S n = false
  | some a => S a = true ∧ ∀ k, k < a → S k = false
theorem least_of {nn : Nat → Pr → Prop} {c : Pr → Bool} {S : Nat → Bool} (h : ∀ n, S n = true ↔ ∃ p, nn n p ∧ c p = true) {r : Option Nat} (hr : LeastAge nn c r) : LeastN S r := by
  cases r with
  | none =>
    intro n
    cases e : S n with
    | false => rfl
    | true =>
      obtain ⟨p, h1, h2⟩ := (h n).mp e
      rw [hr n p h1] at h2
      cases h2
  | some a =>
    refine ⟨(h a).mpr hr.1, fun k hk => ?_⟩
    cases e : S k with
    | false => rfl
    | true =>
      obtain ⟨p, h1, h2⟩ := (h k).mp e
      rw [hr.2 k p hk h1] at h2
      cases h2
theorem laid0 (s : Stk) (h : Hd s.h) : laidS 0 0 0 s = s := by
  rcases s with ⟨x, y, d, l⟩
  have := h.1
  have := h.2
  unfold laidS
  dsimp only at *
  simp only [Stk.mk.injEq, and_true]
  refine ⟨?_, ?_, by omega⟩
  · show 0 + x = x
    omega
  · show 0 + y = y
    omega
theorem drw0 (ws : List (List It)) (v : List It) (mx my : Int) : drw ws v 0 0 0 mx my 0 = strokes v := by
  show (strokes v).map (laidS 0 0 0) = strokes v
  have e := List.map_congr_left (l := strokes v) (f := laidS 0 0 0) (g := id) fun s hs => laid0 s (strokes_ltr hs).1
  rw [e, List.map_id]
theorem drw_hd {ws : List (List It)} {v : List It} {px py k mx my : Int} {n : Nat} : ∀ o ∈ drw ws v px py k mx my n, Hd o.h := fun o ho => by
  obtain ⟨u, _, rfl⟩ := List.mem_map.mp ho
  exact laidS_hd
theorem drw_ltr {ws : List (List It)} {v : List It} {px py k mx my : Int} {n : Nat} {o : Stk} (h : o ∈ drw ws v px py k mx my n) : It.L o.l ∈ growN ws n v := by
  obtain ⟨u, hu, rfl⟩ := List.mem_map.mp h
  exact (strokes_ltr hu).2
section
variable {b : Bk} {mx my : Int} {cm : Nat} {v : List It}
theorem nn_iff (G : GoodB b mx my cm) (O : OthQ b.ws.length v) {px py k : Int} {W f : Nat} (hf : FarOk (both b v) (mx * mx + my * my) W f) (n : Nat) (p : Pr) :
    NNf b v px py k mx my f n p ↔ ∃ o ∈ drw b.ws b.st 0 0 0 mx my n, ∃ s ∈ drw b.ws v px py k mx my n, p = pairOf o s ∧ near f p = true := by
  obtain ⟨wd, w1, w2, w3, w4, w5⟩ := hf
  refine NN_pairs (wd := wd) (drw b.ws b.st 0 0 0 mx my) (drw b.ws v px py k mx my) _ (fun p => ?_) (fun n => drw_succ G.mover _ _ _ _ n (growN_lt G.wds.lt G.so.lt n)) (fun n => drw_succ G.mover _ _ _ _ n (growN_lt G.wds.lt O.ok.lt n))
    (fun n => ⟨drw_hd, drw_hd⟩) (fun n o ho => ?_) (fun n o ho => ?_) w4 n p
  · rw [drw0]
    exact mem_kidsOf
  · exact w2 o.l (reach_growN n o.l (drw_ltr ho)).both_l
  · exact w2 o.l (Reach.both_r (reach_growN (b := ⟨b.ws, v⟩) n o.l (drw_ltr ho)))
theorem nn_hd {px py k : Int} {f : Nat} : ∀ (n : Nat) (p : Pr), NNf b v px py k mx my f n p → Hd p.t
  | 0, p, h => by
    obtain ⟨o, _, s, _, rfl, _⟩ := mem_kidsOf.mp h
    exact pairOf_hd
  | n + 1, p, h => by
    obtain ⟨q, _, h⟩ := h
    obtain ⟨o, _, s, _, rfl, _⟩ := mem_kidsOf.mp h
    exact pairOf_hd
theorem sh_iff (G : GoodB b mx my cm) (O : OthQ b.ws.length v) {px py k : Int} {W f : Nat} (hf : FarOk (both b v) (mx * mx + my * my) W f) (n : Nat) : shB b v px py k mx my n = true ↔ ∃ p, NNf b v px py k mx my f n p ∧ clashP p = true := by
  have f2 : 2 ≤ f := by
    obtain ⟨wd, w1, w2, w3, w4, w5⟩ := hf
    exact w3
  unfold shB
  rw [lots_drw, lots_drw]
  exact met_share f2 (nn_iff G O hf n) drw_hd drw_hd
theorem to_iff (G : GoodB b mx my cm) (O : OthQ b.ws.length v) {px py k : Int} {W f : Nat} (hf : FarOk (both b v) (mx * mx + my * my) W f) (n : Nat) : toB b v px py k mx my n = true ↔ ∃ p, NNf b v px py k mx my f n p ∧ touchP p = true := by
  have f2 : 2 ≤ f := by
    obtain ⟨wd, w1, w2, w3, w4, w5⟩ := hf
    exact w3
  unfold toB
  rw [spots_drw, spots_drw]
  exact met_touch f2 (nn_iff G O hf n) drw_hd drw_hd
theorem sh_to (G : GoodB b mx my cm) (O : OthQ b.ws.length v) {px py k : Int} {W f : Nat} (hf : FarOk (both b v) (mx * mx + my * my) W f) (n : Nat) (h : shB b v px py k mx my n = true) : toB b v px py k mx my n = true := by
  obtain ⟨p, h1, h2⟩ := (sh_iff G O hf n).mp h
  exact (to_iff G O hf n).mpr ⟨p, h1, clash_touch h2⟩
theorem age_le (G : GoodB b mx my cm) {n : Nat} (h : ∀ k, 1 ≤ k → k ≤ n → ((ltrs (growN b.ws k b.st)).length : Int) ≤ 200) : n ≤ 7 ∧ (cm = 3 → n ≤ 4) := by
  by_cases h0 : n = 0
  · subst h0
    exact ⟨by decide, fun _ => by decide⟩
  have h1 := h n (by omega) (Nat.le_refl _)
  have h2 := (lets_pow G.wds G.so.lt n).1
  have h3 : 1 ≤ (ltrs b.st).length := by
    obtain ⟨i, hi⟩ := G.so.has
    have := List.length_pos_of_mem (mem_ltrs.mpr hi)
    exact this
  have h4 : cm ^ n ≤ cm ^ n * (ltrs b.st).length := Nat.le_mul_of_pos_right _ h3
  constructor
  · apply Nat.not_lt.mp
    intro z
    have a : 2 ^ 8 ≤ 2 ^ n := Nat.pow_le_pow_right (by decide) z
    have c : 2 ^ n ≤ cm ^ n := Nat.pow_le_pow_left (by have := G.c23; omega) n
    omega
  · intro e
    apply Nat.not_lt.mp
    intro z
    subst e
    have a : 3 ^ 5 ≤ 3 ^ n := Nat.pow_le_pow_right (by decide) z
    omega
theorem bes_bd (G : GoodB b mx my cm) {px py : Int} (hp : Sm 3 px py) {k : Nat} (hk : k ≤ 7) : Bd (mulN mx my k (px, py)).1 ∧ Bd (mulN mx my k (px, py)).2 := by
  refine (mulN_sm G.m3 hp k).bd ?_
  have : (6 : Int) ^ k ≤ 6 ^ 7 := by
    have h : 6 ^ k ≤ 6 ^ 7 := Nat.pow_le_pow_right (by decide) hk
    exact_mod_cast h
  omega
theorem bes_own (G : GoodB b mx my cm) {n : Nat} (h : ∀ k, 1 ≤ k → k ≤ n → ((ltrs (growN b.ws k b.st)).length : Int) ≤ 200) {j : Nat} (hj : j ≤ n) : BesQ b b.st 0 0 mx my j := by
  have h7 := (age_le G h).1
  refine ⟨G.wds.lt, G.so.lt, fun k hk => ?_, by omega, bal_growN G.wds G.so.lt G.so.bal j, fun k hk => bes_bd G (by unfold Sm; omega) (by omega)⟩
  have := len_few G.wds G.so.lt G.sl (n := n) (fun k a c => h k a (by omega)) k (by omega)
  omega
theorem bes_oth (G : GoodB b mx my cm) (O : OthQ b.ws.length v) {px py : Int} (hp : Sm 3 px py) {n : Nat} (h : ∀ k, 1 ≤ k → k ≤ n → ((ltrs (growN b.ws k b.st)).length : Int) ≤ 200) {j : Nat} (hj : j ≤ n) : BesQ b v px py mx my j := by
  have h7 := age_le G h
  refine ⟨G.wds.lt, O.ok.lt, fun k hk => ?_, by omega, bal_growN G.wds O.ok.lt O.ok.bal j, fun k hk => bes_bd G hp (by omega)⟩
  have g := len_pow G.wds (by omega) O.ok.lt O.l2 O.l3 k
  rcases G.c23 with e | e
  · subst e
    have : (2 + 3) ^ k ≤ (2 + 3) ^ 7 := Nat.pow_le_pow_right (by decide) (by omega)
    omega
  · have h4 := h7.2 e
    subst e
    have : (3 + 3) ^ k ≤ (3 + 3) ^ 4 := Nat.pow_le_pow_right (by decide) (by omega)
    omega
theorem len_age (G : GoodB b mx my cm) {n : Nat} (hn : n ≤ 8) (h : ∀ k, 1 ≤ k → k < n → ((ltrs (growN b.ws k b.st)).length : Int) ≤ 200) : ∀ k, k ≤ n → (growN b.ws k b.st).length ≤ 8000000 := fun k hk => by
  have := len_few G.wds G.so.lt G.sl h k hk
  omega
theorem farL (G : GoodB b mx my cm) : FarL b mx my (cm + 3) := by
  have c23 := G.c23
  refine ⟨G.okb, G.n2, by omega, G.bdm, G.m2, fun w hw => word_inR (G.wc w hw).2, fun k hk => ?_⟩
  have g := len_pow G.wds (by omega) G.so.lt (Nat.le_trans (ltrs_le b.st) G.sl) G.sl k
  have a : (cm + 3) ^ k ≤ 6 ^ k := Nat.pow_le_pow_left (by omega) k
  have c : 6 ^ k ≤ 6 ^ 3 := Nat.pow_le_pow_right (by decide) hk
  omega
end
theorem lots_len {b : Bk} {v : List It} {px py k mx my : Int} {n : Nat} (h : BesQ b v px py mx my n) : (lotsOf b.ws v px py k mx my n).length ≤ 8000000 := by
  unfold lotsOf
  rw [List.length_map]
  exact Nat.le_trans (strokes_length_le _ p0) (h.le n (Nat.le_refl _))
theorem spots_len {b : Bk} {v : List It} {px py k mx my : Int} {n : Nat} (h : BesQ b v px py mx my n) : (spotsOf b.ws v px py k mx my n).length ≤ 16000000 := by
  unfold spotsOf spotsD
  rw [flat_len _ 2 fun _ => rfl]
  have := Nat.le_trans (strokes_length_le _ p0) (h.le n (Nat.le_refl _))
  have e : (strokes (growN b.ws n v)).length ≤ 8000000 := this
  omega
theorem least_le {S T : Nat → Bool} (h : ∀ n, S n = true → T n = true) {a : Nat} {r : Option Nat} (hs : LeastN S (some a)) (ht : LeastN T r) : ∃ c, r = some c ∧ c ≤ a := by
  cases r with
  | none =>
    have := ht a
    rw [h a hs.1] at this
    cases this
  | some c =>
    refine ⟨c, rfl, Nat.not_lt.mp fun z => ?_⟩
    have := ht.2 a z
    rw [h a hs.1] at this
    cases this
theorem least_at {S : Nat → Bool} {a n : Nat} (h : LeastN S (some a)) (hn : n ≤ a) : S n = decide (n = a) := by
  by_cases e : n = a
  · subst e
    rw [h.1]
    simp
  · rw [h.2 n (by omega)]
    simp [e]
end SW
set_option Elab.async false
set_option linter.all false
set_option maxRecDepth 100000
set_option maxHeartbeats 4000000
namespace SW
open PySem PySem.Spec PyProof.Rows L2 DL
local macro_rules | `(tactic| walk_at "cond") => `(tactic| first | (show (0 : Int) < _; decide) | (show (0 : Int) < _; omega) | assumption | (refine Bd.mul ?_; assumption) | (refine Or.inl ⟨?_, ?_⟩ <;> omega) | (refine Or.inr ⟨?_, ?_⟩ <;> omega) | decide)
local macro_rules | `(tactic| walk_at "go1") => `(tactic| first
  | refine ⟨_, rfl, ?_⟩
  | refine ⟨_, _, rfl, rfl, by walk_at "cond", ?_⟩
  | refine ⟨_, _, rfl, rfl, ?_⟩
  | refine ⟨_, _, rfl, ?_⟩
  | refine ⟨rfl, ?_⟩
  | refine iteT ?_
  | refine iteF ?_
  | refine ⟨_, _, _, rfl, ?_⟩
  | refine ⟨(by decide +kernel : _ = true), ?_⟩
  | refine iteT' (decide_eq_true (by omega)) ?_
  | refine iteF' (decide_eq_false (by omega)) ?_
  | (dsimp only; refine iteT' (by simp only [decide_eq_true_eq, Bool.not_eq_true', decide_eq_false_iff_not]; omega) ?_)
  | (dsimp only; refine iteF' (by simp only [decide_eq_true_eq, Bool.not_eq_false', decide_eq_false_iff_not]; omega) ?_))
local macro_rules | `(tactic| walk_at "go") => `(tactic| repeat walk_at "go1")
def φ_law : DSp := fun ds g Q => ∃ cs : List Int, ds = [.fz (cs.map D.int)] ∧ ∀ g', GX g g' → Q (.bl true) g'
theorem len_law (ds : List D) (g : G) (Q : DK) (h : φ_law ds g Q) : ds.length = P_law.length := by
  obtain ⟨_, rfl, _⟩ := h
  rfl
theorem GR1.gx0 {r : Addr} {g g' : G} {o : GO} (hr : g r = none) (e : GR1 r (gup g r o) g') : GX g g' := fun x u h => e.1 x u (gne h hr) ((gup_ne (gne h hr)).trans h)
theorem least_uniq {S : Nat → Bool} {r s : Option Nat} (h : LeastN S r) (k : LeastN S s) : r = s := by
  cases r with
  | none =>
    cases s with
    | none => rfl
    | some c =>
      have z := k.1
      rw [h c] at z
      cases z
  | some a =>
    cases s with
    | none =>
      have z := h.1
      rw [k a] at z
      cases z
    | some c =>
      rcases Nat.lt_trichotomy a c with z | z | z
      · have y := h.1
        rw [k.2 a z] at y
        cases y
      · rw [z]
      · have y := k.1
        rw [h.2 c z] at y
        cases y
theorem isN_dO (r : Option Nat) : isN (dO r) = r.isNone := by
  cases r <;> rfl
theorem lots_pd (ws : List (List It)) (v : List It) (px py k mx my : Int) (n : Nat) : ∀ d ∈ lotsOf ws v px py k mx my n, pd 8 d = true := fun d hd => by
  obtain ⟨s, _, rfl⟩ := List.mem_map.mp hd
  unfold edgeD
  split <;> rfl
theorem spots_pd (ws : List (List It)) (v : List It) (px py k mx my : Int) (n : Nat) : ∀ d ∈ spotsOf ws v px py k mx my n, pd 8 d = true := fun d hd => by
  obtain ⟨s, _, h⟩ := List.mem_flatMap.mp hd
  rcases List.mem_cons.mp h with rfl | h
  · rfl
  · rcases List.mem_cons.mp h with rfl | h
    · rfl
    · cases h
section
variable {P : Program} {w : World} {K : PySem.W.Frag} {mg : Str → Option Value} {base : Heap}
theorem d_law (T : Txt K mg) {f : Addr} {fd : FuncData} (F : FnT K "law" "law" s_law f fd)
    (H__law_age : CallD P w K mg base 3 "_law_age" φ_lawage)
    (H__law_beside : CallD P w K mg base 3 "_law_beside" φ_beside)
    (H__law_farness : CallD P w K mg base 3 "_law_farness" φ_farness)
    (H__law_pick : CallD P w K mg base 2 "_law_pick" φ_pick)
    (H__law_some_even : CallD P w K mg base 5 "_law_some_even" φ_some_even)
    (H__law_taken : CallD P w K mg base 1 "_law_taken" φ_taken)
    (H_never_share : CallD P w K mg base 13 "never_share" φ_never_share)
    (H_share_age : CallD P w K mg base 12 "share_age" (φ_age clashP))
    (H_touch_age : CallD P w K mg base 12 "touch_age" (φ_age touchP)) : FnOk P w K mg base CX0 14 f fd P_law (FDp K φ_law) := by
  refine (okD F sc_law (by first | exact len_law | exact len_law _) fun cdv A outer s H E hr => ⟨_, (dss_cons (ds_set 1 (de_lst (da_cons (de_var 0) (da_cons de_int (da_cons de_int (da_cons de_int da_nil))))) sc_law.nd)
      (dss_cons (ds_asg (de_call H__law_some_even (hr.mono (by decide)) (da_cons (de_var 1) da_nil)) (dg_tup (n := 2) (dgs_cons (dg_name 2 sc_law.nd) (dgs_cons (dg_name 3 sc_law.nd) dgs_nil))))
      (dss_cons (ds_if (db_cmp op_gt simR_B (de_call H__law_farness (hr.mono (by decide)) (da_cons (de_var 2) (da_cons (de_var 3) da_nil))) de_int) (dss_one (ds_ret de_bl)) dss_nil)
      (dss_cons (ds_par 4 5 (da_cons (de_call H__law_pick (hr.mono (by decide)) (da_cons (de_var 1) (da_cons (de_lst (da_cons (de_tup (da_cons de_int da_nil)) (da_cons (de_tup (da_cons de_int (da_cons de_str (da_cons de_int da_nil)))) (da_cons (de_tup (da_cons (de_op op_sub simR_I0 (de_callB call_len simC_len T.n_len (by decide +kernel) (da_cons (de_ix (de_var 2) de_int) da_nil)) de_int) da_nil)) da_nil)))) da_nil))) (da_cons (de_call H__law_taken (hr.mono (by decide)) (da_cons (de_var 1) (da_cons de_int da_nil))) da_nil)) sc_law.nd)
      (dss_cons (ds_set 6 (de_tup (da_cons (de_op op_sub simR_I0 (de_call H__law_taken (hr.mono (by decide)) (da_cons (de_var 1) (da_cons de_int da_nil))) de_int) (da_cons (de_op op_sub simR_I0 (de_call H__law_taken (hr.mono (by decide)) (da_cons (de_var 1) (da_cons de_int da_nil))) de_int) da_nil))) sc_law.nd)
      (dss_cons (ds_set 7 de_str sc_law.nd)
      (dss_cons (ds_try (dss_cons (ds_set 7 (de_lst (da_cons (de_call H_share_age (hr.mono (by decide)) (da_cons (de_var 2) (da_cons (de_var 4) (da_cons (de_var 6) (da_cons (de_var 5) da_nil))))) (da_cons (de_call H_touch_age (hr.mono (by decide)) (da_cons (de_var 2) (da_cons (de_var 4) (da_cons (de_var 6) (da_cons (de_var 5) da_nil))))) da_nil))) sc_law.nd)
      (dss_one (ds_set 7 (de_op op_cat simR_catL (de_var 7) (de_lst (da_cons (de_call H_never_share (hr.mono (by decide)) (da_cons (de_var 2) (da_cons (de_var 4) (da_cons (de_var 6) (da_cons (de_var 5) da_nil))))) da_nil))) sc_law.nd))))
      (dss_cons (ds_if (dw_or (db_not (db_val (de_isi .b (de_ix (de_var 7) de_int) T.n_isinstance T.n_bool (by decide +kernel)))) (dw_or1 (db_cmp op_ne simR_ne (de_ix (de_var 7) de_int) (de_cmp op_isN simR_isN (de_ix (de_var 7) de_int) de_non)))).db (dss_one (ds_ret de_bl)) dss_nil)
      (dss_cons (ds_if (dw_and (db_cmp op_notN simR_notN (de_ix (de_var 7) de_int) de_non) (dw_and1 (dw_or (db_cmp op_isN simR_isN (de_ix (de_var 7) de_int) de_non) (dw_or1 (db_cmp op_gt simR_B (de_ix (de_var 7) de_int) (de_ix (de_var 7) de_int)))).db)).db (dss_one (ds_ret de_bl)) dss_nil)
      (dss_cons (ds_for (di_range (de_op op_add simR_I0 (de_call H__law_age (hr.mono (by decide)) (da_cons (de_var 2) (da_cons de_int da_nil))) de_int) T.n_range) (dg_name 8 sc_law.nd) (dss_cons (ds_asg (de_call H__law_beside (hr.mono (by decide)) (da_cons (de_var 2) (da_cons (de_ix (de_var 2) de_int) (da_cons (de_tup (da_cons de_int (da_cons de_int da_nil))) (da_cons de_int (da_cons (de_var 3) (da_cons (de_var 8) da_nil))))))) (dg_tup (n := 2) (dgs_cons (dg_name 9 sc_law.nd) (dgs_cons (dg_name 10 sc_law.nd) dgs_nil))))
      (dss_cons (ds_asg (de_call H__law_beside (hr.mono (by decide)) (da_cons (de_var 2) (da_cons (de_var 4) (da_cons (de_var 6) (da_cons (de_var 5) (da_cons (de_var 3) (da_cons (de_var 8) da_nil))))))) (dg_tup (n := 2) (dgs_cons (dg_name 11 sc_law.nd) (dgs_cons (dg_name 12 sc_law.nd) dgs_nil))))
      (dss_cons (ds_par 13 14 (da_cons (de_cmp (op_neD hr.units) simR_neL (de_lc (own := [("_law_one", 15)]) (di_list (de_var 12)) sc_law.nd (blkOk_by (N := N_law) (sc := defScope s_law) (by decide +kernel)) (fun _ _ _ _ _ => (dgo_name 15 sc_law.nd)) (fun _ _ _ _ _ => (dts_one (db_cmp (op_inD (u65 hr)) simR_inL (de_var 15) (de_var 10)))) (fun _ _ _ _ _ => (de_var 15))) (de_lst da_nil)) (da_cons (de_cmp (op_neD hr.units) simR_neL (de_lc (own := [("_law_spot", 16)]) (di_list (de_var 11)) sc_law.nd (blkOk_by (N := N_law) (sc := defScope s_law) (by decide +kernel)) (fun _ _ _ _ _ => (dgo_name 16 sc_law.nd)) (fun _ _ _ _ _ => (dts_one (db_cmp (op_inD (u65 hr)) simR_inL (de_var 16) (de_var 9)))) (fun _ _ _ _ _ => (de_var 16))) (de_lst da_nil)) da_nil)) sc_law.nd)
      (dss_cons (ds_if (dw_or (dw_and (db_cmp op_isN simR_isN (de_ix (de_var 7) de_int) de_non) (dw_and1 (db_val (de_var 13)))).db (dw_or1 (dw_and (db_cmp op_notN simR_notN (de_ix (de_var 7) de_int) de_non) (dw_and (db_cmp op_le simR_B (de_var 8) (de_ix (de_var 7) de_int)) (dw_and1 (db_cmp op_ne simR_ne (de_var 13) (de_cmp op_eq simR_eq (de_var 8) (de_ix (de_var 7) de_int)))))).db)).db (dss_one (ds_ret de_bl)) dss_nil)
      (dss_cons (ds_if (dw_and (db_cmp op_isN simR_isN (de_ix (de_var 7) de_int) de_non) (dw_and1 (db_val (de_var 14)))).db (dss_one (ds_ret de_bl)) dss_nil)
      (dss_one (ds_if (dw_and (db_cmp op_notN simR_notN (de_ix (de_var 7) de_int) de_non) (dw_and (db_cmp op_le simR_B (de_var 8) (de_ix (de_var 7) de_int)) (dw_and1 (db_cmp op_ne simR_ne (de_var 14) (de_cmp op_eq simR_eq (de_var 8) (de_ix (de_var 7) de_int)))))).db (dss_one (ds_ret de_bl)) dss_nil))))))))
      (dss_one (ds_ret de_bl)))))))))))), ?_⟩)
  rintro ds g Q ⟨cs, rfl, q⟩
  have sz : sizeLine = 16777216 := sizeLine_eq
  refine ⟨_, rfl, fun r hr => ?_⟩
  have ok0 : RowOk [.fz (cs.map D.int), .int 0, .int 11311, .int 0] := ⟨cs, 0, 11311, 0, rfl, by decide, by decide, by decide⟩
  have nr : ∀ {a o}, g a = some o → a ≠ r := fun h => gne h hr
  refine ⟨_, rfl, r, _, rfl, gup_same, ok0, fun b mx my cm g1 G0 e1 => ?_⟩
  refine ⟨_, rfl, rfl, _, _, rfl, _, _, rfl, rfl, ?_⟩
  refine ⟨_, rfl, _, rfl, b, mx, my, cm + 3, rfl, farL G0, fun f0 wd0 hw hin h2 hfar g2 x2 => ?_⟩
  have e2 := e1.gx x2
  refine ⟨_, rfl, _, rfl, iteB (fun hc => q g2 (e2.gx0 hr)) (fun hc => ?_)⟩
  have h110 : (f0 : Int) * f0 ≤ 110 := by
    have := of_decide_eq_false hc
    omega
  -- the other word
  refine ⟨_, rfl, _, rfl, _, rfl, _, _, rfl, rfl, _, rfl, fun T hT => ?_⟩
  obtain ⟨l2, r2, ok2⟩ := e2.2
  refine ⟨r, l2, T, _, rfl, (gup_ne (gne r2 hT)).trans r2, ok2, gup_same, ⟨by show 1 ≤ 3; decide, by show 3 ≤ 1000; decide, gne' r2 hT⟩, fun x l3 hx ok3 => ?_⟩
  have hv : ∃ v, x = dW v ∧ OthQ b.ws.length v := by
    rcases List.mem_cons.mp hx with rfl | hx
    · exact ⟨[.L 0], rfl, oth1 G0.n1⟩
    rcases List.mem_cons.mp hx with rfl | hx
    · exact ⟨[.L 0, .tl, .L 0], rfl, oth2 G0.n1⟩
    rcases List.mem_cons.mp hx with rfl | hx
    · have n1 := G0.n1
      refine ⟨[.L (b.ws.length - 1)], ?_, oth1 (by omega)⟩
      show D.tup [D.int (((b.ws.map dW).length : Int) - 1)] = D.tup [D.int ((b.ws.length - 1 : Nat) : Int)]
      rw [List.length_map, show ((b.ws.length - 1 : Nat) : Int) = (b.ws.length : Int) - 1 by omega]
    cases hx
  obtain ⟨v, rfl, O⟩ := hv
  have e3 : GR1 r (gup g r (.lst [.fz (cs.map D.int), .int 0, .int 11311, .int 0])) (gup (gup g2 T (.lst [D.tup [D.int 0], D.tup [D.int 0, D.str "+", D.int 0], D.tup [D.int (((b.ws.map dW).length : Int) - 1)]])) r (.lst l3)) := e2.trans (GR1.pick r2 hT ok3)
  have r3 : (gup (gup g2 T (.lst [D.tup [D.int 0], D.tup [D.int 0, D.str "+", D.int 0], D.tup [D.int (((b.ws.map dW).length : Int) - 1)]])) r (.lst l3)) r = some (.lst l3) := gup_same
  generalize gup (gup g2 T _) r (.lst l3) = g3 at e3 r3 ⊢
  -- heading, place
  refine ⟨_, rfl, r, l3, 4, rfl, r3, ok3, ⟨by decide, by decide⟩, fun k l4 k0 k4 ok4 => ⟨_, _, rfl, ?_⟩⟩
  refine ⟨_, rfl, r, l4, 7, rfl, gup_same, ok4, ⟨by decide, by decide⟩, fun u1 l5 u10 u17 ok5 => ⟨_, rfl, ?_⟩⟩
  refine ⟨_, rfl, r, l5, 7, rfl, gup_same, ok5, ⟨by decide, by decide⟩, fun u2 l6 u20 u27 ok6 => ⟨_, rfl, ?_⟩⟩
  rw [gup_gup, gup_gup]
  have e4 : GR1 r (gup g r (.lst [.fz (cs.map D.int), .int 0, .int 11311, .int 0])) (gup g3 r (.lst l6)) := e3.trans (GR1.row ok6)
  have x4 := e4.gx0 hr
  generalize gup g3 r (.lst l6) = g4 at x4 ⊢
  have hp : Sm 3 (u1 - 3) (u2 - 3) := by
    unfold Sm
    omega
  generalize u1 - 3 = px at hp ⊢
  generalize u2 - 3 = py at hp ⊢
  obtain ⟨W, S⟩ := sideq G0 O (k := k) hp (by omega) hw hin h2 hfar h110
  have hh : ∀ f, FarOk (both b v) (mx * mx + my * my) W f → ∀ n p, NNf b v px py k mx my f n p → Hd p.t := fun f _ n p h => nn_hd n p h
  -- the three answers
  refine ⟨_, rfl, _, rfl, _, rfl, _, rfl, b, v, px, py, k, mx, my, W, rfl, S, hh, fun f r0 hf0 hr0 g5 x5 => ?_⟩
  refine ⟨_, rfl, _, rfl, _, rfl, _, rfl, b, v, px, py, k, mx, my, W, rfl, S, hh, fun f' r1 hf1 hr1 g6 x6 => fun A hA => ?_⟩
  refine ⟨_, rfl, _, rfl, _, rfl, _, rfl, _, rfl, b, v, px, py, k, mx, my, W, rfl, S, hh, fun f'' r2 hf2 hr2 g7 x7 => fun B hB => ?_⟩
  have hA7 := x7 _ _ (gup_same : gup g6 A (.lst [dO r0, dO r1]) A = some (.lst [dO r0, dO r1]))
  refine ⟨A, B, _, _, rfl, rfl, (gup_ne (gne hA7 hB)).trans hA7, gup_same, (by show 2 + 1 ≤ sizeLine; omega), fun C hC => ?_⟩
  have L0 := least_of (sh_iff G0 O hf0) hr0
  have L1 := least_of (to_iff G0 O hf1) hr1
  have e02 := least_uniq (least_of (sh_iff G0 O hf2) hr2) L0
  subst e02
  have imp : ∀ n, shB b v px py k mx my n = true → toB b v px py k mx my n = true := fun n h => sh_to G0 O hf0 n h
  have x8 : GX g (gup (gup g7 B (.lst [D.bl r2.isNone])) C (.lst ([dO r2, dO r1] ++ [D.bl r2.isNone]))) := (((((x4.trans x5).trans x6).trans (GX.new hA)).trans x7).trans (GX.new hB)).trans (GX.new hC)
  have h8 : gup (gup g7 B (.lst [D.bl r2.isNone])) C (.lst ([dO r2, dO r1] ++ [D.bl r2.isNone])) C = some (.lst [dO r2, dO r1, D.bl r2.isNone]) := gup_same
  generalize gup (gup g7 B (.lst [D.bl r2.isNone])) C _ = g8 at x8 h8 ⊢
  clear hr0 hr1 hr2 hf0 hf1 hf2 hh S
  -- the answers go together
  refine ⟨_, rfl, _, fIx_l h8 rfl, _, rfl, _, rfl, iteF' rfl ?_⟩
  refine ⟨_, rfl, _, fIx_l h8 rfl, _, rfl, _, fIx_l h8 rfl, rfl, _, rfl, _, rfl, iteF' (by rw [isN_dO]; simp) ?_⟩
  refine (fun (main : _) => ⟨_, rfl, _, fIx_l h8 rfl, rfl, _, rfl, iteB (fun hc => ?and) (fun hc => iteF main)⟩) ?main
  case and =>
    cases r2 with
    | none => cases hc
    | some a =>
      obtain ⟨c, rfl, hca⟩ := least_le imp L0 L1
      exact ⟨_, rfl, _, fIx_l h8 rfl, rfl, _, rfl, iteF' rfl ⟨_, rfl, _, fIx_l h8 rfl, _, rfl, _, fIx_l h8 rfl, _, rfl, _, rfl, iteF' (decide_eq_false (by omega)) main⟩⟩
  case main =>
    refine ⟨_, rfl, b, 200, rfl, G0.wds.lt, G0.so.lt, (fun n hn hk => len_age G0 hn hk), trivial, trivial, fun n hn hk g9 x9 => ⟨_, rfl, _, rfl, ⟨by omega, by omega⟩, ?_⟩⟩
    refine ⟨fun i Γ g' => ∃ y8 y9 y10 y11 y12 y13 y14 : Option D, Γ = [some (.fz (cs.map D.int)), some (.adr r), some (dB b), some (.tup [.int mx, .int my]), some (dW v), some (.int k), some (.tup [.int px, .int py]), some (.adr C), y8, y9, y10, y11, y12, y13, y14, none, none] ∧ GX g g' ∧ g' C = some (.lst [dO r2, dO r1, D.bl r2.isNone]),
      ⟨none, none, none, none, none, none, none, rfl, x8.trans x9, x9 _ _ h8⟩, fun _ _ _ _ _ => trivial, ?_, ?_⟩
    · rintro i x Γ g' hx ⟨y8, y9, y10, y11, y12, y13, y14, rfl, hg, hC'⟩
      obtain ⟨hi, rfl⟩ := rng_get.mp hx
      have hi : i ≤ n := by omega
      rw [Int.zero_add]
      have B1 := bes_own G0 hk hi
      have B2 := bes_oth G0 O hp hk hi
      -- both drawings at the age
      refine ⟨_, rfl, _, rfl, _, rfl, _, rfl, _, rfl, b, b.st, 0, 0, 0, mx, my, i, rfl, B1, fun p9 p10 g10 x10 h9 h10 => ?_⟩
      refine ⟨_, rfl, rfl, _, _, rfl, _, _, rfl, rfl, ?_⟩
      refine ⟨_, rfl, _, rfl, _, rfl, _, rfl, _, rfl, _, rfl, b, v, px, py, k, mx, my, i, rfl, B2, fun p11 p12 g11 x11 h11 h12 => ?_⟩
      refine ⟨_, rfl, rfl, _, _, rfl, _, _, rfl, rfl, ?_⟩
      have hg11 := (hg.trans x10).trans x11
      have hC11 := x11 _ _ (x10 _ _ hC')
      have h9 : g11 p9 = some (.lst (spotsOf b.ws b.st 0 0 0 mx my i)) := x11 _ _ h9
      have h10 : g11 p10 = some (.lst (lotsOf b.ws b.st 0 0 0 mx my i)) := x11 _ _ h10
      have h11 : g11 p11 = some (.lst (spotsOf b.ws v px py k mx my i)) := h11
      have h12 : g11 p12 = some (.lst (lotsOf b.ws v px py k mx my i)) := h12
      have e13 : (!eqbL ((lotsOf b.ws v px py k mx my i).filter fun d => (lotsOf b.ws b.st 0 0 0 mx my i).any fun y => eqb y d) []) = shB b v px py k mx my i := rfl
      have e14 : (!eqbL ((spotsOf b.ws v px py k mx my i).filter fun d => (spotsOf b.ws b.st 0 0 0 mx my i).any fun y => eqb y d) []) = toB b v px py k mx my i := rfl
      have z1 := lots_len (k := 0) B1
      have z2 := lots_len (k := k) B2
      have z3 := spots_len (k := 0) B1
      have z4 := spots_len (k := k) B2
      have d1 := lots_pd b.ws b.st 0 0 0 mx my i
      have d2 := lots_pd b.ws v px py k mx my i
      have d3 := spots_pd b.ws b.st 0 0 0 mx my i
      have d4 := spots_pd b.ws v px py k mx my i
      generalize lotsOf b.ws b.st 0 0 0 mx my i = ls1 at h10 e13 z1 d1
      generalize lotsOf b.ws v px py k mx my i = ls2 at h12 e13 z2 d2
      generalize spotsOf b.ws b.st 0 0 0 mx my i = ls3 at h9 e14 z3 d3
      generalize spotsOf b.ws v px py k mx my i = ls4 at h11 e14 z4 d4
      refine ⟨_, rfl, p12, ls2, rfl, h12, ?_⟩
      refine lc_pure (fun d => ls1.any fun y => eqb y d) id (by omega) (fun a acc ha => (gup_ne (gne h12 ha)).trans h12) (fun a j x acc N ha hx n1 n2 => ?_) (fun a ha => ?_)
      · exact ⟨_, rfl, _, rfl, p10, ls1, rfl, (gup_ne (gne h10 ha)).trans h10, d2 x (List.mem_of_getElem? hx), pdL_of d1, _, rfl, iteB (fun hc => ⟨_, rfl, lc_yes (n2 hc)⟩) (fun hc => n1 hc)⟩
      rw [List.map_id]
      intro u hu
      have hau : a ≠ u := gne gup_same hu
      refine ⟨a, u, _, _, rfl, rfl, (gup_ne hau).trans gup_same, gup_same, pdL_of fun d hd => d2 d (List.mem_filter.mp hd).1, rfl, ?_⟩
      rw [e13]
      have x12 : GX g11 (gup (gup g11 a (.lst (ls2.filter fun d => ls1.any fun y => eqb y d))) u (.lst [])) := (GX.new ha).trans (GX.new hu)
      generalize gup (gup g11 a (.lst (ls2.filter fun d => ls1.any fun y => eqb y d))) u (.lst []) = g12 at x12 ⊢
      have h11' := x12 _ _ h11
      have h9' := x12 _ _ h9
      refine ⟨_, rfl, p11, ls4, rfl, h11', ?_⟩
      refine lc_pure (fun d => ls3.any fun y => eqb y d) id (by omega) (fun a acc ha => (gup_ne (gne h11' ha)).trans h11') (fun a j x acc N ha hx n1 n2 => ?_) (fun a2 ha2 => ?_)
      · exact ⟨_, rfl, _, rfl, p9, ls3, rfl, (gup_ne (gne h9' ha)).trans h9', d4 x (List.mem_of_getElem? hx), pdL_of d3, _, rfl, iteB (fun hc => ⟨_, rfl, lc_yes (n2 hc)⟩) (fun hc => n1 hc)⟩
      rw [List.map_id]
      intro u2 hu2
      have hau2 : a2 ≠ u2 := gne gup_same hu2
      refine ⟨a2, u2, _, _, rfl, rfl, (gup_ne hau2).trans gup_same, gup_same, pdL_of fun d hd => d4 d (List.mem_filter.mp hd).1, rfl, ?_⟩
      rw [e14]
      have x13 : GX g12 (gup (gup g12 a2 (.lst (ls4.filter fun d => ls3.any fun y => eqb y d))) u2 (.lst [])) := (GX.new ha2).trans (GX.new hu2)
      generalize gup (gup g12 a2 (.lst (ls4.filter fun d => ls3.any fun y => eqb y d))) u2 (.lst []) = g13 at x13 ⊢
      have hC13 := x13 _ _ (x12 _ _ hC11)
      have hg13 := (hg11.trans x12).trans x13
      refine ⟨_, _, rfl, ?_⟩
      -- shared as told
      refine (fun (fin : _) => ⟨_, rfl, _, fIx_l hC13 rfl, rfl, _, rfl, iteB (fun hc => ?A) (fun hc => iteF ⟨_, rfl, _, fIx_l hC13 rfl, rfl, _, rfl, iteB (fun hd => ?B) (fun hd => iteF fin)⟩)⟩) ?fin
      case A =>
        cases r2 with
        | none => exact ⟨_, rfl, _, rfl, iteF' (L0 i) ⟨_, rfl, _, fIx_l hC13 rfl, rfl, _, rfl, iteF' rfl (iteF fin)⟩⟩
        | some a => cases hc
      case B =>
        cases r2 with
        | none => cases hc
        | some a =>
          refine ⟨_, rfl, _, rfl, _, fIx_l hC13 rfl, _, rfl, _, rfl, iteB (fun hle => ?_) (fun hle => iteF fin)⟩
          have hle' : (i : Int) ≤ (a : Nat) := of_decide_eq_true hle
          refine ⟨_, rfl, _, rfl, _, rfl, _, fIx_l hC13 rfl, _, rfl, _, rfl, _, rfl, iteF' ?_ fin⟩
          rw [least_at L0 (by omega)]
          simp
          omega
      case fin =>
        -- touched as told
        refine (fun (fin : _) => ⟨_, rfl, _, fIx_l hC13 rfl, rfl, _, rfl, iteB (fun hc => ?A) (fun hc => iteF fin)⟩) ?fin
        case A =>
          cases r1 with
          | none => exact ⟨_, rfl, _, rfl, iteF' (L1 i) fin⟩
          | some a => cases hc
        case fin =>
          refine (fun (fin : _) => ⟨_, rfl, _, fIx_l hC13 rfl, rfl, _, rfl, iteB (fun hc => ?A) (fun hc => iteF fin)⟩) ?fin
          case A =>
            cases r1 with
            | none => cases hc
            | some a =>
              refine ⟨_, rfl, _, rfl, _, fIx_l hC13 rfl, _, rfl, _, rfl, iteB (fun hle => ?_) (fun hle => iteF fin)⟩
              have hle' : (i : Int) ≤ (a : Nat) := of_decide_eq_true hle
              refine ⟨_, rfl, _, rfl, _, rfl, _, fIx_l hC13 rfl, _, rfl, _, rfl, _, rfl, iteF' ?_ fin⟩
              rw [least_at L1 (by omega)]
              simp
              omega
          case fin => exact ⟨_, _, _, _, _, _, _, rfl, hg13, hC13⟩
    · rintro Γ g' ⟨y8, y9, y10, y11, y12, y13, y14, rfl, hg, hC'⟩
      exact q g' hg
end
end SW
set_option Elab.async false
set_option linter.all false
set_option maxRecDepth 100000
set_option maxHeartbeats 0
namespace SW
open PySem PySem.Spec PyProof.Rows L2 DL
/-! the joining -/
section
variable {K : PySem.W.Frag} {h : Heap} {mg : Str → Option Value}
theorem gInt (X : K.In h) (G : h.Ns mainGlobals mg) {x : Str} {i : Int} (c : (He.Fa.int x i).ok K = true) : GlobD K mg x (.int i) := by
  obtain ⟨t, e⟩ := He.int_ok X G c
  exact ⟨.int i, _, e, He.relB_ok (decide_eq_true rfl), fun _ => rfl⟩
theorem gStr (X : K.In h) (G : h.Ns mainGlobals mg) {x z : Str} (c : (He.Fa.str x z).ok K = true) : GlobD K mg x (.str z) := by
  obtain ⟨t, e⟩ := He.str_ok X G c
  exact ⟨.str z, _, e, He.relB_ok (decide_eq_true rfl), fun _ => rfl⟩
theorem gHead (X : K.In h) (G : h.Ns mainGlobals mg) (c : (He.Fa.glo "HEADINGS").ok K = true) (e : hEx K = true) : GlobD K mg "HEADINGS" (.tup [.tup [.int 1, .int 0], .tup [.int 0, .int 1], .tup [.int (-1), .int 0], .tup [.int 0, .int (-1)]]) := by
  unfold hEx at e
  simp only [Bool.and_eq_true] at e
  obtain ⟨e0, e1, e2, e3, e4⟩ := e
  refine ⟨.ref (He.ga K "HEADINGS"), _, He.glo_ok X G c, He.relB_ok (decide_eq_true rfl), fun H => ⟨_, _, rfl, tupHere_ok e0 H, ?_⟩⟩
  have two : ∀ {a : Addr} {i j : Int}, tupHere K a [.int i, .int j] = true → Im K H (.tup [.int i, .int j]) (.ref a) := fun q => ⟨_, _, rfl, tupHere_ok q H, _, _, rfl, rfl, _, _, rfl, rfl, rfl⟩
  exact ⟨_, _, rfl, two e1, _, _, rfl, two e2, _, _, rfl, two e3, _, _, rfl, two e4, rfl⟩
theorem hTxt (X : K.In h) (G : h.Ns mainGlobals mg) (c : He.SaysD hFa hFn K) (e : hEx K = true) : Txt K mg where
  gMOST_LETTERS := gInt X G (c.fact 62 (f := .int "MOST_LETTERS" 8) rfl)
  gMOST_WORD := gInt X G (c.fact 63 (f := .int "MOST_WORD" 40) rfl)
  gMOST_PAIRS := gInt X G (c.fact 64 (f := .int "MOST_PAIRS" 20000) rfl)
  gLEFT := gStr X G (c.fact 65 (f := .str "LEFT" "+") rfl)
  gRIGHT := gStr X G (c.fact 66 (f := .str "RIGHT" "-") rfl)
  gOUT := gStr X G (c.fact 67 (f := .str "OUT" "[") rfl)
  gBACK := gStr X G (c.fact 68 (f := .str "BACK" "]") rfl)
  gHEADINGS := gHead X G (c.fact 61 (f := .glo "HEADINGS") rfl) e
  n_isinstance := He.free_ok X G (c.fact 69 (f := .free "isinstance") rfl)
  n_int := He.free_ok X G (c.fact 70 (f := .free "int") rfl)
  n_bool := He.free_ok X G (c.fact 71 (f := .free "bool") rfl)
  n_str := He.free_ok X G (c.fact 72 (f := .free "str") rfl)
  n_tuple := He.free_ok X G (c.fact 73 (f := .free "tuple") rfl)
  n_len := He.free_ok X G (c.fact 74 (f := .free "len") rfl)
  n_range := He.free_ok X G (c.fact 75 (f := .free "range") rfl)
  n_enumerate := He.free_ok X G (c.fact 76 (f := .free "enumerate") rfl)
  n_list := He.free_ok X G (c.fact 77 (f := .free "list") rfl)
  n_sorted := He.free_ok X G (c.fact 78 (f := .free "sorted") rfl)
  n_set := He.free_ok X G (c.fact 79 (f := .free "set") rfl)
  n_max := He.free_ok X G (c.fact 80 (f := .free "max") rfl)
  n_min := He.free_ok X G (c.fact 81 (f := .free "min") rfl)
  n_abs := He.free_ok X G (c.fact 82 (f := .free "abs") rfl)
  cPen := He.cls_ok (c.fact 50 (f := .cls "Pen") rfl)
  cSum := He.cls_ok (c.fact 53 (f := .cls "Sum") rfl)
  cAges := He.cls_ok (c.fact 56 (f := .cls "Ages") rfl)
  cWeb := He.cls_ok (c.fact 59 (f := .cls "Web") rfl)
  aPen_place := He.noat_ok (c.fact 83 (f := .noat "Pen" "place") rfl)
  aPen_heading := He.noat_ok (c.fact 84 (f := .noat "Pen" "heading") rfl)
  aPen_stands := He.noat_ok (c.fact 85 (f := .noat "Pen" "stands") rfl)
  aSum_many := He.noat_ok (c.fact 86 (f := .noat "Sum" "many") rfl)
  aSum_end := He.noat_ok (c.fact 87 (f := .noat "Sum" "end") rfl)
  aSum_turns := He.noat_ok (c.fact 88 (f := .noat "Sum" "turns") rfl)
  aSum_ways := He.noat_ok (c.fact 89 (f := .noat "Sum" "ways") rfl)
  aSum_area := He.noat_ok (c.fact 90 (f := .noat "Sum" "area") rfl)
  aAges_book := He.noat_ok (c.fact 91 (f := .noat "Ages" "book") rfl)
  aAges_rows := He.noat_ok (c.fact 92 (f := .noat "Ages" "rows") rfl)
  aWeb_book := He.noat_ok (c.fact 93 (f := .noat "Web" "book") rfl)
  aWeb_move := He.noat_ok (c.fact 94 (f := .noat "Web" "move") rfl)
  aWeb_far := He.noat_ok (c.fact 95 (f := .noat "Web" "far") rfl)
  aWeb_words := He.noat_ok (c.fact 96 (f := .noat "Web" "words") rfl)
theorem hFacts {P : Program} {w : World} {f : Addr} (X : K.In h) (G : h.Ns mainGlobals mg) (hfa : mg ("law" : Str) = some (.ref f)) (c : He.SaysD hFa hFn K) (e : hEx K = true) :
    ∃ fd : FuncData, (∀ (s : Shared) (v : Value), BindsTo s fd ⟨[v], []⟩ [("_law_script", v)]) ∧ ∀ base : Heap, K.In base → base.Ns mainGlobals mg → FnOk P w K mg base CX0 14 f fd ["_law_script"] (FDp K φ_law) := by
  have T := hTxt X G c e
  obtain ⟨fd0, F0⟩ := c.def_ 0 (d := D_plus) rfl
  obtain ⟨fd1, F1⟩ := c.def_ 1 (d := D_times) rfl
  obtain ⟨fd2, F2⟩ := c.def_ 2 (d := D_size) rfl
  obtain ⟨fd3, F3⟩ := c.def_ 3 (d := D_turned) rfl
  obtain ⟨fd4, F4⟩ := c.def_ 4 (d := D_quarters) rfl
  obtain ⟨fd5, F5⟩ := c.def_ 5 (d := D_is_letter) rfl
  obtain ⟨fd6, F6⟩ := c.def_ 6 (d := D_is_in) rfl
  obtain ⟨fd7, F7⟩ := c.def_ 7 (d := D_far) rfl
  obtain ⟨fd8, F8⟩ := c.def_ 8 (d := D_pair_of) rfl
  obtain ⟨fd9, F9⟩ := c.def_ 9 (d := D_is_clash) rfl
  obtain ⟨fd10, F10⟩ := c.def_ 10 (d := D_least_root) rfl
  obtain ⟨fd11, F11⟩ := c.def_ 11 (d := D_need_number) rfl
  obtain ⟨fd12, F12⟩ := c.def_ 12 (d := D_need_place) rfl
  obtain ⟨fd13, F13⟩ := c.def_ 13 (d := D_Pen___init__) rfl
  obtain ⟨fd14, F14⟩ := c.def_ 14 (d := D_Pen_mark) rfl
  obtain ⟨fd15, F15⟩ := c.def_ 15 (d := D_Pen_go) rfl
  obtain ⟨fd16, F16⟩ := c.def_ 16 (d := D_are_branches) rfl
  obtain ⟨fd17, F17⟩ := c.def_ 17 (d := D_is_word) rfl
  obtain ⟨fd18, F18⟩ := c.def_ 18 (d := D_need_word) rfl
  obtain ⟨fd19, F19⟩ := c.def_ 19 (d := D_need_book) rfl
  obtain ⟨fd20, F20⟩ := c.def_ 20 (d := D_strokes_of) rfl
  obtain ⟨fd21, F21⟩ := c.def_ 21 (d := D_laid_at) rfl
  obtain ⟨fd22, F22⟩ := c.def_ 22 (d := D_letters_of) rfl
  obtain ⟨fd23, F23⟩ := c.def_ 23 (d := D_touches) rfl
  obtain ⟨fd24, F24⟩ := c.def_ 24 (d := D_Web_is_near) rfl
  obtain ⟨fd25, F25⟩ := c.def_ 25 (d := D_Web_laid) rfl
  obtain ⟨fd26, F26⟩ := c.def_ 26 (d := D_Web_children) rfl
  obtain ⟨fd27, F27⟩ := c.def_ 27 (d := D_letters_that_come) rfl
  obtain ⟨fd28, F28⟩ := c.def_ 28 (d := D_Web_grow) rfl
  obtain ⟨fd29, F29⟩ := c.def_ 29 (d := D_Sum___init__) rfl
  obtain ⟨fd30, F30⟩ := c.def_ 30 (d := D_nothing) rfl
  obtain ⟨fd31, F31⟩ := c.def_ 31 (d := D_Sum_then) rfl
  obtain ⟨fd32, F32⟩ := c.def_ 32 (d := D_Sum_turning) rfl
  obtain ⟨fd33, F33⟩ := c.def_ 33 (d := D_Sum_back_at) rfl
  obtain ⟨fd34, F34⟩ := c.def_ 34 (d := D_joined) rfl
  obtain ⟨fd35, F35⟩ := c.def_ 35 (d := D_Ages___init__) rfl
  obtain ⟨fd36, F36⟩ := c.def_ 36 (d := D_is_still) rfl
  obtain ⟨fd37, F37⟩ := c.def_ 37 (d := D_multiple_of) rfl
  obtain ⟨fd38, F38⟩ := c.def_ 38 (d := D_longer) rfl
  obtain ⟨fd39, F39⟩ := c.def_ 39 (d := D_far_enough) rfl
  obtain ⟨fd40, F40⟩ := c.def_ 40 (d := D_Web___init__) rfl
  obtain ⟨fd41, F41⟩ := c.def_ 41 (d := D_need_both) rfl
  obtain ⟨fd42, F42⟩ := c.def_ 42 (d := D_side_web) rfl
  obtain ⟨fd43, F43⟩ := c.def_ 43 (d := D_share_age) rfl
  obtain ⟨fd44, F44⟩ := c.def_ 44 (d := D_touch_age) rfl
  obtain ⟨fd45, F45⟩ := c.def_ 45 (d := D_never_share) rfl
  obtain ⟨fd46, F46⟩ := c.def_ 46 (d := D__law_taken) rfl
  obtain ⟨fd47, F47⟩ := c.def_ 47 (d := D__law_pick) rfl
  obtain ⟨fd48, F48⟩ := c.def_ 48 (d := D__law_unit) rfl
  obtain ⟨fd49, F49⟩ := c.def_ 49 (d := D__law_quarter) rfl
  obtain ⟨fd50, F50⟩ := c.def_ 50 (d := D__law_product) rfl
  obtain ⟨fd51, F51⟩ := c.def_ 51 (d := D__law_drawn) rfl
  obtain ⟨fd52, F52⟩ := c.def_ 52 (d := D__law_grown) rfl
  obtain ⟨fd53, F53⟩ := c.def_ 53 (d := D__law_age) rfl
  obtain ⟨fd54, F54⟩ := c.def_ 54 (d := D__law_farness) rfl
  obtain ⟨fd55, F55⟩ := c.def_ 55 (d := D__law_beside) rfl
  obtain ⟨fd56, F56⟩ := c.def_ 56 (d := D__law_branched) rfl
  obtain ⟨fd57, F57⟩ := c.def_ 57 (d := D__law_even_word) rfl
  obtain ⟨fd58, F58⟩ := c.def_ 58 (d := D__law_kit) rfl
  obtain ⟨fd59, F59⟩ := c.def_ 59 (d := D__law_even_book) rfl
  obtain ⟨fd60, F60⟩ := c.def_ 60 (d := D__law_some_even) rfl
  obtain ⟨fd61, F61⟩ := c.def_ 61 (d := D_law) rfl
  have eq := hfa.symm.trans (He.glo_ok X G (c.fact 48 (f := .glo "law") rfl))
  cases eq
  have b := FunD.bindsA (ps := P_law) F61 fun _ _ _ _ _ _ us hl => match us, hl with | [_], _ => rfl
  refine ⟨fd61, fun s v => b s [v] rfl, fun base _ _ => ?_⟩
  have H_plus := d_plus (P := P) (w := w) (base := base) T F0 (He.glo_ok X G (c.fact 0 (f := .glo "plus") rfl))
  have H_times := d_times (P := P) (w := w) (base := base) T F1 (He.glo_ok X G (c.fact 1 (f := .glo "times") rfl))
  have H_size := d_size (P := P) (w := w) (base := base) T F2 (He.glo_ok X G (c.fact 2 (f := .glo "size") rfl))
  have H_turned := d_turned (P := P) (w := w) (base := base) T F3 (He.glo_ok X G (c.fact 3 (f := .glo "turned") rfl))
  have H_quarters := d_quarters (P := P) (w := w) (base := base) T F4 (He.glo_ok X G (c.fact 4 (f := .glo "quarters") rfl))
  have H_is_letter := d_is_letter (P := P) (w := w) (base := base) T F5 (He.glo_ok X G (c.fact 5 (f := .glo "is_letter") rfl))
  have H_is_in := d_is_in (P := P) (w := w) (base := base) T F6 (He.glo_ok X G (c.fact 6 (f := .glo "is_in") rfl))
  have H_far := d_far (P := P) (w := w) (base := base) T F7 (He.glo_ok X G (c.fact 7 (f := .glo "far") rfl))
  have H_pair_of := d_pair_of (P := P) (w := w) (base := base) T F8 (He.glo_ok X G (c.fact 8 (f := .glo "pair_of") rfl)) H_turned
  have H_is_clash := d_is_clash (P := P) (w := w) (base := base) T F9 (He.glo_ok X G (c.fact 9 (f := .glo "is_clash") rfl))
  have H_least_root := d_least_root (P := P) (w := w) (base := base) T F10 (He.glo_ok X G (c.fact 10 (f := .glo "least_root") rfl))
  have H_need_number := d_need_number (P := P) (w := w) (base := base) T F11 (He.glo_ok X G (c.fact 11 (f := .glo "need_number") rfl)) H_is_in
  have H_need_place := d_need_place (P := P) (w := w) (base := base) T F12 (He.glo_ok X G (c.fact 12 (f := .glo "need_place") rfl)) H_far H_is_in
  have H_Pen___init__ := d_Pen___init__ (P := P) (w := w) (base := base) T F13 (He.glo_ok X G (c.fact 49 (f := .glo "Pen") rfl)) (He.mkr_ok (c.fact 51 (f := .mkr "Pen") rfl))
  have H_Pen_mark := d_Pen_mark (P := P) (w := w) (base := base) T F14 (He.meth_ok (c.fact 97 (f := .meth "Pen" "mark") rfl)) H_quarters
  have H_Pen_go := d_Pen_go (P := P) (w := w) (base := base) T F15 (He.meth_ok (c.fact 98 (f := .meth "Pen" "go") rfl)) H_plus H_turned
  have H_are_branches := d_are_branches (P := P) (w := w) (base := base) T F16 (He.glo_ok X G (c.fact 13 (f := .glo "are_branches") rfl)) H_is_letter
  have H_is_word := d_is_word (P := P) (w := w) (base := base) T F17 (He.glo_ok X G (c.fact 14 (f := .glo "is_word") rfl)) H_are_branches H_is_in H_is_letter
  have H_need_word := d_need_word (P := P) (w := w) (base := base) T F18 (He.glo_ok X G (c.fact 15 (f := .glo "need_word") rfl)) H_is_word
  have H_need_book := d_need_book (P := P) (w := w) (base := base) T F19 (He.glo_ok X G (c.fact 16 (f := .glo "need_book") rfl)) H_is_word
  have H_strokes_of := d_strokes_of (P := P) (w := w) (base := base) T F20 (He.glo_ok X G (c.fact 17 (f := .glo "strokes_of") rfl)) H_Pen___init__ H_Pen_go H_Pen_mark H_is_letter
  have H_laid_at := d_laid_at (P := P) (w := w) (base := base) T F21 (He.glo_ok X G (c.fact 18 (f := .glo "laid_at") rfl)) H_plus H_strokes_of H_turned
  have H_letters_of := d_letters_of (P := P) (w := w) (base := base) T F22 (He.glo_ok X G (c.fact 19 (f := .glo "letters_of") rfl))
  have H_touches := d_touches (P := P) (w := w) (base := base) T F23 (He.glo_ok X G (c.fact 20 (f := .glo "touches") rfl)) H_plus
  have H_Web_is_near := d_Web_is_near (P := P) (w := w) (base := base) T F24 (He.meth_ok (c.fact 99 (f := .meth "Web" "is_near") rfl)) H_size
  have H_Web_laid := d_Web_laid (P := P) (w := w) (base := base) T F25 (He.meth_ok (c.fact 100 (f := .meth "Web" "laid") rfl)) H_plus H_times H_turned
  have H_Web_children := d_Web_children (P := P) (w := w) (base := base) T F26 (He.meth_ok (c.fact 101 (f := .meth "Web" "children") rfl)) H_Web_is_near H_Web_laid H_pair_of
  have H_letters_that_come := d_letters_that_come (P := P) (w := w) (base := base) T F27 (He.glo_ok X G (c.fact 21 (f := .glo "letters_that_come") rfl)) H_is_letter
  have H_Web_grow := d_Web_grow (P := P) (w := w) (base := base) T F28 (He.meth_ok (c.fact 102 (f := .meth "Web" "grow") rfl)) H_Web_children H_letters_that_come
  have H_Sum___init__ := d_Sum___init__ (P := P) (w := w) (base := base) T F29 (He.glo_ok X G (c.fact 52 (f := .glo "Sum") rfl)) (He.mkr_ok (c.fact 54 (f := .mkr "Sum") rfl))
  have H_nothing := d_nothing (P := P) (w := w) (base := base) T F30 (He.glo_ok X G (c.fact 22 (f := .glo "nothing") rfl)) H_Sum___init__
  have H_Sum_then := d_Sum_then (P := P) (w := w) (base := base) T F31 (He.meth_ok (c.fact 103 (f := .meth "Sum" "then") rfl)) H_Sum___init__ H_plus H_turned
  have H_Sum_turning := d_Sum_turning (P := P) (w := w) (base := base) T F32 (He.meth_ok (c.fact 104 (f := .meth "Sum" "turning") rfl)) H_Sum___init__ H_quarters
  have H_Sum_back_at := d_Sum_back_at (P := P) (w := w) (base := base) T F33 (He.meth_ok (c.fact 105 (f := .meth "Sum" "back_at") rfl)) H_Sum___init__
  have H_joined := d_joined (P := P) (w := w) (base := base) T F34 (He.glo_ok X G (c.fact 23 (f := .glo "joined") rfl)) H_Sum_back_at H_Sum_then H_Sum_turning H_is_letter H_nothing
  have H_Ages___init__ := d_Ages___init__ (P := P) (w := w) (base := base) T F35 (He.glo_ok X G (c.fact 55 (f := .glo "Ages") rfl)) (He.mkr_ok (c.fact 57 (f := .mkr "Ages") rfl)) H_Sum___init__ H_joined
  have H_is_still := d_is_still (P := P) (w := w) (base := base) T F36 (He.glo_ok X G (c.fact 24 (f := .glo "is_still") rfl)) H_Ages___init__ H_letters_that_come
  have H_multiple_of := d_multiple_of (P := P) (w := w) (base := base) T F37 (He.glo_ok X G (c.fact 25 (f := .glo "multiple_of") rfl)) H_Ages___init__ H_is_still H_letters_that_come
  have H_longer := d_longer (P := P) (w := w) (base := base) T F38 (He.glo_ok X G (c.fact 26 (f := .glo "longer") rfl)) H_multiple_of H_size
  have H_far_enough := d_far_enough (P := P) (w := w) (base := base) T F39 (He.glo_ok X G (c.fact 27 (f := .glo "far_enough") rfl)) H_least_root H_letters_that_come H_plus H_size H_strokes_of
  have H_Web___init__ := d_Web___init__ (P := P) (w := w) (base := base) T F40 (He.glo_ok X G (c.fact 58 (f := .glo "Web") rfl)) (He.mkr_ok (c.fact 60 (f := .mkr "Web") rfl)) H_far_enough H_letters_that_come H_strokes_of
  have H_need_both := d_need_both (P := P) (w := w) (base := base) T F41 (He.glo_ok X G (c.fact 28 (f := .glo "need_both") rfl)) H_letters_of H_longer H_need_book H_need_number H_need_place H_need_word
  have H_side_web := d_side_web (P := P) (w := w) (base := base) T F42 (He.glo_ok X G (c.fact 29 (f := .glo "side_web") rfl)) H_Web___init__ H_Web_grow H_Web_is_near H_laid_at H_letters_of H_need_both H_pair_of H_strokes_of
  have H_share_age := d_share_age (P := P) (w := w) (base := base) T F43 (He.glo_ok X G (c.fact 30 (f := .glo "share_age") rfl)) H_is_clash H_side_web
  have H_touch_age := d_touch_age (P := P) (w := w) (base := base) T F44 (He.glo_ok X G (c.fact 31 (f := .glo "touch_age") rfl)) H_side_web H_touches
  have H_never_share := d_never_share (P := P) (w := w) (base := base) T F45 (He.glo_ok X G (c.fact 32 (f := .glo "never_share") rfl)) H_share_age
  have H__law_taken := d__law_taken (P := P) (w := w) (base := base) T F46 (He.glo_ok X G (c.fact 33 (f := .glo "_law_taken") rfl))
  have H__law_pick := d__law_pick (P := P) (w := w) (base := base) T F47 (He.glo_ok X G (c.fact 34 (f := .glo "_law_pick") rfl)) H__law_taken
  have H__law_unit := d__law_unit (P := P) (w := w) (base := base) T F48 (He.glo_ok X G (c.fact 35 (f := .glo "_law_unit") rfl))
  have H__law_quarter := d__law_quarter (P := P) (w := w) (base := base) T F49 (He.glo_ok X G (c.fact 36 (f := .glo "_law_quarter") rfl))
  have H__law_product := d__law_product (P := P) (w := w) (base := base) T F50 (He.glo_ok X G (c.fact 37 (f := .glo "_law_product") rfl))
  have H__law_drawn := d__law_drawn (P := P) (w := w) (base := base) T F51 (He.glo_ok X G (c.fact 38 (f := .glo "_law_drawn") rfl)) H__law_unit
  have H__law_grown := d__law_grown (P := P) (w := w) (base := base) T F52 (He.glo_ok X G (c.fact 39 (f := .glo "_law_grown") rfl))
  have H__law_age := d__law_age (P := P) (w := w) (base := base) T F53 (He.glo_ok X G (c.fact 40 (f := .glo "_law_age") rfl)) H__law_grown
  have H__law_farness := d__law_farness (P := P) (w := w) (base := base) T F54 (He.glo_ok X G (c.fact 41 (f := .glo "_law_farness") rfl)) H__law_drawn H__law_grown H__law_unit
  have H__law_beside := d__law_beside (P := P) (w := w) (base := base) T F55 (He.glo_ok X G (c.fact 42 (f := .glo "_law_beside") rfl)) H__law_drawn H__law_grown H__law_product H__law_quarter H__law_unit
  have H__law_branched := d__law_branched (P := P) (w := w) (base := base) T F56 (He.glo_ok X G (c.fact 43 (f := .glo "_law_branched") rfl)) H__law_pick H__law_taken
  have H__law_even_word := d__law_even_word (P := P) (w := w) (base := base) T F57 (He.glo_ok X G (c.fact 44 (f := .glo "_law_even_word") rfl)) H__law_taken
  have H__law_kit := d__law_kit (P := P) (w := w) (base := base) T F58 (He.glo_ok X G (c.fact 45 (f := .glo "_law_kit") rfl)) H__law_pick
  have H__law_even_book := d__law_even_book (P := P) (w := w) (base := base) T F59 (He.glo_ok X G (c.fact 46 (f := .glo "_law_even_book") rfl)) H__law_branched H__law_even_word H__law_pick H__law_taken
  have H__law_some_even := d__law_some_even (P := P) (w := w) (base := base) T F60 (He.glo_ok X G (c.fact 47 (f := .glo "_law_some_even") rfl)) H__law_drawn H__law_even_book H__law_kit H__law_pick
  exact d_law T F61 H__law_age H__law_beside H__law_farness H__law_pick H__law_some_even H__law_taken H_never_share H_share_age H_touch_age
end
theorem imInts (K : PySem.W.Frag) (H : Hp) : ∀ ns : List Int, ImL K H (ns.map D.int) (ns.map V.int)
  | [] => rfl
  | n :: r => ⟨.int n, r.map V.int, rfl, rfl, imInts K H r⟩
theorem law_end {K : PySem.W.Frag} (H : Hp) (a : Addr) (ns : List Int) (hO : Only H) (hS : SqL K H a (ns.map V.int)) : FDp K φ_law [.ref a] H (fun v _ => v = .bl true) fun _ _ _ => False := by
  have hF : SqF K H a (ns.map V.int) := by
    rcases hS with (hS | ⟨o, hS⟩) | hS
    · rcases hO a with n | ⟨o, xs, n⟩
      · rw [n] at hS
        cases hS
      · rw [n] at hS
        cases hS
    · exact .inl ⟨o, hS⟩
    · exact .inr hS
  refine ⟨[.fz (ns.map D.int)], fun _ => none, fun d _ => d = .bl true, ⟨.ref a, [], rfl, ⟨a, ns.map V.int, rfl, hF, imInts K H ns⟩, rfl⟩, (fun b o h => nomatch h), ⟨ns, rfl, fun _ _ => rfl⟩, fun d g' v H' _ i _ q => ?_⟩
  subst q
  exact i
end SW
open PySem PySem.W PySem.Calls PyProof.Rows
set_option Elab.async false
set_option maxRecDepth 100000 in
set_option maxHeartbeats 0 in
theorem PySem.Challenge.cw_strokeonce_k11_whole_sides_holds : PySem.Challenge.rw_strokeonce_k11_whole_sides.Holds := by
  w_on; o_law
  refine HandSHeadRun.head_any (r := OpenLaw.row PySem.Challenge.rw_strokeonce_k11_whole_sides) (q := view (OpenLaw.row PySem.Challenge.rw_strokeonce_k11_whole_sides).prog [75]) (H := SW.hHk) (ob := SW.hOb) (M := 6000) (loose := SW.hLoose) (d := HandSHeadRun.topDef (OpenLaw.row PySem.Challenge.rw_strokeonce_k11_whole_sides).prog 75) (kwd := []) SW.hOb_eq
    (by kernel_rfl) (fun s => by kernel_rfl) SW.hRun (by kernel_rfl) (by kernel_rfl) (by kernel_rfl) (by rfl) (by first | assumption | decide +kernel) (by decide +kernel) ⟨rfl, rfl, rfl, rfl, rfl, by decide +kernel⟩ ?hw ?hc
  case hw => w_witness2
  case hc =>
    refine L2.walk_ofE (l := PySem.Challenge.rw_strokeonce_k11_whole_sides) (n := 63) (k := 14) (x := "_law_script") (CX := L2.CX0) rfl (by decide) (by kernel_rfl) ⟨rfl, by decide, by decide⟩ ?F (fun _ _ _ _ z => z)
    intro w mg fa h Y G hmg0
    obtain ⟨K, KX, c, e⟩ := Y
    have hmg : mg ("law" : PySem.Str) = some (.ref fa) := by
      have e : (HandSHeadRun.topDef (OpenLaw.row PySem.Challenge.rw_strokeonce_k11_whole_sides).prog 75).name = ("law" : PySem.Str) := by kernel_rfl
      rw [← e]
      exact hmg0
    obtain ⟨fd, hb, hF⟩ := SW.hFacts (P := (PySem.Challenge.rw_strokeonce_k11_whole_sides).prog) (w := w) KX G hmg c e
    exact ⟨K, fd, _, KX, hb, fun H a ns hl hO hS => SW.law_end H a ns hO hS, hF⟩
