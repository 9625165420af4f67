import PyProof.Rows.All
import Wide.All
import OpenK.AllK
import Wide.FinOn
import HandS.ForMost
import HandS.ForExc
import HandS.Defaults
import HandS.HeadHook1
import HandS.HeadHook2
import HandS.Codes
import HandS.TupAny
import HandS.IsInst
import HandS.Walk
import HandS.Text
import HandS.StrMore
import HandS.HotCalls
import HandS.ExcValue
import KE.KWithOwn
import HandS.Lambda
import HandS.Nested
import HandS.ExcOwn
import HandS.TryMany
import HandS.ExcIs
import HandS.ExcField
import KE.KExcIs
import HandS.RaiseOp
import HandS.Star
import HandS.Dict
import HandS.Replace
import PyProof.Rows.IntOr
import PyProof.ReprLen
import HandS.Iter
import KE.GoesMore
import HandS.Style
import HandS.Comp
import HandS.ExcInit
import HandS.ExcSuper
import KE.KExcSuper
import KE.KSuper
import HandS.Property
import HandS.MakeKwOnly
import HandS.OwnEq
import HandS.Deep
import HandS.TupLe
import HandS.HeadHook4
import KE.KStateDown
import Lean
import HandS.Head0
import HandS.Head1
import HandS.Head2
import HandS.HeadEnd
import HandS.EndBits
import PySem.Challenge.RW_ownclosers_k90_whole_trials_and_copies
set_option Elab.async false
set_option linter.all false
set_option maxRecDepth 100000
set_option maxHeartbeats 4000000
/-! The text by its places, the slots of each def, its scope. -/
namespace Ob
open PySem PySem.Spec PyProof.Rows L2
abbrev St := L2.St
def top (i : Nat) : Stmt := PySem.Challenge.pw_ownclosers_k90_whole_trials_and_copies.main.body.getD i (.Pass ⟨0, 0, 0, 0⟩)
/-- the function object that stands at f -/
def fdAt (K : PySem.W.Frag) (f : Addr) : FuncData := match K.lookup f with
  | some ⟨_, _, .func fd, _⟩ => fd
  | _ => default
abbrev Fn (K : PySem.W.Frag) (at_ : Str × Option Str) (name qual : Str) (st : Stmt) (dvs : List V) (kws : List (Str × V)) : Prop :=
  FunD K name qual (defArgs st) (defBody st) (defScope st) dvs kws (He.fAd K at_) (fdAt K (He.fAd K at_))
abbrev s_BadText_init : Stmt := inClass (top 2) 0
abbrev N_BadText_init : List Str := ["self", "place"]
abbrev p_BadText_init : List Str := ["self", "place"]
abbrev s_BadPage_init : Stmt := inClass (top 3) 0
abbrev N_BadPage_init : List Str := ["self", "value"]
abbrev p_BadPage_init : List Str := ["self", "value"]
abbrev s_BadKeys_init : Stmt := inClass (top 4) 0
abbrev N_BadKeys_init : List Str := ["self", "place"]
abbrev p_BadKeys_init : List Str := ["self", "place"]
abbrev s_BadBook_init : Stmt := inClass (top 5) 0
abbrev N_BadBook_init : List Str := ["self", "place"]
abbrev p_BadBook_init : List Str := ["self", "place"]
abbrev s_BadManner_init : Stmt := inClass (top 6) 0
abbrev N_BadManner_init : List Str := ["self", "value"]
abbrev p_BadManner_init : List Str := ["self", "value"]
abbrev s_NotMeant_init : Stmt := inClass (top 7) 0
abbrev N_NotMeant_init : List Str := ["self", "place"]
abbrev p_NotMeant_init : List Str := ["self", "place"]
abbrev s_BadNumber_init : Stmt := inClass (top 8) 0
abbrev N_BadNumber_init : List Str := ["self", "value"]
abbrev p_BadNumber_init : List Str := ["self", "value"]
abbrev s_TooMany_init : Stmt := inClass (top 9) 0
abbrev N_TooMany_init : List Str := ["self", "most"]
abbrev p_TooMany_init : List Str := ["self", "most"]
abbrev s_need_book : Stmt := top 22
abbrev N_need_book : List Str := ["book", "place", "choice"]
abbrev p_need_book : List Str := ["book"]
theorem sc_need_book : FnScope N_need_book p_need_book (defScope s_need_book) := ⟨rfl, rfl, rfl, by decide +kernel, rfl, by decide +kernel, by decide +kernel⟩
abbrev s_need_text : Stmt := top 32
abbrev N_need_text : List Str := ["text", "place", "sign"]
abbrev p_need_text : List Str := ["text"]
theorem sc_need_text : FnScope N_need_text p_need_text (defScope s_need_text) := ⟨rfl, rfl, rfl, by decide +kernel, rfl, by decide +kernel, by decide +kernel⟩
abbrev s_is_sign : Stmt := top 33
abbrev N_is_sign : List Str := ["value"]
abbrev p_is_sign : List Str := ["value"]
theorem sc_is_sign : FnScope N_is_sign p_is_sign (defScope s_is_sign) := ⟨rfl, rfl, rfl, by decide +kernel, rfl, by decide +kernel, by decide +kernel⟩
abbrev s_closer_of : Stmt := top 34
abbrev N_closer_of : List Str := ["sign"]
abbrev p_closer_of : List Str := ["sign"]
theorem sc_closer_of : FnScope N_closer_of p_closer_of (defScope s_closer_of) := ⟨rfl, rfl, rfl, by decide +kernel, rfl, by decide +kernel, by decide +kernel⟩
abbrev s_is_letter : Stmt := top 35
abbrev N_is_letter : List Str := ["sign"]
abbrev p_is_letter : List Str := ["sign"]
theorem sc_is_letter : FnScope N_is_letter p_is_letter (defScope s_is_letter) := ⟨rfl, rfl, rfl, by decide +kernel, rfl, by decide +kernel, by decide +kernel⟩
abbrev s_is_closing : Stmt := top 36
abbrev N_is_closing : List Str := ["sign"]
abbrev p_is_closing : List Str := ["sign"]
theorem sc_is_closing : FnScope N_is_closing p_is_closing (defScope s_is_closing) := ⟨rfl, rfl, rfl, by decide +kernel, rfl, by decide +kernel, by decide +kernel⟩
abbrev s_is_free : Stmt := top 37
abbrev N_is_free : List Str := ["sign"]
abbrev p_is_free : List Str := ["sign"]
theorem sc_is_free : FnScope N_is_free p_is_free (defScope s_is_free) := ⟨rfl, rfl, rfl, by decide +kernel, rfl, by decide +kernel, by decide +kernel⟩
abbrev s_is_within : Stmt := top 38
abbrev N_is_within : List Str := ["left", "many"]
abbrev p_is_within : List Str := ["left"]
theorem sc_is_within : FnScope N_is_within p_is_within (defScope s_is_within) := ⟨rfl, rfl, rfl, by decide +kernel, rfl, by decide +kernel, by decide +kernel⟩
abbrev s_is_key : Stmt := top 44
abbrev N_is_key : List Str := ["value"]
abbrev p_is_key : List Str := ["value"]
theorem sc_is_key : FnScope N_is_key p_is_key (defScope s_is_key) := ⟨rfl, rfl, rfl, by decide +kernel, rfl, by decide +kernel, by decide +kernel⟩
abbrev s_need_keys : Stmt := top 45
abbrev N_need_keys : List Str := ["keys", "place", "key"]
abbrev p_need_keys : List Str := ["keys"]
theorem sc_need_keys : FnScope N_need_keys p_need_keys (defScope s_need_keys) := ⟨rfl, rfl, rfl, by decide +kernel, rfl, by decide +kernel, by decide +kernel⟩
abbrev s_Page_init : Stmt := inClass (top 46) 0
abbrev N_Page_init : List Str := ["self", "page", "place", "sign"]
abbrev p_Page_init : List Str := ["self", "page"]
theorem sc_Page_init : FnScope N_Page_init p_Page_init (defScope s_Page_init) := ⟨rfl, rfl, rfl, by decide +kernel, rfl, by decide +kernel, by decide +kernel⟩
abbrev s_Page_next_sign : Stmt := inClass (top 46) 1
abbrev N_Page_next_sign : List Str := ["self"]
abbrev p_Page_next_sign : List Str := ["self"]
theorem sc_Page_next_sign : FnScope N_Page_next_sign p_Page_next_sign (defScope s_Page_next_sign) := ⟨rfl, rfl, rfl, by decide +kernel, rfl, by decide +kernel, by decide +kernel⟩
abbrev s_Page_is_next_own : Stmt := inClass (top 46) 2
abbrev N_Page_is_next_own : List Str := ["self"]
abbrev p_Page_is_next_own : List Str := ["self"]
theorem sc_Page_is_next_own : FnScope N_Page_is_next_own p_Page_is_next_own (defScope s_Page_is_next_own) := ⟨rfl, rfl, rfl, by decide +kernel, rfl, by decide +kernel, by decide +kernel⟩
abbrev s_Page_go_over : Stmt := inClass (top 46) 3
abbrev N_Page_go_over : List Str := ["self"]
abbrev p_Page_go_over : List Str := ["self"]
theorem sc_Page_go_over : FnScope N_Page_go_over p_Page_go_over (defScope s_Page_go_over) := ⟨rfl, rfl, rfl, by decide +kernel, rfl, by decide +kernel, by decide +kernel⟩
abbrev s_Page_does_put : Stmt := inClass (top 46) 4
abbrev N_Page_does_put : List Str := ["self", "book", "sign", "before"]
abbrev p_Page_does_put : List Str := ["self", "book", "sign"]
theorem sc_Page_does_put : FnScope N_Page_does_put p_Page_does_put (defScope s_Page_does_put) := ⟨rfl, rfl, rfl, by decide +kernel, rfl, by decide +kernel, by decide +kernel⟩
abbrev s_Page_type_sign : Stmt := inClass (top 46) 5
abbrev N_Page_type_sign : List Str := ["self", "book", "sign", "does_match", "closer", "is_put", "other", "is_own"]
abbrev p_Page_type_sign : List Str := ["self", "book", "sign"]
theorem sc_Page_type_sign : FnScope N_Page_type_sign p_Page_type_sign (defScope s_Page_type_sign) := ⟨rfl, rfl, rfl, by decide +kernel, rfl, by decide +kernel, by decide +kernel⟩
abbrev s_Page_go_back : Stmt := inClass (top 46) 6
abbrev N_Page_go_back : List Str := ["self", "book", "closer", "does_match"]
abbrev p_Page_go_back : List Str := ["self", "book"]
theorem sc_Page_go_back : FnScope N_Page_go_back p_Page_go_back (defScope s_Page_go_back) := ⟨rfl, rfl, rfl, by decide +kernel, rfl, by decide +kernel, by decide +kernel⟩
abbrev s_Page_press : Stmt := inClass (top 46) 7
abbrev N_Page_press : List Str := ["self", "book", "key"]
abbrev p_Page_press : List Str := ["self", "book", "key"]
theorem sc_Page_press : FnScope N_Page_press p_Page_press (defScope s_Page_press) := ⟨rfl, rfl, rfl, by decide +kernel, rfl, by decide +kernel, by decide +kernel⟩
abbrev s_Page_right_text : Stmt := inClass (top 46) 8
abbrev N_Page_right_text : List Str := ["self", "sign", "is_own"]
abbrev p_Page_right_text : List Str := ["self"]
theorem sc_Page_right_text : FnScope N_Page_right_text p_Page_right_text (defScope s_Page_right_text) := ⟨rfl, rfl, rfl, by decide +kernel, rfl, by decide +kernel, by decide +kernel⟩
abbrev s_Page_told : Stmt := inClass (top 46) 9
abbrev N_Page_told : List Str := ["self", "owns", "place", "pair"]
abbrev p_Page_told : List Str := ["self"]
theorem sc_Page_told : FnScope N_Page_told p_Page_told (defScope s_Page_told) := ⟨rfl, rfl, rfl, by decide +kernel, rfl, by decide +kernel, by decide +kernel⟩
abbrev s_Trial_init : Stmt := inClass (top 48) 0
abbrev N_Trial_init : List Str := ["self", "editor"]
abbrev p_Trial_init : List Str := ["self", "editor"]
theorem sc_Trial_init : FnScope N_Trial_init p_Trial_init (defScope s_Trial_init) := ⟨rfl, rfl, rfl, by decide +kernel, rfl, by decide +kernel, by decide +kernel⟩
abbrev s_Trial_enter : Stmt := inClass (top 48) 1
abbrev N_Trial_enter : List Str := ["self"]
abbrev p_Trial_enter : List Str := ["self"]
theorem sc_Trial_enter : FnScope N_Trial_enter p_Trial_enter (defScope s_Trial_enter) := ⟨rfl, rfl, rfl, by decide +kernel, rfl, by decide +kernel, by decide +kernel⟩
abbrev s_Trial_exit : Stmt := inClass (top 48) 2
abbrev N_Trial_exit : List Str := ["self", "kind", "value", "trace"]
abbrev p_Trial_exit : List Str := ["self", "kind", "value", "trace"]
theorem sc_Trial_exit : FnScope N_Trial_exit p_Trial_exit (defScope s_Trial_exit) := ⟨rfl, rfl, rfl, by decide +kernel, rfl, by decide +kernel, by decide +kernel⟩
abbrev s_Editor_init : Stmt := inClass (top 49) 0
abbrev N_Editor_init : List Str := ["self", "book", "behind"]
abbrev p_Editor_init : List Str := ["self", "book", "behind"]
theorem sc_Editor_init : FnScope N_Editor_init p_Editor_init (defScope s_Editor_init) := ⟨rfl, rfl, rfl, by decide +kernel, rfl, by decide +kernel, by decide +kernel⟩
abbrev s_Editor_book : Stmt := inClass (top 49) 1
abbrev N_Editor_book : List Str := ["self"]
abbrev p_Editor_book : List Str := ["self"]
theorem sc_Editor_book : FnScope N_Editor_book p_Editor_book (defScope s_Editor_book) := ⟨rfl, rfl, rfl, by decide +kernel, rfl, by decide +kernel, by decide +kernel⟩
abbrev s_Editor_behind : Stmt := inClass (top 49) 2
abbrev N_Editor_behind : List Str := ["self"]
abbrev p_Editor_behind : List Str := ["self"]
theorem sc_Editor_behind : FnScope N_Editor_behind p_Editor_behind (defScope s_Editor_behind) := ⟨rfl, rfl, rfl, by decide +kernel, rfl, by decide +kernel, by decide +kernel⟩
abbrev s_Editor_page : Stmt := inClass (top 49) 3
abbrev N_Editor_page : List Str := ["self"]
abbrev p_Editor_page : List Str := ["self"]
theorem sc_Editor_page : FnScope N_Editor_page p_Editor_page (defScope s_Editor_page) := ⟨rfl, rfl, rfl, by decide +kernel, rfl, by decide +kernel, by decide +kernel⟩
abbrev s_Editor_row : Stmt := inClass (top 49) 4
abbrev N_Editor_row : List Str := ["self", "key", "page"]
abbrev p_Editor_row : List Str := ["self"]
theorem sc_Editor_row : FnScope N_Editor_row p_Editor_row (defScope s_Editor_row) := ⟨rfl, rfl, rfl, by decide +kernel, rfl, by decide +kernel, by decide +kernel⟩
abbrev s_Editor_page_at : Stmt := inClass (top 49) 5
abbrev N_Editor_page_at : List Str := ["self", "number"]
abbrev p_Editor_page_at : List Str := ["self", "number"]
theorem sc_Editor_page_at : FnScope N_Editor_page_at p_Editor_page_at (defScope s_Editor_page_at) := ⟨rfl, rfl, rfl, by decide +kernel, rfl, by decide +kernel, by decide +kernel⟩
abbrev s_Editor_harms : Stmt := inClass (top 49) 6
abbrev N_Editor_harms : List Str := ["self"]
abbrev p_Editor_harms : List Str := ["self"]
theorem sc_Editor_harms : FnScope N_Editor_harms p_Editor_harms (defScope s_Editor_harms) := ⟨rfl, rfl, rfl, by decide +kernel, rfl, by decide +kernel, by decide +kernel⟩
abbrev s_Editor_saved : Stmt := inClass (top 49) 7
abbrev N_Editor_saved : List Str := ["self"]
abbrev p_Editor_saved : List Str := ["self"]
theorem sc_Editor_saved : FnScope N_Editor_saved p_Editor_saved (defScope s_Editor_saved) := ⟨rfl, rfl, rfl, by decide +kernel, rfl, by decide +kernel, by decide +kernel⟩
abbrev s_Editor_len : Stmt := inClass (top 49) 8
abbrev N_Editor_len : List Str := ["self"]
abbrev p_Editor_len : List Str := ["self"]
theorem sc_Editor_len : FnScope N_Editor_len p_Editor_len (defScope s_Editor_len) := ⟨rfl, rfl, rfl, by decide +kernel, rfl, by decide +kernel, by decide +kernel⟩
abbrev s_Editor_eq : Stmt := inClass (top 49) 9
abbrev N_Editor_eq : List Str := ["self", "other"]
abbrev p_Editor_eq : List Str := ["self", "other"]
theorem sc_Editor_eq : FnScope N_Editor_eq p_Editor_eq (defScope s_Editor_eq) := ⟨rfl, rfl, rfl, by decide +kernel, rfl, by decide +kernel, by decide +kernel⟩
abbrev s_Editor_press : Stmt := inClass (top 49) 10
abbrev N_Editor_press : List Str := ["self", "key"]
abbrev p_Editor_press : List Str := ["self", "key"]
theorem sc_Editor_press : FnScope N_Editor_press p_Editor_press (defScope s_Editor_press) := ⟨rfl, rfl, rfl, by decide +kernel, rfl, by decide +kernel, by decide +kernel⟩
abbrev s_Editor_press_all : Stmt := inClass (top 49) 11
abbrev N_Editor_press_all : List Str := ["self", "keys", "worked", "fresh", "key"]
abbrev p_Editor_press_all : List Str := ["self", "keys"]
theorem sc_Editor_press_all : FnScope N_Editor_press_all p_Editor_press_all (defScope s_Editor_press_all) := ⟨rfl, rfl, rfl, by decide +kernel, rfl, by decide +kernel, by decide +kernel⟩
abbrev s_Editor_undo : Stmt := inClass (top 49) 12
abbrev N_Editor_undo : List Str := ["self"]
abbrev p_Editor_undo : List Str := ["self"]
theorem sc_Editor_undo : FnScope N_Editor_undo p_Editor_undo (defScope s_Editor_undo) := ⟨rfl, rfl, rfl, by decide +kernel, rfl, by decide +kernel, by decide +kernel⟩
abbrev s_Editor_redo : Stmt := inClass (top 49) 13
abbrev N_Editor_redo : List Str := ["self"]
abbrev p_Editor_redo : List Str := ["self"]
theorem sc_Editor_redo : FnScope N_Editor_redo p_Editor_redo (defScope s_Editor_redo) := ⟨rfl, rfl, rfl, by decide +kernel, rfl, by decide +kernel, by decide +kernel⟩
abbrev s_Editor_copy : Stmt := inClass (top 49) 14
abbrev N_Editor_copy : List Str := ["self", "found"]
abbrev p_Editor_copy : List Str := ["self"]
theorem sc_Editor_copy : FnScope N_Editor_copy p_Editor_copy (defScope s_Editor_copy) := ⟨rfl, rfl, rfl, by decide +kernel, rfl, by decide +kernel, by decide +kernel⟩
abbrev s_Editor_trial : Stmt := inClass (top 49) 15
abbrev N_Editor_trial : List Str := ["self"]
abbrev p_Editor_trial : List Str := ["self"]
theorem sc_Editor_trial : FnScope N_Editor_trial p_Editor_trial (defScope s_Editor_trial) := ⟨rfl, rfl, rfl, by decide +kernel, rfl, by decide +kernel, by decide +kernel⟩
abbrev s_under : Stmt := top 50
abbrev N_under : List Str := ["manager", "deed", "held"]
abbrev p_under : List Str := ["manager", "deed"]
theorem sc_under : FnScope N_under p_under (defScope s_under) := ⟨rfl, rfl, rfl, by decide +kernel, rfl, by decide +kernel, by decide +kernel⟩
abbrev s_law_mixed : Stmt := top 52
abbrev N_law_mixed : List Str := ["_law_cell", "_law_n", "_law_blend"]
abbrev p_law_mixed : List Str := ["_law_cell", "_law_n"]
theorem sc_law_mixed : FnScope N_law_mixed p_law_mixed (defScope s_law_mixed) := ⟨rfl, rfl, rfl, by decide +kernel, rfl, by decide +kernel, by decide +kernel⟩
abbrev s_law_folded : Stmt := top 53
abbrev N_law_folded : List Str := ["_law_script", "_law_found", "_law_n", "_law_cell"]
abbrev p_law_folded : List Str := ["_law_script"]
theorem sc_law_folded : FnScope N_law_folded p_law_folded (defScope s_law_folded) := ⟨rfl, rfl, rfl, by decide +kernel, rfl, by decide +kernel, by decide +kernel⟩
abbrev s_law_draw : Stmt := top 54
abbrev N_law_draw : List Str := ["_law_m", "_law_limit", "_law_n", "_law_lot", "_law_here", "_law_cell"]
abbrev p_law_draw : List Str := ["_law_m", "_law_limit"]
theorem sc_law_draw : FnScope N_law_draw p_law_draw (defScope s_law_draw) := ⟨rfl, rfl, rfl, by decide +kernel, rfl, by decide +kernel, by decide +kernel⟩
abbrev s_law_begun : Stmt := top 55
abbrev N_law_begun : List Str := ["_law_script", "_law_m", "_law_cell"]
abbrev p_law_begun : List Str := ["_law_script"]
theorem sc_law_begun : FnScope N_law_begun p_law_begun (defScope s_law_begun) := ⟨rfl, rfl, rfl, by decide +kernel, rfl, by decide +kernel, by decide +kernel⟩
abbrev s_law_like : Stmt := top 56
abbrev N_law_like : List Str := ["_law_answer", "_law_due"]
abbrev p_law_like : List Str := ["_law_answer", "_law_due"]
theorem sc_law_like : FnScope N_law_like p_law_like (defScope s_law_like) := ⟨rfl, rfl, rfl, by decide +kernel, rfl, by decide +kernel, by decide +kernel⟩
abbrev s_law_book : Stmt := top 57
abbrev N_law_book : List Str := ["_law_m", "_law_words", "_law_some"]
abbrev p_law_book : List Str := ["_law_m"]
theorem sc_law_book : FnScope N_law_book p_law_book (defScope s_law_book) := ⟨rfl, rfl, rfl, by decide +kernel, rfl, by decide +kernel, by decide +kernel⟩
abbrev s_law_signs : Stmt := top 58
abbrev N_law_signs : List Str := ["_law_m", "_law_most", "_law_k"]
abbrev p_law_signs : List Str := ["_law_m", "_law_most"]
theorem sc_law_signs : FnScope N_law_signs p_law_signs (defScope s_law_signs) := ⟨rfl, rfl, rfl, by decide +kernel, rfl, by decide +kernel, by decide +kernel⟩
abbrev s_law_closer : Stmt := top 59
abbrev N_law_closer : List Str := ["_law_sign"]
abbrev p_law_closer : List Str := ["_law_sign"]
theorem sc_law_closer : FnScope N_law_closer p_law_closer (defScope s_law_closer) := ⟨rfl, rfl, rfl, by decide +kernel, rfl, by decide +kernel, by decide +kernel⟩
abbrev s_law_puts : Stmt := top 60
abbrev N_law_puts : List Str := ["_law_book_here", "_law_left", "_law_sign", "_law_then", "_law_within_here", "_law_room", "_law_before", "_law_apart"]
abbrev p_law_puts : List Str := ["_law_book_here", "_law_left", "_law_sign", "_law_then"]
theorem sc_law_puts : FnScope N_law_puts p_law_puts (defScope s_law_puts) := ⟨rfl, rfl, rfl, by decide +kernel, rfl, by decide +kernel, by decide +kernel⟩
abbrev s_law_pressed : Stmt := top 61
abbrev N_law_pressed : List Str := ["_law_book_here", "_law_page_here", "_law_key", "_law_left", "_law_right", "_law_then", "_law_is_own", "_law_closer_here", "_law_both", "_law_over", "_law_sign", "_law_mine"]
abbrev p_law_pressed : List Str := ["_law_book_here", "_law_page_here", "_law_key"]
theorem sc_law_pressed : FnScope N_law_pressed p_law_pressed (defScope s_law_pressed) := ⟨rfl, rfl, rfl, by decide +kernel, rfl, by decide +kernel, by decide +kernel⟩
abbrev s_law_page : Stmt := top 62
abbrev N_law_page : List Str := ["_law_page_here", "_law_owns", "_law_k", "_law_pair", "_law_sign", "_law_mine"]
abbrev p_law_page : List Str := ["_law_page_here"]
theorem sc_law_page : FnScope N_law_page p_law_page (defScope s_law_page) := ⟨rfl, rfl, rfl, by decide +kernel, rfl, by decide +kernel, by decide +kernel⟩
abbrev s_law_on : Stmt := top 63
abbrev N_law_on : List Str := ["_law_tail", "_law_sign"]
abbrev p_law_on : List Str := ["_law_tail"]
theorem sc_law_on : FnScope N_law_on p_law_on (defScope s_law_on) := ⟨rfl, rfl, rfl, by decide +kernel, rfl, by decide +kernel, by decide +kernel⟩
abbrev s_law_said : Stmt := top 64
abbrev N_law_said : List Str := ["_law_call", "_law_told_so", "_law_error", "e", "_law_some", "_law_found", "_law_word", "_law_is_so"]
abbrev p_law_said : List Str := ["_law_call"]
theorem sc_law_said : FnScope N_law_said p_law_said (defScope s_law_said) := ⟨rfl, rfl, rfl, by decide +kernel, rfl, by decide +kernel, by decide +kernel⟩
abbrev s_law_own : Stmt := top 65
abbrev N_law_own : List Str := ["_law_book_here", "_law_tail"]
abbrev p_law_own : List Str := ["_law_book_here", "_law_tail"]
theorem sc_law_own : FnScope N_law_own p_law_own (defScope s_law_own) := ⟨rfl, rfl, rfl, by decide +kernel, rfl, by decide +kernel, by decide +kernel⟩
abbrev s_law_now : Stmt := top 66
abbrev N_law_now : List Str := ["_law_own_here"]
abbrev p_law_now : List Str := ["_law_own_here"]
theorem sc_law_now : FnScope N_law_now p_law_now (defScope s_law_now) := ⟨rfl, rfl, rfl, by decide +kernel, rfl, by decide +kernel, by decide +kernel⟩
abbrev s_law_keyed : Stmt := top 67
abbrev N_law_keyed : List Str := ["_law_own_here", "_law_keys_here", "_law_key"]
abbrev p_law_keyed : List Str := ["_law_own_here", "_law_keys_here"]
theorem sc_law_keyed : FnScope N_law_keyed p_law_keyed (defScope s_law_keyed) := ⟨rfl, rfl, rfl, by decide +kernel, rfl, by decide +kernel, by decide +kernel⟩
abbrev s_law_shift : Stmt := top 68
abbrev N_law_shift : List Str := ["_law_own_here", "_law_begin", "_law_goal"]
abbrev p_law_shift : List Str := ["_law_own_here", "_law_begin", "_law_goal"]
theorem sc_law_shift : FnScope N_law_shift p_law_shift (defScope s_law_shift) := ⟨rfl, rfl, rfl, by decide +kernel, rfl, by decide +kernel, by decide +kernel⟩
abbrev s_law_stands : Stmt := top 69
abbrev N_law_stands : List Str := ["_law_editor_so", "_law_own_here", "_law_page_here", "_law_keys_here", "_law_told_so", "_law_due", "_law_key", "_law_far"]
abbrev p_law_stands : List Str := ["_law_editor_so", "_law_own_here"]
theorem sc_law_stands : FnScope N_law_stands p_law_stands (defScope s_law_stands) := ⟨rfl, rfl, rfl, by decide +kernel, rfl, by decide +kernel, by decide +kernel⟩
abbrev s_law_keys : Stmt := top 70
abbrev N_law_keys : List Str := ["_law_m", "_law_most", "_law_some", "_law_k"]
abbrev p_law_keys : List Str := ["_law_m", "_law_most"]
theorem sc_law_keys : FnScope N_law_keys p_law_keys (defScope s_law_keys) := ⟨rfl, rfl, rfl, by decide +kernel, rfl, by decide +kernel, by decide +kernel⟩
abbrev s_law_step : Stmt := top 71
abbrev N_law_step : List Str := ["_law_m", "_law_editor_so", "_law_own_here", "_law_way", "_law_key", "_law_keys_here"]
abbrev p_law_step : List Str := ["_law_m", "_law_editor_so", "_law_own_here"]
theorem sc_law_step : FnScope N_law_step p_law_step (defScope s_law_step) := ⟨rfl, rfl, rfl, by decide +kernel, rfl, by decide +kernel, by decide +kernel⟩
abbrev s_law_within : Stmt := top 72
abbrev N_law_within : List Str := ["_law_m", "_law_editor_so", "_law_held", "_law_own_here", "_law_deep", "_law_far", "_law_k", "_law_way"]
abbrev p_law_within : List Str := ["_law_m", "_law_editor_so", "_law_held", "_law_own_here", "_law_deep"]
theorem sc_law_within : FnScope N_law_within p_law_within (defScope s_law_within) := ⟨rfl, rfl, rfl, by decide +kernel, rfl, by decide +kernel, by decide +kernel⟩
abbrev s_law_tried : Stmt := top 73
abbrev N_law_tried : List Str := ["_law_m", "_law_editor_so", "_law_own_here", "_law_deep", "_law_told_so"]
abbrev p_law_tried : List Str := ["_law_m", "_law_editor_so", "_law_own_here", "_law_deep"]
theorem sc_law_tried : FnScope N_law_tried p_law_tried (defScope s_law_tried) := ⟨rfl, rfl, rfl, by decide +kernel, rfl, by decide +kernel, by decide +kernel⟩
abbrev s_law_later_right : Stmt := top 74
abbrev N_law_later_right : List Str := ["_law_editor_so", "_law_own_here", "_law_due"]
abbrev p_law_later_right : List Str := ["_law_editor_so", "_law_own_here"]
theorem sc_law_later_right : FnScope N_law_later_right p_law_later_right (defScope s_law_later_right) := ⟨rfl, rfl, rfl, by decide +kernel, rfl, by decide +kernel, by decide +kernel⟩
abbrev s_law : Stmt := top 75
abbrev N_law : List Str := ["_law_script", "_law_m", "_law_turn", "_law_book_here", "_law_tail", "_law_own_here", "_law_editor_so", "_law_again", "_law_twin", "_law_far", "_law_calls", "_law_manager", "_law_told_so"]
abbrev p_law : List Str := ["_law_script"]
theorem sc_law : FnScope N_law p_law (defScope s_law) := ⟨rfl, rfl, rfl, by decide +kernel, rfl, by decide +kernel, by decide +kernel⟩
end Ob
/-! The mirror: pages, keys, what a key makes of a page; texts as lists of signs. -/
namespace Ob
open PySem
/-- a text of these signs -/
abbrev S (l : List Nat) : Str := ⟨l.toArray⟩
theorem S_len (l : List Nat) : (S l).length = l.length := by simp [S, Str.length]
theorem S_tl (l : List Nat) : TL.tl (S l) = l := rfl
theorem S_app (a b : List Nat) : S a ++ S b = S (a ++ b) := TL.ext_tl (by rw [TL.tl_append])
theorem S_inj {a b : List Nat} (h : S a = S b) : a = b := by
  have := congrArg TL.tl h
  simpa [S_tl] using this
theorem S_dec (a b : List Nat) : decide (S a = S b) = decide (a = b) := by
  by_cases h : a = b
  · subst h; simp
  · rw [decide_eq_false h, decide_eq_false fun q => h (S_inj q)]
/-! ### the last line, its quotes -/
def lastLine : List Nat → List Nat
  | [] => []
  | c :: r => if 47 ∈ r then lastLine r else if c = 47 then r else c :: r
theorem lastLine_cons (c : Nat) (r : List Nat) : lastLine (c :: r) = if 47 ∈ r then lastLine r else if c = 47 then r else c :: r := rfl
theorem lastLine_free : ∀ {l : List Nat}, 47 ∉ l → lastLine l = l
  | [], _ => rfl
  | c :: r, h => by
    have h1 : 47 ∉ r := fun q => h (List.mem_cons_of_mem _ q)
    have h2 : c ≠ 47 := fun q => h (by rw [q]; exact List.mem_cons_self)
    rw [lastLine_cons]
    rw [if_neg h1, if_neg h2]
theorem lastLine_app {suf : List Nat} (hs : 47 ∉ suf) : ∀ pre : List Nat, lastLine (pre ++ 47 :: suf) = suf
  | [] => by
    show lastLine (47 :: suf) = suf
    rw [lastLine_cons]
    rw [if_neg hs, if_pos rfl]
  | c :: r => by
    show lastLine (c :: (r ++ 47 :: suf)) = suf
    rw [lastLine_cons]
    rw [if_pos (by simp)]
    exact lastLine_app hs r
def quotes (l : List Nat) : Nat := (lastLine l).count 39
def within (l : List Nat) : Bool := quotes l % 2 == 1
theorem lastLine_len : ∀ l : List Nat, (lastLine l).length ≤ l.length
  | [] => Nat.le_refl _
  | c :: r => by
    rw [lastLine_cons]
    have ih := lastLine_len r
    split
    · exact Nat.le_trans ih (by simp)
    · split <;> simp
theorem count_at {l : List Nat} {c i : Nat} : StrLaws.At (S l) (S [c]) (S l).length i ↔ l[i]? = some c := by
  have h := StrLaws.subAt_one (S l) c i
  have e : (S l).cps.toList = l := rfl
  rw [e] at h
  exact h
theorem split_at : ∀ {l : List Nat} {i c : Nat}, l[i]? = some c → l = l.take i ++ c :: l.drop (i + 1) := by
  intro l i c h
  obtain ⟨hi, he⟩ := List.getElem?_eq_some_iff.mp h
  rw [← he, List.getElem_cons_drop, List.take_append_drop]
/-- the slice behind the last line end -/
theorem rfind_line (l : List Nat) : ∃ k : Nat, Txt.rfind (S l) (S [47]) + 1 = (k : Int) ∧ l.drop k = lastLine l ∧ k ≤ l.length := by
  rcases PyProof.Rows.rfind_whole (S l) (S [47]) with ⟨h1, h2⟩ | ⟨i, h1, h2, h3⟩
  · refine ⟨0, by rw [h1]; rfl, ?_, Nat.zero_le _⟩
    rw [lastLine_free, List.drop_zero]
    intro hm
    obtain ⟨i, hi⟩ := List.mem_iff_getElem?.mp hm
    exact h2 i (count_at.mpr hi)
  · have e := count_at.mp h2
    refine ⟨i + 1, by rw [h1]; omega, ?_, (List.getElem?_eq_some_iff.mp e).1⟩
    have hs : 47 ∉ l.drop (i + 1) := fun hm => by
      obtain ⟨j, hj⟩ := List.mem_iff_getElem?.mp hm
      rw [List.getElem?_drop] at hj
      exact h3 (i + 1 + j) (by omega) (count_at.mpr hj)
    have := lastLine_app hs (l.take i)
    rw [← split_at e] at this
    exact this.symm
theorem spl_last_line : ∀ (l acc : List Nat), (TL.spl [47] 0 acc l).getLast? = some (if 47 ∈ l then lastLine l else acc ++ l)
  | [], acc => by
    rw [TL.spl_nil]
    simp
  | c :: r, acc => by
    by_cases hc : c = 47
    · subst hc
      have hp : TL.pre [47] (47 :: r) = true := by simp [TL.pre]
      rw [TL.spl_hit hp, if_pos List.mem_cons_self]
      have ih := spl_last_line r []
      rw [List.getLast?_cons]
      show some ((TL.spl [47] 0 [] r).getLast?.getD acc) = _
      rw [ih]
      rw [lastLine_cons]
      by_cases hr : 47 ∈ r
      · rw [if_pos hr, if_pos hr]
        rfl
      · rw [if_neg hr, if_neg hr, if_pos rfl]
        simp
    · have hp : TL.pre [47] (c :: r) = false := TL.pre_of_head [] r hc
      rw [TL.spl_miss hp, spl_last_line r (acc ++ [c])]
      have hm : (47 ∈ c :: r) ↔ 47 ∈ r := by
        rw [List.mem_cons]
        exact ⟨fun h => h.elim (fun q => absurd q.symm hc) id, Or.inr⟩
      by_cases hr : 47 ∈ r
      · rw [if_pos hr, if_pos (hm.mpr hr)]
        rw [lastLine_cons]
        rw [if_pos hr]
      · rw [if_neg hr, if_neg (fun q => hr (hm.mp q))]
        simp
theorem split_line (l : List Nat) : ∃ z : Str, (Txt.split (S l) (S [47])).getLast? = some z ∧ z = S (lastLine l) := by
  have h := TL.split_spl (S l) (S [47]) (by simp [S_tl]) (TL.kind_ok (by decide +kernel))
  have h2 := spl_last_line l []
  have h3 : ((Txt.split (S l) (S [47])).map TL.tl).getLast? = some (lastLine l) := by
    rw [h]
    show (TL.spl [47] 0 [] l).getLast? = _
    rw [h2]
    by_cases hm : 47 ∈ l
    · rw [if_pos hm]
    · rw [if_neg hm, lastLine_free hm, List.nil_append]
  rw [List.getLast?_map] at h3
  cases e : (Txt.split (S l) (S [47])).getLast? with
  | none => rw [e] at h3; cases h3
  | some z =>
    rw [e] at h3
    exact ⟨z, rfl, TL.ext_tl (Option.some.inj h3)⟩
theorem cnt_count (c : Nat) : ∀ l : List Nat, PyProof.Rows.cnt c l = ((l.count c : Nat) : Int)
  | [] => rfl
  | a :: r => by
    rw [PyProof.Rows.cnt_cons, cnt_count c r, List.count_cons]
    by_cases h : a = c
    · simp [h]; omega
    · simp [h]
theorem count_line (l : List Nat) (c : Nat) : Txt.count (S l) (S [c]) = ((l.count c : Nat) : Int) :=
  (PyProof.Rows.count_is (S l) c).trans (cnt_count c l)

/-! ### keys, books, pages -/
abbrev Pg := List Nat × List (Nat × Bool)
inductive Ky where
  | sg (c : Nat) | back | right | fin
  deriving DecidableEq
def Ky.str : Ky → Str
  | .sg c => S [c]
  | .back => "back"
  | .right => "right"
  | .fin => "end"
/-- the signs -/
def sigs : List Nat := [40, 91, 41, 93, 39, 32, 47, 97, 98, 99, 100, 101, 102, 103, 104, 105, 106, 107, 108, 109, 110, 111, 112, 113, 114, 115, 116, 117, 118, 119, 120, 121, 122]
def lets : List Nat := [97, 98, 99, 100, 101, 102, 103, 104, 105, 106, 107, 108, 109, 110, 111, 112, 113, 114, 115, 116, 117, 118, 119, 120, 121, 122]
def Ky.ok : Ky → Prop
  | .sg c => c ∈ sigs
  | _ => True
structure Bk where
  b0 : Str
  b1 : Str
  b2 : Str
  b3 : Str
  b4 : Str
  b5 : Str
structure Bk.ok (b : Bk) : Prop where
  o0 : b.b0 ∈ (["always", "free", "never"] : List Str)
  o1 : b.b1 ∈ (["always", "apart", "never"] : List Str)
  o2 : b.b2 ∈ (["same", "none"] : List Str)
  o3 : b.b3 ∈ (["own", "any", "never"] : List Str)
  o4 : b.b4 ∈ (["own", "any", "one"] : List Str)
  o5 : b.b5 ∈ (["never", "line"] : List Str)
def isClosing (c : Nat) : Bool := decide (c ∈ [41, 93, 39])
def closerOf (c : Nat) : Option Nat := if c = 39 then some 39 else if c = 40 then some 41 else if c = 91 then some 93 else none
def isLetter (c : Nat) : Bool := decide (c ∈ lets)
def isFree : Option Nat → Bool
  | none => true
  | some c => decide (c ∈ [41, 93, 39, 32, 47])
def nxt (p : Pg) : Option Nat := p.2.head?.map (·.1)
def nxtOwn (p : Pg) : Bool := (p.2.head?.map (·.2)).getD false
def goOver : Pg → Pg
  | (l, []) => (l, [])
  | (l, q :: r) => (l ++ [q.1], r)
def doesPut (b : Bk) (p : Pg) (c : Nat) : Bool :=
  if (!decide (b.b2 = "same") && within p.1) = true then false
  else if c = 40 ∨ c = 91 then decide (b.b0 = "always") || (decide (b.b0 = "free") && isFree (nxt p))
  else if b.b1 = "apart" then isFree (nxt p) && (!((p.1.getLast?.map isLetter).getD false) && !decide (p.1.getLast? = some 39))
  else decide (b.b1 = "always")
def goesOver (b : Bk) (p : Pg) (c : Nat) : Bool :=
  isClosing c && decide (nxt p = some c) && (decide (b.b3 = "any") || (decide (b.b3 = "own") && nxtOwn p))
def put (b : Bk) (p : Pg) (c : Nat) : List (Nat × Bool) :=
  match closerOf c with
  | none => p.2
  | some d => if doesPut b p c = true then (d, true) :: p.2 else p.2
def forget (b : Bk) (c : Nat) (r : List (Nat × Bool)) : List (Nat × Bool) :=
  if c = 47 ∧ b.b5 = "line" then r.map (fun q => (q.1, false)) else r
def typeSign (b : Bk) (p : Pg) (c : Nat) : Pg :=
  if goesOver b p c = true then goOver p else (p.1 ++ [c], forget b c (put b p c))
def takesBoth (b : Bk) (p : Pg) (c : Nat) : Bool :=
  (match closerOf c with | none => false | some d => decide (nxt p = some d)) && (decide (b.b4 = "any") || (decide (b.b4 = "own") && nxtOwn p))
def goBack (b : Bk) (p : Pg) : Pg :=
  match p.1.getLast? with
  | none => p
  | some c => (p.1.dropLast, if takesBoth b p c = true then p.2.tail else p.2)
def goEnd (p : Pg) : Pg := (p.1 ++ (p.2.takeWhile (·.2)).map (·.1), p.2.dropWhile (·.2))
def press (b : Bk) (p : Pg) : Ky → Pg
  | .back => goBack b p
  | .right => goOver p
  | .fin => goEnd p
  | .sg c => typeSign b p c
def pgLen (p : Pg) : Nat := p.1.length + p.2.length
theorem goOver_len (p : Pg) : pgLen (goOver p) = pgLen p := by
  obtain ⟨l, r⟩ := p
  cases r with
  | nil => rfl
  | cons q r => simp [goOver, pgLen]; omega
theorem put_len (b : Bk) (p : Pg) (c : Nat) : (put b p c).length ≤ p.2.length + 1 := by
  unfold put
  split
  · omega
  · split <;> simp
theorem forget_len (b : Bk) (c : Nat) (r : List (Nat × Bool)) : (forget b c r).length = r.length := by
  unfold forget
  split <;> simp
theorem press_len (b : Bk) (p : Pg) (k : Ky) : pgLen (press b p k) ≤ pgLen p + 2 := by
  cases k with
  | back =>
    show pgLen (goBack b p) ≤ _
    unfold goBack
    split
    · omega
    · show p.1.dropLast.length + List.length (if _ then _ else _) ≤ _
      have h1 : p.1.dropLast.length ≤ p.1.length := by rw [List.length_dropLast]; omega
      unfold pgLen
      split
      · rw [List.length_tail]; omega
      · omega
  | right =>
    show pgLen (goOver p) ≤ _
    rw [goOver_len]; omega
  | fin =>
    show pgLen (goEnd p) ≤ _
    unfold goEnd pgLen
    have h : p.2.length = (p.2.takeWhile (·.2)).length + (p.2.dropWhile (·.2)).length := by
      rw [← List.length_append, List.takeWhile_append_dropWhile]
    simp only [List.length_append, List.length_map]
    omega
  | sg c =>
    show pgLen (typeSign b p c) ≤ _
    unfold typeSign
    split
    · rw [goOver_len]; omega
    · have := put_len b p c
      show (p.1 ++ [c]).length + (forget b c (put b p c)).length ≤ _
      rw [forget_len]
      unfold pgLen
      simp only [List.length_append, List.length_cons, List.length_nil]
      omega
end Ob
/-! Rules of my own: a def called while an exception is handled; a with statement out of which an exception flies. -/
namespace Ob
open PySem PySem.Spec PyProof.Rows L2 L2H
/-! ### a def called where an exception is handled: what it promises, by its body -/
structure FnV (P : Program) (w : World) (K : PySem.W.Frag) (mg : Str → Option Value) (base : Heap) (CX : CXT) (k : Nat) (f : Addr) (fd : FuncData) (ps : List Str) (sp : Sp) : Prop where
  len : ∀ vs H Q E, sp vs H Q E → vs.length = ps.length
  run : ∀ (A : Around) (outer : List Env) (s : Shared) (H : Hp) (args : Args) (us : List Value) (vs : List V) (Q : VK) (E : XK), RoomH k A → Env0 P w K mg base A outer s H → BindsTo s fd args (ps.zip us) → Vals vs us → sp vs H Q E →
    codeAny (model P w) A (.call (.ref f) args) (CR CX outer P w H s Q E) s
def cxV (CX : CXT) (P : Program) (w : World) (K : PySem.W.Frag) (mg : Str → Option Value) (base : Heap) (N : List Str) (qual : Str) (scope : Scope) (f : Addr) (cd : Value) (A : Around) (outer : List Env) (s : Shared) (H : Hp) (E : XK) : Cx :=
  { cxOf CX P w K mg base N qual scope f cd A outer s H E with calm := false }
theorem uncalm {X : Cx} {pins : List (Addr × Obj)} {σ : St} {H : Hp} {s : Shared} {A : Around} (I : Inv X pins σ H s) (hf : A.frames = X.A.frames) : Inv { X with calm := false, A := A } pins σ H s :=
  ⟨⟨I.ok.mod, I.ok.kind, I.ok.glob, I.ok.blt, I.ok.above, I.ok.inj, I.ok.has, I.ok.cab, fun z => Bool.noConfusion (show false = true from z), hf.trans I.ok.frames, I.ok.stk, I.ok.exf, I.ok.bs, I.ok.bsz, I.ok.noex, I.ok.exfs, I.ok.funs, I.ok.frf⟩,
    I.os, I.bare, I.base, I.loc, I.cell, I.free, I.freeC, I.pin, I.hok, I.len⟩
/-- a def is entered: its body runs from the frame of its arguments -/
theorem def_run {CX : CXT} {P : Program} {w : World} {K : PySem.W.Frag} {mg : Str → Option Value} {base : Heap} {f : Addr} {name qual : Str} {params : Arguments} {body : List Stmt} {scope : Scope} {dV kV doc pm cdv ct oc : Value} {an od : Option Addr} {osl : Array (Option Value)} {N ps : List Str} {A : Around} {outer : List Env} {s : Shared} {H : Hp} {args : Args}
    {us : List Value} {vs : List V} {Q : VK} {E : XK} {t : TS} (b : Bool) (lk : K.lookup f = some ⟨oc, od, .func (PySem.W.fnOf name qual params body scope dV kV doc pm an cdv ct), osl⟩) (hcd : PySem.W.codeIn K cdv qual = true) (S : FnScope N ps scope) (dep : A.depth < recursionLimit) (e0 : Env0 P w K mg base A outer s H)
    (bt : BindsTo s (PySem.W.fnOf name qual params body scope dV kV doc pm an cdv ct) args (ps.zip us))
    (ini : ∀ s1, InCallC s s.heap.objs.size (bindL (envOfC qual scope s.heap.objs.size f cdv).kindOf (ps.zip us) fun _ => none) (cellsFrom (s.heap.objs.size + 1) scope.names []) (bindC (envOfC qual scope s.heap.objs.size f cdv).kindOf (ps.zip us) fun _ => none) s1 → Inv { cxOf CX P w K mg base N qual scope f cdv A outer s H E with calm := b } [] (L2.start N vs) H s1)
    (tb : PSs { cxOf CX P w K mg base N qual scope f cdv A outer s H E with calm := b } body t) (go : t { nx := fun _ H' => Q .non H', rt := Q } (L2.start N vs) H) : codeAny (model P w) A (.call (.ref f) args) (CR CX outer P w H s Q E) s := by
  have old : ∀ c o, base.get? c = some o → s.heap.get? c = some o := fun c o z => (e0.bs c o z).1
  have kin := e0.mod.kin.keeps old
  refine codeAny_call_function dep (kin _ _ lk) rfl S.co S.gen rfl (PySem.W.codeRec_of kin hcd) (bt _ _ _ _ (wpAny_newFunctionEnv_cells S.kind (fun y hy => (S.par y.1 (List.of_mem_zip hy).1).elim .inl fun c => .inr ⟨c, PySem.W.cellsFrom_some _ _ _ (.inl c)⟩) fun env he s1 x => ?_))
  cases he
  refine ⟨(e0.mod.nolimit.keeps old).keeps x.toInCall.keep, codeAny_func (wpAny_mono (tb.run [] s1 _ H _ (ini s1 x) go) (fun fl s2 h => ?_) fun _ _ z => z)⟩
  match fl, h with
  | .ret _, h =>
    obtain ⟨v, _, H2, J, rv, q⟩ := h
    exact ⟨v, H2, J.os, J.bare, J.base, J.hok, rv, q⟩
  | .next, h =>
    obtain ⟨_, H2, J, q⟩ := h
    exact ⟨.non, H2, J.os, J.bare, J.base, J.hok, rfl, q⟩
  | .brk, h =>
    obtain ⟨_, _, _, q⟩ := h
    exact q.elim
  | .cont, h =>
    obtain ⟨_, _, _, q⟩ := h
    exact q.elim
theorem fnV_of {CX : CXT} {P : Program} {w : World} {K : PySem.W.Frag} {mg : Str → Option Value} {base : Heap} {k : Nat} {f : Addr} {name qual : Str} {params : Arguments} {body : List Stmt} {scope : Scope} {dV kV doc pm cdv ct oc : Value} {an od : Option Addr}
    {osl : Array (Option Value)} {N ps : List Str} {sp : Sp} (lk : K.lookup f = some ⟨oc, od, .func (PySem.W.fnOf name qual params body scope dV kV doc pm an cdv ct), osl⟩) (hcd : PySem.W.codeIn K cdv qual = true) (S : FnScope N ps scope)
    (len : ∀ vs H Q E, sp vs H Q E → vs.length = ps.length)
    (hbody : ∀ (A : Around) (outer : List Env) (s : Shared) (H : Hp) (vs : List V) (Q : VK) (E : XK), RoomH k (A.deeper (envOfC qual scope s.heap.objs.size f cdv)) → sp vs H Q E →
      ∃ t, PSs (cxV CX P w K mg base N qual scope f cdv A outer s H E) body t ∧ t { nx := fun _ H' => Q .non H', rt := Q } (L2.start N vs) H) :
    FnV P w K mg base CX (k + 1) f (PySem.W.fnOf name qual params body scope dV kV doc pm an cdv ct) ps sp := by
  refine ⟨len, fun A outer s H args us vs Q E hr e0 bt r hsp => ?_⟩
  obtain ⟨t, tb, go⟩ := hbody A outer s H vs Q E (hr.deeper _) hsp
  refine def_run false lk hcd S hr.depth e0 bt (fun s1 x => ?_) tb go
  have J := inv_start (CX := CX) (N := N) (qual := qual) (f := f) (cd := cdv) (E := E) (A := { A with handled := none }) S rfl ⟨e0.frames, e0.mod, e0.bs, e0.bsz, e0.funs, e0.frf, e0.hok, e0.bare⟩ (len _ _ _ _ hsp) r x
  exact ⟨⟨J.ok.mod, J.ok.kind, J.ok.glob, J.ok.blt, J.ok.above, J.ok.inj, J.ok.has, J.ok.cab, fun z => (by cases z), Around.frames_deeper e0.frames, J.ok.stk, J.ok.exf, J.ok.bs, J.ok.bsz, J.ok.noex, J.ok.exfs, J.ok.funs, J.ok.frf⟩, J.os, J.bare, J.base, J.loc, J.cell, J.free, J.freeC, J.pin, J.hok, J.len⟩
theorem FnV.mono {P : Program} {w : World} {K : PySem.W.Frag} {mg : Str → Option Value} {base : Heap} {CX : CXT} {j k : Nat} {f : Addr} {fd : FuncData} {ps : List Str} {sp : Sp} (F : FnV P w K mg base CX j f fd ps sp) (h : j ≤ k) :
    FnV P w K mg base CX k f fd ps sp := ⟨F.len, fun A outer s H args us vs Q E hr => F.run A outer s H args us vs Q E (hr.mono h)⟩
/-- what is promised there is promised where nothing is handled, too -/
theorem FnV.fnOk {P : Program} {w : World} {K : PySem.W.Frag} {mg : Str → Option Value} {base : Heap} {CX : CXT} {k : Nat} {f : Addr} {fd : FuncData} {ps : List Str} {sp : Sp} (F : FnV P w K mg base CX k f fd ps sp) : FnOk P w K mg base CX k f fd ps sp :=
  ⟨F.len, fun A outer s H args us vs Q E hr => F.run A outer s H args us vs Q E (roomH_of hr)⟩

/-! ### objects that are not ours are put out of sight -/
theorem Inv.drop {X : Cx} {pins pins' : List (Addr × Obj)} {σ σ' : St} {H H' : Hp} {s sI : Shared} (I : Inv X pins σ H s) (J : Inv X pins' σ' H' sI) (hp : pins' = pins) (ds : List Addr) (hd : ∀ d ∈ ds, sI.heap.get? d = none) (hH : ∀ d ∈ ds, H d = none) (hx : X.ex = []) :
    ∃ G : Heap, (∀ b, b ∉ ds → G.get? b = s.heap.get? b) ∧ (∀ b ∈ ds, G.get? b = none) ∧ Inv X pins σ H { s with heap := G } := by
  subst hp
  obtain ⟨G, g1, g2⟩ := restrict s.heap fun b => decide (b ∉ ds)
  have gk : ∀ b, b ∉ ds → G.get? b = s.heap.get? b := fun b hb => g1 b (decide_eq_true hb)
  have ga : ∀ b ∈ ds, G.get? b = none := fun b hb => g2 b (decide_eq_false fun z => z hb)
  have notIn : ∀ {b : Addr} {o : Obj}, sI.heap.get? b = some o → b ∉ ds := fun {b o} e hb => by
    rw [hd b hb] at e
    cases e
  have neT : ∀ {b : Addr} {u : HO}, H b = some u → b ∉ ds := fun {b u} e hb => by
    rw [hH b hb] at e
    cases e
  have nx : ∀ b, b ∉ X.ex := fun b z => by rw [hx] at z; cases z
  have n0 : ∀ {b : Addr} {o : Obj}, X.s_0.heap.get? b = some o → b ∉ ds := fun {b o} e => by
    obtain ⟨o', e'⟩ := J.base.there b o e (nx b)
    exact notIn e'
  have nL : X.env.locals ∉ ds := by
    obtain ⟨m, ⟨o, es, ep, ho, _⟩, _⟩ := J.loc
    exact notIn ho
  have nC : ∀ x c, X.env.cells.lookup x = some c → c ∉ ds := fun x c e => by
    obtain ⟨v, o, ho, _⟩ := J.cell x c e
    exact notIn ho
  have cellK : ∀ x c, X.env.cells.lookup x = some c → ∀ v, s.heap.IsCell c v → G.IsCell c v := fun x c e v ⟨o, ho, hd⟩ => ⟨o, (gk c (nC x c e)).trans ho, hd⟩
  refine ⟨G, gk, ga, ⟨I.ok, I.os, I.bare, ⟨fun b o e n hb hq => ?_, fun b o e n hb hq => ?_, I.base.free, fun b o e hq => ?_, I.base.tups, I.base.frzs, I.base.tbls⟩, ?_, fun x c e => ?_, I.free, I.freeC, fun p hp => ?_, fun b u e => ?_, I.len⟩⟩
  · exact (gk b (n0 e)).trans (I.base.keep b o e n hb hq)
  · obtain ⟨sl, q⟩ := I.base.slot b o e n hb hq
    exact ⟨sl, (gk b (n0 e)).trans q⟩
  · obtain ⟨o', q⟩ := I.base.there b o e hq
    exact ⟨o', (gk b (n0 e)).trans q⟩
  · obtain ⟨m, ⟨o, es, ep, ho, r⟩, hl⟩ := I.loc
    refine ⟨m, ⟨o, es, ep, (gk _ nL).trans ho, r⟩, fun i x v e1 e2 e3 => ?_⟩
    obtain ⟨u, r', l⟩ := hl i x v e1 e2 e3
    refine ⟨u, r', ?_⟩
    rcases l with l | ⟨k, c, ec, z⟩
    · exact .inl l
    · exact .inr ⟨k, c, ec, cellK x c ec _ z⟩
  · obtain ⟨v, z⟩ := I.cell x c e
    exact ⟨v, cellK x c e v z⟩
  · obtain ⟨e, n, ne, nf, d⟩ := I.pin p hp
    obtain ⟨e2, _⟩ := J.pin p hp
    exact ⟨(gk _ (notIn e2)).trans e, n, ne, nf, d⟩
  · exact (I.hok b u e).stay (fun c v hc q => (gk c (by
      rcases hc with z | z
      · rw [z]; exact neT e
      · exact neT z)).trans q) (fun _ q => q) fun _ _ q => q
end Ob
namespace Ob
open PySem PySem.Spec PyProof.Rows L2 L2H
/-- what a class must have to stand in a with statement -/
structure WithC (K : PySem.W.Frag) (C fe fx : Addr) : Prop where
  en : PySem.W.findIn K (.ref C) "__enter__" = some (some (.ref fe))
  enf : PySem.W.isFn K (.ref fe) = true
  ex : PySem.W.findIn K (.ref C) "__exit__" = some (some (.ref fx))
  exf : PySem.W.isFn K (.ref fx) = true
/-- behind the block the object's __exit__ with three None -/
def wOut (spX : Sp) (m : Addr) (H : Hp) (Q : Hp → Prop) : Prop := spX [.ref m, .non, .non, .non] H (fun v H' => v = .non ∧ Q H') E0
/-- .. with the exception -/
def wOutE (spX : Sp) (m : Addr) (cls : Value) (H : Hp) (Q : Hp → Prop) : Prop := ∃ kv, RelV kv cls ∧ ∀ (a : Addr) (t : V), H a = none → spX [.ref m, kv, .ref a, t] H (fun v H' => v = .non ∧ Q H') E0
def tWith (C : Addr) (spE spX : Sp) (i : Nat) (tc : TE) (tb : WX → TS) (Wout : WX) : TS := fun D σ H => tc σ H fun v H1 => ∃ m dx fs, v = .ref m ∧ H1 m = some (.ins C dx fs) ∧
  spE [.ref m] H1 (fun v2 H2 => tb (fun cls d σ3 H3 => wOutE spX m cls H3 fun H4 => Wout cls d σ3 H4)
    { nx := fun σ3 H3 => wOut spX m H3 fun H4 => D.nx σ3 H4, rt := fun r H3 => wOut spX m H3 fun H4 => D.rt r H4, bk := fun σ3 H3 => wOut spX m H3 fun H4 => D.bk σ3 H4, ct := fun σ3 H3 => wOut spX m H3 fun H4 => D.ct σ3 H4 } (σ.set i (some v2)) H2) E0
theorem ObjOk.there {P : Program} {w : World} {H : Hp} {h : Heap} {a : Addr} {o : HO} (x : ObjOk P w H h a o) : ∃ u, h.get? a = some u := by
  cases o with
  | lst xs => obtain ⟨_, _, _, _, e⟩ := x; exact ⟨_, e⟩
  | tup xs => obtain ⟨_, _, _, _, e, _⟩ := x; exact ⟨_, e⟩
  | dK kvs => obtain ⟨_, _, _, _, o, _, _, e, _⟩ := x; exact ⟨_, e⟩
  | dT kvs => obtain ⟨_, _, _, _, o, _, _, e, _⟩ := x; exact ⟨_, e⟩
  | set S n => obtain ⟨o, _, _, _, e, _⟩ := x; exact ⟨_, e⟩
  | ins C dx fs => obtain ⟨_, _, _, e, _⟩ := x; exact ⟨_, e⟩
  | own y => obtain ⟨_, e⟩ := x; exact ⟨_, e⟩
  | xd fs => obtain ⟨_, ⟨_, _, _, e, _⟩, _⟩ := x; exact ⟨_, e⟩
  | rng lo hi => obtain ⟨_, _, _, e⟩ := x; exact ⟨_, e⟩
  | frz ob u => obtain ⟨e, _⟩ := x; exact ⟨_, e⟩
  | tbl ps => exact ⟨_, (show h.get? a = some _ from x)⟩
  | met f y => exact ⟨_, (show h.get? a = some _ from x)⟩
  | ext φ => obtain ⟨_, ⟨_, e⟩, _⟩ := x; exact ⟨_, e⟩
theorem wpAny_tracebackOf {M : Model} {A : Around} {E : Value → Shared → Prop} {s : Shared} {a T : Addr} {oe oT : Obj} {vs ts : Array Value} {x3 : Value} {Q : Value → Shared → Prop} (he : s.heap.get? a = some oe) (hd : oe.data = .fields vs) (h1 : vs[1]? = some (.ref T)) (hT : s.heap.get? T = some oT) (hdT : oT.data = .fields ts)
    (h3 : ts[3]? = some x3) (h : ∀ v u, RelV v u → Q u s) : wpAny M A (tracebackOf (.ref a)) Q E s := by
  have hsz : 1 < ts.size := by
    have := (Array.getElem?_eq_some_iff.mp h3).1
    omega
  unfold tracebackOf
  refine wpAny_bind (wpAny_field he hd h1 ?_)
  have h1' : ts[1]? = some ts[1] := Array.getElem?_eq_getElem hsz
  refine wpAny_bind (wpAny_field hT hdT h1' ?_)
  cases (ts[1] == Value.none) with
  | true => exact wpAny_pure (h .non .none rfl)
  | false => exact wpAny_pure (h (.ref T) (.ref T) rfl)
section
variable {X : Cx} {x : Str} {body : List Stmt} {b₀ : Stmt} {ctx : Expr} {y : Str} {py pos : Pos} {i kE kX : Nat} {C fe fx : Addr} {fdE fdX : FuncData} {psE psX : List Str} {spE spX : Sp} {tc : TE} {tb : WX → TS} {Wout : WX}
/-- __exit__ is called, nothing being handled -/
theorem exit_ok {pins : List (Addr × Obj)} {σ : St} {H : Hp} {s : Shared} {m : Addr} {E : Value → Shared → Prop} {R : Hp → Prop} {Q : Value → Shared → Prop} (FX : FnV X.prog X.w X.K X.mg X.base CX0 kX fx fdX psX spX) (bX : Binds X.K fdX psX []) (hr : Room kX X.A)
    (I : Inv X pins σ H s) (h : wOut spX m H R) (hq : ∀ s' H', Inv X pins σ H' s' → R H' → Q .none s') : wpAny (model X.prog X.w) X.A (call (.ref fx) [.ref m, .none, .none, .none]) Q E s := by
  have r : Vals [.ref m, .non, .non, .non] [.ref m, .none, .none, .none] := .cons rfl (.cons rfl (.cons rfl (.cons rfl .nil)))
  have hl : ([Value.ref m, .none, .none, .none] ++ ([] : List Value)).length = psX.length := by rw [List.append_nil, ← r.length]; exact FX.len _ _ _ _ h
  have b := bX s _ I.kIn hl
  rw [List.append_nil] at b
  refine wpAny_call (codeAny_mono (FX.run X.A X.stack s H _ _ _ _ _ (roomH_of hr) I.env0 b r h) fun q s' hq' => ?_)
  cases q with
  | error e => exact hq'.elim
  | ok fl =>
    cases fl with
    | ret u =>
      obtain ⟨v, H', J, rv, ev, q⟩ := I.after hq'
      subst ev
      cases rv
      exact hq s' H' J q
    | next => exact False.elim hq'
    | brk => exact False.elim hq'
    | cont => exact False.elim hq'
theorem ps_with (hs : X.stack = X.env :: X.outer) (hf : X.env.frame = some X.env.locals) (hex : X.ex = []) (hN : X.N.Nodup) (hi : X.N[i]? = some y) (hx : Loc X.env.scope y) (tk : Takes X Wout) (hctx : PE X ctx tc) (WC : WithC X.K C fe fx)
    (FE : FnOk X.prog X.w X.K X.mg X.base CX0 kE fe fdE psE spE) (bE : Binds X.K fdE psE []) (hrE : Room kE X.A) (FX : FnV X.prog X.w X.K X.mg X.base CX0 kX fx fdX psX spX) (bX : Binds X.K fdX psX []) (hrX : Room kX X.A)
    (hb : ∀ (W : WX) (pn : List (Addr × Obj)) (xe : Value → Shared → Prop), Takes (X.tr pn xe) W → PSs (X.tr pn xe) body (tb W))
    (hfn : X.fn y = true ∨ X.env.scope.names.lookup y = some .local := by first | exact .inl rfl | exact .inr rfl) :
    PS X (.With [⟨ctx, some (.Name y py)⟩] body pos) (tWith C spE spX i tc tb Wout) := by
  refine ⟨fun pins s σ H D I h => ?_⟩
  have ok := I.ok
  have hfr : X.A.frames = some (X.env :: X.outer) := by rw [ok.frames, hs]
  rw [arm_exec_With]
  refine wpAny_bind (wpAny_standAt ?_)
  rw [arm_withItems_cons, arm_withItems_nil]
  unfold withItem
  refine wpAny_bind (thn (hctx.run pins s σ H _ I h) fun u s1 ⟨v, H1, I1, r1, m, dx, fs, ev, em, hE⟩ => ?_)
  subst ev
  obtain rfl : u = Value.ref m := r1
  obtain ⟨mA, O, _⟩ := ins_get I1.hok em
  obtain ⟨od, IA, _⟩ := O.look
  obtain ⟨cd, hcd, ae⟩ := PySem.W.kw_along WC.en
  obtain ⟨cd', hcd', ax⟩ := PySem.W.kw_along WC.ex
  cases hcd.symm.trans hcd'
  obtain ⟨hh, g, dr, tt, os1⟩ := s1
  have L1 : PySem.W.Looks (model X.prog X.w) hh (specialOnItsLine (.ref m) "__enter__") (some (.ref fe), cd.mro) := PySem.W.kw_special I1.kIn IA hcd ae
  have L2' : PySem.W.Looks (model X.prog X.w) hh (specialOnItsLine (.ref m) "__exit__") (some (.ref fx), cd.mro) := PySem.W.kw_special I1.kIn IA hcd ax
  have L3 : PySem.W.Looks (model X.prog X.w) hh (bindSpecial (.ref fe) (.ref m)) (.ref fe, [.ref m]) := PySem.W.bind_fn I1.kIn _ (beq_iff_eq.mp WC.enf)
  have L4 : PySem.W.Looks (model X.prog X.w) hh (bindSpecial (.ref fx) (.ref m)) (.ref fx, [.ref m]) := PySem.W.bind_fn I1.kIn _ (beq_iff_eq.mp WC.exf)
  have L5 : PySem.W.Looks (model X.prog X.w) hh (aMethodOfAnotherBuiltinTypeStops (.ref fe) cd.mro) () := PySem.W.Looks.of_pure rfl
  have L6 : PySem.W.Looks (model X.prog X.w) hh (aMethodOfAnotherBuiltinTypeStops (.ref fx) cd.mro) () := PySem.W.Looks.of_pure rfl
  refine wpAny_bind (wpAny_standAt ?_)
  simp only [Bool.false_eq_true, if_false]
  kw_lk
  -- __enter__
  have rE : Vals [V.ref m] [Value.ref m] := .cons rfl .nil
  have hlE : ([Value.ref m] ++ ([] : List Value)).length = psE.length := by rw [List.append_nil, ← rE.length]; exact FE.len _ _ _ _ hE
  have bE' := bE ⟨hh, g, dr, tt, os1⟩ _ I1.kIn hlE
  rw [List.append_nil] at bE'
  refine wpAny_call (codeAny_mono (FE.run X.A X.stack _ H1 _ _ _ _ _ hrE I1.env0 bE' rE hE) fun q s2 hq2 => ?_)
  cases q with
  | error e => exact hq2.elim
  | ok fl =>
    cases fl with
    | next => exact False.elim hq2
    | brk => exact False.elim hq2
    | cont => exact False.elim hq2
    | ret u2 =>
      obtain ⟨v2, H2, I2, rv2, hB⟩ := I1.after hq2
      kw_lk
      refine wpAny_attempt (PySem.W.kw_held ?_)
      show wpAny _ _ (assign (.Name y py) X.env u2 >>= fun _ => execs body X.env) _ _ _
      refine wpAny_bind (wpAny_assign_Name (store_ok I2 hN hi hx rv2 (fun s3 I3 => ?_) hfn))
      refine wpAny_mono ((hb _ (X.pn ++ pins) (fun e s₁ => (fun e => wpAny (model X.prog X.w) X.A (do
          noteFrame e X.env
          setFlight e none
          standAt ctx.pos
          holding [e] do
          let r ← withItem.marked e (.call (.ref fx) ⟨[.ref m] ++ [← typeOf e, e, ← tracebackOf e], []⟩)
          let swallow ← match r with
            | .none => pure false
            | .bool b => pure b
            | _ => do pure ((← withItem.marked e (.call (.type "bool") ⟨[r], []⟩)) == .bool true)
          if swallow then rule "with.exit-swallows"; setFlight e none; pure Flow.next else passOn "with" e X.env) (SP X pins D) X.xe) e s₁) (fun u s' xx => ?_)).run [] s3 _ H2 _ (I3.toTry _) hB) (fun f s4 hsp => ?_) (fun e s4 he => ?_)
      · -- the exception
        obtain ⟨a, B, sI, pins', σ', H', cls, d, rfl, J', nb, up, sky, na, os', ag, kv, rkv, hX⟩ := xx
        have J : Inv X pins σ' H' sI := J'.ofTry ok
        have sky' : Sky B (X.env :: X.outer) a (Zc cls d) X.env.locals s'.heap := by rw [← hs]; exact sky
        show wpAny (model X.prog X.w) X.A (noteFrame (.ref a) X.env >>= fun _ => setFlight (.ref a) none >>= fun _ => _) _ _ _
        refine wpAny_bind (wpAny_mono (Sky.land Zc.steady hfr hf sky' fun hp3 fl3 up3 => ?_) (fun _ s2 q => wpAny_bind q) fun _ _ z => z)
        have J3 : Inv X pins σ' H' { s' with heap := hp3 } := J.landed nb fl3.1 (up.trans up3) os' ag
        refine wpAny_bind (wpAny_standAt (wpAny_holding ?_))
        obtain ⟨k1, k2, k3, oe, vs, T, oT, ts', he, hz, hd, h1, hnT, hTe, hT, hdT, h3⟩ := id fl3
        have notFr : ∀ {h : Heap} {c : Addr} {o : Obj} {vs : Array Value}, h.FunFrames B (X.env :: X.outer) → h.get? c = some o → o.data = .fields vs → c ∉ frs (X.env :: X.outer) := fun {h c o vs} ff e dd hm => by
          obtain ⟨_, o', e', hnf⟩ := ff.mem hm
          rw [e] at e'; cases e'
          exact hnf _ dd
        have nFr : ∀ {c : Addr} {o : Obj} {vs : Array Value}, hp3.get? c = some o → o.data = .fields vs → c ≠ X.env.locals ∧ c ∉ X.fs := fun {c o vs} e dd => by
          have nfr := notFr k3 e dd
          exact ⟨fun z => nfr (List.mem_filterMap.mpr ⟨X.env, List.mem_cons_self, by rw [hf, z]⟩), fun hm => by
            obtain ⟨e2, he2, q⟩ := List.mem_filterMap.mp hm
            exact nfr (List.mem_filterMap.mpr ⟨e2, List.mem_cons_of_mem _ he2, q⟩)⟩
        have sIn : ∀ {c : Addr} {o : Obj} {vs : Array Value}, B.get? c = none → hp3.get? c = some o → o.data = .fields vs → sI.heap.get? c = none := fun {c o vs} hB e dd => by
          cases q : sI.heap.get? c with
          | none => rfl
          | some o' =>
            have nfr : c ∉ frs X.stack := by rw [hs]; exact notFr k3 e dd
            rw [nb c o' q nfr] at hB
            cases hB
        have sa := sIn k2 he hd
        have sT := sIn hnT hT hdT
        have HT : H' T = none := by
          cases q : H' T with
          | none => rfl
          | some u =>
            obtain ⟨o', e'⟩ := ObjOk.there (J.hok T u q)
            rw [sT] at e'
            cases e'
        have J3p : Inv X ([(a, oe), (T, oT)] ++ pins) σ' H' { s' with heap := hp3 } := ⟨J3.ok, J3.os, J3.bare, J3.base, J3.loc, J3.cell, J3.free, J3.freeC, fun p hp => by
          rcases List.mem_append.mp hp with z | z
          · exact J3.pin p (List.mem_append_left _ z)
          · rcases List.mem_append.mp z with z | z
            · rcases List.mem_cons.mp z with z | z
              · subst z
                exact ⟨he, na, (nFr he hd).1, (nFr he hd).2, fun v z => by rw [show oe.data = _ from hd] at z; cases z⟩
              · have z := List.mem_singleton.mp z
                subst z
                exact ⟨hT, HT, (nFr hT hdT).1, (nFr hT hdT).2, fun v z => by rw [show oT.data = _ from hdT] at z; cases z⟩
            · exact J3.pin p (List.mem_append_right _ z), J3.hok, J3.len⟩
        refine wpAny_bind (wpAny_typeOf_ref he ?_)
        rw [hz.1]
        refine wpAny_bind (wpAny_tracebackOf he hd h1 hT hdT h3 fun tv tu rt => ?_)
        have r : Vals [.ref m, kv, .ref a, tv] [.ref m, cls, .ref a, tu] := .cons rfl (.cons rkv (.cons rfl (.cons rt .nil)))
        have hX1 := hX a tv na
        have hl : ([Value.ref m, cls, .ref a, tu] ++ ([] : List Value)).length = psX.length := by rw [List.append_nil, ← r.length]; exact FX.len _ _ _ _ hX1
        have b := bX { s' with heap := hp3 } _ J3.kIn hl
        rw [List.append_nil] at b
        have e0 := J3p.env0
        have e0' : Env0 X.prog X.w X.K X.mg X.base (X.A.mark (some (.ref a))) X.stack { s' with heap := hp3 } H' := ⟨e0.frames, e0.mod, e0.bs, e0.bsz, e0.funs, e0.frf, e0.hok, e0.bare⟩
        unfold withItem.marked
        refine wpAny_bind (wpAny_bind (wpAny_run (codeAny_mono (FX.run (X.A.mark (some (.ref a))) X.stack _ H' _ _ _ _ _ ⟨(roomH_of hrX).dp, (roomH_of hrX).un⟩ e0' b r hX1) fun q s4 hq => ?_) (by intro q; cases q)))
        cases q with
        | error e => exact hq.elim
        | ok fl =>
          cases fl with
          | next => exact False.elim hq
          | brk => exact False.elim hq
          | cont => exact False.elim hq
          | ret u4 =>
            obtain ⟨v4, H4, J4, rv4, ev4, q4⟩ := J3p.after hq
            subst ev4
            cases rv4
            refine wpAny_pure ?_
            have P1 := J4.pin (a, oe) (List.mem_append_right _ (List.mem_append_left _ List.mem_cons_self))
            have P2 := J4.pin (T, oT) (List.mem_append_right _ (List.mem_append_left _ (List.mem_cons_of_mem _ List.mem_cons_self)))
            have J4' : Inv X pins σ' H4 s4 := ⟨J4.ok, J4.os, J4.bare, J4.base, J4.loc, J4.cell, J4.free, J4.freeC, fun p hp => J4.pin p ((List.mem_append.mp hp).elim (List.mem_append_left _) fun z => List.mem_append_right _ (List.mem_append_right _ z)), J4.hok, J4.len⟩
            obtain ⟨G, g1, g2, JG⟩ := Inv.drop J4' J rfl [a, T] (fun c hc => by
              rcases List.mem_cons.mp hc with z | z
              · subst z; exact sa
              · have z := List.mem_singleton.mp z
                subst z; exact sT) (fun c hc => by
              rcases List.mem_cons.mp hc with z | z
              · subst z; exact P1.2.1
              · have z := List.mem_singleton.mp z
                subst z; exact P2.2.1) hex
            obtain ⟨B', b1, b2⟩ := restrict G fun c => decide (c ∉ frs X.stack)
            have bk : ∀ c, c ∉ frs X.stack → B'.get? c = G.get? c := fun c hc => b1 c (decide_eq_true hc)
            have bn : ∀ c ∈ frs X.stack, B'.get? c = none := fun c hc => b2 c (decide_eq_false fun z => z hc)
            have gS : ∀ c o, G.get? c = some o → s4.heap.get? c = some o := fun c o e => by
              by_cases hc : c ∈ [a, T]
              · rw [g2 c hc] at e; cases e
              · rw [← g1 c hc]; exact e
            have bS : ∀ c o, B'.get? c = some o → s4.heap.get? c = some o := fun c o e => by
              by_cases hc : c ∈ frs X.stack
              · rw [bn c hc] at e; cases e
              · rw [bk c hc] at e; exact gS c o e
            have nB : ∀ c ∈ [a, T], B'.get? c = none := fun c hc => by
              cases q : B'.get? c with
              | none => rfl
              | some o =>
                by_cases hf : c ∈ frs X.stack
                · rw [bn c hf] at q; cases q
                · rw [bk c hf, g2 c hc] at q; cases q
            have fl : HandSPX.FlyingZ B' (X.env :: X.outer) a (Zc cls d) s4.heap := ⟨bS, nB a List.mem_cons_self, by
              have := funFrames_none J4.stack bn
              rw [hs] at this
              exact this, oe, vs, T, oT, ts', P1.1, hz, hd, h1, nB T (List.mem_cons_of_mem _ List.mem_cons_self), hTe, P2.1, hdT, h3⟩
            show wpAny _ _ (PySem.passOn "with" (.ref a) X.env) _ _ _
            unfold PySem.passOn
            refine wpAny_bind (wpAny_field P1.1 hd h1 ?_)
            have fin : wpAny (model X.prog X.w) X.A (setFlight (.ref a) X.env.frame) (fun _ s4 => wpAny (model X.prog X.w) X.A (throw (.ref a) : Sem Flow) (SP X pins D) X.xe s4) X.xe s4 := by
              rw [hf]
              refine HandSPX.setFlight_upZ fl fun h5 hh5 up5 => wpAny_throw (tk _ _ ?_)
              refine ⟨a, B', { s4 with heap := G }, pins, σ', H4, cls, d, rfl, JG, fun c o e hc => (bk c hc).trans e, fun c o e hn => up5 c o (gS c o e) hn, .inr (.inr (by rw [hs]; exact hh5)), P1.2.1, rfl, J4.bare, q4⟩
            first
              | exact wpAny_bind (wpAny_pure (wpAny_bind fin))
              | exact wpAny_bind fin
              | exact fin
      · -- the block's end
        have toX : ∀ {σ4 : St} {H4 : Hp} {pn' : List (Addr × Obj)} {xe : Value → Shared → Prop}, Inv (X.tr (X.pn ++ pins) xe) pn' σ4 H4 s4 → Inv X pins σ4 H4 s4 := fun I => Inv.ofTry I ok
        cases f with
        | next =>
          obtain ⟨σ4, H4, I4, q4⟩ := hsp
          refine wpAny_bind (wpAny_standAt (wpAny_bind (wpAny_holding (exit_ok FX bX hrX (toX I4) q4 fun s5 H5 I5 q5 => ?_))))
          first
            | exact wpAny_pure ⟨σ4, H5, I5, q5⟩
            | exact wpAny_bind (wpAny_pure (wpAny_pure ⟨σ4, H5, I5, q5⟩))
        | brk =>
          obtain ⟨σ4, H4, I4, q4⟩ := hsp
          refine wpAny_bind (wpAny_standAt (wpAny_bind (wpAny_holding (exit_ok FX bX hrX (toX I4) q4 fun s5 H5 I5 q5 => ?_))))
          first
            | exact wpAny_pure ⟨σ4, H5, I5, q5⟩
            | exact wpAny_bind (wpAny_pure (wpAny_pure ⟨σ4, H5, I5, q5⟩))
        | cont =>
          obtain ⟨σ4, H4, I4, q4⟩ := hsp
          refine wpAny_bind (wpAny_standAt (wpAny_bind (wpAny_holding (exit_ok FX bX hrX (toX I4) q4 fun s5 H5 I5 q5 => ?_))))
          first
            | exact wpAny_pure ⟨σ4, H5, I5, q5⟩
            | exact wpAny_bind (wpAny_pure (wpAny_pure ⟨σ4, H5, I5, q5⟩))
        | ret u =>
          obtain ⟨v, σ4, H4, I4, r4, q4⟩ := hsp
          refine wpAny_bind (wpAny_standAt (wpAny_bind (wpAny_holding (exit_ok FX bX hrX (toX I4) q4 fun s5 H5 I5 q5 => ?_))))
          first
            | exact wpAny_pure ⟨v, σ4, H5, I5, r4, q5⟩
            | exact wpAny_bind (wpAny_pure (wpAny_pure ⟨v, σ4, H5, I5, r4, q5⟩))
      · exact he
end
end Ob
/-! Rules of my own: lambdas that are handed to a def which calls them. -/
namespace Ob
open PySem PySem.Spec PyProof.Rows L2 L2H LamX
/-! ### the tables of code objects -/
/-- the object at c is a code object of the name q with the table P -/
def CodeP (c : Addr) (q : Str) (P : Addr) : HO := .ext fun h => h.CodeRec (.ref c) q ∧ PySem.W.CodeHd h c P
/-- the name of a lambda within the code of the name q -/
def lamIn (q : Str) : Str := q ++ ".<locals>." ++ "<lambda>"
def TabE (Ty : List (Addr × Str)) (H : Hp) (P : Addr) (q : Str) : Prop := ∃ ps : Array Value, H P = some (.tbl ps) ∧ TriplesOk ps.toList ∧ ∀ (pos : Pos) (cv : Value), codeAmong pos ps.toList = some cv → ∃ c P', cv = .ref c ∧ H c = some (CodeP c q P') ∧ (P', lamIn q) ∈ Ty
structure TTy (Rt Ty : List (Addr × Str)) (H : Hp) : Prop where
  roots : ∀ r ∈ Rt, r ∈ Ty
  fn : ∀ P q q', (P, q) ∈ Ty → (P, q') ∈ Ty → q = q'
  tab : ∀ P q, (P, q) ∈ Ty → TabE Ty H P q
def TTb (Rt : List (Addr × Str)) (H : Hp) : Prop := ∃ Ty, TTy Rt Ty H
/-- tables and code objects stay -/
def KT (H H' : Hp) : Prop := ∀ b o, H b = some o → ((∃ ps, o = .tbl ps) ∨ ∃ φ, o = .ext φ) → H' b = some o
theorem KT.refl (H : Hp) : KT H H := fun _ _ h _ => h
theorem KT.trans {H H1 H2 : Hp} (a : KT H H1) (b : KT H1 H2) : KT H H2 := fun c o h n => b c o (a c o h n) n
theorem TTy.keeps {Rt Ty : List (Addr × Str)} {H H' : Hp} (t : TTy Rt Ty H) (k : KT H H') : TTy Rt Ty H' := ⟨t.roots, t.fn, fun P q hp => by
  obtain ⟨ps, h1, h2, h3⟩ := t.tab P q hp
  refine ⟨ps, k _ _ h1 (.inl ⟨_, rfl⟩), h2, fun pos cv hc => ?_⟩
  obtain ⟨c, P', e, e1, e2⟩ := h3 pos cv hc
  exact ⟨c, P', e, k _ _ e1 (.inr ⟨_, rfl⟩), e2⟩⟩
theorem TTb.keeps {Rt : List (Addr × Str)} {H H' : Hp} (t : TTb Rt H) (k : KT H H') : TTb Rt H' := by
  obtain ⟨Ty, t⟩ := t
  exact ⟨Ty, t.keeps k⟩
/-- at the beginning: the roots' tables are empty -/
theorem TTy.nil {Rt : List (Addr × Str)} {H : Hp} (fn : ∀ P q q', (P, q) ∈ Rt → (P, q') ∈ Rt → q = q') (h : ∀ r ∈ Rt, H r.1 = some (.tbl #[])) : TTy Rt Rt H := ⟨fun _ h => h, fn, fun P q hp => ⟨#[], h _ hp, True.intro, fun pos cv hc => by
  have z : codeAmong pos [] = some cv := hc
  simp [codeAmong] at z⟩⟩
/-! ### a lambda is made -/
section
variable {M : Model} {A : Around} {E : Value → Shared → Prop} {s : Shared} {name qual : Str} {params : Arguments} {body : Expr} {scope : Scope} {env : Env} {c P : Addr} {ps : Array Value} {pos : Pos} {firstLine : Nat} {mg : Str → Option Value}
  {clos : List (Str × Addr)} {Q : Value → Shared → Prop}
theorem made_new (hcl : closureFor scope env = pure clos) (hge0 : env.globals = mainGlobals) (hg : s.heap.Ns mainGlobals mg) (hcode : env.code = .ref c) (C : PySem.W.CodeHd s.heap c P) (hP : s.heap.get? P = some { cls := .none, data := .fields ps }) (ht : TriplesOk ps.toList)
    (hnf : codeAmong pos ps.toList = none) (hgP : mainGlobals ≠ P) (hb : s.heap.BuiltinsAt mg P)
    (h : ∀ c' P' ctv h' tk, Heap.ExtBut P s.heap h' → s.heap.objs.size ≤ c' → c' < h'.objs.size → h'.CodeRec (.ref c') qual → h'.get? P = some { cls := .none, data := .fields (ps ++ #[rawInt pos.line, rawInt pos.col, .ref c']) } →
      s.heap.objs.size ≤ P' → PySem.W.CodeHd h' c' P' → h'.get? P' = some { cls := .none, data := .fields #[] } →
      Q (.ref h'.objs.size) { s with heap := h'.push (PySem.W.kla_obj name qual params body scope clos ((mg "__name__").getD .none) c' ctv), toks := tk }) :
    wpAny M A (makeFunction name qual params (.expr body) scope env [] [] [] pos firstLine) Q E s := by
  rw [makeFunction_eq]
  simp only [List.zip_nil_right, List.filterMap_nil, List.isEmpty_nil, if_true, pure_bind]
  obtain ⟨bm, ob, hbm, hne0, _, hneP, hbo, hcls, hdict, hdata⟩ := hb
  unfold makeTail
  rw [hcl, hge0]
  refine wpAny_bind (wpAny_pure ?_)
  cases clos with
  | nil =>
    simp only [List.isEmpty_nil, if_true]
    refine wpAny_bind (wpAny_pure ?_)
    refine wpAny_bind (wpAny_functionCodeX hcode (C.code hP ht) (C.tab hP) hnf fun c' h' tk hx hge hlt _ hrec htb hn => ?_)
    obtain ⟨P', n1, n2, n3⟩ := hn
    have hg' := hg.extBut hx hgP
    refine wpAny_bind (wpAny_builtinsFor hg' hbm hne0 (hx _ _ hneP hbo) hcls hdict hdata ?_)
    refine wpAny_bind (wpAny_nsGet hg' ?_)
    exact wpAny_bind (wpAny_pure (wpAny_newObj_type (h c' P' .none h' tk hx hge hlt hrec htb.2 n1 (PySem.W.CodeHd.of n2 n3) n3.2) (by size_fits)))
  | cons q r =>
    simp only [List.isEmpty_cons, Bool.false_eq_true, if_false]
    refine wpAny_bind (wpAny_newTextTuple ?_)
    refine wpAny_bind (wpAny_functionCodeX hcode ((C.keeps fun b o e => Heap.get?_push_of_some _ e).code (Heap.get?_push_of_some _ hP) ht) ((C.keeps fun b o e => Heap.get?_push_of_some _ e).tab (Heap.get?_push_of_some _ hP)) hnf fun c' h' tk hx hge hlt _ hrec htb hn => ?_)
    obtain ⟨P', n1, n2, n3⟩ := hn
    have hg' := (hg.push _).extBut hx hgP
    have hx' : Heap.ExtBut P s.heap h' := fun b o hb' e => hx b o hb' (Heap.get?_push_of_some _ e)
    have hge' : s.heap.objs.size ≤ c' := Nat.le_trans (by rw [Heap.size_push]; omega) hge
    have n1' : s.heap.objs.size ≤ P' := Nat.le_trans (by rw [Heap.size_push]; omega) n1
    refine wpAny_bind (wpAny_builtinsFor hg' hbm hne0 (hx' _ _ hneP hbo) hcls hdict hdata ?_)
    refine wpAny_bind (wpAny_nsGet hg' ?_)
    exact wpAny_bind (wpAny_pure (wpAny_newObj_type (h c' P' _ h' tk hx' hge' hlt hrec htb.2 n1' (PySem.W.CodeHd.of n2 n3) n3.2) (by size_fits)))
end
section
variable {X : Cx} {pins : List (Addr × Obj)} {σ : L2.St} {H : Hp} {s : Shared}
/-- the table's object is written, the code object at c and its table at P' are new and known from now on; all else is kept -/
theorem inv_table3 {P c P' : Addr} {q : Str} {ps more : Array Value} {h' : Heap} {t' : Nat} (I : Inv X pins σ H s) (hP : H P = some (.tbl ps)) (k : ∀ b o, b ≠ P → s.heap.get? b = some o → h'.get? b = some o)
    (hm : h'.get? P = some { cls := .none, data := .fields (ps ++ more) }) (hc : s.heap.objs.size ≤ c) (hc2 : s.heap.objs.size ≤ P') (hne : c ≠ P') (ho : h'.CodeRec (.ref c) q ∧ PySem.W.CodeHd h' c P') (hP' : h'.get? P' = some { cls := .none, data := .fields #[] }) :
    Inv X pins σ (upd (upd (upd H P (.tbl (ps ++ more))) c (CodeP c q P')) P' (.tbl #[])) { s with heap := h', toks := t' } := by
  have nC : H c = none := I.hok.fresh hc
  have nD : H P' = none := I.hok.fresh hc2
  have nPc : P ≠ c := ne_of_none hP nC
  have nPd : P ≠ P' := ne_of_none hP nD
  have at_ : ∀ b, b ≠ P → b ≠ c → b ≠ P' → upd (upd (upd H P (.tbl (ps ++ more))) c (CodeP c q P')) P' (.tbl #[]) b = H b := fun b h1 h2 h3 => by rw [upd_ne h3, upd_ne h2, upd_ne h1]
  have atP : upd (upd (upd H P (.tbl (ps ++ more))) c (CodeP c q P')) P' (.tbl #[]) P = some (.tbl (ps ++ more)) := by rw [upd_ne nPd, upd_ne nPc, upd_same]
  have atC : upd (upd (upd H P (.tbl (ps ++ more))) c (CodeP c q P')) P' (.tbl #[]) c = some (CodeP c q P') := by rw [upd_ne hne, upd_same]
  have nP : ∀ b u, H b = some u → (∀ q, u ≠ .tbl q) → b ≠ P := fun b u e q z => by
    rw [z, hP] at e
    exact q ps (Option.some.inj e).symm
  have nN : ∀ b, H b = none → b ≠ P := fun b e z => by
    rw [z, hP] at e
    cases e
  have lt' : ∀ b o, s.heap.get? b = some o → b ≠ c := fun b o e z => by
    rw [z] at e
    exact Nat.lt_irrefl _ (Nat.lt_of_lt_of_le (Heap.lt_size e) hc)
  have lt2 : ∀ b o, s.heap.get? b = some o → b ≠ P' := fun b o e z => by
    rw [z] at e
    exact Nat.lt_irrefl _ (Nat.lt_of_lt_of_le (Heap.lt_size e) hc2)
  have sm : ∀ b u, H b = some u → b ≠ c := fun b u e => ne_of_none e nC
  have sm2 : ∀ b u, H b = some u → b ≠ P' := fun b u e => ne_of_none e nD
  have same : ∀ b u, H b = some u → (∀ q, u ≠ .tbl q) → upd (upd (upd H P (.tbl (ps ++ more))) c (CodeP c q P')) P' (.tbl #[]) b = some u := fun b u e z => by rw [at_ b (nP b u e z) (sm b u e) (sm2 b u e)]; exact e
  refine I.step (g' := s.gens) (d' := s.drawn) (ch := []) (fun b hb => absurd hb (by simp)) (fun b o _ _ _ e n => k b o (nN b n) e) (fun b o _ _ _ e n => ⟨o.slots, k b o (nN b n) e⟩)
    (fun b o _ e n => by rw [at_ b (nN b n) (lt' b o e) (lt2 b o e)]; exact n) (fun b o _ e => ?_) (fun b xs e => same b _ e (fun q z => by cases z)) (fun b o u e => same b _ e (fun q z => by cases z)) (fun b qs e => ?_) (fun m hn => ?_) (fun b u e => ?_) I.bare
  · by_cases hb : b = P
    · rw [hb]
      exact ⟨_, hm⟩
    · exact ⟨o, k b o hb e⟩
  · by_cases hb : b = P
    · rw [hb, hP] at e
      cases e
      rw [hb, atP]
      exact ⟨more, rfl⟩
    · rw [at_ b hb (sm b _ e) (sm2 b _ e), e]
      exact ⟨#[], by simp⟩
  · obtain ⟨ob, es, ep, ho, r⟩ := hn
    exact ⟨ob, es, ep, k _ ob (nN _ I.free) ho, r⟩
  · by_cases hb3 : b = P'
    · rw [hb3, upd_same] at e
      cases e
      rw [hb3]
      exact hP'
    · by_cases hb : b = c
      · rw [hb, atC] at e
        cases e
        rw [hb]
        obtain ⟨c2, oc, vs, t, e0, e1, e2, e3⟩ := id ho.1
        refine ⟨ho, ⟨oc, ?_⟩, fun h1 h2 ⟨⟨c3, o3, v3, t3, x0, x1, x2, x3⟩, y⟩ st => ?_⟩
        · cases e0
          exact e1
        · cases x0
          obtain ⟨o4, v4, f4, a1, a2, a3, a4, a5, a6, y1, y2⟩ := y
          exact ⟨⟨c, o3, v3, t3, rfl, st _ x1, x2, x3⟩, ⟨o4, v4, f4, a1, a2, a3, a4, a5, a6, st _ y1, y2⟩⟩
      · by_cases hb2 : b = P
        · rw [hb2, atP] at e
          cases e
          rw [hb2]
          exact hm
        · rw [at_ b hb2 hb hb3] at e
          refine (I.hok b u e).stay (fun d v hd q => k d v ?_ q) (fun d q => same d _ q (fun q z => by cases z)) fun d xs q => same d _ q (fun q z => by cases z)
          rcases hd with z | z
          · rw [z]
            exact hb2
          · exact nP d _ z (fun q z => by cases z)
theorem codeP_ne {c P' : Addr} {q : Str} (ps : Array Value) : CodeP c q P' ≠ .tbl ps := fun z => by
  unfold CodeP at z
  cases z
/-- the lambda is made: its code object is new, or found in the table -/
theorem lam_make3 {Rt Ty : List (Addr × Str)} {c P : Addr} {params : Arguments} {body : Expr} {scope : Scope} {pos : Pos} {E : Value → Shared → Prop} {Q : Value → Shared → Prop} (I : Inv X pins σ H s) (hbm : ∃ P0, X.base.BuiltinsAt X.mg P0) (hC : PySem.W.CodeHd s.heap c P) (hcode : X.env.code = .ref c)
    (hm : (P, X.env.qual ++ "<lambda>") ∈ Ty) (hT : TTy Rt Ty H) (hdef : defaultsOf params X.env = ([], [])) (hfree : ∀ y ∈ scope.names, y.2 = .free → ∃ c, X.env.cells.lookup y.1 = some c)
    (h : ∀ (f c' P' : Addr) (pm ctv : Value) (H1 : Hp) (s' : Shared) (Ty1 : List (Addr × Str)), Inv X pins σ H1 s' → ExtN H H1 → TTy Rt Ty1 H1 → (P', lamIn (X.env.qual ++ "<lambda>")) ∈ Ty1 →
      s'.heap.get? f = some (PySem.W.kla_obj "<lambda>" (X.env.qual ++ "<lambda>") params body scope (cloFrom X.env.cells scope.names []) pm c' ctv) → H1 f = none → f ∉ frs X.stack → H1 c' = some (CodeP c' (X.env.qual ++ "<lambda>") P') → Q (.ref f) s') :
    wpAny (model X.prog X.w) X.A (eval (.Lambda params body scope pos) X.env) Q E s := by
  obtain ⟨ps, hP, ht, ha⟩ := hT.tab _ _ hm
  refine PySem.W.kla_eval hdef ?_
  have hP' : s.heap.get? P = some { cls := .none, data := .fields ps } := I.hok P _ hP
  have gM : s.heap.Ns mainGlobals X.mg := I.mod.glob.keeps I.bk
  have gP : mainGlobals ≠ P := fun z => by
    obtain ⟨o, es, ep, e, hd, _⟩ := gM
    rw [z, hP'] at e
    cases e
    cases hd
  have bP : s.heap.BuiltinsAt X.mg P := by
    obtain ⟨P0, hb⟩ := hbm
    obtain ⟨bm, o, b1, b2, b3, b4, b5, b6, b7, b8⟩ := hb.keeps I.bk
    have ne : bm ≠ P := fun z => by
      rw [z, hP'] at b5
      cases b5
      cases b8
    exact ⟨bm, o, b1, b2, b3, ne, b5, b6, b7, b8⟩
  have nofr : ∀ f, s.heap.objs.size ≤ f → f ∉ frs X.stack := fun f hf z => by
    rcases List.mem_cons.mp (I.stkSub _ z) with e | e
    · have h1 := I.lt
      rw [← e] at h1
      exact Nat.lt_irrefl _ (Nat.lt_of_lt_of_le h1 hf)
    · exact I.nofs hf e
  cases hc : codeAmong pos ps.toList with
  | none =>
    refine made_new (mg := X.mg) (c := c) (P := P) (ps := ps) (closure_ok hfree) I.ok.glob gM hcode hC hP' ht hc gP bP fun c' P' ctv h' tk hx hge hlt hrec htb hp1 hp2 hp3 => ?_
    have hsz : s.heap.objs.size ≤ h'.objs.size := Nat.le_trans hge (Nat.le_of_lt hlt)
    have nC : H c' = none := I.hok.fresh hge
    have nD : H P' = none := I.hok.fresh hp1
    have hne : c' ≠ P' := by
      obtain ⟨o, vs, file, tf, flags, tg, inF, text, tt, _, _, _, _, _, _, _, _, _, z⟩ := hp2
      exact z
    have kpush : ∀ b o, h'.get? b = some o → (h'.push (PySem.W.kla_obj "<lambda>" (X.env.qual ++ "<lambda>") params body scope (cloFrom X.env.cells scope.names []) ((X.mg "__name__").getD .none) c' ctv)).get? b = some o := fun b o e => Heap.get?_push_of_some _ e
    have I1 := inv_table3 (t' := tk) (more := #[rawInt pos.line, rawInt pos.col, .ref c']) (h' := h'.push (PySem.W.kla_obj "<lambda>" (X.env.qual ++ "<lambda>") params body scope (cloFrom X.env.cells scope.names []) ((X.mg "__name__").getD .none) c' ctv)) I hP
      (fun b o hb e => kpush _ _ (hx b o hb e)) (kpush _ _ htb) hge hp1 hne ⟨hrec.keeps kpush, hp2.keeps kpush⟩ (kpush _ _ hp3)
    have hE : ExtN H (upd (upd (upd H P (.tbl (ps ++ #[rawInt pos.line, rawInt pos.col, .ref c']))) c' (CodeP c' (X.env.qual ++ "<lambda>") P')) P' (.tbl #[])) := fun b o e n => by
      rw [upd_ne (ne_of_none e nD), upd_ne (ne_of_none e nC), upd_ne (fun z => n ps (Option.some.inj (e.symm.trans (by rw [z]; exact hP))))]
      exact e
    have eL : (ps ++ #[rawInt pos.line, rawInt pos.col, .ref c']).toList = ps.toList ++ [rawInt pos.line, rawInt pos.col, .ref c'] := by simp
    have notTy : ∀ q, (P', q) ∉ Ty := fun q hq => by
      obtain ⟨ps', a1, _⟩ := hT.tab _ _ hq
      rw [nD] at a1
      cases a1
    have atC : upd (upd (upd H P (.tbl (ps ++ #[rawInt pos.line, rawInt pos.col, .ref c']))) c' (CodeP c' (X.env.qual ++ "<lambda>") P')) P' (.tbl #[]) c' = some (CodeP c' (X.env.qual ++ "<lambda>") P') := by rw [upd_ne hne, upd_same]
    refine h h'.objs.size c' P' ((X.mg "__name__").getD .none) ctv _ _ ((P', lamIn (X.env.qual ++ "<lambda>")) :: Ty) I1 hE ⟨fun r hr => List.mem_cons_of_mem _ (hT.roots r hr), fun R q q' h1 h2 => ?_, fun R q hR => ?_⟩ List.mem_cons_self (Heap.get?_push_size _ rfl) ?_ (nofr _ hsz) atC
    · rcases List.mem_cons.mp h1 with z1 | z1 <;> rcases List.mem_cons.mp h2 with z2 | z2
      · exact (congrArg Prod.snd z1).trans (congrArg Prod.snd z2).symm
      · rw [show R = P' from congrArg Prod.fst z1] at z2; exact absurd z2 (notTy _)
      · rw [show R = P' from congrArg Prod.fst z2] at z1; exact absurd z1 (notTy _)
      · exact hT.fn _ _ _ z1 z2
    · rcases List.mem_cons.mp hR with z | z
      · rw [show R = P' from congrArg Prod.fst z]
        exact ⟨#[], upd_same, True.intro, fun p' cv hcv => by
          have z : codeAmong p' [] = some cv := hcv
          simp [codeAmong] at z⟩
      · obtain ⟨ps', a1, a2, a3⟩ := hT.tab R q z
        by_cases hb : R = P
        · subst hb
          have eq := hT.fn _ _ _ z hm
          rw [hP] at a1
          cases a1
          refine ⟨_, by rw [upd_ne (ne_of_none hP nD), upd_ne (ne_of_none hP nC), upd_same], by rw [eL]; exact PySem.TriplesOk_snoc _ _ _ _ ht, fun p' cv hcv => ?_⟩
          rw [eL] at hcv
          rcases among_app _ ht hcv with y | y
          · obtain ⟨c0, P0, e1, e2, e3⟩ := a3 p' cv y
            exact ⟨c0, P0, e1, hE _ _ e2 codeP_ne, List.mem_cons_of_mem _ e3⟩
          · refine ⟨c', P', y, ?_, ?_⟩
            · rw [eq]; exact atC
            · rw [eq]; exact List.mem_cons_self
        · refine ⟨ps', by rw [upd_ne (ne_of_none a1 nD), upd_ne (ne_of_none a1 nC), upd_ne hb]; exact a1, a2, fun p' cv hcv => ?_⟩
          obtain ⟨c0, P0, e1, e2, e3⟩ := a3 p' cv hcv
          exact ⟨c0, P0, e1, hE _ _ e2 codeP_ne, List.mem_cons_of_mem _ e3⟩
    · have n1 : h'.objs.size ≠ c' := Nat.ne_of_gt hlt
      have n2 : h'.objs.size ≠ P := Nat.ne_of_gt (Nat.lt_of_lt_of_le (Heap.lt_size hP') hsz)
      have n3 : h'.objs.size ≠ P' := Nat.ne_of_gt (Heap.lt_size hp3)
      rw [upd_ne n3, upd_ne n1, upd_ne n2]
      exact I.hok.fresh hsz
  | some cv =>
    obtain ⟨c', P', e, hco, hin⟩ := ha pos cv hc
    subst e
    refine PySem.W.kla_makeFunctionHit (mg := X.mg) (c := c) (P := P) (ps := ps) (closure_ok hfree) I.ok.glob gM hcode hC hP' ht hc bP fun ctv h' tk hx hsz => ?_
    have I1 : Inv X pins σ H { s with heap := h'.push (PySem.W.kla_obj "<lambda>" (X.env.qual ++ "<lambda>") params body scope (cloFrom X.env.cells scope.names []) ((X.mg "__name__").getD .none) c' ctv), toks := tk } := I.kept fun b o e => Heap.get?_push_of_some _ (hx b o e)
    exact h h'.objs.size c' P' ((X.mg "__name__").getD .none) ctv H _ Ty I1 (ExtN.refl H) hT hin (Heap.get?_push_size _ rfl) (I.hok.fresh hsz) (nofr _ hsz) hco
end
end Ob
namespace Ob
open PySem PySem.Spec PyProof.Rows L2 L2H LamX NdefX
/-! ### the lambda's body -/
/-- a lambda's words, the cells that it captured, its code object -/
structure LF where
  qual : Str
  params : Arguments
  body : Expr
  scope : Scope
  cl : List (Str × Addr)
  c : Addr
abbrev LF.fd (F : LF) (pm ctv : Value) : FuncData := PySem.W.kla_fn "<lambda>" F.qual F.params F.body F.scope F.cl pm (.ref F.c) ctv
abbrev LF.obj (F : LF) (pm ctv : Value) : Obj := PySem.W.kla_obj "<lambda>" F.qual F.params F.body F.scope F.cl pm F.c ctv
/-- its names: plain parameters, then those that stand in cells, then its own -/
structure LScope (N ps fr : List Str) (sc : Scope) : Prop where
  kind : sc.kind = .function
  co : sc.isCoroutine = false
  gen : sc.isGenerator = false
  nd : N.Nodup
  pre : N.take (ps.length + fr.length) = ps ++ fr
  par : ∀ x ∈ ps, sc.names.lookup x = some .local
  cells : ∀ y ∈ sc.names, (y.2 = .cell ∨ y.2 = .free) → y.1 ∈ fr
  frk : ∀ x ∈ fr, sc.names.lookup x = some .free ∨ sc.names.lookup x = some .cell
def lscB (N ps fr : List Str) (sc : Scope) : Bool :=
  decide (sc.kind = .function) && !sc.isCoroutine && !sc.isGenerator && decide N.Nodup && decide (N.take (ps.length + fr.length) = ps ++ fr) && ps.all (fun x => decide (sc.names.lookup x = some .local)) && sc.names.all (fun y => (!decide (y.2 = .cell) && !decide (y.2 = .free)) || decide (y.1 ∈ fr)) && fr.all (fun x => decide (sc.names.lookup x = some .free) || decide (sc.names.lookup x = some .cell))
theorem lscope_by {N ps fr : List Str} {sc : Scope} (h : lscB N ps fr sc = true) : LScope N ps fr sc := by
  unfold lscB at h
  simp only [Bool.and_eq_true, Bool.not_eq_true', decide_eq_true_eq, List.all_eq_true, Bool.or_eq_true, decide_eq_false_iff_not] at h
  obtain ⟨⟨⟨⟨⟨⟨⟨h1, h2⟩, h3⟩, h4⟩, h5⟩, h6⟩, h7⟩, h8⟩ := h
  exact ⟨h1, h2, h3, h4, h5, h6, fun y hy e => (h7 y hy).elim (fun z => e.elim (fun q => absurd q z.1) fun q => absurd q z.2) id, h8⟩
abbrev envL (F : LF) (f L : Addr) (cells : List (Str × Addr)) : Env := PySem.W.envX F.qual F.scope L f (.ref F.c) cells
/-- the context of its body, at its entry -/
def lcx (CX : CXT) (P : Program) (w : World) (K : PySem.W.Frag) (mg : Str → Option Value) (base : Heap) (N : List Str) (F : LF) (cells : List (Str × Addr)) (f : Addr) (A : Around) (outer : List Env) (s : Shared) (H : Hp) (E : XK) : Cx where
  prog := P
  w := w
  K := K
  mg := mg
  base := base
  A := A.deeper (envL F f s.heap.objs.size cells)
  N := N
  s_0 := s
  H_0 := H
  env := envL F f s.heap.objs.size cells
  outer := outer
  stack := envL F f s.heap.objs.size cells :: outer
  ex := []
  calm := true
  fn := fun _ => false
  pn := []
  xe := fun e s' => wpAny (model P w) (A.deeper (envL F f s.heap.objs.size cells)) (leaving (envL F f s.heap.objs.size cells) e) (fun _ s'' => CX outer H s E e s'') (fun e' s'' => CX outer H s E e' s'') s'
section
variable {CX : CXT} {P : Program} {w : World} {K : PySem.W.Frag} {mg : Str → Option Value} {base : Heap} {N ps fr : List Str} {F : LF} {cells : List (Str × Addr)} {f : Addr} {A : Around} {outer : List Env} {s : Shared} {H : Hp} {E : XK} {us : List Value} {vs : List V} {ws : List (Option V)}
theorem inv_startL {h₁ : Heap} {tk : Nat} (S : LScope N ps fr F.scope) (hd : A.handled = none) (e0 : Env0 P w K mg base A outer s H) (hl : vs.length = ps.length) (r : Vals vs us) (C : CellsAt cells fr ws h₁ H) (hns : h₁.Ns s.heap.objs.size fun y => (ps.zip us).reverse.lookup y)
    (kp : ∀ b o, s.heap.get? b = some o → h₁.get? b = some o) : Inv (lcx CX P w K mg base N F cells f A outer s H E) [] (startF N vs ws) H { s with heap := h₁, toks := tk } := by
  have hpl : ps.length + fr.length ≤ N.length := by
    have q := congrArg List.length S.pre
    rw [List.length_take, List.length_append] at q
    omega
  have noA : ∀ b : Addr, b ∉ (lcx CX P w K mg base N F cells f A outer s H E).ex := fun b z => absurd (show b ∈ ([] : List Addr) from z) (by simp)
  refine ⟨⟨e0.mod, S.kind, rfl, rfl, Nat.le_refl _, C.inj, fun y hy => ?_, fun y c z _ => ?_, fun _ => hd, Around.frames_deeper e0.frames, .inr ⟨rfl, rfl⟩, fun b z => absurd z (noA b), e0.bs, e0.bsz, fun b _ _ => noA b,
      fun b z => absurd z (noA b), e0.funs, e0.frf⟩,
    rfl, e0.bare, Un.kept kp, ⟨_, hns, fun i y v e1 e2 e3 => ?_⟩, fun y c e => ?_, e0.hok.fresh (Nat.le_refl _), fun y c e => (C.all y c e).1, fun q hq => absurd (show q ∈ ([] : List (Addr × Obj)) ++ [] from hq) (by simp), e0.hok.kept kp, ?_⟩
  · have hy : F.scope.names.lookup y = some .cell ∨ F.scope.names.lookup y = some .free := hy
    have hm : y ∈ fr := by
      rcases hy with hy | hy
      · exact S.cells _ (PySem.mem_of_lookup hy) (.inl rfl)
      · exact S.cells _ (PySem.mem_of_lookup hy) (.inr rfl)
    obtain ⟨i, hi⟩ := List.mem_iff_getElem?.mp hm
    obtain ⟨c, hc, _⟩ := C.has i y hi
    exact ⟨c, hc⟩
  · have z : false = true := z
    cases z
  · have e1 : N[i]? = some y := e1
    have clen := C.len
    unfold startF at e2
    by_cases h1 : i < ps.length
    · have hq : (ps ++ fr)[i]? = some y := by
        rw [← S.pre, List.getElem?_take_of_lt (by omega)]
        exact e1
      rw [List.getElem?_append_left h1] at hq
      rw [List.getElem?_append_left (by rw [List.length_map]; omega), List.getElem?_map] at e2
      have ha : vs[i]? = some v := by
        cases e : vs[i]? with
        | none => rw [e] at e2; cases e2
        | some a => rw [e] at e2; cases e2; rfl
      obtain ⟨u, hu, rv⟩ := r.get ha
      have ndP : ps.Nodup := by
        have q := S.nd.sublist (List.take_sublist (ps.length + fr.length) N)
        rw [S.pre] at q
        exact (List.nodup_append.mp q).1
      exact ⟨u, rv, .inl ⟨S.par y (List.mem_of_getElem? hq), zip_look ndP hq hu⟩⟩
    · rw [List.getElem?_append_right (by rw [List.length_map]; omega), List.length_map] at e2
      by_cases h2 : i < ps.length + fr.length
      · have hq : (ps ++ fr)[i]? = some y := by
          rw [← S.pre, List.getElem?_take_of_lt (by omega)]
          exact e1
        rw [List.getElem?_append_right (by omega)] at hq
        rw [List.getElem?_append_left (by omega), hl] at e2
        obtain ⟨c, hc, hv⟩ := C.has (i - ps.length) y hq
        obtain ⟨u, ru, hu⟩ := hv v e2
        exact ⟨u, ru, .inr ⟨(S.frk y (List.mem_of_getElem? hq)).symm, c, hc, hu⟩⟩
      · rw [List.getElem?_append_right (by omega), List.getElem?_replicate] at e2
        split at e2 <;> cases e2
  · exact (C.all y c e).2
  · have clen := C.len
    unfold startF
    show _ = N.length
    rw [List.length_append, List.length_append, List.length_map, List.length_replicate]
    omega
end
/-- f may be called from any state that the state s0 led to -/
def CbRun (P : Program) (w : World) (K : PySem.W.Frag) (mg : Str → Option Value) (base : Heap) (CX : CXT) (k : Nat) (outer0 : List Env) (s0 : Shared) (H0 : Hp) (f : Addr) (n : Nat) (sp : Sp) : Prop :=
  PySem.W.FnAt f s0.heap ∧ H0 f = none ∧ f ∉ frs outer0 ∧ ∀ (A : Around) (outer : List Env) (s : Shared) (H : Hp) (us : List Value) (vs : List V) (Q : VK) (E : XK), Room k A → A.guards = some [] → Env0 P w K mg base A outer s H → Un (frs outer0) [] H0 H s0.heap s.heap → Vals vs us → us.length = n → sp vs H Q E →
    codeAny (model P w) A (.call (.ref f) ⟨us, []⟩) (CR CX outer P w H s Q E) s
theorem CbRun.mono {P : Program} {w : World} {K : PySem.W.Frag} {mg : Str → Option Value} {base : Heap} {CX : CXT} {j k : Nat} {outer0 : List Env} {s0 : Shared} {H0 : Hp} {f : Addr} {n : Nat} {sp : Sp} (F : CbRun P w K mg base CX j outer0 s0 H0 f n sp) (h : j ≤ k) : CbRun P w K mg base CX k outer0 s0 H0 f n sp :=
  ⟨F.1, F.2.1, F.2.2.1, fun A outer s H us vs Q E hr => F.2.2.2 A outer s H us vs Q E (hr.mono h)⟩
/-- the cells are what they were -/
theorem cells_un {cl : List (Str × Addr)} {fr : List Str} {ws : List (Option V)} {fs : List Addr} {h0 h : Heap} {H0 H : Hp} (C : CellsAt cl fr ws h0 H0) (un : Un fs [] H0 H h0 h) : CellsAt cl fr ws h H := by
  have kp : ∀ {c v}, H0 c = none → h0.IsCell c v → h.IsCell c v := fun {c v} n ⟨o, ho, hd⟩ => by
    obtain ⟨sl, q⟩ := un.any ho n (by simp)
    exact ⟨_, q, hd⟩
  refine ⟨C.len, fun y c e => ?_, C.inj, fun i y e => ?_⟩
  · obtain ⟨n, v, z⟩ := C.all y c e
    refine ⟨?_, v, kp n z⟩
    obtain ⟨o, ho, _⟩ := z
    exact un.free c o ho n (by simp)
  · obtain ⟨c, hc, hv⟩ := C.has i y e
    refine ⟨c, hc, fun v ev => ?_⟩
    obtain ⟨u, r, z⟩ := hv v ev
    exact ⟨u, r, kp (C.all y c hc).1 z⟩
/-- a lambda just made, its parameters plain -/
theorem cb_of {P : Program} {w : World} {K : PySem.W.Frag} {mg : Str → Option Value} {base : Heap} {CX : CXT} {k : Nat} {outer0 : List Env} {s0 : Shared} {H0 : Hp} {f P' : Addr} {N ps fr : List Str} {F : LF} {ws : List (Option V)} {pm ctv : Value} {t : XK → TE}
    (S : LScope N ps fr F.scope) (hnc : ∀ y ∈ F.scope.names, y.2 ≠ .cell) (hf : s0.heap.get? f = some (F.obj pm ctv)) (hfn : H0 f = none) (hfr : f ∉ frs outer0) (C : CellsAt F.cl fr ws s0.heap H0) (hb : ∀ us : List Value, us.length = ps.length → bindArgs (F.fd pm ctv) ⟨us, []⟩ = pure (ps.zip us))
    (hbody : ∀ (A : Around) (outer : List Env) (s : Shared) (H : Hp) (E : XK), Room k (A.deeper (envL F f s.heap.objs.size F.cl)) → A.guards = some [] → PE (lcx CX P w K mg base N F F.cl f A outer s H E) F.body (t E)) :
    CbRun P w K mg base CX (k + 1) outer0 s0 H0 f ps.length (fun vs H Q E => H F.c = some (CodeP F.c F.qual P') ∧ t E (startF N vs ws) H Q) := by
  refine ⟨⟨_, _, _, _, hf⟩, hfn, hfr, fun A outer s H us vs Q E hr hgd e0 un r hu hsp => ?_⟩
  obtain ⟨hc, ht⟩ := hsp
  have hf1 : s.heap.get? f = some (F.obj pm ctv) := un.keep f _ hf hfn hfr (by simp)
  have lim : s.heap.NoLimit := e0.mod.nolimit.keeps fun b o e => (e0.bs b o e).1
  obtain ⟨⟨hrec, _⟩, _, _⟩ := e0.hok _ _ hc
  refine PySem.W.kla_callFunE hr.depth hf1 rfl S.co S.gen rfl hrec ?_
  rw [hb us hu]
  refine wpAny_pure (wpAny_newFunctionEnv hnc (fun ⟨n, _⟩ hy => S.par n (List.of_mem_zip hy).1) (fun h₁ hns hsb => ⟨lim.fresh _ hsb, ?_⟩) S.kind)
  show codeAny _ _ (.expr F.body (envL F f s.heap.objs.size F.cl)) _ _
  have kp : ∀ b o, s.heap.get? b = some o → h₁.get? b = some o := fun b o e => hsb.extBut b o (Nat.ne_of_lt (Heap.lt_size e)) (Heap.get?_push_of_some _ e)
  have C1 : CellsAt F.cl fr ws s.heap H := cells_un C un
  have C2 : CellsAt F.cl fr ws h₁ H := by
    have kc : ∀ {c v}, s.heap.IsCell c v → h₁.IsCell c v := fun z => z.keeps kp
    refine ⟨C1.len, fun y c e => ?_, C1.inj, fun i y e => ?_⟩
    · obtain ⟨n, v, z⟩ := C1.all y c e
      exact ⟨n, v, kc z⟩
    · obtain ⟨c, hc, hv⟩ := C1.has i y e
      exact ⟨c, hc, fun v ev => by
        obtain ⟨u, r, z⟩ := hv v ev
        exact ⟨u, r, kc z⟩⟩
  have J : Inv (lcx CX P w K mg base N F F.cl f A outer s H E) [] (startF N vs ws) H { s with heap := h₁, toks := s.toks + (ps.zip us).length } := inv_startL S hr.hd e0 (by rw [r.length, hu]) r C2 hns kp
  refine PySem.W.kla_codeExpr (wpAny_mono ((hbody A outer s H E (hr.deeper _) hgd).run [] _ _ H Q J ht) (fun v s' hq => ?_) fun e s' hq => hq)
  obtain ⟨w', H', J', rv, q⟩ := hq
  exact ⟨w', H', J'.os, J'.bare, J'.base, J'.hok, rv, q⟩
theorem cellsFrom_none : ∀ (names : List (Str × NameKind)) (n : Nat) (acc : List (Str × Addr)), (∀ y ∈ names, y.2 ≠ .cell) → cellsFrom n names acc = acc
  | [], _, _, _ => rfl
  | (x, kd) :: r, n, acc, h => by
    unfold cellsFrom
    rw [if_neg (by simpa using h _ List.mem_cons_self)]
    exact cellsFrom_none r n acc fun y hy => h y (List.mem_cons_of_mem _ hy)
theorem pushCells_none : ∀ (names : List (Str × NameKind)) (h : Heap), (∀ y ∈ names, y.2 ≠ .cell) → pushCells h names = h
  | [], _, _ => rfl
  | (x, kd) :: r, h, hn => by
    unfold pushCells
    rw [if_neg (by simpa using hn _ List.mem_cons_self)]
    exact pushCells_none r h fun y hy => hn y (List.mem_cons_of_mem _ hy)
/-- the frame of a def whose one parameter stands in a cell of its own -/
theorem newEnv_cell1 {M : Model} {A : Around} {E : Value → Shared → Prop} {s : Shared} {scope : Scope} {globals : Addr} {closure : List (Str × Addr)} {x : Str} {v : Value} {rest : List (Str × NameKind)} {qual : Str} {func : Option Addr} {code : Value} {builtins : Addr} {Q : Env → Shared → Prop}
    (hk : scope.kind = .function) (hn : scope.names = (x, .cell) :: rest) (hr : ∀ y ∈ rest, y.2 ≠ .cell)
    (hQ : ∀ h' tk, h'.Ns s.heap.objs.size (fun _ => none) → (∀ b o, s.heap.get? b = some o → h'.get? b = some o) → h'.IsCell (s.heap.objs.size + 1) (some v) → Q (newEnv scope s.heap.objs.size globals ((x, s.heap.objs.size + 1) :: closure) qual func code none builtins) { s with heap := h', toks := tk }) :
    wpAny M A (newFunctionEnv scope globals closure [(x, v)] qual func code none builtins) Q E s := by
  simp only [newFunctionEnv, Option.isSome_none, Bool.false_eq_true, if_false]
  refine wpAny_bind (wpAny_alloc ?_)
  refine wpAny_bind (wpAny_layCells _ (fun name kind cells => by cases hkc : kind == NameKind.cell <;> simp [hkc]) _ _ _ _ ?_)
  have e1 : cellsFrom (s.heap.push { cls := .type "frame", data := .dict #[] }).objs.size scope.names closure = (x, s.heap.objs.size + 1) :: closure := by
    rw [hn, Heap.size_push]
    unfold cellsFrom
    rw [if_pos (by rfl)]
    exact cellsFrom_none _ _ _ hr
  have e2 : pushCells (s.heap.push { cls := .type "frame", data := .dict #[] }) scope.names = (s.heap.push { cls := .type "frame", data := .dict #[] }).push { cls := .type "cell", data := .cell none } := by
    rw [hn]
    unfold pushCells
    rw [if_pos (by rfl)]
    exact pushCells_none _ _ hr
  show wpAny _ _ _ _ _ _
  rw [show ({ s with heap := s.heap.push { cls := .type "frame", data := .dict #[] } } : Shared).heap = s.heap.push { cls := .type "frame", data := .dict #[] } from rfl, e1, e2]
  have hcell : ((s.heap.push { cls := .type "frame", data := .dict #[] }).push { cls := .type "cell", data := .cell none }).IsCell (s.heap.objs.size + 1) none := by
    have := Heap.get?_push_size (o := ({ cls := .type "cell", data := .cell none } : Obj)) (s.heap.push { cls := .type "frame", data := .dict #[] }) rfl
    rw [Heap.size_push] at this
    exact ⟨_, this, rfl⟩
  have hl : scope.names.lookup x = some .cell := by rw [hn]; simp
  refine wpAny_bind (thn (Q := fun _ s' => ∃ h' tk, s' = { s with heap := h', toks := tk } ∧ h'.Ns s.heap.objs.size (fun _ => none) ∧ (∀ b o, s.heap.get? b = some o → h'.get? b = some o) ∧ h'.IsCell (s.heap.objs.size + 1) (some v)) ?_ fun _ s' ⟨h', tk, e, n1, n2, n3⟩ => by subst e; exact wpAny_pure (hQ h' tk n1 n2 n3))
  rw [List.forIn_cons]
  refine wpAny_bind (wpAny_bind ?_)
  refine wpAny_storeName_cell (env := newEnv scope s.heap.objs.size globals ((x, s.heap.objs.size + 1) :: closure) qual func code none builtins) hk hl (by show List.lookup x ((x, s.heap.objs.size + 1) :: closure) = _; simp) hcell fun h' hc' hs' => ?_
  refine wpAny_pure (by
    show wpAny M A (forIn ([] : List (Str × Value)) PUnit.unit _) _ _ _
    rw [List.forIn_nil]
    refine wpAny_pure ⟨h', _, rfl, ?_, fun b o e => ?_, hc'⟩
    · exact ((Heap.Ns.new s.heap (.type "frame")).push _).sameBut hs' (Nat.ne_of_lt (Nat.lt_succ_self _))
    · exact (hs'.2 b (Nat.ne_of_lt (Nat.lt_of_lt_of_le (Heap.lt_size e) (Nat.le_succ _)))).trans (Heap.get?_push_of_some _ (Heap.get?_push_of_some _ e)))
/-- a lambda just made, its one parameter in a cell of its own -/
theorem cb_ofC {P : Program} {w : World} {K : PySem.W.Frag} {mg : Str → Option Value} {base : Heap} {CX : CXT} {k : Nat} {outer0 : List Env} {s0 : Shared} {H0 : Hp} {f P' : Addr} {N fr : List Str} {F : LF} {ws : List (Option V)} {pm ctv : Value} {t : XK → TE} {x : Str} {rest : List (Str × NameKind)}
    (S : LScope N [] (x :: fr) F.scope) (hn : F.scope.names = (x, .cell) :: rest) (hnc : ∀ y ∈ rest, y.2 ≠ .cell) (hx : ∀ y c, F.cl.lookup y = some c → y ≠ x) (hxf : x ∉ fr) (hf : s0.heap.get? f = some (F.obj pm ctv)) (hfn : H0 f = none) (hfr : f ∉ frs outer0) (C : CellsAt F.cl fr ws s0.heap H0) (hb : ∀ u : Value, bindArgs (F.fd pm ctv) ⟨[u], []⟩ = pure [(x, u)])
    (hbody : ∀ (A : Around) (outer : List Env) (s : Shared) (H : Hp) (E : XK), Room k (A.deeper (envL F f s.heap.objs.size ((x, s.heap.objs.size + 1) :: F.cl))) → A.guards = some [] → PE (lcx CX P w K mg base N F ((x, s.heap.objs.size + 1) :: F.cl) f A outer s H E) F.body (t E)) :
    CbRun P w K mg base CX (k + 1) outer0 s0 H0 f 1 (fun vs H Q E => H F.c = some (CodeP F.c F.qual P') ∧ ∃ v, vs = [v] ∧ t E (startF N [] (some v :: ws)) H Q) := by
  refine ⟨⟨_, _, _, _, hf⟩, hfn, hfr, fun A outer s H us vs Q E hr hgd e0 un r hu hsp => ?_⟩
  obtain ⟨hc, v, ev, ht⟩ := hsp
  subst ev
  cases r with
  | cons rv rr =>
  cases rr
  rename_i u
  have hf1 : s.heap.get? f = some (F.obj pm ctv) := un.keep f _ hf hfn hfr (by simp)
  have lim : s.heap.NoLimit := e0.mod.nolimit.keeps fun b o e => (e0.bs b o e).1
  obtain ⟨⟨hrec, _⟩, _, _⟩ := e0.hok _ _ hc
  refine PySem.W.kla_callFunE hr.depth hf1 rfl S.co S.gen rfl hrec ?_
  rw [hb u]
  refine wpAny_pure (newEnv_cell1 S.kind hn hnc fun h₁ tk hns kp hcl => ⟨lim.keeps kp, ?_⟩)
  show codeAny _ _ (.expr F.body (envL F f s.heap.objs.size ((x, s.heap.objs.size + 1) :: F.cl))) _ _
  have C1 : CellsAt F.cl fr ws s.heap H := cells_un C un
  have big : ∀ y c, F.cl.lookup y = some c → c ≠ s.heap.objs.size + 1 := fun y c e => by
    obtain ⟨_, v, o, ho, _⟩ := C1.all y c e
    exact Nat.ne_of_lt (Nat.lt_succ_of_lt (Heap.lt_size ho))
  have lk : ∀ y, ((x, s.heap.objs.size + 1) :: F.cl).lookup y = if y = x then some (s.heap.objs.size + 1) else F.cl.lookup y := fun y => by
    rw [List.lookup_cons]
    by_cases h : y = x
    · subst h; simp
    · rw [show (y == x) = false from beq_eq_false_iff_ne.mpr h, if_neg h]
  have C2 : CellsAt ((x, s.heap.objs.size + 1) :: F.cl) (x :: fr) (some v :: ws) h₁ H := by
    have kc : ∀ {c v}, s.heap.IsCell c v → h₁.IsCell c v := fun z => z.keeps kp
    refine ⟨by rw [List.length_cons, List.length_cons, C1.len], fun y c e => ?_, fun y z c e1 e2 => ?_, fun i y e => ?_⟩
    · rw [lk] at e
      split at e
      · cases e
        exact ⟨e0.hok.fresh (Nat.le_succ _), _, hcl⟩
      · obtain ⟨n, v, z⟩ := C1.all y c e
        exact ⟨n, v, kc z⟩
    · rw [lk] at e1 e2
      split at e1 <;> split at e2
      · rename_i q1 q2; rw [q1, q2]
      · cases e1; exact absurd rfl (big _ _ e2)
      · cases e2; exact absurd rfl (big _ _ e1)
      · exact C1.inj _ _ _ e1 e2
    · cases i with
      | zero =>
        simp at e
        subst e
        refine ⟨s.heap.objs.size + 1, by rw [lk, if_pos rfl], fun v' ev => ?_⟩
        simp at ev
        subst ev
        exact ⟨u, rv, hcl⟩
      | succ i =>
        have e' : fr[i]? = some y := by simpa using e
        obtain ⟨c, hc, hv⟩ := C1.has i y e'
        have ny : y ≠ x := fun z => hxf (z ▸ List.mem_of_getElem? e')
        refine ⟨c, by rw [lk, if_neg ny]; exact hc, fun v' ev => ?_⟩
        obtain ⟨u', r', z⟩ := hv v' (by simpa using ev)
        exact ⟨u', r', kc z⟩
  have J : Inv (lcx CX P w K mg base N F ((x, s.heap.objs.size + 1) :: F.cl) f A outer s H E) [] (startF N [] (some v :: ws)) H { s with heap := h₁, toks := tk } := inv_startL (ps := []) (us := []) S hr.hd e0 rfl .nil C2 hns kp
  refine PySem.W.kla_codeExpr (wpAny_mono ((hbody A outer s H E (hr.deeper _) hgd).run [] _ _ H Q J ht) (fun v s' hq => ?_) fun e s' hq => hq)
  obtain ⟨w', H', J', rv, q⟩ := hq
  exact ⟨w', H', J'.os, J'.bare, J'.base, J'.hok, rv, q⟩
/-! ### calls of it -/
section
variable {X : Cx} {CX : CXT} {k n i : Nat} {f : Addr} {sp : Sp} {E : St → XK} {x : Str} {p pos : Pos} {e : Expr} {es : List Expr} {ta : TA}
theorem cb_at {pins : List (Addr × Obj)} {σ : St} {H : Hp} {s : Shared} (F : CbRun X.prog X.w X.K X.mg X.base CX k X.outer X.s_0 X.H_0 f n sp) (hex : X.ex = []) (I : Inv X pins σ H s) : PySem.W.FnAt f s.heap := by
  obtain ⟨⟨a, b, c, d, ho⟩, hn, hfr, _⟩ := F
  exact ⟨a, b, c, d, I.base.keep f _ ho hn hfr (by rw [hex]; simp)⟩
theorem run_cb {pins : List (Addr × Obj)} {σ : St} {H : Hp} {s : Shared} {Q : VK} {us : List Value} {vs : List V} (F : CbRun X.prog X.w X.K X.mg X.base CX k X.outer X.s_0 X.H_0 f n sp) (hex : X.ex = []) (hr : Room k X.A) (hgd : X.A.guards = some []) (hx : PassesAt CX X σ (E σ))
    (I : Inv X pins σ H s) (r : Vals vs us) (hl : vs.length = n) (h : sp vs H Q (E σ)) : wpAny (model X.prog X.w) X.A (call (.ref f) us) (EP X pins σ Q) X.xe s := by
  have un : Un (frs X.outer) [] X.H_0 H X.s_0.heap s.heap := by
    have := I.base
    rw [hex] at this
    exact this
  refine wpAny_call (codeAny_mono (F.2.2.2 X.A X.stack s H us vs Q (E σ) hr hgd I.env0 un r (by rw [← r.length]; exact hl) h) fun r s' hq => ?_)
  cases r with
  | error e => exact hx pins H s e s' I hq
  | ok fl =>
    cases fl with
    | ret u => exact I.after hq
    | next => exact False.elim hq
    | brk => exact False.elim hq
    | cont => exact False.elim hq
theorem pe_cb (F : CbRun X.prog X.w X.K X.mg X.base CX k X.outer X.s_0 X.H_0 f n sp) (hex : X.ex = []) (hr : Room k X.A) (hgd : X.A.guards = some []) (hx : ∀ σ, PassesAt CX X σ (E σ)) (hN : X.N[i]? = some x) (hv : Vis X.env.scope x) (ha : PA X (e :: es) ta)
    (hd : (x == ("__debug__" : Str)) = false := by decide) (hcd : (x == ("__classdict__" : Str)) = false := by decide)
    (he : starEach (e :: es) X.env = (false, eval e X.env) :: starEach es X.env := by rfl) (hpl : (backTo pos (starEach es X.env)).any (·.1) = false := by rfl) :
    PE X (.Call (.Name x p) (e :: es) [] pos) (fun σ H Q => σ[i]? = some (some (.ref f)) ∧ ta σ H fun vs H1 => vs.length = n ∧ sp vs H1 Q (E σ)) := by
  refine ⟨fun pins s σ H Q I h => ?_⟩
  obtain ⟨hs, ht⟩ := h
  refine wpAny_Call_Name_kw (thn ((pe_var (pos := p) hN hv hd hcd).run pins s σ H (fun v H1 => v = .ref f ∧ H1 = H) I ⟨.ref f, hs, rfl, rfl⟩) fun u s1 ⟨v, H1, I1, r1, q1⟩ => ?_)
  obtain ⟨ev, eH⟩ := q1
  subst ev
  rw [eH] at I1
  obtain rfl : u = Value.ref f := r1
  refine PySem.W.callWith_F (first := []) (cb_at F hex I1) (thn (ha.run pos pins s1 σ H _ I1 ht) fun us s2 ⟨vs, H2, I2, r, hl, q⟩ => ⟨cb_at F hex I2, ?_⟩) he hpl
  exact run_cb F hex hr hgd (hx σ) I2 r hl q
theorem pe_cb0 (F : CbRun X.prog X.w X.K X.mg X.base CX k X.outer X.s_0 X.H_0 f 0 sp) (hex : X.ex = []) (hr : Room k X.A) (hgd : X.A.guards = some []) (hx : ∀ σ, PassesAt CX X σ (E σ)) (hN : X.N[i]? = some x) (hv : Vis X.env.scope x)
    (hd : (x == ("__debug__" : Str)) = false := by decide) (hcd : (x == ("__classdict__" : Str)) = false := by decide) :
    PE X (.Call (.Name x p) [] [] pos) (fun σ H Q => σ[i]? = some (some (.ref f)) ∧ sp [] H Q (E σ)) := by
  refine ⟨fun pins s σ H Q I h => ?_⟩
  obtain ⟨hs, q⟩ := h
  refine wpAny_Call_Name_kw (thn ((pe_var (pos := p) hN hv hd hcd).run pins s σ H (fun v H1 => v = .ref f ∧ H1 = H) I ⟨.ref f, hs, rfl, rfl⟩) fun u s1 ⟨v, H1, I1, r1, q1⟩ => ?_)
  obtain ⟨ev, eH⟩ := q1
  subst ev
  rw [eH] at I1
  obtain rfl : u = Value.ref f := r1
  refine PySem.W.callWith_F0 (first := []) (cb_at F hex I1) ?_
  exact run_cb F hex hr hgd (hx σ) I1 .nil rfl q
end
/-! ### a def that gets a callable -/
/-- the promise of a def at g whose last argument may be called; spG: what it makes of that one's promise -/
def FnG (P : Program) (w : World) (K : PySem.W.Frag) (mg : Str → Option Value) (base : Heap) (CXg CXf : CXT) (k j : Nat) (g : Addr) (n : Nat) (spG : Addr → Sp → Sp) : Prop :=
  ∀ (A : Around) (outer : List Env) (s : Shared) (H : Hp) (us : List Value) (vs : List V) (f : Addr) (spF : Sp) (Q : VK) (E : XK), Room k A → A.guards = some [] → Env0 P w K mg base A outer s H → Vals vs us → CbRun P w K mg base CXf j outer s H f n spF → spG f spF (vs ++ [.ref f]) H Q E →
    codeAny (model P w) A (.call (.ref g) ⟨us ++ [.ref f], []⟩) (CR CXg outer P w H s Q E) s
theorem FnG.mono {P : Program} {w : World} {K : PySem.W.Frag} {mg : Str → Option Value} {base : Heap} {CXg CXf : CXT} {i k j : Nat} {g : Addr} {n : Nat} {spG : Addr → Sp → Sp} (F : FnG P w K mg base CXg CXf i j g n spG) (h : i ≤ k) : FnG P w K mg base CXg CXf k j g n spG :=
  fun A outer s H us vs f spF Q E hr => F A outer s H us vs f spF Q E (hr.mono h)
def tGlam (Rt : List (Addr × Str)) (q : Str) (base : Heap) (c : Addr) (spL : Addr → Addr → L2.St → Sp) (spG : Addr → Sp → Sp) (E : L2.St → XK) (ta : TA) : TE := fun σ H Q => ta σ H fun vs H1 => ∃ Ty P, (PySem.W.CodeHd base c P ∨ ∃ q', H1 c = some (CodeP c q' P)) ∧ (P, q) ∈ Ty ∧ TTy Rt Ty H1 ∧
  ∀ f c' P' H2 Ty2, ExtN H1 H2 → TTy Rt Ty2 H2 → (P', lamIn q) ∈ Ty2 → H2 c' = some (CodeP c' q P') → spG f (spL c' P' σ) (vs ++ [.ref f]) H2 Q (E σ)
section
variable {X : Cx} {CXg CXf : CXT} {k j n : Nat} {g c : Addr} {spG : Addr → Sp → Sp} {spL : Addr → Addr → L2.St → Sp} {E : L2.St → XK} {x : Str} {p pos lpos : Pos} {e : Expr} {te : TE} {params : Arguments} {body : Expr} {scope : Scope} {Rt : List (Addr × Str)}
/-- how a lambda that X makes may be called -/
def LamCb (X : Cx) (CXf : CXT) (j n : Nat) (params : Arguments) (body : Expr) (scope : Scope) (spL : Addr → Addr → L2.St → Sp) : Prop :=
  ∀ (pins : List (Addr × Obj)) (σ : L2.St) (H : Hp) (s : Shared) (f c' P' : Addr) (pm ctv : Value), Inv X pins σ H s → s.heap.get? f = some (PySem.W.kla_obj "<lambda>" (X.env.qual ++ "<lambda>") params body scope (cloFrom X.env.cells scope.names []) pm c' ctv) → H f = none → f ∉ frs X.stack →
    CbRun X.prog X.w X.K X.mg X.base CXf j X.stack s H f n (spL c' P' σ)
theorem glam_core {pins : List (Addr × Obj)} {σ : L2.St} {H : Hp} {s : Shared} {us : List Value} {vs : List V} {Q : VK} (G : FnG X.prog X.w X.K X.mg X.base CXg CXf k j g n spG) (hr : Room k X.A) (hgd : X.A.guards = some []) (hx : ∀ σ, PassesAt CXg X σ (E σ)) (hbm : ∃ P0, X.base.BuiltinsAt X.mg P0) (hcode : X.env.code = .ref c)
    (hdef : defaultsOf params X.env = ([], [])) (hfree : ∀ y ∈ scope.names, y.2 = .free → X.env.scope.names.lookup y.1 = some .cell ∨ X.env.scope.names.lookup y.1 = some .free) (hcb : LamCb X CXf j n params body scope spL) (I : Inv X pins σ H s) (r : Vals vs us)
    (h : ∃ Ty P, (PySem.W.CodeHd X.base c P ∨ ∃ q', H c = some (CodeP c q' P)) ∧ (P, X.env.qual ++ "<lambda>") ∈ Ty ∧ TTy Rt Ty H ∧
      ∀ f c' P' H2 Ty2, ExtN H H2 → TTy Rt Ty2 H2 → (P', lamIn (X.env.qual ++ "<lambda>")) ∈ Ty2 → H2 c' = some (CodeP c' (X.env.qual ++ "<lambda>") P') → spG f (spL c' P' σ) (vs ++ [.ref f]) H2 Q (E σ)) :
    wpAny (model X.prog X.w) X.A (eval (.Lambda params body scope lpos) X.env) (fun v s1 => X.K.In s1.heap ∧ wpAny (model X.prog X.w) X.A (call (.ref g) (us ++ [v])) (EP X pins σ Q) X.xe s1) X.xe s := by
  obtain ⟨Ty, P, hC, hm, hT, h⟩ := h
  have hC' : PySem.W.CodeHd s.heap c P := by
    rcases hC with z | ⟨q', z⟩
    · exact z.keeps I.bk
    · exact (I.hok _ _ z).1.2
  have hf : ∀ y ∈ scope.names, y.2 = .free → ∃ c, X.env.cells.lookup y.1 = some c := fun y hy e => (hfree y hy e).elim (fun z => I.ok.has _ (.inl z)) fun z => I.ok.has _ (.inr z)
  refine lam_make3 I hbm hC' hcode hm hT hdef hf fun f c' P' pm ctv H1 s' Ty1 I1 eN T1 hin hfo hfn hfr hco => ⟨I1.kIn, ?_⟩
  have cb := hcb pins σ H1 s' f c' P' pm ctv I1 hfo hfn hfr
  refine wpAny_call (codeAny_mono (G X.A X.stack s' H1 us vs f (spL c' P' σ) Q (E σ) hr hgd I1.env0 r cb (h f c' P' H1 Ty1 eN T1 hin hco)) fun r s2 hq => ?_)
  cases r with
  | error e => exact hx σ pins H1 s' e s2 I1 hq
  | ok fl =>
    cases fl with
    | ret u => exact I1.after hq
    | next => exact False.elim hq
    | brk => exact False.elim hq
    | cont => exact False.elim hq
theorem pe_glam0 (G : FnG X.prog X.w X.K X.mg X.base CXg CXf k j g n spG) (hr : Room k X.A) (hgd : X.A.guards = some []) (hg : Gl X x) (hm : X.mg x = some (.ref g)) (hk : PySem.W.keepIn X.K (.ref g) = true) (hx : ∀ σ, PassesAt CXg X σ (E σ)) (hbm : ∃ P0, X.base.BuiltinsAt X.mg P0) (hcode : X.env.code = .ref c)
    (hcb : LamCb X CXf j n params body scope spL) (hfree : ∀ y ∈ scope.names, y.2 = .free → X.env.scope.names.lookup y.1 = some .cell ∨ X.env.scope.names.lookup y.1 = some .free) (hdef : defaultsOf params X.env = ([], []) := by rfl) (hdb : (x == ("__debug__" : Str)) = false := by decide) :
    PE X (.Call (.Name x p) [.Lambda params body scope lpos] [] pos) (tGlam Rt (X.env.qual ++ "<lambda>") X.base c spL spG E tNil) := by
  refine ⟨fun pins s σ H Q I h => ?_⟩
  refine wpAny_Call_Name_kw (ld_glob I hg hm ?_ hdb)
  refine PySem.W.callWith_K (h₀ := X.base) I.ok.mod.kin hk ?_ (by rfl) (by rfl)
  show wpAny _ _ (spliced ((false, eval (.Lambda params body scope lpos) X.env) :: backTo pos (starEach [] X.env))) _ _ s
  refine Calls.spliced_cons (thn (glam_core (us := []) (vs := []) G hr hgd hx hbm hcode hdef hfree hcb I .nil h) fun v s1 h1 => ?_)
  exact Calls.spliced_nil h1
theorem pe_glam1 (G : FnG X.prog X.w X.K X.mg X.base CXg CXf k j g n spG) (hr : Room k X.A) (hgd : X.A.guards = some []) (hg : Gl X x) (hm : X.mg x = some (.ref g)) (hk : PySem.W.keepIn X.K (.ref g) = true) (hx : ∀ σ, PassesAt CXg X σ (E σ)) (he : PE X e te) (hbm : ∃ P0, X.base.BuiltinsAt X.mg P0) (hcode : X.env.code = .ref c)
    (hcb : LamCb X CXf j n params body scope spL) (hfree : ∀ y ∈ scope.names, y.2 = .free → X.env.scope.names.lookup y.1 = some .cell ∨ X.env.scope.names.lookup y.1 = some .free) (hdef : defaultsOf params X.env = ([], []) := by rfl) (hdb : (x == ("__debug__" : Str)) = false := by decide)
    (hst : starEach (e :: [.Lambda params body scope lpos]) X.env = (false, eval e X.env) :: starEach [.Lambda params body scope lpos] X.env := by rfl) (hpl : (backTo pos (starEach [.Lambda params body scope lpos] X.env)).any (·.1) = false := by rfl) :
    PE X (.Call (.Name x p) [e, .Lambda params body scope lpos] [] pos) (tGlam Rt (X.env.qual ++ "<lambda>") X.base c spL spG E (tCons te tNil)) := by
  refine ⟨fun pins s σ H Q I h => ?_⟩
  refine wpAny_Call_Name_kw (ld_glob I hg hm ?_ hdb)
  refine PySem.W.callWith_K (h₀ := X.base) I.ok.mod.kin hk ?_ hst hpl
  rw [hst]
  show wpAny _ _ (spliced ((false, eval e X.env) :: ((false, eval (.Lambda params body scope lpos) X.env) :: backTo pos (starEach [] X.env)))) _ _ s
  refine Calls.spliced_cons (thn (he.run pins s σ H _ I h) fun u s1 ⟨v1, H1, I1, r1, q1⟩ => ?_)
  refine Calls.spliced_cons (thn (glam_core (us := [u]) (vs := [v1]) G hr hgd hx hbm hcode hdef hfree hcb I1 (.cons r1 .nil) q1) fun v s2 h2 => ?_)
  exact Calls.spliced_nil h2
/-! ### the lambdas that X makes -/
/-- plain parameters -/
theorem lamCb_of {N ps fr : List Str} {js : List Nat} {t : Addr → Addr → XK → TE} (S : LScope N ps fr scope) (hnc : ∀ y ∈ scope.names, y.2 ≠ .cell) (hfree : ∀ y ∈ scope.names, y.2 = .free → X.env.scope.names.lookup y.1 = some .cell ∨ X.env.scope.names.lookup y.1 = some .free)
    (hfr : ∀ y ∈ fr, (y, NameKind.free) ∈ scope.names) (hjs : js.map (fun j => X.N[j]?) = fr.map some)
    (hb : ∀ (q : Str) (cl : List (Str × Addr)) (pm cv ctv : Value) (us : List Value), us.length = ps.length → bindArgs (PySem.W.kla_fn "<lambda>" q params body scope cl pm cv ctv) ⟨us, []⟩ = pure (ps.zip us))
    (hbody : ∀ (c' P' f : Addr) (A : Around) (outer : List Env) (s : Shared) (H : Hp) (E : XK), Room k (A.deeper (envL ⟨X.env.qual ++ "<lambda>", params, body, scope, cloFrom X.env.cells scope.names [], c'⟩ f s.heap.objs.size (cloFrom X.env.cells scope.names []))) → A.guards = some [] →
      PE (lcx CXf X.prog X.w X.K X.mg X.base N ⟨X.env.qual ++ "<lambda>", params, body, scope, cloFrom X.env.cells scope.names [], c'⟩ (cloFrom X.env.cells scope.names []) f A outer s H E) body (t c' P' E)) :
    LamCb X CXf (k + 1) ps.length params body scope (fun c' P' σ vs H Q E => H c' = some (CodeP c' (X.env.qual ++ "<lambda>") P') ∧ t c' P' E (startF N vs (js.map (slotAt σ))) H Q) := by
  intro pins σ H s f c' P' pm ctv I hf hfn hfr'
  exact cb_of (F := ⟨X.env.qual ++ "<lambda>", params, body, scope, cloFrom X.env.cells scope.names [], c'⟩) (P' := P') (t := t c' P') (pm := pm) (ctv := ctv) S hnc hf hfn hfr' (cells_of I (Caps.made I.ok hfree hfr hjs)) (fun us hu => hb _ _ _ _ _ us hu) (fun A outer s H E hr hgd => hbody c' P' f A outer s H E hr hgd)
/-- one parameter, in a cell of its own -/
theorem lamCb_ofC {N fr : List Str} {js : List Nat} {t : Addr → Addr → XK → TE} {y0 : Str} {rest : List (Str × NameKind)} (S : LScope N [] (y0 :: fr) scope) (hn : scope.names = (y0, .cell) :: rest) (hnc : ∀ y ∈ rest, y.2 ≠ .cell) (hy0 : X.env.scope.names.lookup y0 ≠ some .cell ∧ X.env.scope.names.lookup y0 ≠ some .free) (hr0 : ∀ y ∈ rest, y.1 ≠ y0) (hxf : y0 ∉ fr)
    (hfree : ∀ y ∈ scope.names, y.2 = .free → X.env.scope.names.lookup y.1 = some .cell ∨ X.env.scope.names.lookup y.1 = some .free)
    (hfr : ∀ y ∈ fr, (y, NameKind.free) ∈ scope.names) (hjs : js.map (fun j => X.N[j]?) = fr.map some)
    (hb : ∀ (q : Str) (cl : List (Str × Addr)) (pm cv ctv : Value) (u : Value), bindArgs (PySem.W.kla_fn "<lambda>" q params body scope cl pm cv ctv) ⟨[u], []⟩ = pure [(y0, u)])
    (hbody : ∀ (c' P' f : Addr) (A : Around) (outer : List Env) (s : Shared) (H : Hp) (E : XK), Room k (A.deeper (envL ⟨X.env.qual ++ "<lambda>", params, body, scope, cloFrom X.env.cells scope.names [], c'⟩ f s.heap.objs.size ((y0, s.heap.objs.size + 1) :: cloFrom X.env.cells scope.names []))) → A.guards = some [] →
      PE (lcx CXf X.prog X.w X.K X.mg X.base N ⟨X.env.qual ++ "<lambda>", params, body, scope, cloFrom X.env.cells scope.names [], c'⟩ ((y0, s.heap.objs.size + 1) :: cloFrom X.env.cells scope.names []) f A outer s H E) body (t c' P' E)) :
    LamCb X CXf (k + 1) 1 params body scope (fun c' P' σ vs H Q E => H c' = some (CodeP c' (X.env.qual ++ "<lambda>") P') ∧ ∃ v, vs = [v] ∧ t c' P' E (startF N [] (some v :: js.map (slotAt σ))) H Q) := by
  intro pins σ H s f c' P' pm ctv I hf hfn hfr'
  refine cb_ofC (F := ⟨X.env.qual ++ "<lambda>", params, body, scope, cloFrom X.env.cells scope.names [], c'⟩) (P' := P') (t := t c' P') (pm := pm) (ctv := ctv) S hn hnc (fun y c e z => ?_) hxf hf hfn hfr' (cells_of I (Caps.made I.ok hfree hfr hjs)) (fun u => hb _ _ _ _ _ u) (fun A outer s H E hr hgd => hbody c' P' f A outer s H E hr hgd)
  rcases cloFrom_mem (PySem.mem_of_lookup e) with hm | ⟨h1, h2⟩
  · cases hm
  · rw [z] at h1
    rcases hfree _ h1 rfl with q | q
    · exact hy0.1 q
    · exact hy0.2 q
end
end Ob
/-! Rules of my own: except (A, B); a caught exception that is kept. -/
namespace Ob
open PySem PySem.Spec PyProof.Rows L2 L2H
theorem fly_ext {B h h' : Heap} {l : List Env} {a : Addr} {Z : Obj → Prop} (f : HandSPX.FlyingZ B l a Z h) (k : ∀ b o, h.get? b = some o → h'.get? b = some o) : HandSPX.FlyingZ B l a Z h' := by
  obtain ⟨k1, k2, k3, oe, vs, T, oT, ts, he, hz, hd, h1, hnT, hTe, hT, hdT, h3⟩ := f
  exact ⟨fun b o e => k b o (k1 b o e), k2, k3.of_keeps fun b o e _ => ⟨o, k b o e, rfl⟩, oe, vs, T, oT, ts, k _ _ he, hz, hd, h1, hnT, hTe, k _ _ hT, hdT, h3⟩
/-- a, told of at last, is an exception of the class cls with the dict d -/
def ExO (a : Addr) (cls : Value) (d : Option Addr) : HO := .ext fun h => ∃ (o : Obj) (vs : Array Value), h.get? a = some o ∧ Zc cls d o ∧ o.data = .fields vs
section
variable {X : Cx} {pins : List (Addr × Obj)} {σ : L2.St} {H : Hp} {s : Shared}
/-- an object that stands out of sight is told of from now on -/
theorem Inv.track {a : Addr} {o : HO} (I : Inv X pins σ H s) (na : H a = none) (h0 : X.s_0.heap.get? a = none) (np : ∀ p ∈ X.pn ++ pins, p.1 ≠ a) (nL : X.env.locals ≠ a) (nc : ∀ x c, X.env.cells.lookup x = some c → c ≠ a) (new : ObjOk X.prog X.w (upd H a o) s.heap a o) : Inv X pins σ (upd H a o) s := by
  have ne : ∀ {b : Addr} {u : HO}, H b = some u → b ≠ a := fun {b u} e z => by
    rw [z, na] at e
    cases e
  refine ⟨I.ok, I.os, I.bare, ⟨I.base.keep, I.base.slot, fun b ob e n hb => ?_, I.base.there, fun b xs e => ?_, fun b ob u e => ?_, fun b ps e => ?_⟩, I.loc, I.cell, (upd_ne nL).trans I.free, fun x c e => (upd_ne (nc x c e)).trans (I.freeC x c e), fun p hp => ?_, fun b u e => ?_, I.len⟩
  · have : b ≠ a := fun z => by
      rw [z, h0] at e
      cases e
    exact (upd_ne this).trans (I.base.free b ob e n hb)
  · have := I.base.tups b xs e
    exact (upd_ne (ne this)).trans this
  · have := I.base.frzs b ob u e
    exact (upd_ne (ne this)).trans this
  · obtain ⟨more, this⟩ := I.base.tbls b ps e
    exact ⟨more, (upd_ne (ne this)).trans this⟩
  · obtain ⟨e, n, r⟩ := I.pin p hp
    exact ⟨e, (upd_ne (np p hp)).trans n, r⟩
  · by_cases hb : b = a
    · rw [hb, upd_same] at e
      cases e
      rw [hb]
      exact new
    · rw [upd_ne hb] at e
      exact (I.hok b u e).stay (fun _ _ _ q => q) (fun d q => (upd_ne (ne q)).trans q) fun d xs q => (upd_ne (ne q)).trans q
theorem Inv.suite0 (I : Inv X pins σ H s) (a : Addr) : Inv (X.suite a (X.pn ++ pins)) [] σ H s :=
  ⟨I.ok.suite _ _, I.os, I.bare, I.base, I.loc, I.cell, I.free, I.freeC, fun p hp => I.pin p (by
    have hp' : p ∈ (X.pn ++ pins) ++ [] := hp
    rwa [List.append_nil] at hp'), I.hok, I.len⟩
theorem Inv.unsuite0 {a : Addr} {pn' : List (Addr × Obj)} (I : Inv (X.suite a (X.pn ++ pins)) pn' σ H s) (ok : X.Ok) : Inv X pins σ H s :=
  ⟨ok, I.os, I.bare, I.base, I.loc, I.cell, I.free, I.freeC, fun p hp => I.pin p (List.mem_append_left _ hp), I.hok, I.len⟩
end
/-- what the clause 'except (x1, x2) as n' wishes, the exception being told of from then on -/
def wAs2 (K : PySem.W.Frag) (c1 c2 : Value) (i : Nat) (ts : Addr → Value → Option Addr → TS) (Wout : WX) (D : Ends) : WX := fun cls d σ H =>
  ∃ b, PySem.W.exmAny K cls [c1, c2] = some b ∧ (b = true → ∀ a, H a = none → ts a cls d { nx := fun σ' H' => D.nx (σ'.set i none) H', rt := D.rt, bk := fun σ' H' => D.bk (σ'.set i none) H', ct := fun σ' H' => D.ct (σ'.set i none) H' } (σ.set i (some (.ref a))) (upd H a (ExO a cls d))) ∧
    (b = false → Wout cls d σ H)
/-- .. 'except (x1, x2)' -/
def wOnly2 (K : PySem.W.Frag) (c1 c2 : Value) (ts : TS) (Wout : WX) (D : Ends) : WX := fun cls d σ H =>
  ∃ b, PySem.W.exmAny K cls [c1, c2] = some b ∧ (b = true → ts D σ H) ∧ (b = false → Wout cls d σ H)
section
variable {X : Cx} {x1 x2 n : Str} {c1 c2 : Value} {i j : Nat} {body suite : List Stmt} {b₀ : Stmt} {np1 np2 np pos pos' : Pos} {tb : WX → TS} {Wout : WX}
theorem test2 {Y : Cx} {pins : List (Addr × Obj)} {σ : L2.St} {H : Hp} {s : Shared} {a : Addr} {cls : Value} {b : Bool} {oe : Obj} {Q : Bool → Shared → Prop} {E : Value → Shared → Prop} (I : Inv Y pins σ H s) (n1 : Names Y x1 c1) (n2 : Names Y x2 c2) (he : s.heap.get? a = some oe) (hc : oe.cls = cls) (hx : PySem.W.exmAny Y.K cls [c1, c2] = some b)
    (h : ∀ h', (∀ q o, s.heap.get? q = some o → h'.get? q = some o) → Q b { s with heap := h' }) :
    wpAny (model Y.prog Y.w) Y.A (eval (.Tuple [.Name x1 np1, .Name x2 np2] j np) Y.env) (fun c s₁ => wpAny (model Y.prog Y.w) Y.A (excMatches (.ref a) c) Q E s₁) E s := by
  have nm : ∀ {x : Str} {c : Value} {p : Pos} {Q : Value → Shared → Prop}, Names Y x c → Q c s → wpAny (model Y.prog Y.w) Y.A (eval (.Name x p) Y.env) Q E s := fun {x c p Q} hn q => by
    obtain ⟨hg, hdbg, hm | ⟨hm, hv, hnn⟩⟩ := hn
    · exact ld_glob I hg hm q hdbg
    · exact ld_blt I hg hm hv q hnn hdbg
  refine wpAny_Tuple ?_
  refine wpAny_items_cons (nm n1 ?_)
  refine wpAny_items_cons (nm n2 ?_)
  refine wpAny_items_nil ⟨by size_fits, ?_⟩
  have kp : ∀ q o, s.heap.get? q = some o → (s.heap.push { cls := .type "tuple", data := .seq [c1, c2].toArray }).get? q = some o := fun _ _ z => Heap.get?_push_of_some _ z
  have LT : PySem.W.Looks (model Y.prog Y.w) s.heap (typeOf (.ref a)) cls := fun A Q E s k q => wpAny_typeOf_ref (k _ _ he) (by rw [hc]; exact q)
  exact (PySem.W.exm_tup2 (I.kIn.keeps kp) (LT.keeps kp) (Heap.get?_push_size s.heap rfl) hx).here (h _ kp)
theorem ps_try2_as {ts : Addr → Value → Option Addr → TS} (hs : X.stack = X.env :: X.outer) (hf : X.env.frame = some X.env.locals) (hex : X.ex = []) (hN : X.N.Nodup) (hi : X.N[i]? = some n) (hln : X.env.kindOf n = some .local) (n1 : Names X x1 c1) (n2 : Names X x2 c2) (tk : Takes X Wout)
    (hb : ∀ (W : WX) (pn : List (Addr × Obj)) (xe : Value → Shared → Prop), Takes (X.tr pn xe) W → PassesOwn (model X.prog X.w) X.A X.env xe → PSs (X.tr pn xe) body (tb W))
    (hsu : ∀ (a : Addr) (cls : Value) (d : Option Addr) (pn : List (Addr × Obj)), PSs (X.suite a pn) (b₀ :: suite) (ts a cls d)) :
    PS X (.Try body [.ExceptHandler (some (.Tuple [.Name x1 np1, .Name x2 np2] j np)) (some n) (b₀ :: suite) pos'] [] [] pos) (fun D σ H => tb (wAs2 X.K c1 c2 i ts Wout D) D σ H) := by
  refine ⟨fun pins s σ H D I h => ?_⟩
  have ok := I.ok
  have hfr : X.A.frames = some (X.env :: X.outer) := by rw [ok.frames, hs]
  have hloc : Loc X.env.scope n := .inl hln
  refine wpAny_Try_except ?_
  refine wpAny_mono ((hb (wAs2 X.K c1 c2 i ts Wout D) (X.pn ++ pins) (fun e s₁ => wpAny (model X.prog X.w) X.A (noteFrame e X.env) (fun _ s₂ => wpAny (model X.prog X.w) X.A (setFlight e none) (fun _ s₃ =>
    wpAny (model X.prog X.w) X.A (handleBy e X.env [.ExceptHandler (some (.Tuple [.Name x1 np1, .Name x2 np2] j np)) (some n) (b₀ :: suite) pos']) (SP X pins D) X.xe s₃) X.xe s₂) X.xe s₁) (fun u s' xx => ?_) PassesOwn.looking).run [] s σ H D (I.toTry _) h) (fun f s1 hsp => ?_) (fun e s1 he => he)
  · -- the catch
    obtain ⟨a, B, sI, pins', σ', H', cls, d, rfl, J', nb, up, sky, na, os', ag, b, hb1, hyes, hno⟩ := xx
    have J : Inv X pins σ' H' sI := J'.ofTry ok
    have sky' : Sky B (X.env :: X.outer) a (Zc cls d) X.env.locals s'.heap := by rw [← hs]; exact sky
    show wpAny (model X.prog X.w) X.A (noteFrame (.ref a) X.env) _ _ _
    refine Sky.land Zc.steady hfr hf sky' fun h3 fl3 up3 => ?_
    have J3 : Inv X pins σ' H' { s' with heap := h3 } := J.landed nb fl3.1 (up.trans up3) os' ag
    obtain ⟨oe3, vs3, he3, hz3, hd3⟩ := fl3.there
    have notFr : ∀ {h : Heap} {o : Obj} {vs : Array Value}, h.FunFrames B (X.env :: X.outer) → h.get? a = some o → o.data = .fields vs → a ∉ frs (X.env :: X.outer) := fun {h o vs} ff e dd hm => by
      obtain ⟨_, o', e', hnf⟩ := ff.mem hm
      rw [e] at e'; cases e'
      exact hnf _ dd
    have nfr := notFr fl3.2.2.1 he3 hd3
    have nL : a ≠ X.env.locals := fun z => nfr (List.mem_filterMap.mpr ⟨X.env, List.mem_cons_self, by rw [hf, z]⟩)
    have sa : sI.heap.get? a = none := by
      cases q : sI.heap.get? a with
      | none => rfl
      | some o' =>
        have := nb a o' q (by rw [hs]; exact nfr)
        rw [fl3.2.1] at this
        cases this
    refine wpAny_handleBy_cons (codeAny_handlers_test ?_) (by intro q; cases q)
    refine test2 (Y := X.suite a (X.pn ++ pins)) (Inv.suite0 J3 a) n1 n2 he3 hz3.1 hb1 fun h3' kk => ?_
    have fl3' := fly_ext fl3 kk
    have up3' : s'.heap.UpToSlots h3' := up3.trans (Heap.UpToSlots.of_keeps kk)
    cases b with
    | true =>
      refine codeAny_handlers_suite_as ?_
      refine HandSPX.lands_againZ fl3' fun h4 fl4 up4 => ?_
      have J4 : Inv X pins σ' H' { s' with heap := h4 } := J.landed nb fl4.1 ((up.trans up3').trans up4) os' ag
      obtain ⟨oe4, vs4, he4, hz4, hd4⟩ := fl4.there
      have J5 : Inv X pins σ' (upd H' a (ExO a cls d)) { s' with heap := h4 } := by
        refine Inv.track J4 na ?_ (fun p hp z => ?_) (Ne.symm nL) (fun x c e z => ?_) ⟨⟨oe4, vs4, he4, hz4, hd4⟩, ⟨_, he4⟩, fun h1 h2 ⟨o, vs, e1, e2, e3⟩ st => ⟨o, vs, st _ e1, e2, e3⟩⟩
        · cases q : X.s_0.heap.get? a with
          | none => rfl
          | some o =>
            obtain ⟨o', e'⟩ := J.base.there a o q (by rw [hex]; simp)
            rw [sa] at e'
            cases e'
        · have e := (J.pin p hp).1
          rw [z, sa] at e
          cases e
        · obtain ⟨v, o, ho, _⟩ := J.cell x c e
          rw [z, sa] at ho
          cases ho
      have S4 := Inv.suite0 J5 a
      refine store_ok (X := X.suite a (X.pn ++ pins)) (v := .ref a) S4 hN hi hloc rfl (fun s5 S5 => ?_) (.inr hln)
      refine wpAny_mono ((hsu a cls d (X.pn ++ pins)).run [] s5 _ _ _ S5 (hyes rfl a na)) (fun f s6 hsp => ?_) (fun _ _ z => False.elim z)
      have end_ : ∀ {σ6 : L2.St} {H6 : Hp} {Q : Shared → Prop}, Inv (X.suite a (X.pn ++ pins)) [] σ6 H6 s6 → (∀ s7, Inv X pins (σ6.set i none) H6 s7 → Q s7) →
          wpAny (model X.prog X.w) X.A (do bindName X.env n .none; unbindBehindTheSuite X.env n pos') (fun _ s7 => Q s7) X.xe s6 := fun {σ6 H6 Q} S6 hq => gone_ok (Inv.unsuite0 S6 ok) hN hi hln hq
      cases f with
      | next =>
        obtain ⟨σ6, H6, S6, q6⟩ := hsp
        exact end_ S6 fun s7 J7 => ⟨_, _, J7, q6⟩
      | brk =>
        obtain ⟨σ6, H6, S6, q6⟩ := hsp
        exact end_ S6 fun s7 J7 => ⟨_, _, J7, q6⟩
      | cont =>
        obtain ⟨σ6, H6, S6, q6⟩ := hsp
        exact end_ S6 fun s7 J7 => ⟨_, _, J7, q6⟩
      | ret u =>
        obtain ⟨v6, σ6, H6, S6, r6, q6⟩ := hsp
        exact end_ S6 fun s7 J7 => ⟨_, _, _, J7, r6, q6⟩
    | false =>
      show wpAny _ X.A (handleBy (.ref a) X.env []) _ _ _
      refine wpAny_handleBy_nil ?_
      obtain ⟨k1, k2, k3, oe, vs, T, oT, ts', he, hz, hd, h1, hr⟩ := id fl3'
      unfold PySem.passOn
      refine wpAny_bind (wpAny_field he hd h1 ?_)
      rw [if_neg (show ¬ ((Value.ref T == Value.none) = true) from by simp)]
      have fin : wpAny (model X.prog X.w) X.A (setFlight (.ref a) X.env.frame) (fun _ s4 => wpAny (model X.prog X.w) X.A (throw (.ref a) : Sem Flow) (SP X pins D) X.xe s4) X.xe { s' with heap := h3' } := by
        rw [hf]
        refine HandSPX.setFlight_upZ fl3' fun h4 hh4 up4 => wpAny_throw (tk _ _ ?_)
        exact ⟨a, B, sI, pins, σ', H', cls, d, rfl, J, nb, (up.trans up3').trans up4, .inr (.inr (by rw [hs]; exact hh4)), na, os', ag, hno rfl⟩
      first
        | exact wpAny_bind (wpAny_pure (wpAny_bind fin))
        | exact wpAny_bind fin
  · cases f with
    | next =>
      obtain ⟨σ', H', J', q⟩ := hsp
      exact wpAny_execs_nil ⟨σ', H', J'.ofTry ok, q⟩
    | brk =>
      obtain ⟨σ', H', J', q⟩ := hsp
      exact ⟨σ', H', J'.ofTry ok, q⟩
    | cont =>
      obtain ⟨σ', H', J', q⟩ := hsp
      exact ⟨σ', H', J'.ofTry ok, q⟩
    | ret u =>
      obtain ⟨v, σ', H', J', r, q⟩ := hsp
      exact ⟨v, σ', H', J'.ofTry ok, r, q⟩
theorem ps_try2_only {ts : TS} (hs : X.stack = X.env :: X.outer) (hf : X.env.frame = some X.env.locals) (n1 : Names X x1 c1) (n2 : Names X x2 c2) (tk : Takes X Wout)
    (hb : ∀ (W : WX) (pn : List (Addr × Obj)) (xe : Value → Shared → Prop), Takes (X.tr pn xe) W → PassesOwn (model X.prog X.w) X.A X.env xe → PSs (X.tr pn xe) body (tb W))
    (hsu : ∀ (a : Addr) (pn : List (Addr × Obj)), PSs (X.suite a pn) (b₀ :: suite) ts) :
    PS X (.Try body [.ExceptHandler (some (.Tuple [.Name x1 np1, .Name x2 np2] j np)) none (b₀ :: suite) pos'] [] [] pos) (fun D σ H => tb (wOnly2 X.K c1 c2 ts Wout D) D σ H) := by
  refine ⟨fun pins s σ H D I h => ?_⟩
  have ok := I.ok
  have hfr : X.A.frames = some (X.env :: X.outer) := by rw [ok.frames, hs]
  refine wpAny_Try_except ?_
  refine wpAny_mono ((hb (wOnly2 X.K c1 c2 ts Wout D) (X.pn ++ pins) (fun e s₁ => wpAny (model X.prog X.w) X.A (noteFrame e X.env) (fun _ s₂ => wpAny (model X.prog X.w) X.A (setFlight e none) (fun _ s₃ =>
    wpAny (model X.prog X.w) X.A (handleBy e X.env [.ExceptHandler (some (.Tuple [.Name x1 np1, .Name x2 np2] j np)) none (b₀ :: suite) pos']) (SP X pins D) X.xe s₃) X.xe s₂) X.xe s₁) (fun u s' xx => ?_) PassesOwn.looking).run [] s σ H D (I.toTry _) h) (fun f s1 hsp => ?_) (fun e s1 he => he)
  · -- the catch
    obtain ⟨a, B, sI, pins', σ', H', cls, d, rfl, J', nb, up, sky, na, os', ag, b, hb1, hyes, hno⟩ := xx
    have J : Inv X pins σ' H' sI := J'.ofTry ok
    have sky' : Sky B (X.env :: X.outer) a (Zc cls d) X.env.locals s'.heap := by rw [← hs]; exact sky
    show wpAny (model X.prog X.w) X.A (noteFrame (.ref a) X.env) _ _ _
    refine Sky.land Zc.steady hfr hf sky' fun h3 fl3 up3 => ?_
    have J3 : Inv X pins σ' H' { s' with heap := h3 } := J.landed nb fl3.1 (up.trans up3) os' ag
    obtain ⟨oe3, vs3, he3, hz3, hd3⟩ := fl3.there
    refine wpAny_handleBy_cons (codeAny_handlers_test ?_) (by intro q; cases q)
    refine test2 (Y := X.suite a (X.pn ++ pins)) (Inv.suite0 J3 a) n1 n2 he3 hz3.1 hb1 fun h3' kk => ?_
    have fl3' := fly_ext fl3 kk
    have up3' : s'.heap.UpToSlots h3' := up3.trans (Heap.UpToSlots.of_keeps kk)
    cases b with
    | true =>
      refine codeAny_handlers_suite ?_
      refine HandSPX.lands_againZ fl3' fun h4 fl4 up4 => ?_
      have J4 : Inv X pins σ' H' { s' with heap := h4 } := J.landed nb fl4.1 ((up.trans up3').trans up4) os' ag
      refine wpAny_mono ((hsu a (X.pn ++ pins)).run [] _ _ _ _ (Inv.suite0 J4 a) (hyes rfl)) (fun f s6 hsp => ?_) (fun _ _ z => False.elim z)
      cases f with
      | next =>
        obtain ⟨σ6, H6, S6, q6⟩ := hsp
        exact ⟨_, _, Inv.unsuite0 S6 ok, q6⟩
      | brk =>
        obtain ⟨σ6, H6, S6, q6⟩ := hsp
        exact ⟨_, _, Inv.unsuite0 S6 ok, q6⟩
      | cont =>
        obtain ⟨σ6, H6, S6, q6⟩ := hsp
        exact ⟨_, _, Inv.unsuite0 S6 ok, q6⟩
      | ret u =>
        obtain ⟨v6, σ6, H6, S6, r6, q6⟩ := hsp
        exact ⟨_, _, _, Inv.unsuite0 S6 ok, r6, q6⟩
    | false =>
      show wpAny _ X.A (handleBy (.ref a) X.env []) _ _ _
      refine wpAny_handleBy_nil ?_
      obtain ⟨k1, k2, k3, oe, vs, T, oT, ts', he, hz, hd, h1, hr⟩ := id fl3'
      unfold PySem.passOn
      refine wpAny_bind (wpAny_field he hd h1 ?_)
      rw [if_neg (show ¬ ((Value.ref T == Value.none) = true) from by simp)]
      have fin : wpAny (model X.prog X.w) X.A (setFlight (.ref a) X.env.frame) (fun _ s4 => wpAny (model X.prog X.w) X.A (throw (.ref a) : Sem Flow) (SP X pins D) X.xe s4) X.xe { s' with heap := h3' } := by
        rw [hf]
        refine HandSPX.setFlight_upZ fl3' fun h4 hh4 up4 => wpAny_throw (tk _ _ ?_)
        exact ⟨a, B, sI, pins, σ', H', cls, d, rfl, J, nb, (up.trans up3').trans up4, .inr (.inr (by rw [hs]; exact hh4)), na, os', ag, hno rfl⟩
      first
        | exact wpAny_bind (wpAny_pure (wpAny_bind fin))
        | exact wpAny_bind fin
  · cases f with
    | next =>
      obtain ⟨σ', H', J', q⟩ := hsp
      exact wpAny_execs_nil ⟨σ', H', J'.ofTry ok, q⟩
    | brk =>
      obtain ⟨σ', H', J', q⟩ := hsp
      exact ⟨σ', H', J'.ofTry ok, q⟩
    | cont =>
      obtain ⟨σ', H', J', q⟩ := hsp
      exact ⟨σ', H', J'.ofTry ok, q⟩
    | ret u =>
      obtain ⟨v, σ', H', J', r, q⟩ := hsp
      exact ⟨v, σ', H', J'.ofTry ok, r, q⟩
end
end Ob
namespace Ob
open PySem PySem.Spec PyProof.Rows L2 L2H
/-- isinstance(e, c), e an exception that is told of -/
def rIsX (K : PySem.W.Frag) : List V → Hp → VK → Prop := fun xs H Q => ∃ (a D dd : Addr) (fs : List (Str × V)) (c : V) (cv : Value) (b : Bool), xs = [.ref a, c] ∧ ExcC K D ∧ H a = some (ExO a (.ref D) (some dd)) ∧ H dd = some (.xd fs) ∧ (∀ u, RelV c u → u = cv) ∧ PySem.W.kitOne K (.ref D) cv = some b ∧ Q (.bl b) H
/-- e.f -/
def tXfT (K : PySem.W.Frag) (n : Str) (te : TE) : TE := fun σ H Q => te σ H fun x H1 => ∃ (a D dd : Addr) (fs : List (Str × V)) (v : V), x = .ref a ∧ XfC K D ∧ PySem.W.findIn K (.ref D) n = some none ∧ H1 a = some (ExO a (.ref D) (some dd)) ∧ H1 dd = some (.xd fs) ∧ fs.lookup n = some v ∧ Q v H1
section
variable {X : Cx}
theorem exo_at {pins : List (Addr × Obj)} {σ : L2.St} {H : Hp} {s : Shared} {a D dd : Addr} {fs : List (Str × V)} (I : Inv X pins σ H s) (ha : H a = some (ExO a (.ref D) (some dd))) (hd : H dd = some (.xd fs)) :
    ∃ (oe od : Obj) (mA : Str → Option Value), PySem.W.InstAt s.heap a oe D (some od) ∧ (∀ name, PySem.W.lookIn name od = some (mA name)) ∧ ∀ f, RelO (fs.lookup f) (mA f) := by
  obtain ⟨⟨oe, vs, h1, hz, h2⟩, _, _⟩ := I.hok a _ ha
  obtain ⟨mA, hns, hr⟩ := (show ObjOk X.prog X.w H s.heap dd (.xd fs) from I.hok dd _ hd)
  obtain ⟨od, ho, hl⟩ := lookIn_ns hns
  exact ⟨oe, od, mA, ⟨h1, hz.1, by unfold PySem.W.notCls; rw [h2] <;> rfl, by rw [hz.2]; exact ho⟩, hl, hr⟩
theorem call_isX : CallR X (.builtin "isinstance") (rIsX X.K) := by
  intro pins s σ H xs us Q I r h
  obtain ⟨a, D, dd, fs, c, cv, b, rfl, C, ha, hd, hcv, e, q⟩ := h
  cases r with
  | cons rx rr =>
    cases rr with
    | cons rt rr =>
      cases rr
      cases rx
      have ec := hcv _ rt
      subst ec
      obtain ⟨oe, od, mA, J, _⟩ := exo_at I ha hd
      obtain ⟨cd, hcd, _⟩ := PySem.W.any_some C.hd
      exact PySem.W.kia_one (PySem.W.kitx_exc (od := some od) (by rw [hcd]; rfl) C.hg C.hk C.hs C.ha C.hn C.ht C.hm) I.kIn J e (fun z => nomatch z) fun tk => ⟨.bl b, H, I.kept (t' := tk) fun _ _ z => z, rfl, q⟩
theorem pe_xfT {e : Expr} {te : TE} {pos : Pos} {n : Str} (he : PE X e te) (hb : attributeBase e n X.env (eval e X.env) = eval e X.env := by rfl) : PE X (.Attribute e n pos) (tXfT X.K n te) := by
  refine ⟨fun pins s σ H Q I h => ?_⟩
  refine attr_of hb (thn (he.run pins s σ H _ I h) fun u s1 hh => ?_)
  obtain ⟨x, H1, I1, rx, a, D, dd, fs, v, ex, T, hno, ha, hd, l, q⟩ := hh
  subst ex
  obtain rfl : u = Value.ref a := rx
  obtain ⟨oe, od, mA, J, hl, hr⟩ := exo_at I1 ha hd
  obtain ⟨u, hu, ru⟩ := RelO.some_of (v := v) (o := mA n) (by rw [← l]; exact hr n)
  exact HandSPX.exc_get I1.kIn J T.ga T.gg T.exC (PySem.W.findObj_own T.hdC hno rfl (by rw [hl, hu])) (handed_of ru) ⟨v, H1, I1.tok _, ru, q⟩
end
end Ob
/-! Names of the module, defs by their texts, repr, 1 // 0. -/
namespace Ob
open PySem PySem.Spec PyProof.Rows L2 L2H
/-! ### the module's names -/
def Gv (mg : Str → Option Value) (x : Str) (v : V) : Prop := ∃ u, mg x = some u ∧ RelV v u
theorem pe_gv {X : Cx} {x : Str} {v : V} {pos : Pos} (h : Gv X.mg x v) (hg : Gl X x := by rfl) (hd : (x == ("__debug__" : Str)) = false := by decide) : PE X (.Name x pos) (tC v) := by
  obtain ⟨u, h1, h2⟩ := h
  exact pe_glob hg h1 h2 hd
abbrev FOk (P : Program) (w : World) (K : PySem.W.Frag) (mg : Str → Option Value) (base : Heap) (CX : CXT) (k : Nat) (at_ : Str × Option Str) (ps : List Str) (sp : Sp) : Prop := FnOk P w K mg base CX k (He.fAd K at_) (fdAt K (He.fAd K at_)) ps sp
abbrev FVk (P : Program) (w : World) (K : PySem.W.Frag) (mg : Str → Option Value) (base : Heap) (CX : CXT) (k : Nat) (at_ : Str × Option Str) (ps : List Str) (sp : Sp) : Prop := FnV P w K mg base CX k (He.fAd K at_) (fdAt K (He.fAd K at_)) ps sp
/-- .. of a def that is called where no repr runs -/
structure FnW (P : Program) (w : World) (K : PySem.W.Frag) (mg : Str → Option Value) (base : Heap) (CX : CXT) (k : Nat) (f : Addr) (fd : FuncData) (ps : List Str) (sp : Sp) : Prop where
  len : ∀ vs H Q E, sp vs H Q E → vs.length = ps.length
  run : ∀ (A : Around) (outer : List Env) (s : Shared) (H : Hp) (args : Args) (us : List Value) (vs : List V) (Q : VK) (E : XK), Room k A → A.guards = some [] → Env0 P w K mg base A outer s H → BindsTo s fd args (ps.zip us) → Vals vs us → sp vs H Q E →
    codeAny (model P w) A (.call (.ref f) args) (CR CX outer P w H s Q E) s
abbrev FWk (P : Program) (w : World) (K : PySem.W.Frag) (mg : Str → Option Value) (base : Heap) (CX : CXT) (k : Nat) (at_ : Str × Option Str) (ps : List Str) (sp : Sp) : Prop := FnW P w K mg base CX k (He.fAd K at_) (fdAt K (He.fAd K at_)) ps sp
section
variable {P : Program} {w : World} {K : PySem.W.Frag} {mg : Str → Option Value} {base : Heap} {CX : CXT} {j k : Nat} {f : Addr} {fd : FuncData} {ps : List Str} {sp sp' : Sp}
theorem FnW.mono (F : FnW P w K mg base CX j f fd ps sp) (h : j ≤ k) : FnW P w K mg base CX k f fd ps sp := ⟨F.len, fun A outer s H args us vs Q E hr => F.run A outer s H args us vs Q E (hr.mono h)⟩
theorem FnW.imp (F : FnW P w K mg base CX k f fd ps sp) (h : ∀ vs H Q E, sp' vs H Q E → sp vs H Q E) : FnW P w K mg base CX k f fd ps sp' :=
  ⟨fun vs H Q E q => F.len vs H Q E (h _ _ _ _ q), fun A outer s H args us vs Q E hr hg e0 b r q => F.run A outer s H args us vs Q E hr hg e0 b r (h _ _ _ _ q)⟩
theorem wk (F : FnOk P w K mg base CX k f fd ps sp) : FnW P w K mg base CX k f fd ps sp := ⟨F.len, fun A outer s H args us vs Q E hr _ => F.run A outer s H args us vs Q E hr⟩
end
section
variable {P : Program} {w : World} {K : PySem.W.Frag} {mg : Str → Option Value} {base : Heap} {x qual : Str} {params : Arguments} {body : List Stmt} {scope : Scope} {dvs : List V} {kws : List (Str × V)} {f : Addr} {fd : FuncData}
/-- THE RULE for such a def -/
theorem okW {CX : CXT} {N ps : List Str} {k : Nat} {sp : Sp} (F : FunD K x qual params body scope dvs kws f fd) (S : FnScope N ps scope) (len : ∀ vs H Q E, sp vs H Q E → vs.length = ps.length)
    (hbody : ∀ (cdv : Value) (A : Around) (outer : List Env) (s : Shared) (H : Hp) (vs : List V) (Q : VK) (E : XK), Room k (A.deeper (envOfC qual scope s.heap.objs.size f cdv)) → A.guards = some [] → sp vs H Q E →
      ∃ t, PSs (cxOf CX P w K mg base N qual scope f cdv A outer s H E) body t ∧ t { nx := fun _ H' => Q .non H', rt := Q } (L2.start N vs) H) : FnW P w K mg base CX (k + 1) f fd ps sp := by
  obtain ⟨_, _, _, _, _, _, _, cdv, _, _, rfl, lk, hcd, _⟩ := F.ex
  refine ⟨len, fun A outer s H args us vs Q E hr hgd e0 bt r hsp => ?_⟩
  obtain ⟨t, tb, go⟩ := hbody cdv A outer s H vs Q E (hr.deeper _) hgd hsp
  exact def_run true lk hcd S hr.depth e0 bt (fun s1 x => inv_start S hr.hd e0 (len _ _ _ _ hsp) r x) tb go
/-- .. for a def that is called while an exception is handled -/
theorem okV {CX : CXT} {N ps : List Str} {k : Nat} {sp : Sp} (F : FunD K x qual params body scope dvs kws f fd) (S : FnScope N ps scope) (len : ∀ vs H Q E, sp vs H Q E → vs.length = ps.length)
    (hbody : ∀ (cdv : Value) (A : Around) (outer : List Env) (s : Shared) (H : Hp) (vs : List V) (Q : VK) (E : XK), RoomH k (A.deeper (envOfC qual scope s.heap.objs.size f cdv)) → sp vs H Q E →
      ∃ t, PSs (cxV CX P w K mg base N qual scope f cdv A outer s H E) body t ∧ t { nx := fun _ H' => Q .non H', rt := Q } (L2.start N vs) H) : FnV P w K mg base CX (k + 1) f fd ps sp := by
  obtain ⟨oc, od, dV, kV, doc, pm, an, cdv, ct, osl, rfl, lk, hcd, _, _⟩ := F.ex
  exact fnV_of lk hcd S len fun A outer s H vs Q E hr hsp => hbody cdv A outer s H vs Q E hr hsp
end
/-! ### calls -/
/-- a def of the module's top -/
structure Df (K : PySem.W.Frag) (mg : Str → Option Value) (x : Str) (st : Stmt) (ps : List Str) : Prop where
  f : Fn K (x, none) x x st [] []
  g : mg x = some (.ref (He.fAd K (x, none)))
  b : Binds K (fdAt K (He.fAd K (x, none))) ps []
/-- a method -/
structure Dm (K : PySem.W.Frag) (c m : Str) (st : Stmt) (ps : List Str) : Prop where
  f : Fn K (c, some m) m (c ++ "." ++ m) st [] []
  b : Binds K (fdAt K (He.fAd K (c, some m))) ps []
section
variable {X : Cx} {CX : CXT} {k j : Nat} {f : Addr} {fd : FuncData} {ps : List Str} {sp : Sp} {E : L2.St → XK} {x : Str} {p pos : Pos} {e : Expr} {es : List Expr} {t : TA} {st : Stmt}
theorem run_fnW {pins : List (Addr × Obj)} {σ : L2.St} {H : Hp} {s : Shared} {Q : VK} {us : List Value} {vs : List V} (F : FnW X.prog X.w X.K X.mg X.base CX k f fd ps sp) (hr : Room k X.A) (hgd : X.A.guards = some []) (hb : Binds X.K fd ps []) (hx : PassesAt CX X σ (E σ))
    (I : Inv X pins σ H s) (r : Vals vs us) (h : sp vs H Q (E σ)) : wpAny (model X.prog X.w) X.A (call (.ref f) us) (EP X pins σ Q) X.xe s := by
  have hl : us.length = ps.length := by rw [← r.length]; exact F.len _ _ _ _ h
  have b := hb s us I.kIn (by rw [List.append_nil]; exact hl)
  rw [List.append_nil] at b
  refine wpAny_call (codeAny_mono (F.run X.A X.stack s H ⟨us, []⟩ us vs Q (E σ) hr hgd I.env0 b r h) fun r s' hq => ?_)
  cases r with
  | error e => exact hx pins H s e s' I hq
  | ok fl =>
    cases fl with
    | ret u => exact I.after hq
    | next => exact False.elim hq
    | brk => exact False.elim hq
    | cont => exact False.elim hq
/-- f(e, ..), a def that lets nothing out -/
theorem pe_f (D : Df X.K X.mg x st ps) (F : FOk X.prog X.w X.K X.mg X.base CX0 k (x, none) ps sp) (hr : Room j X.A) (hk : k ≤ j) (ha : PA X (e :: es) t) (hg : Gl X x := by rfl)
    (hdb : (x == ("__debug__" : Str)) = false := by decide) (he : starEach (e :: es) X.env = (false, eval e X.env) :: starEach es X.env := by rfl) (hpl : (backTo pos (starEach es X.env)).any (·.1) = false := by rfl) :
    PE X (.Call (.Name x p) (e :: es) [] pos) (tCallS sp (fun _ => E0) t) := pe_callS F (hr.mono hk) hg D.g D.f.kp D.b (fun _ _ _ _ _ _ _ z => z.elim) ha hdb he hpl
/-- .. that may let something out -/
theorem pe_fX {W : WX} (D : Df X.K X.mg x st ps) (F : FOk X.prog X.w X.K X.mg X.base (L2.CX X.prog X.w) k (x, none) ps sp) (tk : Takes X W) (hr : Room j X.A) (hk : k ≤ j) (ha : PA X (e :: es) t) (hg : Gl X x := by rfl)
    (hdb : (x == ("__debug__" : Str)) = false := by decide) (he : starEach (e :: es) X.env = (false, eval e X.env) :: starEach es X.env := by rfl) (hpl : (backTo pos (starEach es X.env)).any (·.1) = false := by rfl) :
    PE X (.Call (.Name x p) (e :: es) [] pos) (tCallS sp (WE W) t) := pe_callS F (hr.mono hk) hg D.g D.f.kp D.b (fun σ => passAt tk σ) ha hdb he hpl
theorem pe_w (D : Df X.K X.mg x st ps) (F : FWk X.prog X.w X.K X.mg X.base CX k (x, none) ps sp) (hr : Room j X.A) (hk : k ≤ j) (hgd : X.A.guards = some []) (hx : ∀ σ, PassesAt CX X σ (E σ)) (ha : PA X (e :: es) t) (hg : Gl X x := by rfl)
    (hdb : (x == ("__debug__" : Str)) = false := by decide) (he : starEach (e :: es) X.env = (false, eval e X.env) :: starEach es X.env := by rfl) (hpl : (backTo pos (starEach es X.env)).any (·.1) = false := by rfl) :
    PE X (.Call (.Name x p) (e :: es) [] pos) (tCallS sp E t) := by
  refine ⟨fun pins s σ H Q I h => ?_⟩
  refine wpAny_Call_Name_kw (ld_glob I hg D.g ?_ hdb)
  refine PySem.W.callWith_K (h₀ := X.base) I.ok.mod.kin D.f.kp (thn (ha.run pos pins s σ H _ I h) fun us s1 ⟨vs, H1, I1, r, q⟩ => ⟨I1.kIn, ?_⟩) he hpl
  exact run_fnW (F.mono hk) hr hgd D.b (hx σ) I1 r q
/-- .. one that lets nothing out -/
theorem pe_w0 (D : Df X.K X.mg x st ps) (F : FWk X.prog X.w X.K X.mg X.base CX0 k (x, none) ps sp) (hr : Room j X.A) (hk : k ≤ j) (hgd : X.A.guards = some []) (ha : PA X (e :: es) t) (hg : Gl X x := by rfl)
    (hdb : (x == ("__debug__" : Str)) = false := by decide) (he : starEach (e :: es) X.env = (false, eval e X.env) :: starEach es X.env := by rfl) (hpl : (backTo pos (starEach es X.env)).any (·.1) = false := by rfl) :
    PE X (.Call (.Name x p) (e :: es) [] pos) (tCallS sp (fun _ => E0) t) := pe_w D F hr hk hgd (fun _ _ _ _ _ _ _ z => z.elim) ha hg hdb he hpl
end
/-! ### repr -/
/-- data whose repr fits -/
structure DOk (d : PyData) : Prop where
  sh : d.showable = true
  lv : d.leavesShort 13 = true
  nd : d.hasDict = false
  wt : d.weight ≤ 2 ^ 20
  dp : d.depth ≤ 60
section
variable {X : Cx}
def rRepr (K : PySem.W.Frag) : List V → Hp → VK → Prop := fun xs H Q => ∃ x d, xs = [x] ∧ Dp K H x d ∧ DOk d ∧ Q (.str d.shown) H
theorem call_reprD (hg : X.A.guards = some []) (hu : X.A.units + 64 < cLine) : CallR X (.builtin "repr") (rRepr X.K) := by
  intro pins s σ H xs us Q I r h
  obtain ⟨x, d, rfl, hd, ok, q⟩ := h
  obtain ⟨u, rfl, rx⟩ := vals1 r
  have sz := PyData.shown_fits (B := 13) (by decide) (by decide) ok.lv ok.wt
  obtain ⟨as, rd⟩ := Dp.reads I d x u hd rx
  have go : ∀ a, u = .ref a → wpAny (model X.prog X.w) X.A (call (.builtin "repr") [u]) (EP X pins σ Q) X.xe s := fun a e => by
    subst e
    exact repr_of_reads' rd ok.sh (PyData.noDict_hsm ok.nd) hg (by have := ok.dp; omega) (fun _ _ z => z) (fun h' u tk k => ⟨.str d.shown, H, I.kept (t' := tk) k, ⟨_, rfl⟩, q⟩) sz
  cases hd with
  | non =>
    cases rx
    exact PySem.P.repr_of_none ⟨.str (PyData.shown .none), H, I.tok _, ⟨_, rfl⟩, q⟩
  | bl b =>
    cases rx
    refine PySem.P.repr_of_bool ⟨.str (PyData.shown (.bool b)), H, I.tok _, ⟨s.toks, ?_⟩, q⟩
    cases b <;> rfl
  | int i =>
    obtain ⟨t, rfl⟩ := rx
    exact PySem.P.repr_of_int (of_decide_eq_true ok.sh) ⟨.str (PyData.shown (.int i)), H, I.tok _, ⟨_, rfl⟩, q⟩
  | str y =>
    obtain ⟨t, rfl⟩ := rx
    exact PySem.P.repr_of_str ⟨.str (PyData.shown (.str y)), H, I.tok _, ⟨_, rfl⟩, q⟩ sz
  | lst h1 h2 => exact go _ rx
  | tup h1 h2 => exact go _ rx
/-! ### 1 // 0 -/
def tDiv0 (W : WX) (ta tb : TE) : TE := fun σ H _ => ta σ H fun x H1 => tb σ H1 fun y H2 => (∃ i, x = .int i) ∧ y = .int 0 ∧ ∀ d, W (.type "ZeroDivisionError") d σ H2
theorem pe_div0 {W : WX} {a b : Expr} {ta tb : TE} {pos : Pos} (hc : X.calm = true) (tk : Takes X W) (ha : PE X a ta) (hb : PE X b tb) : PE X (.BinOp a .FloorDiv b pos) (tDiv0 W ta tb) := by
  refine ⟨fun pins s σ H Q I h => ?_⟩
  refine wpAny_BinOp (binT ha hb I (R := fun x y H2 => (∃ i, x = .int i) ∧ y = .int 0 ∧ ∀ d, W (.type "ZeroDivisionError") d σ H2) h fun v u s2 x y H2 I2 rx ry q => ?_)
  obtain ⟨⟨i, rfl⟩, rfl, hw⟩ := q
  obtain ⟨t, rfl⟩ := rx
  obtain ⟨t', rfl⟩ := ry
  exact floordiv_int_or (I2.ok.hd hc) (fun _ h' tk' e ne => takes_new (t' := tk') tk I2 ne hw) (fun z => absurd rfl z) (fun z => absurd rfl z)
/-! ### dict(d) -/
def rDCopy : List V → Hp → VK → Prop := fun xs H Q => ∃ a kvs, xs = [.ref a] ∧ Rd H a (.dK kvs) ∧ ∀ p, H p = none → Q (.ref p) (upd H p (.dK kvs))
theorem call_dcopy : CallR X (.type "dict") rDCopy := by
  intro pins s σ H xs us Q I r h
  obtain ⟨a, kvs, rfl, hd, q⟩ := h
  obtain ⟨u, rfl, rx⟩ := vals1 r
  cases rx
  exact d_copyOf I hd fun p s' hp J => ⟨.ref p, _, J, rfl, q p hp⟩
end
end Ob
/-! enumerate of a tuple, of a text. -/
namespace Ob
open PySem PySem.Spec PyProof.Rows L2 L2H
theorem meets_enumB {v : Value} {o : Obj} {H : Heap → Prop} (B : Begins v o H) :
    Meets (Builtin.«enumerate.__new__» ⟨[.type "enumerate", v], []⟩) (fun _ R s => H s.heap ∧
      R (.ok (.ret (.ref (s.heap.push o).objs.size))) { s with heap := (s.heap.push o).push { cls := .type "enumerate", data := .fields #[.none, .bool false, .ref s.heap.objs.size, rawInt 0, .none, .none] } }) :=
  .of_wp fun prog w A R s h => by
    obtain ⟨hp, g, d, tk, os⟩ := s
    obtain ⟨h1, h⟩ := h
    have hsub := sub_enumerate
    have q1 : ∀ {A' : Around} {E : Value → Shared → Prop} {Q : Value → Shared → Prop}, Q (.ref hp.objs.size) ⟨(hp.push o), g, d, tk, os⟩ → wpAny (model prog w) A' (pyIter v) Q E ⟨hp, g, d, tk, os⟩ :=
      fun q => B.iter prog w _ _ ⟨hp, g, d, tk, os⟩ _ h1 q
    wp_walk
    refine wpAny_stack_any fun st => wpAny_pure ?_
    split
    · rename_i c _ _ _ _ _
      cases (c == Value.type "enumerate")
      · wp_walk using q1
        exact ⟨_, rfl, h⟩
      · wp_walk using q1
        exact ⟨_, rfl, h⟩
    · wp_walk using q1
      exact ⟨_, rfl, h⟩
theorem call_enumB {prog : Program} {w : World} {A : Around} {E : Value → Shared → Prop} {s : Shared} {v : Value} {o : Obj} {H : Heap → Prop} {Q : Value → Shared → Prop} (B : Begins v o H) (hH : H s.heap)
    (h : ∀ h', IsEnum h' (s.heap.objs.size + 1) s.heap.objs.size 0 .none → h'.get? s.heap.objs.size = some o → h'.objs.size = s.heap.objs.size + 2 →
      (∀ b o, s.heap.get? b = some o → h'.get? b = some o) → Q (.ref (s.heap.objs.size + 1)) { s with heap := h' }) :
    wpAny (model prog w) A (call (.type "enumerate") [v]) Q E s := by
  refine callType_new F.called_enumerate (by decide) (F.typeCall_enumerate_1 _) (F.newCall_enumerate_1 _) (fun obj => F.args_object_init_2 obj _) F.entry_enumerate_new
    (meets_enumB B) ⟨hH, ?_⟩
  have hz : (s.heap.push o).objs.size = s.heap.objs.size + 1 := Heap.size_push ..
  show _ ∧ _
  rw [hz]
  have he : IsEnum ((s.heap.push o).push { cls := .type "enumerate", data := .fields #[.none, .bool false, .ref s.heap.objs.size, rawInt 0, .none, .none] }) (s.heap.objs.size + 1) s.heap.objs.size 0 .none := by
    have := Heap.get?_push_size (s.heap.push o) (o := { cls := .type "enumerate", data := .fields #[.none, .bool false, .ref s.heap.objs.size, rawInt 0, .none, .none] }) rfl
    rw [hz] at this; exact this
  exact ⟨⟨_, he, rfl⟩, h _ he (Heap.get?_push_of_some _ (Heap.get?_push_size _ B.free)) (by rw [Heap.size_push, hz]) fun b o x => Heap.get?_push_of_some _ (Heap.get?_push_of_some _ x)⟩
/-- the source's i-th item, in a new pair with i -/
def ItD (src : Nat → Hp → V → Prop) (go stop : Nat → Hp → Prop) : It :=
  ⟨go, fun i H v H' => ∃ T x, v = .ref T ∧ H T = none ∧ H' = upd H T (.tup [.int (i : Nat), x]) ∧ src i H x, stop⟩
/-- a source that is drawn from: D the library's word for it -/
structure SrcD (P : Program) (w : World) (K : PySem.W.Frag) (it : Addr) (src : Nat → Hp → V → Prop) (go stop : Nat → Hp → Prop) (st : Nat → Heap → Prop) : Prop where
  obj : ∀ i h, st i h → ∃ o, h.get? it = some o ∧ ∀ v, o.data ≠ .cell v
  keep : ∀ i h h', st i h → (∀ o, h.get? it = some o → h'.get? it = some o) → st i h'
  draw : ∀ (X : Cx), X.prog = P → X.w = w → X.K = K → X.calm = true → ∀ (i : Nat) (pins : List (Addr × Obj)) (s : Shared) (σ : L2.St) (H : Hp), Inv X pins σ H s → H it = none → st i s.heap → go i H →
    ∃ (fp : List Addr) (n : Nat) (Pv : Nat → Value → Prop) (St : Nat → Heap → Prop), Draws P w X.A.in1 it fp n Pv St ∧ it ∈ fp ∧ (∀ b ∈ fp, b = it ∨ ∃ u, H b = some u ∨ K.lookup b ≠ none) ∧ St i s.heap ∧ i < n ∧ (∀ h', St (i + 1) h' → st (i + 1) h') ∧ ∀ u, Pv i u → ∃ x, RelV x u ∧ src i H x
  fin : ∀ (X : Cx), X.prog = P → X.w = w → X.K = K → X.calm = true → ∀ (i : Nat) (pins : List (Addr × Obj)) (s : Shared) (σ : L2.St) (H : Hp), Inv X pins σ H s → H it = none → st i s.heap → stop i H →
    ∃ (fp : List Addr) (Pv : Nat → Value → Prop) (St : Nat → Heap → Prop), Draws P w X.A.in1 it fp i Pv St ∧ St i s.heap
theorem turn_enumD {P : Program} {w : World} {K : PySem.W.Frag} {elts : List Expr} {kk : Nat} {tpos : Pos} {src : Nat → Hp → V → Prop} {go stop : Nat → Hp → Prop} {st0 : Nat → Heap → Prop} (e it : Addr) (S : SrcD P w K it src go stop st0) :
    Turn P w K (.Tuple elts kk tpos) (ItD src go stop) [e, it] e (fun i h => (∃ old, IsEnum h e it ((i : Nat) : Int) old) ∧ st0 i h ∧ e ≠ it) where
  mem := by simp
  obj := fun i h st b hb => by
    obtain ⟨⟨old, he⟩, hs, _⟩ := st
    have e' : b = e ∨ b = it := by simpa using hb
    rcases e' with z | z
    · rw [z]; exact ⟨_, he, fun v q => nomatch q⟩
    · rw [z]; exact S.obj i h hs
  keep := fun i h h' st k => let ⟨⟨old, he⟩, hi, hne⟩ := st; ⟨⟨old, k e (by simp) _ he⟩, S.keep i h h' hi fun o q => k it (by simp) o q, hne⟩
  item := by
    intro X hP hw hK hc i pins s σ H E I hf st hg
    obtain ⟨⟨old, he⟩, hs, hne⟩ := st
    obtain ⟨f0, f1, f2, f3, f4, f5⟩ := hf it (by simp)
    obtain ⟨g0, g1, g2, g3, g4, g5⟩ := hf e (by simp)
    obtain ⟨fp, n, Pv, St, D, hfp, hfb, hst, hlt, hnx, hrel⟩ := S.draw X hP hw hK hc i pins s σ H I f0 hs hg
    subst hP hw hK
    have hel : e < s.heap.objs.size := Heap.lt_size he
    have hil : it < s.heap.objs.size := by obtain ⟨o, q, _⟩ := S.obj i _ hs; exact Heap.lt_size q
    have hef : e ∉ fp := fun hm => by
      rcases hfb e hm with z | ⟨u, z | z⟩
      · exact hne z
      · rw [g0] at z; cases z
      · cases q : X.K.lookup e with
        | none => exact z q
        | some o =>
          have h1 : X.base.get? e = some o := I.ok.mod.kin e o q
          have h2 := (I.ok.bs e o h1).1
          rcases g3 with z | z
          · exact I.ok.noex e o h1 z
          · exact absurd (Nat.lt_of_lt_of_le (Heap.lt_size h2) z) (Nat.lt_irrefl _)
    refine wpAny_pyNext_enum_itemD D he hst hlt hne hef fun x h' tk hP ho hst' hT hsz hk => ?_
    obtain ⟨xv, ru, hsrc⟩ := hrel x hP
    refine ⟨_, rfl, wpAny_letOwnedTupleGo_enum (s := { s with heap := h', toks := tk + 1 }) ho fun h'' he' sb => ?_⟩
    have hT2 : h''.get? s.heap.objs.size = some { cls := .type "tuple", data := .seq #[.int i tk, x] } := (sb.2 _ (Nat.ne_of_gt hel)).trans hT
    have new : ObjOk X.prog X.w (upd H s.heap.objs.size (.tup [.int (i : Nat), xv])) h'' s.heap.objs.size (.tup [.int (i : Nat), xv]) :=
      ⟨by show 2 ≤ sizeLine; decide, [.int i tk, x], .cons ⟨_, rfl⟩ (.cons ru .nil), ⟨_, hT2, rfl, _, rfl⟩⟩
    have I1 : Inv X pins σ (upd H s.heap.objs.size (.tup [.int (i : Nat), xv])) { s with heap := h'', toks := tk + 1 } :=
      I.turnedNew (ch := [e, it]) (fun b ob hb q => (sb.2 b (fun z => hb (by simp [z]))).trans (hk b ob (fun z => hb (by simp [z])) (fun z => hb (by simp [z])) q)) hf (Nat.le_refl _) new
    refine ⟨.ref s.heap.objs.size, _, I1, rfl, ⟨_, xv, rfl, I.hok.fresh (Nat.le_refl _), rfl, hsrc⟩, ⟨⟨x, ?_⟩, S.keep _ _ _ (hnx h' hst') fun o q => (sb.2 it (Ne.symm hne)).trans q, hne⟩, fun b hb => ?_⟩
    · have e1 : ((i + 1 : Nat) : Int) = (i : Int) + 1 := by omega
      rw [e1]; exact he'
    · have hb' : b < s.heap.objs.size := by
        have e' : b = e ∨ b = it := by simpa using hb
        rcases e' with z | z
        · rw [z]; exact hel
        · rw [z]; exact hil
      rw [upd_ne (Nat.ne_of_lt hb')]
      exact (hf b hb).1
  done := by
    intro X hP hw hK hc i pins s σ H E I hf st hg
    obtain ⟨⟨old, he⟩, hs, hne⟩ := st
    obtain ⟨f0, f1, f2, f3, f4, f5⟩ := hf it (by simp)
    obtain ⟨fp, Pv, St, D, hst⟩ := S.fin X hP hw hK hc i pins s σ H I f0 hs hg
    subst hP hw hK
    exact wpAny_pyNext_enum_endD D he hst fun h' eb => ⟨rfl, I.turned (t' := s.toks) (fun b o hb q => eb b o hb q) f0 f1 f3 f4 f5⟩
  self := fun A i s Q E st h => let ⟨⟨_, he⟩, _⟩ := st; wpAny_pyIter_enum he h
/-! ### the two sources -/
def srcT (K : PySem.W.Frag) (a : Addr) (i : Nat) (H : Hp) (x : V) : Prop := ∀ xs, SqT K H a xs → xs[i]? = some x
def Itet (K : PySem.W.Frag) (a : Addr) : It := ItD (srcT K a) (fun i H => ∃ (xs : List V) (x : V), SqT K H a xs ∧ xs[i]? = some x) (fun i H => ∃ xs : List V, SqT K H a xs ∧ xs.length = i)
theorem tup_ref {K : PySem.W.Frag} {H : Hp} {a : Addr} {xs : List V} (h : SqT K H a xs) : ∃ u, H a = some u ∨ K.lookup a ≠ none := by
  rcases h with (h | ⟨o, h⟩) | ⟨o, its, n, h, _⟩
  · exact ⟨_, .inl h⟩
  · exact ⟨_, .inl h⟩
  · exact ⟨.own 0, .inr (by rw [h]; simp)⟩
theorem src_tup {P : Program} {w : World} {K : PySem.W.Frag} (a it : Addr) : SrcD P w K it (srcT K a) (fun i H => ∃ (xs : List V) (x : V), SqT K H a xs ∧ xs[i]? = some x) (fun i H => ∃ xs : List V, SqT K H a xs ∧ xs.length = i) (fun i h => h.IsTupleIter it a i) where
  obj := fun i h ⟨o, e, c, d⟩ => ⟨o, e, fun v z => by rw [d] at z; cases z⟩
  keep := fun i h h' st k => st.at fun o e => k o e
  draw := fun X hP hw hK hc i pins s σ H I hit st ⟨xs, x, hq, hx⟩ => by
    subst hP hw hK
    obtain ⟨its, rv, p, hz⟩ := I.tuple hq
    have hne : a ≠ it := fun z => by
      subst z
      obtain ⟨o, e, c, d⟩ := st
      obtain ⟨o', e', c', n', d'⟩ := (show s.heap.IsTuple a its.toArray from p)
      rw [e] at e'
      cases e'
      rw [d] at d'
      cases d'
    refine ⟨_, _, _, _, Draws.tuple (prog := X.prog) (w := X.w) (A := X.A.in1) (I.ok.hd hc) it a hne its.toArray, by simp, fun b hb => ?_, ⟨st, p⟩, ?_, fun h' q => q.1, fun u hu => ?_⟩
    · have : b = it ∨ b = a := by simpa using hb
      rcases this with z | z
      · exact .inl z
      · rw [z]; exact .inr (tup_ref hq)
    · have := (List.getElem?_eq_some_iff.mp hx).1
      simp; rw [← rv.length]; exact this
    · obtain ⟨u', hu', ru⟩ := rv.get hx
      have hu2 : its[i]? = some u := by simpa using hu
      rw [hu'] at hu2
      cases hu2
      exact ⟨x, ru, fun ys hy => by rw [I.tuple_inj hy hq]; exact hx⟩
  fin := fun X hP hw hK hc i pins s σ H I hit st ⟨xs, hq, hx⟩ => by
    subst hP hw hK
    obtain ⟨its, rv, p, hz⟩ := I.tuple hq
    have hne : a ≠ it := fun z => by
      subst z
      obtain ⟨o, e, c, d⟩ := st
      obtain ⟨o', e', c', n', d'⟩ := (show s.heap.IsTuple a its.toArray from p)
      rw [e] at e'
      cases e'
      rw [d] at d'
      cases d'
    have hsz : its.toArray.size = i := by simp; rw [← rv.length]; exact hx
    have D := Draws.tuple (prog := X.prog) (w := X.w) (A := X.A.in1) (I.ok.hd hc) it a hne its.toArray
    rw [hsz] at D
    exact ⟨_, _, _, D, st, p⟩
def iEnumT (K : PySem.W.Frag) (ta : TA) : TI := fun σ H R => ta σ H fun vs H1 => ∃ a xs, vs = [.ref a] ∧ SqT K H1 a xs ∧ R (Itet K a) H1
theorem pi_enumT {X : Cx} {e : Expr} {ta : TA} {p pos tpos : Pos} {elts : List Expr} {kk : Nat} (hg : Gl X "enumerate") (hm : X.mg "enumerate" = none) (ha : PA X [e] ta) (hs : starEach [e] X.env = [(false, eval e X.env)] := by rfl) :
    PI X (.Tuple elts kk tpos) (.Call (.Name "enumerate" p) [e] [] pos) (iEnumT X.K ta) := by
  refine ⟨fun pins s σ H R I h => ?_⟩
  refine Call_ (ld_blt I hg hm boot_enumerate (PyProof.Rows.callWith_type1 (thn (ha.run pos pins s σ H _ I h) fun us s1 ⟨vs, H1, I1, r1, q1⟩ => ?_) hs rfl))
  obtain ⟨a, xs, ex, hq, q⟩ := q1
  subst ex
  cases r1 with
  | cons r rr =>
    cases rr
    cases r
    obtain ⟨its, rv, p', hz⟩ := I1.tuple hq
    refine call_enumB (begins_tuple a its.toArray) (show s1.heap.IsTuple a its.toArray from p') fun h' he hit hsz hk => wpAny_pyIter_enum he ?_
    have I2 : Inv X pins σ H1 { s1 with heap := h' } := I1.kept (t' := s1.toks) hk
    refine ⟨s1.heap.objs.size + 1, [s1.heap.objs.size + 1, s1.heap.objs.size], _, _, H1, rfl, I2, turn_enumD (s1.heap.objs.size + 1) s1.heap.objs.size (src_tup a _), ⟨⟨.none, he⟩, ⟨_, hit, rfl, rfl⟩, Nat.succ_ne_self _⟩, fun b hb => ?_, q⟩
    have e' : b = s1.heap.objs.size + 1 ∨ b = s1.heap.objs.size := by simpa using hb
    have hle : s1.heap.objs.size ≤ b := by
      rcases e' with z | z
      · rw [z]; exact Nat.le_add_right _ _
      · rw [z]; exact Nat.le_refl _
    exact I1.fpOk hle (I1.hok.fresh hle)
/-- a text's signs -/
def srcS (z : Str) (i : Nat) (_ : Hp) (x : V) : Prop := ∃ c, z.cps[i]? = some c ∧ x = .str ⟨#[c]⟩
def Ites (z : Str) : It := ItD (srcS z) (fun i _ => i < z.cps.size) (fun i _ => i = z.cps.size)
theorem src_str {P : Program} {w : World} {K : PySem.W.Frag} (z : Str) (t : Tok) (it : Addr) : SrcD P w K it (srcS z) (fun i _ => i < z.cps.size) (fun i _ => i = z.cps.size) (fun i h => h.IsStrIter it (strIterType z) z t i) where
  obj := fun i h ⟨o, e, c, d⟩ => ⟨o, e, fun v z => by rw [d] at z; cases z⟩
  keep := fun i h h' ⟨o, e, r⟩ k => ⟨o, k o e, r⟩
  draw := fun X hP hw hK hc i pins s σ H I hit st hlt => by
    subst hP hw hK
    refine ⟨_, _, _, _, Draws.text (prog := X.prog) (w := X.w) (A := X.A.in1) (I.ok.hd hc) it z t, by simp, fun b hb => ?_, st, hlt, fun h' q => q, fun u hu => ?_⟩
    · have : b = it := by simpa using hb
      exact .inl this
    · obtain ⟨c, u', hc, rfl⟩ := hu
      exact ⟨.str ⟨#[c]⟩, ⟨u', rfl⟩, c, hc, rfl⟩
  fin := fun X hP hw hK hc i pins s σ H I hit st hx => by
    subst hP hw hK
    subst hx
    exact ⟨_, _, _, Draws.text (prog := X.prog) (w := X.w) (A := X.A.in1) (I.ok.hd hc) it z t, st⟩
def iEnumS (ta : TA) : TI := fun σ H R => ta σ H fun vs H1 => ∃ z, vs = [.str z] ∧ R (Ites z) H1
theorem pi_enumS {X : Cx} {e : Expr} {ta : TA} {p pos tpos : Pos} {elts : List Expr} {kk : Nat} (hg : Gl X "enumerate") (hm : X.mg "enumerate" = none) (ha : PA X [e] ta) (hs : starEach [e] X.env = [(false, eval e X.env)] := by rfl) :
    PI X (.Tuple elts kk tpos) (.Call (.Name "enumerate" p) [e] [] pos) (iEnumS ta) := by
  refine ⟨fun pins s σ H R I h => ?_⟩
  refine Call_ (ld_blt I hg hm boot_enumerate (PyProof.Rows.callWith_type1 (thn (ha.run pos pins s σ H _ I h) fun us s1 ⟨vs, H1, I1, r1, q1⟩ => ?_) hs rfl))
  obtain ⟨z, ex, q⟩ := q1
  subst ex
  cases r1 with
  | cons r rr =>
    cases rr
    obtain ⟨t, rfl⟩ := r
    refine call_enumB (begins_text z t) True.intro fun h' he hit hsz hk => wpAny_pyIter_enum he ?_
    have I2 : Inv X pins σ H1 { s1 with heap := h' } := I1.kept (t' := s1.toks) hk
    refine ⟨s1.heap.objs.size + 1, [s1.heap.objs.size + 1, s1.heap.objs.size], _, _, H1, rfl, I2, turn_enumD (s1.heap.objs.size + 1) s1.heap.objs.size (src_str z t _), ⟨⟨.none, he⟩, ⟨_, hit, rfl, rfl⟩, Nat.succ_ne_self _⟩, fun b hb => ?_, q⟩
    have e' : b = s1.heap.objs.size + 1 ∨ b = s1.heap.objs.size := by simpa using hb
    have hle : s1.heap.objs.size ≤ b := by
      rcases e' with z | z
      · rw [z]; exact Nat.le_add_right _ _
      · rw [z]; exact Nat.le_refl _
    exact I1.fpOk hle (I1.hok.fresh hle)
theorem walk_enumT {K : PySem.W.Frag} {a : Addr} {xs : List V} : Walk (Itet K a) xs.length (fun H => SqT K H a xs) (YPair (fun i => some (.int (i : Nat))) (fun i => xs[i]?)) := by
  refine ⟨fun i _ hi q => ⟨xs, xs[i], q, by simp [hi]⟩, fun _ q => ⟨xs, q, rfl⟩, fun i H v H' _ q y => ?_⟩
  obtain ⟨T, x, h1, h2, h3, h4⟩ := y
  exact ⟨T, .int (i : Nat), x, h1, h2, h3, rfl, h4 xs q⟩
theorem walk_enumS {z : Str} : Walk (Ites z) z.cps.size (fun _ => True) (YPair (fun i => some (.int (i : Nat))) (fun i => z.cps[i]?.map fun c => .str ⟨#[c]⟩)) := by
  refine ⟨fun i _ hi _ => hi, fun _ _ => rfl, fun i H v H' _ _ y => ?_⟩
  obtain ⟨T, x, h1, h2, h3, c, h4, h5⟩ := y
  exact ⟨T, .int (i : Nat), x, h1, h2, h3, rfl, by show Option.map _ z.cps[i]? = some x; rw [h4, h5]; rfl⟩
end Ob
/-! Signs, books: what the small defs answer. -/
namespace Ob
open PySem PySem.Spec PyProof.Rows L2 L2H
/-- a tuple of the written part -/
def KTup (K : PySem.W.Frag) (a : Addr) (xs : List V) : Prop := ∃ (o : Obj) (its : Array Value) (n : Nat), K.lookup a = some o ∧ o.cls = .type "tuple" ∧ o.data = .seq its n ∧ its.size ≤ sizeLine ∧ Vals xs its.toList
theorem KTup.sq {K : PySem.W.Frag} {a : Addr} {xs : List V} (h : KTup K a xs) (H : Hp) : SqT K H a xs := .inr h
/-- the six manners' choices -/
def chs : List (List Str) := [["always", "free", "never"], ["always", "apart", "never"], ["same", "none"], ["own", "any", "never"], ["own", "any", "one"], ["never", "line"]]
def Bk.vs (b : Bk) : List Str := [b.b0, b.b1, b.b2, b.b3, b.b4, b.b5]
def Bk.V (b : Bk) : List V := b.vs.map .str
structure TxS (K : PySem.W.Frag) (mg : Str → Option Value) : Prop where
  n_isinstance : mg "isinstance" = none
  n_str : mg "str" = none
  n_tuple : mg "tuple" = none
  n_len : mg "len" = none
  n_enumerate : mg "enumerate" = none
  OPENERS : Gv mg "OPENERS" (.str (S [40, 91]))
  CLOSERS : Gv mg "CLOSERS" (.str (S [41, 93]))
  QUOTE : Gv mg "QUOTE" (.str (S [39]))
  BLANK : Gv mg "BLANK" (.str (S [32]))
  LINE : Gv mg "LINE" (.str (S [47]))
  LETTERS : Gv mg "LETTERS" (.str (S lets))
  SIGNS : Gv mg "SIGNS" (.str (S sigs))
  MOST_TEXT : Gv mg "MOST_TEXT" (.int 200)
  BACK : Gv mg "BACK" (.str "back")
  RIGHT : Gv mg "RIGHT" (.str "right")
  END : Gv mg "END" (.str "end")
  MOST_KEYS : Gv mg "MOST_KEYS" (.int 400)
  CHOICES : ∃ (a : Addr) (cs : List Addr), Gv mg "CHOICES" (.ref a) ∧ KTup K a (cs.map V.ref) ∧ cs.length = 6 ∧ ∀ (i : Nat) (c : Addr), cs[i]? = some c → ∃ zs : List Str, chs[i]? = some zs ∧ KTup K c (zs.map V.str)
  d_need_book : Df K mg "need_book" s_need_book p_need_book
  d_need_text : Df K mg "need_text" s_need_text p_need_text
  d_is_sign : Df K mg "is_sign" s_is_sign p_is_sign
  d_closer_of : Df K mg "closer_of" s_closer_of p_closer_of
  d_is_letter : Df K mg "is_letter" s_is_letter p_is_letter
  d_is_closing : Df K mg "is_closing" s_is_closing p_is_closing
  d_is_free : Df K mg "is_free" s_is_free p_is_free
  d_is_within : Df K mg "is_within" s_is_within p_is_within
  d_is_key : Df K mg "is_key" s_is_key p_is_key
  d_need_keys : Df K mg "need_keys" s_need_keys p_need_keys
section
variable {X : Cx}
/-- name = value, the name's slot i -/
theorem ps_st (i : Nat) {x : Str} {e : Expr} {te : TE} {pos pos' : Pos} (hN : X.N.Nodup) (he : PE X e te) (hi : X.N[i]? = some x := by rfl) (hx : Loc X.env.scope x := by first | exact .inl rfl | exact .inr rfl) (hs : swapsWith e (some (.Name x pos')) pos.line X.env = pure false := by rfl) (hf : X.fn x = true ∨ X.env.scope.names.lookup x = some .local := by first | exact .inl rfl | exact .inr rfl) :
    PS X (.Assign [.Name x pos'] e pos) (tAsg te (gName i)) := ps_set hN hi hx he hs hf
theorem pg_nm (i : Nat) {x : Str} {pos : Pos} (hN : X.N.Nodup) (hi : X.N[i]? = some x := by rfl) (hx : Loc X.env.scope x := by first | exact .inl rfl | exact .inr rfl) (hf : X.fn x = true ∨ X.env.scope.names.lookup x = some .local := by first | exact .inl rfl | exact .inr rfl) : PG X (.Name x pos) (gName i) := pg_name hN hi hx hf
end
theorem cut_from (l : List Nat) {k : Nat} (h : k ≤ l.length) : cutS (S l) (some (k : Int)) none = S (l.drop k) := by
  have e : HT.sIx l.length 0 (some (k : Int)) = k := by
    unfold HT.sIx
    simp only
    rw [if_neg (by omega)]
    simp
    omega
  have e2 : HT.sIx l.length l.length none = l.length := by
    unfold HT.sIx
    simp
  unfold cutS
  rw [S_len, e, e2]
  show (⟨((l.drop k).take (l.length - k)).toArray⟩ : Str) = _
  rw [List.take_of_length_le (by rw [List.length_drop]; omega)]
/-- one sign, or none -/
def O1 : Option Nat → Str
  | none => S []
  | some c => S [c]
theorem sg_eq {a b : List Nat} : decide (V.str (S a) = V.str (S b)) = decide (a = b) := by
  by_cases h : a = b
  · subst h; simp
  · rw [decide_eq_false h, decide_eq_false fun q => h (S_inj (V.str.inj q))]
def spSign (f : Option Nat → V) : Sp := fun vs H Q _ => ∃ o : Option Nat, vs = [.str (O1 o)] ∧ Q (f o) H
def spIsSign : Sp := fun vs H Q _ => (∃ c, vs = [.str (S [c])] ∧ c ∈ sigs ∧ Q (.bl true) H) ∨ (∃ z : Str, vs = [.str z] ∧ z.length ≠ 1 ∧ z.length ≤ sizeLine ∧ Q (.bl false) H) ∨ (vs = [.non] ∧ Q (.bl false) H)
section
variable {P : Program} {w : World} {K : PySem.W.Frag} {mg : Str → Option Value} {base : Heap}
theorem ok_is_sign (T : TxS K mg) : FOk P w K mg base CX0 1 ("is_sign", none) p_is_sign spIsSign := by
  refine T.d_is_sign.f.ok sc_is_sign (fun vs H Q E h => ?_) (fun cdv A outer s H vs Q E hr h => ?_)
  · rcases h with ⟨c, rfl, _⟩ | ⟨z, rfl, _⟩ | ⟨rfl, _⟩ <;> rfl
  · refine ⟨_, PSs.nox (pss_one (ps_ret (pe_and (pe_callB call_isi rfl T.n_isinstance PyProof.Rows.Boot.«isinstance» (pa_cons (pv 0) (pa_cons (pe_bltn rfl T.n_str PyProof.Rows.Boot.«str» (v := .ty "str") rfl) pa_nil)))
      (pe_and (pe_cmpR op_eq (pe_callB call_len rfl T.n_len boot_len (pa_cons (pv 0) pa_nil)) pe_int (nomark _)) (pe_one (pe_cmpR op_in_sign (pv 0) (pe_gv T.SIGNS) rfl)))))), ?_⟩
    rcases h with ⟨c, rfl, hc, k⟩ | ⟨z, rfl, h1, h2, k⟩ | ⟨rfl, k⟩
    · refine ⟨_, rfl, .str (S [c]), .ty "str", _, _, true, rfl, .ty _, .base (.str _), kit_ty (by decide +kernel), true, rfl, iteT ?_⟩
      refine ⟨_, rfl, _, 1, rfl, ⟨(show 1 ≤ sizeLine by decide), rfl⟩, rfl, true, rfl, iteT ?_⟩
      refine ⟨_, rfl, c, _, rfl, rfl, ?_⟩
      show Q (.bl (decide (c ∈ sigs))) H
      rw [decide_eq_true hc]
      exact k
    · refine ⟨_, rfl, .str z, .ty "str", _, _, true, rfl, .ty _, .base (.str _), kit_ty (by decide +kernel), true, rfl, iteT ?_⟩
      refine ⟨_, rfl, _, z.length, rfl, ⟨h2, rfl⟩, rfl, false, ?_, iteF k⟩
      have : ¬ V.int (z.length : Int) = V.int 1 := fun q => h1 (by have := V.int.inj q; omega)
      rw [decide_eq_false this]
    · exact ⟨_, rfl, .non, .ty "str", _, _, false, rfl, .ty _, .base .non, kit_ty (by decide +kernel), false, rfl, iteF k⟩
theorem ok_is_closing (T : TxS K mg) : FOk P w K mg base CX0 1 ("is_closing", none) p_is_closing (spSign fun o => .bl (match o with | none => false | some c => isClosing c)) := by
  refine T.d_is_closing.f.ok sc_is_closing (fun vs H Q E h => ?_) (fun cdv A outer s H vs Q E hr h => ?_)
  · obtain ⟨o, rfl, _⟩ := h
    rfl
  · obtain ⟨o, rfl, k⟩ := h
    refine ⟨_, PSs.nox (pss_one (ps_ret (pe_and (pe_cmpR op_ne (pv 0) pe_str (nomark _)) (pe_one (pe_cmpR op_in_sign (pv 0) (pe_op op_add_str (pe_gv T.CLOSERS) (pe_gv T.QUOTE)) rfl))))), ?_⟩
    refine ⟨_, rfl, rfl, _, rfl, ?_⟩
    cases o with
    | none => exact iteF k
    | some c =>
      refine iteT ⟨_, rfl, _, _, rfl, rfl, by decide, c, _, rfl, rfl, ?_⟩
      exact k
theorem ok_is_letter (T : TxS K mg) : FOk P w K mg base CX0 1 ("is_letter", none) p_is_letter (spSign fun o => .bl (match o with | none => false | some c => isLetter c)) := by
  refine T.d_is_letter.f.ok sc_is_letter (fun vs H Q E h => ?_) (fun cdv A outer s H vs Q E hr h => ?_)
  · obtain ⟨o, rfl, _⟩ := h
    rfl
  · obtain ⟨o, rfl, k⟩ := h
    refine ⟨_, PSs.nox (pss_one (ps_ret (pe_and (pe_cmpR op_ne (pv 0) pe_str (nomark _)) (pe_one (pe_cmpR op_in_sign (pv 0) (pe_gv T.LETTERS) rfl))))), ?_⟩
    refine ⟨_, rfl, rfl, _, rfl, ?_⟩
    cases o with
    | none => exact iteF k
    | some c => exact iteT ⟨_, rfl, c, _, rfl, rfl, k⟩
theorem ok_is_free (T : TxS K mg) : FOk P w K mg base CX0 1 ("is_free", none) p_is_free (spSign fun o => .bl (isFree o)) := by
  refine T.d_is_free.f.ok sc_is_free (fun vs H Q E h => ?_) (fun cdv A outer s H vs Q E hr h => ?_)
  · obtain ⟨o, rfl, _⟩ := h
    rfl
  · obtain ⟨o, rfl, k⟩ := h
    refine ⟨_, PSs.nox (pss_one (ps_ret (pe_or (pe_cmpR op_eq (pv 0) pe_str (nomark _)) (pe_one (pe_cmpR op_in_sign (pv 0) (pe_op op_add_str (pe_op op_add_str (pe_op op_add_str (pe_gv T.CLOSERS) (pe_gv T.QUOTE)) (pe_gv T.BLANK)) (pe_gv T.LINE)) rfl))))), ?_⟩
    refine ⟨_, rfl, rfl, _, rfl, ?_⟩
    cases o with
    | none => exact iteT k
    | some c =>
      refine iteF ⟨_, rfl, _, _, rfl, rfl, by decide, _, _, rfl, rfl, by decide, _, _, rfl, rfl, by decide, c, _, rfl, rfl, ?_⟩
      exact k
def optS : Option Nat → V := fun o => .str (O1 o)
theorem ok_closer_of (T : TxS K mg) : FOk P w K mg base CX0 1 ("closer_of", none) p_closer_of (spSign fun o => optS (o.bind closerOf)) := by
  refine T.d_closer_of.f.ok sc_closer_of (fun vs H Q E h => ?_) (fun cdv A outer s H vs Q E hr h => ?_)
  · obtain ⟨o, rfl, _⟩ := h
    rfl
  · obtain ⟨o, rfl, k⟩ := h
    refine ⟨_, PSs.nox (pss_cons (ps_if (pt_cmpR op_eq (pv 0) (pe_gv T.QUOTE) (nomark _)) (pss_one (ps_ret (pe_gv T.QUOTE))) pss_nil)
      (pss_one (ps_ret (pe_ifExp (pw_and (pt_cmpR op_ne (pv 0) pe_str (nomark _)) (pw_and1 (pt_cmpR op_in_sign (pv 0) (pe_gv T.OPENERS) rfl))).pt
        (pe_ix ix_str (pe_gv T.CLOSERS) (pe_m1 F.slot_str_index F.type_str_index mt_sindex (pe_gv T.OPENERS) (pv 0)) (fun _ _ => rfl)) pe_str)))), ?_⟩
    cases o with
    | none => exact ⟨_, rfl, rfl, false, rfl, iteF ⟨_, rfl, rfl, false, rfl, iteF (iteF k)⟩⟩
    | some c =>
      refine ⟨_, rfl, rfl, decide (c = 39), by rw [← show decide ([c] = [39]) = decide (c = 39) by simp, ← sg_eq] <;> rfl, ?_⟩
      by_cases h1 : c = 39
      · subst h1
        exact iteT k
      · rw [decide_eq_false h1]
        refine iteF ⟨_, rfl, rfl, true, rfl, iteT ⟨_, rfl, c, _, rfl, rfl, decide (c ∈ [40, 91]), rfl, ?_⟩⟩
        by_cases h2 : c = 40
        · subst h2
          exact iteT ⟨⟨_, rfl⟩, _, rfl, _, _, 0, [], rfl, rfl, by decide +kernel, _, _, 41, rfl, rfl, by decide, by decide, k⟩
        · by_cases h3 : c = 91
          · subst h3
            exact iteT ⟨⟨_, rfl⟩, _, rfl, _, _, 1, [], rfl, rfl, by decide +kernel, _, _, 93, rfl, rfl, by decide, by decide, k⟩
          · rw [show decide (c ∈ [40, 91]) = false by simp [h2, h3]]
            refine iteF ?_
            have e : (some c).bind closerOf = none := by
              show closerOf c = none
              unfold closerOf
              rw [if_neg h1, if_neg h2, if_neg h3]
            have k' : Q (optS ((some c).bind closerOf)) H := k
            rw [e] at k'
            exact k'
theorem ok_is_within (T : TxS K mg) : FOk P w K mg base CX0 1 ("is_within", none) p_is_within (fun vs H Q _ => ∃ l : List Nat, vs = [.str (S l)] ∧ l.length ≤ 1000 ∧ Q (.bl (within l)) H) := by
  refine T.d_is_within.f.ok sc_is_within (fun vs H Q E h => ?_) (fun cdv A outer s H vs Q E hr h => ?_)
  · obtain ⟨o, rfl, _⟩ := h
    rfl
  · obtain ⟨l, rfl, hl, k⟩ := h
    have nd := sc_is_within.nd
    refine ⟨_, PSs.nox (pss_cons (ps_st 1 nd (pe_m1 F.slot_str_count F.type_str_count mt_count (pe_slice sl_str (pv 0) (po_some (pe_op op_add (pe_m1 F.slot_str_rfind F.type_str_rfind mt_rfind (pv 0) (pe_gv T.LINE)) pe_int)) po_none) (pe_gv T.QUOTE)))
      (pss_one (ps_ret (pe_cmpR op_eq (pe_op op_sub (pv 1) (pe_op op_mul pe_int (pe_op op_fdiv (pv 1) pe_int))) pe_int (nomark _))))), ?_⟩
    obtain ⟨kk, e1, e2, e3⟩ := rfind_line l
    have hs : (S l).length ≤ sizeLine := by rw [S_len]; exact Nat.le_of_lt (small1000 hl)
    refine ⟨_, rfl, ?_⟩
    refine ⟨_, rfl, ⟨_, rfl⟩, _, _, rfl, rfl, ?_⟩
    refine ⟨_, 1, rfl, rfl, _, rfl, S l, rfl, hs, ⟨_, rfl⟩, _, _, rfl, rfl, ?_⟩
    rw [e1, cut_from l e3, e2, count_line]
    refine ⟨_, rfl, _, rfl, _, 2, rfl, rfl, ⟨by decide, by decide⟩, 2, _, rfl, rfl, .inl ⟨by decide, by decide⟩, _, _, rfl, rfl, rfl, ?_⟩
    have e : decide (V.int (((lastLine l).count 39 : Nat) - 2 * (((lastLine l).count 39 : Nat) / 2) : Int) = V.int 1) = within l := by
      unfold within quotes
      rw [Bool.eq_iff_iff]
      simp
      omega
    have k' := k
    rw [← e] at k'
    exact k'
/-- keys as they are given -/
def spIsKey : Sp := fun vs H Q _ => (∃ q : Ky, q.ok ∧ vs = [.str q.str] ∧ ∀ H', Same H H' → Q (.bl true) H') ∨ (vs = [.non] ∧ Q (.bl false) H)
theorem same_new {H : Hp} {p : Addr} {o : HO} (hp : H p = none) : Same H (upd H p o) := fun b u e => (upd_ne (ne_of_none e hp)).trans e
theorem ok_is_key (T : TxS K mg) : FOk P w K mg base CX0 2 ("is_key", none) p_is_key spIsKey := by
  refine T.d_is_key.f.ok sc_is_key (fun vs H Q E h => ?_) (fun cdv A outer s H vs Q E hr h => ?_)
  · rcases h with ⟨q, _, rfl, _⟩ | ⟨rfl, _⟩ <;> rfl
  · refine ⟨_, PSs.nox (pss_one (ps_ret (pe_or (pe_f T.d_is_sign (ok_is_sign T) hr (by decide) (pa_cons (pv 0) pa_nil)) (pe_one (pe_and (pe_callB call_isi rfl T.n_isinstance PyProof.Rows.Boot.«isinstance» (pa_cons (pv 0) (pa_cons (pe_bltn rfl T.n_str PyProof.Rows.Boot.«str» (v := .ty "str") rfl) pa_nil)))
      (pe_one (pe_cmpR op_in_seq (pv 0) (pe_tup (pa_cons (pe_gv T.BACK) (pa_cons (pe_gv T.RIGHT) (pa_cons (pe_gv T.END) pa_nil)))) rfl))))))), ?_⟩
    rcases h with ⟨q, hq, rfl, k⟩ | ⟨rfl, k⟩
    · cases q with
      | sg c => exact ⟨_, rfl, .inl ⟨c, rfl, hq, true, rfl, iteT (k H (Same.refl H))⟩⟩
      | _ =>
        refine ⟨_, rfl, .inr (.inl ⟨_, rfl, by decide, by decide, false, rfl, iteF ?_⟩)⟩
        refine ⟨_, rfl, .str _, .ty "str", _, _, true, rfl, .ty _, .base (.str _), kit_ty (by decide +kernel), true, rfl, iteT ?_⟩
        refine ⟨_, rfl, (show 3 ≤ sizeLine by decide), fun p hp => ⟨p, _, rfl, .inr (.inl (.inl upd_same)), rfl, rfl, k _ (same_new hp)⟩⟩
    · exact ⟨_, rfl, .inr (.inr ⟨rfl, false, rfl, iteF ⟨_, rfl, .non, .ty "str", _, _, false, rfl, .ty _, .base .non, kit_ty (by decide +kernel), false, rfl, iteF k⟩⟩)⟩
theorem ok_need_text (T : TxS K mg) : FOk P w K mg base CX0 1 ("need_text", none) p_need_text (fun vs H Q _ => ∃ l : List Nat, vs = [.str (S l)] ∧ l.length ≤ 200 ∧ (∀ c ∈ l, c ∈ sigs) ∧ ∀ H', Same H H' → Q .non H') := by
  refine T.d_need_text.f.ok sc_need_text (fun vs H Q E h => ?_) (fun cdv A outer s H vs Q E hr h => ?_)
  · obtain ⟨o, rfl, _⟩ := h
    rfl
  · obtain ⟨l, rfl, hl, hs, k⟩ := h
    have nd := sc_need_text.nd
    refine ⟨_, PSs.nox (pss_cons (ps_if (PW.pt (pw_or (pt_not (pt_val (pe_callB call_isi rfl T.n_isinstance PyProof.Rows.Boot.«isinstance» (pa_cons (pv 0) (pa_cons (pe_bltn rfl T.n_str PyProof.Rows.Boot.«str» (v := .ty "str") rfl) pa_nil))) (fun _ => rfl)))
        (pw_or1 (pt_cmpR op_gt (pe_callB call_len rfl T.n_len boot_len (pa_cons (pv 0) pa_nil)) (pe_gv T.MOST_TEXT) (nomark _))))) pss_never pss_nil)
      (pss_one (ps_for PassesOwn.never rfl (pi_enumS rfl T.n_enumerate (pa_cons (pv 0) pa_nil)) (pg_tup rfl (pgs_cons (pg_nm 1 nd) (pgs_cons (pg_nm 2 nd) pgs_nil)))
        (pss_one (ps_if (pt_cmpR op_notIn_sign (pv 2) (pe_gv T.SIGNS) rfl) pss_never pss_nil))))), ?_⟩
    have hsz : (S l).length ≤ sizeLine := by rw [S_len]; exact Nat.le_of_lt (small1000 (by omega))
    refine ⟨_, rfl, .str (S l), .ty "str", _, _, true, rfl, .ty _, .base (.str _), kit_ty (by decide +kernel), true, rfl, iteF ?_⟩
    refine ⟨_, rfl, _, _, rfl, ⟨hsz, rfl⟩, _, _, rfl, rfl, decide ((200 : Int) < (l.length : Int)), by rw [S_len], ?_⟩
    rw [decide_eq_false (show ¬ ((200 : Int) < (l.length : Int)) by omega)]
    refine iteF ?_
    refine ⟨_, rfl, S l, rfl, ?_⟩
    refine for_it walk_enumS (fun i σ H' => Same H H' ∧ ∃ x1 x2, σ = [some (.str (S l)), x1, x2]) ⟨Same.refl H, _, _, rfl⟩ (fun _ _ _ _ _ => True.intro) (fun i x σ H1 H2 hi ⟨p1, x1, x2, p2⟩ hy => ?_) (fun σ H1 ⟨p1, _⟩ => k H1 p1)
    obtain ⟨Tp, a, b, rfl, hT, rfl, ea, eb⟩ := hy
    subst p2
    have hb : ∃ c, (S l).cps[i]? = some c ∧ V.str (S [c]) = b := Option.map_eq_some_iff.mp eb
    obtain ⟨c, hc, rfl⟩ := hb
    have hc' : l[i]? = some c := by simpa [S] using hc
    refine ⟨Tp, [a, .str (S [c])], rfl, .inl (.inl upd_same), rfl, a, _, rfl, _, [], rfl, rfl, ?_⟩
    refine ⟨_, rfl, c, S sigs, rfl, rfl, _, rfl, ?_⟩
    have hd : decide (c ∈ (S sigs).cps.toList) = true := decide_eq_true (hs c (List.mem_of_getElem? hc'))
    rw [hd]
    exact iteF ⟨p1.trans (same_new hT), _, _, rfl⟩
theorem ok_need_keys (T : TxS K mg) : FOk P w K mg base CX0 3 ("need_keys", none) p_need_keys (fun vs H Q _ => ∃ (a : Addr) (ks : List Ky), vs = [.ref a] ∧ H a = some (.tup (ks.map fun q => V.str q.str)) ∧ ks.length ≤ 400 ∧ (∀ q ∈ ks, q.ok) ∧ ∀ H', Same H H' → Q .non H') := by
  refine T.d_need_keys.f.ok sc_need_keys (fun vs H Q E h => ?_) (fun cdv A outer s H vs Q E hr h => ?_)
  · obtain ⟨a, ks, rfl, _⟩ := h
    rfl
  · obtain ⟨a, ks, rfl, ha, hl, hs, k⟩ := h
    have nd := sc_need_keys.nd
    refine ⟨_, PSs.nox (pss_cons (ps_if (PW.pt (pw_or (pt_not (pt_val (pe_callB call_isi rfl T.n_isinstance PyProof.Rows.Boot.«isinstance» (pa_cons (pv 0) (pa_cons (pe_bltn rfl T.n_tuple PyProof.Rows.Boot.«tuple» (v := .ty "tuple") rfl) pa_nil))) (fun _ => rfl)))
        (pw_or1 (pt_cmpR op_gt (pe_callB call_len rfl T.n_len boot_len (pa_cons (pv 0) pa_nil)) (pe_gv T.MOST_KEYS) (nomark _))))) pss_never pss_nil)
      (pss_one (ps_for PassesOwn.never rfl (pi_enumT rfl T.n_enumerate (pa_cons (pv 0) pa_nil)) (pg_tup rfl (pgs_cons (pg_nm 1 nd) (pgs_cons (pg_nm 2 nd) pgs_nil)))
        (pss_one (ps_if (pt_not (pt_val (pe_f T.d_is_key (ok_is_key T) hr (by decide) (pa_cons (pv 2) pa_nil)) (fun _ => rfl))) pss_never pss_nil))))), ?_⟩
    refine ⟨_, rfl, .ref a, .ty "tuple", _, _, true, rfl, .ty _, .base (.tup ha), kit_ty (by decide +kernel), true, rfl, iteF ?_⟩
    refine ⟨_, rfl, _, _, rfl, .inr ⟨_, .inl (.inl ha), rfl⟩, _, _, rfl, rfl, decide ((400 : Int) < (ks.length : Int)), by rw [List.length_map], ?_⟩
    rw [decide_eq_false (show ¬ ((400 : Int) < (ks.length : Int)) by omega)]
    refine iteF ?_
    refine ⟨_, rfl, a, _, rfl, .inl (.inl ha), ?_⟩
    refine for_it walk_enumT (fun i σ H' => Same H H' ∧ ∃ x1 x2, σ = [some (.ref a), x1, x2]) ⟨Same.refl H, _, _, rfl⟩ (fun _ _ H' _ p => .inl (.inl (p.1 _ _ ha))) (fun i x σ H1 H2 hi ⟨p1, x1, x2, p2⟩ hy => ?_) (fun σ H1 ⟨p1, _⟩ => k H1 p1)
    obtain ⟨Tp, xa, xb, rfl, hT, rfl, ea, eb⟩ := hy
    subst p2
    have eb' : (ks.map fun q => V.str q.str)[i]? = some xb := eb
    rw [List.getElem?_map] at eb'
    obtain ⟨q, hq, rfl⟩ := Option.map_eq_some_iff.mp eb'
    refine ⟨Tp, [xa, .str q.str], rfl, .inl (.inl upd_same), rfl, xa, _, rfl, _, [], rfl, rfl, ?_⟩
    exact ⟨_, rfl, .inl ⟨q, hs q (List.mem_of_getElem? hq), rfl, fun H' e => ⟨true, rfl, iteF ⟨(p1.trans (same_new hT)).trans e, _, _, rfl⟩⟩⟩⟩
theorem bk_at {b : Bk} (hb : b.ok) {i : Nat} {z : Str} (h : b.vs[i]? = some z) : ∃ zs, chs[i]? = some zs ∧ z ∈ zs := by
  match i, h with
  | 0, h => cases h; exact ⟨_, rfl, hb.o0⟩
  | 1, h => cases h; exact ⟨_, rfl, hb.o1⟩
  | 2, h => cases h; exact ⟨_, rfl, hb.o2⟩
  | 3, h => cases h; exact ⟨_, rfl, hb.o3⟩
  | 4, h => cases h; exact ⟨_, rfl, hb.o4⟩
  | 5, h => cases h; exact ⟨_, rfl, hb.o5⟩
theorem inV_str {z : Str} {zs : List Str} (h : z ∈ zs) : inV (.str z) (zs.map V.str) = true := by
  unfold inV
  rw [List.any_eq_true]
  exact ⟨.str z, List.mem_map_of_mem h, by simp [eqV]⟩
theorem flat_strs (zs : List Str) : (zs.map V.str).all flatV = true := by
  rw [List.all_eq_true]
  intro x hx
  obtain ⟨z, _, rfl⟩ := List.mem_map.mp hx
  rfl
theorem ok_need_book (T : TxS K mg) : FOk P w K mg base CX0 1 ("need_book", none) p_need_book (fun vs H Q _ => ∃ (a : Addr) (b : Bk), vs = [.ref a] ∧ H a = some (.tup b.V) ∧ b.ok ∧ ∀ H', Same H H' → Q (.ref a) H') := by
  refine T.d_need_book.f.ok sc_need_book (fun vs H Q E h => ?_) (fun cdv A outer s H vs Q E hr h => ?_)
  · obtain ⟨a, ks, rfl, _⟩ := h
    rfl
  · obtain ⟨a, b, rfl, ha, hb, k⟩ := h
    have nd := sc_need_book.nd
    obtain ⟨ca, cs, hC, kC, lC, aC⟩ := T.CHOICES
    refine ⟨_, PSs.nox (pss_cons (ps_if (PW.pt (pw_or (pt_not (pt_val (pe_callB call_isi rfl T.n_isinstance PyProof.Rows.Boot.«isinstance» (pa_cons (pv 0) (pa_cons (pe_bltn rfl T.n_tuple PyProof.Rows.Boot.«tuple» (v := .ty "tuple") rfl) pa_nil))) (fun _ => rfl)))
        (pw_or1 (pt_cmpR op_ne (pe_callB call_len rfl T.n_len boot_len (pa_cons (pv 0) pa_nil)) (pe_callB call_len rfl T.n_len boot_len (pa_cons (pe_gv hC) pa_nil)) (nomark _))))) pss_never pss_nil)
      (pss_cons (ps_for PassesOwn.never rfl (pi_enumT rfl T.n_enumerate (pa_cons (pv 0) pa_nil)) (pg_tup rfl (pgs_cons (pg_nm 1 nd) (pgs_cons (pg_nm 2 nd) pgs_nil)))
        (pss_one (ps_if (PW.pt (pw_or (pt_not (pt_val (pe_callB call_isi rfl T.n_isinstance PyProof.Rows.Boot.«isinstance» (pa_cons (pv 2) (pa_cons (pe_bltn rfl T.n_str PyProof.Rows.Boot.«str» (v := .ty "str") rfl) pa_nil))) (fun _ => rfl)))
          (pw_or1 (pt_cmpR op_notIn_seq (pv 2) (pe_ix ix_tup (pe_gv hC) (pv 1) (fun _ _ => rfl)) rfl)))) pss_never pss_nil)))
        (pss_one (ps_ret (pv 0))))), ?_⟩
    refine ⟨_, rfl, .ref a, .ty "tuple", _, _, true, rfl, .ty _, .base (.tup ha), kit_ty (by decide +kernel), true, rfl, iteF ?_⟩
    refine ⟨_, rfl, _, 6, rfl, .inr ⟨_, .inl (.inl ha), rfl⟩, _, 6, rfl, .inr ⟨_, kC.sq H, by rw [List.length_map]; exact lC.symm⟩, rfl, false, rfl, iteF ?_⟩
    refine ⟨_, rfl, a, _, rfl, .inl (.inl ha), ?_⟩
    refine for_it walk_enumT (fun i σ H' => Same H H' ∧ ∃ x1 x2, σ = [some (.ref a), x1, x2]) ⟨Same.refl H, _, _, rfl⟩ (fun _ _ H' _ p => .inl (.inl (p.1 _ _ ha))) (fun i x σ H1 H2 hi ⟨p1, x1, x2, p2⟩ hy => ?_) (fun σ H1 ⟨p1, x1, x2, p2⟩ => by subst p2; exact ⟨_, rfl, k H1 p1⟩)
    obtain ⟨Tp, xa, xb, rfl, hT, rfl, ea, eb⟩ := hy
    subst p2
    cases ea
    have eb' : (b.vs.map V.str)[i]? = some xb := eb
    rw [List.getElem?_map] at eb'
    obtain ⟨z, hz, rfl⟩ := Option.map_eq_some_iff.mp eb'
    obtain ⟨zs, hzs, hm⟩ := bk_at hb hz
    have hi6 : i < 6 := (List.getElem?_eq_some_iff.mp hz).1
    obtain ⟨c, hc⟩ : ∃ c, cs[i]? = some c := ⟨cs[i]'(by omega), List.getElem?_eq_getElem (by omega)⟩
    obtain ⟨zs', hzs', kc⟩ := aC i c hc
    rw [hzs] at hzs'
    cases hzs'
    refine ⟨Tp, [.int (i : Nat), .str z], rfl, .inl (.inl upd_same), rfl, _, _, rfl, _, [], rfl, rfl, ?_⟩
    refine ⟨_, rfl, .str z, .ty "str", _, _, true, rfl, .ty _, .base (.str _), kit_ty (by decide +kernel), true, rfl, iteF ?_⟩
    have hat : atI (cs.map V.ref) ((i : Nat) : Int) = some (.ref c) := atI_nat (by rw [List.getElem?_map, hc]; rfl)
    refine ⟨_, rfl, _, rfl, ca, _, _, _, rfl, rfl, kC.sq _, hat, c, _, rfl, .inr (kc.sq _), rfl, flat_strs zs, false, ?_, iteF ⟨p1.trans (same_new hT), _, _, rfl⟩⟩
    rw [inV_str hm]
    rfl
end
end Ob
/-! Frames, data, comprehensions. -/
namespace Ob
open PySem PySem.Spec PyProof.Rows L2 L2H
/-- what P wishes stays -/
def Kp (P : Addr → HO → Prop) (H H' : Hp) : Prop := ∀ b o, H b = some o → P b o → H' b = some o
theorem Kp.refl {P : Addr → HO → Prop} (H : Hp) : Kp P H H := fun _ _ h _ => h
theorem Kp.trans {P : Addr → HO → Prop} {H H1 H2 : Hp} (a : Kp P H H1) (b : Kp P H1 H2) : Kp P H H2 := fun c o h p => b c o (a c o h p) p
theorem Kp.of {P : Addr → HO → Prop} {H H1 : Hp} (a : Same H H1) : Kp P H H1 := fun c o h _ => a c o h
abbrev PT1 : Addr → HO → Prop := fun _ _ => True
theorem Kp.same {H H1 : Hp} (a : Kp PT1 H H1) : Same H H1 := fun c o h => a c o h True.intro
/-- all but the objects at these addresses stays -/
abbrev PBut (l : List Addr) : Addr → HO → Prop := fun b _ => b ∉ l
theorem lc_acc {J : It} {n : Nat} {G : Hp → Prop} {Y : Nat → Hp → V → Hp → Prop} (w : Walk J n G Y) {g : TG} {tt : TT} {te : TE} {vs : List Nat} {σ : L2.St} {H1 : Hp} {D : Addr} {Qd : Hp → Prop} (P : Addr → HO → Prop) (R : Nat → List V → Hp → Prop) (hD : H1 D = none)
    (r0 : R 0 [] (upd H1 D (.lst []))) (hG : ∀ i H acc, i ≤ n → Kp P H1 H → H D = some (.lst acc) → R i acc H → G H) (hP : ∀ i acc H, R i acc H → P D (.lst acc)) (len : ∀ i acc H, R i acc H → acc.length ≤ sizeLine) (mono : ∀ i acc H a0 a1, H D = some (.lst a0) → R i acc H → R i acc (upd H D (.lst a1)))
    (hs : ∀ i x H H' acc (Post : V → Hp → Prop) (Skip : Hp → Prop), i < n → Kp P H1 H → H D = some (.lst acc) → R i acc H → (∀ y H4, Kp P H H4 → R (i + 1) (acc ++ [y]) H4 → Post y H4) → (∀ H3, Kp P H H3 → R (i + 1) acc H3 → Skip H3) → Y i H x H' →
      g x (wipe σ vs) H' fun σ2 H2 => wipe σ2 vs = wipe σ vs ∧ tt σ2 H2 fun b H3 => if b = true then te σ2 H3 Post else Skip H3)
    (hd : ∀ H acc, Kp P H1 H → H D = some (.lst acc) → R n acc H → Qd H) :
    ∃ W : Nat → Nat → Hp → Prop, (∃ m, W 0 m (upd H1 D (.lst []))) ∧ ∀ i m H, W i m H →
      (J.stop i H ∧ Qd H) ∨ (J.go i H ∧ ∃ Nx : Hp → Prop, (∀ H', Nx H' → ∃ m', m' < m ∧ W (i + 1) m' H') ∧ ∀ x H', J.yld i H x H' → g x (wipe σ vs) H' fun σ2 H2 => wipe σ2 vs = wipe σ vs ∧ tt σ2 H2 fun b H3 =>
        if b = true then te σ2 H3 fun y H4 => ∃ acc, H4 D = some (.lst acc) ∧ acc.length < sizeLine ∧ Nx (upd H4 D (.lst (acc ++ [y]))) else Nx H3) := by
  refine lc_it w (fun i H => Kp P H1 H ∧ ∃ acc, H D = some (.lst acc) ∧ R i acc H) ⟨Kp.of (same_new hD), [], upd_same, r0⟩ (fun i H hi ⟨k, acc, e, r⟩ => hG i H acc hi k e r) (fun i x H H' hi ⟨k, acc, e, r⟩ y => ?_) (fun H ⟨k, acc, e, r⟩ => hd H acc k e r)
  refine hs i x H H' acc _ _ hi k e r (fun y H4 k4 r4 => ?_) (fun H3 k3 r3 => ⟨k.trans k3, acc, k3 _ _ e (hP i acc H r), r3⟩) y
  have e4 := k4 _ _ e (hP i acc H r)
  refine ⟨acc, e4, ?_, ?_, acc ++ [y], upd_same, mono _ _ _ _ _ e4 r4⟩
  · have := len _ _ _ r4
    rw [List.length_append] at this
    simp at this
    omega
  · intro b o hb p
    have hb4 := (k.trans k4) b o hb p
    have : b ≠ D := fun z => by rw [z, hD] at hb; cases hb
    exact (upd_ne this).trans hb4
/-- .. without a test -/
theorem lc_acc1 {J : It} {n : Nat} {G : Hp → Prop} {Y : Nat → Hp → V → Hp → Prop} (w : Walk J n G Y) {g : TG} {te : TE} {vs : List Nat} {σ : L2.St} {H1 : Hp} {D : Addr} {Qd : Hp → Prop} (P : Addr → HO → Prop) (R : Nat → List V → Hp → Prop) (hD : H1 D = none)
    (r0 : R 0 [] (upd H1 D (.lst []))) (hG : ∀ i H acc, i ≤ n → Kp P H1 H → H D = some (.lst acc) → R i acc H → G H) (hP : ∀ i acc H, R i acc H → P D (.lst acc)) (len : ∀ i acc H, R i acc H → acc.length ≤ sizeLine) (mono : ∀ i acc H a0 a1, H D = some (.lst a0) → R i acc H → R i acc (upd H D (.lst a1)))
    (hs : ∀ i x H H' acc (Post : V → Hp → Prop), i < n → Kp P H1 H → H D = some (.lst acc) → R i acc H → (∀ y H4, Kp P H H4 → R (i + 1) (acc ++ [y]) H4 → Post y H4) → Y i H x H' → g x (wipe σ vs) H' fun σ2 H2 => wipe σ2 vs = wipe σ vs ∧ te σ2 H2 Post)
    (hd : ∀ H acc, Kp P H1 H → H D = some (.lst acc) → R n acc H → Qd H) :
    ∃ W : Nat → Nat → Hp → Prop, (∃ m, W 0 m (upd H1 D (.lst []))) ∧ ∀ i m H, W i m H →
      (J.stop i H ∧ Qd H) ∨ (J.go i H ∧ ∃ Nx : Hp → Prop, (∀ H', Nx H' → ∃ m', m' < m ∧ W (i + 1) m' H') ∧ ∀ x H', J.yld i H x H' → g x (wipe σ vs) H' fun σ2 H2 => wipe σ2 vs = wipe σ vs ∧ tYes σ2 H2 fun b H3 =>
        if b = true then te σ2 H3 fun y H4 => ∃ acc, H4 D = some (.lst acc) ∧ acc.length < sizeLine ∧ Nx (upd H4 D (.lst (acc ++ [y]))) else Nx H3) := by
  refine lc_acc w P R hD r0 hG hP len mono (fun i x H H' acc Post Skip hi k e r hp hskip y => ?_) hd
  have q := hs i x H H' acc Post hi k e r hp y
  have eq : (fun σ2 H2 => wipe σ2 vs = wipe σ vs ∧ tYes σ2 H2 fun b H3 => if b = true then te σ2 H3 Post else Skip H3) = fun σ2 H2 => wipe σ2 vs = wipe σ vs ∧ te σ2 H2 Post := by
    funext σ2 H2
    unfold tYes
    simp
  rw [eq]
  exact q
/-! ### data of tuples -/
mutual
/-- v is the data d, told of -/
def DT (H : Hp) : PyData → V → Prop
  | .none, v => v = .non
  | .bool b, v => v = .bl b
  | .int i, v => v = .int i
  | .str x, v => v = .str x
  | .tuple ds, v => ∃ a xs, v = .ref a ∧ H a = some (.tup xs) ∧ DTs H ds xs
  | .list _, _ => False
  | .dict _, _ => False
def DTs (H : Hp) : List PyData → List V → Prop
  | [], xs => xs = []
  | d :: ds, xs => ∃ v vs, xs = v :: vs ∧ DT H d v ∧ DTs H ds vs
end
mutual
theorem DT.mono {H H' : Hp} (k : ∀ b xs, H b = some (.tup xs) → H' b = some (.tup xs)) : ∀ (d : PyData) (v : V), DT H d v → DT H' d v
  | .none, v, h => by rw [DT] at h ⊢; exact h
  | .bool b, v, h => by rw [DT] at h ⊢; exact h
  | .int i, v, h => by rw [DT] at h ⊢; exact h
  | .str x, v, h => by rw [DT] at h ⊢; exact h
  | .tuple ds, v, h => by
    rw [DT] at h ⊢
    obtain ⟨a, xs, e, ha, hs⟩ := h
    exact ⟨a, xs, e, k _ _ ha, DTs.mono k ds xs hs⟩
  | .list _, _, h => by rw [DT] at h; exact h.elim
  | .dict _, _, h => by rw [DT] at h; exact h.elim
theorem DTs.mono {H H' : Hp} (k : ∀ b xs, H b = some (.tup xs) → H' b = some (.tup xs)) : ∀ (ds : List PyData) (xs : List V), DTs H ds xs → DTs H' ds xs
  | [], xs, h => by rw [DTs] at h ⊢; exact h
  | d :: ds, xs, h => by
    rw [DTs] at h ⊢
    obtain ⟨v, vs, e, h1, h2⟩ := h
    exact ⟨v, vs, e, DT.mono k d v h1, DTs.mono k ds vs h2⟩
end
mutual
theorem DT.dp {K : PySem.W.Frag} {H : Hp} : ∀ (d : PyData) (v : V), DT H d v → Dp K H v d
  | .none, v, h => by rw [DT] at h; rw [h]; exact .non
  | .bool b, v, h => by rw [DT] at h; rw [h]; exact .bl b
  | .int i, v, h => by rw [DT] at h; rw [h]; exact .int i
  | .str x, v, h => by rw [DT] at h; rw [h]; exact .str x
  | .tuple ds, v, h => by
    rw [DT] at h
    obtain ⟨a, xs, e, ha, hs⟩ := h
    rw [e]
    exact .tup (.inl (.inl ha)) (DTs.dp ds xs hs)
  | .list _, _, h => by rw [DT] at h; exact h.elim
  | .dict _, _, h => by rw [DT] at h; exact h.elim
theorem DTs.dp {K : PySem.W.Frag} {H : Hp} : ∀ (ds : List PyData) (xs : List V), DTs H ds xs → DpAll K H xs ds
  | [], xs, h => by rw [DTs] at h; rw [h]; exact .nil
  | d :: ds, xs, h => by
    rw [DTs] at h
    obtain ⟨v, vs, e, h1, h2⟩ := h
    rw [e]
    exact .cons (DT.dp d v h1) (DTs.dp ds vs h2)
end
theorem DT.same {H H' : Hp} (k : Same H H') {d : PyData} {v : V} (h : DT H d v) : DT H' d v := DT.mono (fun b xs e => k b _ e) d v h
theorem DTs.same {H H' : Hp} (k : Same H H') {d : List PyData} {v : List V} (h : DTs H d v) : DTs H' d v := DTs.mono (fun b xs e => k b _ e) d v h
theorem DT.tup {H : Hp} {ds : List PyData} {v : V} : DT H (.tuple ds) v ↔ ∃ a xs, v = .ref a ∧ H a = some (.tup xs) ∧ DTs H ds xs := by rw [DT]
theorem DT.mk {H : Hp} {ds : List PyData} {a : Addr} {xs : List V} (ha : H a = some (.tup xs)) (h : DTs H ds xs) : DT H (.tuple ds) (.ref a) := DT.tup.mpr ⟨a, xs, rfl, ha, h⟩
theorem DT.str_ {H : Hp} {x : Str} {v : V} : DT H (.str x) v ↔ v = .str x := by rw [DT]
theorem DT.int_ {H : Hp} {x : Int} {v : V} : DT H (.int x) v ↔ v = .int x := by rw [DT]
theorem DT.bl_ {H : Hp} {x : Bool} {v : V} : DT H (.bool x) v ↔ v = .bl x := by rw [DT]
theorem DTs.nil_ {H : Hp} {xs : List V} : DTs H [] xs ↔ xs = [] := by rw [DTs]
theorem DTs.cons_ {H : Hp} {d : PyData} {ds : List PyData} {xs : List V} : DTs H (d :: ds) xs ↔ ∃ v vs, xs = v :: vs ∧ DT H d v ∧ DTs H ds vs := by rw [DTs]
theorem DTs.nil {H : Hp} : DTs H [] [] := DTs.nil_.mpr rfl
theorem DTs.cons {H : Hp} {d : PyData} {ds : List PyData} {v : V} {vs : List V} (h : DT H d v) (t : DTs H ds vs) : DTs H (d :: ds) (v :: vs) := DTs.cons_.mpr ⟨v, vs, rfl, h, t⟩
theorem DTs.length {H : Hp} : ∀ {ds : List PyData} {xs : List V}, DTs H ds xs → xs.length = ds.length
  | [], _, h => by rw [DTs.nil_.mp h]; rfl
  | d :: ds, _, h => by
    obtain ⟨v, vs, rfl, _, t⟩ := DTs.cons_.mp h
    simp [DTs.length t]
theorem DTs.app {H : Hp} : ∀ {ds es : List PyData} {xs ys : List V}, DTs H ds xs → DTs H es ys → DTs H (ds ++ es) (xs ++ ys)
  | [], _, _, _, h, t => by rw [DTs.nil_.mp h]; exact t
  | d :: ds, _, _, _, h, t => by
    obtain ⟨v, vs, rfl, h1, h2⟩ := DTs.cons_.mp h
    exact DTs.cons h1 (DTs.app h2 t)
theorem DTs.get {H : Hp} : ∀ {ds : List PyData} {xs : List V} {i : Nat} {d : PyData}, DTs H ds xs → ds[i]? = some d → ∃ v, xs[i]? = some v ∧ DT H d v
  | d :: ds, _, 0, _, h, e => by
    obtain ⟨v, vs, rfl, h1, h2⟩ := DTs.cons_.mp h
    cases e
    exact ⟨v, rfl, h1⟩
  | d :: ds, _, i + 1, _, h, e => by
    obtain ⟨v, vs, rfl, h1, h2⟩ := DTs.cons_.mp h
    obtain ⟨v', e', h'⟩ := DTs.get (i := i) h2 (by simpa using e)
    exact ⟨v', by simpa using e', h'⟩
theorem DTs.strs {H : Hp} : ∀ (zs : List Str), DTs H (zs.map .str) (zs.map .str)
  | [] => DTs.nil
  | z :: zs => DTs.cons (DT.str_.mpr rfl) (DTs.strs zs)
theorem DTs.ints {H : Hp} : ∀ (zs : List Int), DTs H (zs.map .int) (zs.map .int)
  | [] => DTs.nil
  | z :: zs => DTs.cons (DT.int_.mpr rfl) (DTs.ints zs)
theorem DTs.of_strs {H : Hp} : ∀ {zs : List Str} {xs : List V}, DTs H (zs.map .str) xs → xs = zs.map .str
  | [], _, h => DTs.nil_.mp h
  | z :: zs, _, h => by
    obtain ⟨v, vs, rfl, h1, h2⟩ := DTs.cons_.mp h
    rw [DT.str_.mp h1, DTs.of_strs h2]; rfl
theorem DTs.of_ints {H : Hp} : ∀ {zs : List Int} {xs : List V}, DTs H (zs.map .int) xs → xs = zs.map .int
  | [], _, h => DTs.nil_.mp h
  | z :: zs, _, h => by
    obtain ⟨v, vs, rfl, h1, h2⟩ := DTs.cons_.mp h
    rw [DT.int_.mp h1, DTs.of_ints h2]; rfl
end Ob
/-! The page class. -/
namespace Ob
open PySem PySem.Spec PyProof.Rows L2 L2H
/-- a method -/
structure Mt (K : PySem.W.Frag) (c m : Str) (qual : Str) (st : Stmt) (ps : List Str) : Prop where
  f : Fn K (c, some m) m qual st [] []
  b : Binds K (fdAt K (He.fAd K (c, some m))) ps []
  m : Meth K (He.ga K c) m (He.fAd K (c, some m))
section
variable {X : Cx} {k j : Nat} {c m qual : Str} {ps : List Str} {st : Stmt} {sp : Sp} {ta : TE} {t : TA} {o e : Expr} {es : List Expr} {apos pos : Pos} {pl : Sem Bool}
theorem pe_m (D : Mt X.K c m qual st ps) (C : Cls X.K (He.ga X.K c)) (F : FOk X.prog X.w X.K X.mg X.base CX0 k (c, some m) ps sp) (hr : Room j X.A) (hk : k ≤ j) (he : PE X o ta) (ha : PA X (e :: es) t)
    (hst : starEach (e :: es) X.env = (false, eval e X.env) :: starEach es X.env := by rfl) (hpl : (backTo pos (starEach es X.env)).any (·.1) = false := by rfl)
    (ht : eval (.Call (.Attribute o m apos) (e :: es) [] pos) X.env = (do
      let ov ← eval o X.env
      standAt apos.atName
      let (f, first) ← holding [ov] (getMethod ov m pl)
      callWith pos f first (backTo pos (starEach (e :: es) X.env)) (backToKw pos (keywordEach [] X.env))) := by rfl) :
    PE X (.Call (.Attribute o m apos) (e :: es) [] pos) (tMeth (He.ga X.K c) m sp [] E0 ta t) := pe_meth (pl := pl) he C D.m F (hr.mono hk) D.b .nil pass0 ha hst hpl ht
theorem pe_m0' (D : Mt X.K c m qual st ps) (C : Cls X.K (He.ga X.K c)) (F : FOk X.prog X.w X.K X.mg X.base CX0 k (c, some m) ps sp) (hr : Room j X.A) (hk : k ≤ j) (he : PE X o ta)
    (ht : eval (.Call (.Attribute o m apos) [] [] pos) X.env = (do
      let ov ← eval o X.env
      standAt apos.atName
      let (f, first) ← holding [ov] (getMethod ov m pl)
      callWith pos f first (backTo pos (starEach [] X.env)) (backToKw pos (keywordEach [] X.env))) := by rfl) :
    PE X (.Call (.Attribute o m apos) [] [] pos) (tMeth (He.ga X.K c) m sp [] E0 ta tNil) := pe_meth0 (pl := pl) he C D.m F (hr.mono hk) D.b .nil pass0 ht
end
structure TxP (K : PySem.W.Frag) (mg : Str → Option Value) : Prop where
  S : TxS K mg
  ALWAYS : Gv mg "ALWAYS" (.str "always")
  FREE : Gv mg "FREE" (.str "free")
  SAME : Gv mg "SAME" (.str "same")
  APART : Gv mg "APART" (.str "apart")
  ANY : Gv mg "ANY" (.str "any")
  OWN : Gv mg "OWN" (.str "own")
  AT_LINES : Gv mg "AT_LINES" (.str "line")
  cP : Cls K (He.ga K "Page")
  na_left : NoAttr K (He.ga K "Page") "left"
  na_right : NoAttr K (He.ga K "Page") "right"
  g : mg "Page" = some (.ref (He.ga K "Page"))
  mkr : Mk K (He.ga K "Page") (He.fAd K ("Page", some "__init__"))
  m_init : Mt K "Page" "__init__" "Page.__init__" s_Page_init p_Page_init
  m_next_sign : Mt K "Page" "next_sign" "Page.next_sign" s_Page_next_sign p_Page_next_sign
  m_is_next_own : Mt K "Page" "is_next_own" "Page.is_next_own" s_Page_is_next_own p_Page_is_next_own
  m_go_over : Mt K "Page" "go_over" "Page.go_over" s_Page_go_over p_Page_go_over
  m_does_put : Mt K "Page" "does_put" "Page.does_put" s_Page_does_put p_Page_does_put
  m_type_sign : Mt K "Page" "type_sign" "Page.type_sign" s_Page_type_sign p_Page_type_sign
  m_go_back : Mt K "Page" "go_back" "Page.go_back" s_Page_go_back p_Page_go_back
  m_press : Mt K "Page" "press" "Page.press" s_Page_press p_Page_press
  m_right_text : Mt K "Page" "right_text" "Page.right_text" s_Page_right_text p_Page_right_text
  m_told : Mt K "Page" "told" "Page.told" s_Page_told p_Page_told
/-! ### what stands -/
abbrev prV (q : Nat × Bool) : List V := [.str (S [q.1]), .bl q.2]
abbrev prD' (q : Nat × Bool) : PyData := .tuple [.str (S [q.1]), .bool q.2]
def Prs (H : Hp) (ts : List Addr) (qs : List (Nat × Bool)) : Prop := Paired (fun t q => H t = some (.tup (prV q))) ts qs
theorem Prs.mono {H H' : Hp} {ts : List Addr} {qs : List (Nat × Bool)} (h : Prs H ts qs) (k : ∀ b xs, H b = some (.tup xs) → H' b = some (.tup xs)) : Prs H' ts qs := Paired.mapP h fun _ _ e => k _ _ e
theorem Prs.app {H : Hp} : ∀ {ts us : List Addr} {qs rs : List (Nat × Bool)}, Prs H ts qs → Prs H us rs → Prs H (ts ++ us) (qs ++ rs)
  | _, _, _, _, .nil, s => s
  | _, _, _, _, .cons r t, s => .cons r (Prs.app t s)
theorem Prs.len {H : Hp} {ts : List Addr} {qs : List (Nat × Bool)} (h : Prs H ts qs) : ts.length = qs.length := Paired.length h
theorem Prs.snoc {H : Hp} : ∀ {qs : List (Nat × Bool)} {ts : List Addr} {q : Nat × Bool}, Prs H ts (qs ++ [q]) → ∃ us t, ts = us ++ [t] ∧ Prs H us qs ∧ H t = some (.tup (prV q))
  | [], _, _, .cons r .nil => ⟨[], _, rfl, .nil, r⟩
  | _ :: qs, _, _, .cons r t => by
    obtain ⟨us, a, rfl, h1, h2⟩ := Prs.snoc (qs := qs) t
    exact ⟨_ :: us, a, rfl, .cons r h1, h2⟩
theorem Prs.get {H : Hp} : ∀ {ts : List Addr} {qs : List (Nat × Bool)} {i : Nat} {t : Addr}, Prs H ts qs → ts[i]? = some t → ∃ q, qs[i]? = some q ∧ H t = some (.tup (prV q))
  | _, _, 0, _, .cons r _, e => by cases e; exact ⟨_, rfl, r⟩
  | _, _, i + 1, t, .cons _ s, e => by
    obtain ⟨q, h1, h2⟩ := Prs.get (i := i) s (by simpa using e)
    exact ⟨q, by simpa using h1, h2⟩
  | _, _, _, _, .nil, e => by simp at e
theorem Prs.dts {H : Hp} : ∀ {ts : List Addr} {qs : List (Nat × Bool)}, Prs H ts qs → DTs H (qs.map prD') (ts.map V.ref)
  | _, _, .nil => DTs.nil
  | _, _, .cons r t => DTs.cons (DT.mk r (DTs.cons (DT.str_.mpr rfl) (DTs.cons (DT.bl_.mpr rfl) DTs.nil))) (Prs.dts t)
theorem sig_lt : ∀ c ∈ sigs, c < 128 := by decide
theorem S_ok {l : List Nat} (h : ∀ c ∈ l, c ∈ sigs) : PyData.strOk (S l) = true := by
  unfold PyData.strOk
  rw [Array.all_eq_true']
  intro c hc
  have : c ∈ l := by simpa [S] using hc
  have := sig_lt c (h c this)
  exact decide_eq_true (by omega)
theorem prs_lay : ∀ qs : List (Nat × Bool), (∀ q ∈ qs, q.1 ∈ sigs) → PyData.canLayAll0 (qs.map prD') = true
  | [], _ => by simp [PyData.canLayAll0]
  | q :: qs, h => by
    have h1 : PyData.strOk (S [q.1]) = true := S_ok (by simpa using h q List.mem_cons_self)
    simp [PyData.canLayAll0, PyData.canLay0, h1, prs_lay qs fun x hx => h x (List.mem_cons_of_mem _ hx)]
theorem prs_depth : ∀ qs : List (Nat × Bool), PyData.depthAll (qs.map prD') ≤ 1
  | [] => by simp [PyData.depthAll]
  | q :: qs => by
    have := prs_depth qs
    simp only [List.map_cons, PyData.depthAll, PyData.depth]
    omega
theorem prs_shaped (qs : List (Nat × Bool)) (h : ∀ q ∈ qs, q.1 ∈ sigs) : SeqAt.shaped (.list (qs.map prD')) = true := by
  have h1 := prs_depth qs
  have h2 : PyData.depth (.list (qs.map prD')) ≤ 64 := by
    simp only [PyData.depth]
    omega
  show (PyData.canLay0 (.list (qs.map prD')) && decide (PyData.depth (.list (qs.map prD')) ≤ 64)) = true
  rw [Bool.and_eq_true]
  exact ⟨by simp only [PyData.canLay0]; exact prs_lay qs h, decide_eq_true h2⟩
abbrev pgF (pg : Pg) (ra : Addr) : List (Str × V) := [("left", .str (S pg.1)), ("right", .ref ra)]
/-- all its signs are signs -/
structure SgOk (pg : Pg) : Prop where
  l : ∀ c ∈ pg.1, c ∈ sigs
  r : ∀ q ∈ pg.2, q.1 ∈ sigs
def PgAt (CP : Addr) (H : Hp) (p ra : Addr) (pg : Pg) : Prop := SgOk pg ∧ ∃ dx ts, H p = some (.ins CP dx (pgF pg ra)) ∧ H ra = some (.lst (ts.map V.ref)) ∧ Prs H ts pg.2.reverse
theorem PgAt.same {CP : Addr} {H H' : Hp} {p ra : Addr} {pg : Pg} (h : PgAt CP H p ra pg) (k : Same H H') : PgAt CP H' p ra pg := by
  obtain ⟨ok, dx, ts, h1, h2, h3⟩ := h
  exact ⟨ok, dx, ts, k _ _ h1, k _ _ h2, h3.mono fun b xs e => k _ _ e⟩
theorem str_dec {a b : Str} : decide (V.str a = V.str b) = decide (a = b) := by
  by_cases h : a = b
  · subst h; simp
  · rw [decide_eq_false h, decide_eq_false fun q => h (V.str.inj q)]
/-- xs != [] of a list of pairs -/
theorem ne_nil {K : PySem.W.Frag} {H : Hp} {ra l : Addr} {ts : List Addr} {qs : List (Nat × Bool)} {Q : VK} (h : H ra = some (.lst (ts.map V.ref))) (hp : Prs H ts qs) (ho : ∀ q ∈ qs, q.1 ∈ sigs) (hl : H l = some (.lst [])) (q : Q (.bl (!qs.isEmpty)) H) : rNeD K (.ref ra) (.ref l) H Q := by
  refine ⟨.list (qs.map prD'), .list [], .lst (.inl (.inl h)) (DTs.dp _ _ hp.dts), .lst (.inl (.inl hl)) .nil, prs_shaped qs ho, by decide +kernel, ?_⟩
  have e : PyData.eqv (.list (qs.map prD')) (.list []) = qs.isEmpty := by
    cases qs <;> simp [PyData.eqv, PyData.eqvAll]
  rw [e]
  exact q
section
variable {P : Program} {w : World} {K : PySem.W.Frag} {mg : Str → Option Value} {base : Heap}
theorem ok_next_sign (T : TxP K mg) : FOk P w K mg base CX0 1 ("Page", some "next_sign") p_Page_next_sign (fun vs H Q _ => ∃ (p ra : Addr) (pg : Pg), vs = [.ref p] ∧ PgAt (He.ga K "Page") H p ra pg ∧ ∀ H', Same H H' → Q (optS (nxt pg)) H') := by
  refine T.m_next_sign.f.ok sc_Page_next_sign (fun vs H Q E h => ?_) (fun cdv A outer s H vs Q E hr h => ?_)
  · obtain ⟨a, ks, _, rfl, _⟩ := h
    rfl
  · obtain ⟨p, ra, pg, rfl, ⟨ok, dx, ts, h1, h2, h3⟩, k⟩ := h
    refine ⟨_, PSs.nox (pss_one (ps_ret (pe_ifExp (pt_cmpR (op_neD hr.units) (pe_fld (pv 0) rfl) (pe_lst pa_nil) (nomark _)) (pe_ix ix_tup (pe_ix ix_list (pe_fld (pv 0) rfl) (pe_un un_neg pe_int) (fun _ _ => rfl)) pe_int (fun _ _ => rfl)) pe_str))), ?_⟩
    refine ⟨_, rfl, p, _, dx, _, _, rfl, h1, T.cP, T.na_right, rfl, Nat.zero_le _, fun l hl => ?_⟩
    have sm : Same H (upd H l (.lst [])) := same_new hl
    refine ne_nil (sm _ _ h2) (h3.mono fun b xs e => sm _ _ e) (fun q hq => ok.r q (List.mem_reverse.mp hq)) upd_same ⟨_, rfl, ?_⟩
    obtain ⟨l0, r0⟩ := pg
    cases r0 with
    | nil => exact iteF (k _ sm)
    | cons q r =>
      have h3' : Prs H ts (r.reverse ++ [q]) := by rw [← List.reverse_cons]; exact h3
      obtain ⟨us, t, rfl, _, ht⟩ := h3'.snoc
      have e0 : (!(q :: r).reverse.isEmpty) = true := by simp
      rw [e0]
      refine iteT ⟨_, rfl, p, _, dx, _, _, rfl, sm _ _ h1, T.cP, T.na_right, rfl, 1, rfl, ra, _, -1, .ref t, rfl, rfl, .inl (.inl (sm _ _ h2)), ?_, t, _, 0, _, rfl, rfl, .inl (.inl (sm _ _ ht)), rfl, ?_⟩
      · rw [List.map_append]; exact atI_last _ _
      · exact k _ sm
theorem ok_is_next_own (T : TxP K mg) : FOk P w K mg base CX0 1 ("Page", some "is_next_own") p_Page_is_next_own (fun vs H Q _ => ∃ (p ra : Addr) (pg : Pg), vs = [.ref p] ∧ PgAt (He.ga K "Page") H p ra pg ∧ ∀ H', Same H H' → Q (.bl (nxtOwn pg)) H') := by
  refine T.m_is_next_own.f.ok sc_Page_is_next_own (fun vs H Q E h => ?_) (fun cdv A outer s H vs Q E hr h => ?_)
  · obtain ⟨a, ks, _, rfl, _⟩ := h
    rfl
  · obtain ⟨p, ra, pg, rfl, ⟨ok, dx, ts, h1, h2, h3⟩, k⟩ := h
    refine ⟨_, PSs.nox (pss_one (ps_ret (pe_and (pe_cmpR (op_neD hr.units) (pe_fld (pv 0) rfl) (pe_lst pa_nil) (nomark _)) (pe_one (pe_ix ix_tup (pe_ix ix_list (pe_fld (pv 0) rfl) (pe_un un_neg pe_int) (fun _ _ => rfl)) pe_int (fun _ _ => rfl)))))), ?_⟩
    refine ⟨_, rfl, p, _, dx, _, _, rfl, h1, T.cP, T.na_right, rfl, Nat.zero_le _, fun l hl => ?_⟩
    have sm : Same H (upd H l (.lst [])) := same_new hl
    refine ne_nil (sm _ _ h2) (h3.mono fun b xs e => sm _ _ e) (fun q hq => ok.r q (List.mem_reverse.mp hq)) upd_same ⟨_, rfl, ?_⟩
    obtain ⟨l0, r0⟩ := pg
    cases r0 with
    | nil => exact iteF (k _ sm)
    | cons q r =>
      have h3' : Prs H ts (r.reverse ++ [q]) := by rw [← List.reverse_cons]; exact h3
      obtain ⟨us, t, rfl, _, ht⟩ := h3'.snoc
      have e0 : (!(q :: r).reverse.isEmpty) = true := by simp
      rw [e0]
      refine iteT ⟨_, rfl, p, _, dx, _, _, rfl, sm _ _ h1, T.cP, T.na_right, rfl, 1, rfl, ra, _, -1, .ref t, rfl, rfl, .inl (.inl (sm _ _ h2)), ?_, t, _, 1, _, rfl, rfl, .inl (.inl (sm _ _ ht)), rfl, ?_⟩
      · rw [List.map_append]; exact atI_last _ _
      · exact k _ sm
/-- all but the page and its list stays; another list is new -/
structure PgTo (CP : Addr) (H : Hp) (p ra : Addr) (pg : Pg) (H' : Hp) (ra' : Addr) : Prop where
  at_ : PgAt CP H' p ra' pg
  kp : Kp (PBut [p, ra]) H H'
  nw : ra' = ra ∨ H ra' = none
abbrev spMut (K : PySem.W.Frag) (rest : List V → Pg → Hp → Option Pg) : Sp := fun vs H Q _ => ∃ (p ra : Addr) (pg pg' : Pg) (r : List V), vs = .ref p :: r ∧ PgAt (He.ga K "Page") H p ra pg ∧ rest r pg H = some pg' ∧ ∀ H' ra', PgTo (He.ga K "Page") H p ra pg' H' ra' → Q .non H'
theorem but_ne {H : Hp} {p ra b : Addr} {o u v : HO} (hb : H b = some o) (hp : H p = some u) (hr : H ra = some v) (h1 : o ≠ u) (h2 : o ≠ v) : PBut [p, ra] b o := fun z => by
  rcases List.mem_cons.mp z with z | z
  · subst z; rw [hb] at hp; exact h1 (Option.some.inj hp)
  · have z := List.mem_singleton.mp z
    subst z; rw [hb] at hr; exact h2 (Option.some.inj hr)
theorem pg_ne {H : Hp} {p ra C dx : Addr} {fs : List (Str × V)} {xs : List V} (hp : H p = some (.ins C dx fs)) (hr : H ra = some (.lst xs)) : p ≠ ra := fun z => by
  rw [z, hr] at hp; cases hp
theorem but2 {p ra b : Addr} {o : HO} (h : PBut [p, ra] b o) : b ≠ p ∧ b ≠ ra := ⟨fun z => h (by rw [z]; exact List.mem_cons_self), fun z => h (by rw [z]; exact List.mem_cons_of_mem _ List.mem_cons_self)⟩
theorem ok_go_over (T : TxP K mg) : FOk P w K mg base CX0 1 ("Page", some "go_over") p_Page_go_over (fun vs H Q _ => ∃ (p ra : Addr) (pg : Pg), vs = [.ref p] ∧ PgAt (He.ga K "Page") H p ra pg ∧ pg.1.length ≤ 1000 ∧ ∀ H', PgTo (He.ga K "Page") H p ra (goOver pg) H' ra → Q .non H') := by
  refine T.m_go_over.f.ok sc_Page_go_over (fun vs H Q E h => ?_) (fun cdv A outer s H vs Q E hr h => ?_)
  · obtain ⟨a, ks, _, rfl, _⟩ := h
    rfl
  · obtain ⟨p, ra, pg, rfl, ⟨ok, dx, ts, h1, h2, h3⟩, hlen, k⟩ := h
    refine ⟨_, PSs.nox (pss_one (ps_if (pt_cmpR (op_neD hr.units) (pe_fld (pv 0) rfl) (pe_lst pa_nil) (nomark _))
      (pss_one (ps_fldaug (pv 0) (pe_ix ix_tup (pe_bm0 PySem.F.plainAttrs_list PySem.F.slot_list_pop PySem.F.type_list_pop mt_pop (pe_fld (pv 0) rfl)) pe_int (fun _ _ => rfl)) iop_add_str)) pss_nil)), ?_⟩
    refine ⟨_, rfl, p, _, dx, _, _, rfl, h1, T.cP, T.na_right, rfl, Nat.zero_le _, fun l hl => ?_⟩
    have sm : Same H (upd H l (.lst [])) := same_new hl
    refine ne_nil (sm _ _ h2) (h3.mono fun b xs e => sm _ _ e) (fun q hq => ok.r q (List.mem_reverse.mp hq)) upd_same ⟨_, rfl, ?_⟩
    obtain ⟨l0, r0⟩ := pg
    cases r0 with
    | nil =>
      refine iteF (k _ ⟨⟨ok, dx, ts, sm _ _ h1, sm _ _ h2, h3.mono fun b xs e => sm _ _ e⟩, Kp.of sm, .inl rfl⟩)
    | cons q r =>
      have h3' : Prs H ts (r.reverse ++ [q]) := by rw [← List.reverse_cons]; exact h3
      obtain ⟨us, t, rfl, hu, ht⟩ := h3'.snoc
      have e0 : (!(q :: r).reverse.isEmpty) = true := by simp
      rw [e0]
      have e1 := sm _ _ h1
      have e2 := sm _ _ h2
      have et := sm _ _ ht
      have npr := pg_ne e1 e2
      refine iteT ⟨_, rfl, p, _, dx, _, _, rfl, e1, T.cP, T.na_left, rfl, _, rfl, p, _, dx, _, _, rfl, e1, T.cP, T.na_right, rfl, ?_⟩
      refine ⟨.inl ⟨rfl, _, .inl (.inl e2)⟩, ra, _, .ref t, rfl, rfl, e2, by simp, t, prV q, 0, .str (S [q.1]), rfl, rfl, .inl (.inl ?_), rfl, ?_⟩
      · exact (upd_ne (fun z => by rw [z, e2] at et; cases et)).trans et
      · refine ⟨_, _, rfl, rfl, ?_, dx, _, (upd_ne npr).trans e1, (by decide : 2 < 1000), ?_⟩
        · rw [S_len, S_len]
          have : l0.length ≤ 1000 := hlen
          show l0.length + 1 ≤ sizeLine
          rw [sizeLine_eq]
          omega
        · refine k _ ⟨⟨⟨fun c hc => ?_, fun x hx => ok.r x (List.mem_cons_of_mem _ hx)⟩, dx, us, ?_, ?_, ?_⟩, fun b o hb hn => ?_, .inl rfl⟩
          · rcases List.mem_append.mp hc with z | z
            · exact ok.l c z
            · rw [List.mem_singleton.mp z]; exact ok.r q List.mem_cons_self
          · rw [upd_same, S_app]
            rfl
          · rw [upd_ne npr.symm, upd_same, List.map_append, List.map_singleton, List.dropLast_concat]
          · refine hu.mono fun b xs e => ?_
            have eb := sm _ _ e
            exact (upd_ne (fun z => by rw [z, e1] at eb; cases eb)).trans ((upd_ne (fun z => by rw [z, e2] at eb; cases eb)).trans eb)
          · exact (upd_ne (but2 hn).1).trans ((upd_ne (but2 hn).2).trans (sm _ _ hb))
theorem if_and {c d : Bool} {Z R X : Prop} (hx : (if d = true then Z else R) → X) (h : if (c && d) = true then Z else R) : if c = true then X else (if false = true then Z else R) := by
  cases c with
  | true => exact iteT (hx (by simpa using h))
  | false => exact iteF h
abbrev spDoesPut (K : PySem.W.Frag) : Sp := fun vs H Q _ => ∃ (p ra ba : Addr) (b : Bk) (pg : Pg) (c : Nat), vs = [.ref p, .ref ba, .str (S [c])] ∧ PgAt (He.ga K "Page") H p ra pg ∧ H ba = some (.tup b.V) ∧ pg.1.length ≤ 1000 ∧ ∀ H', Same H H' → Q (.bl (doesPut b pg c)) H'
theorem last_cut (l : List Nat) : cutS (S l) (some (-1)) none = O1 l.getLast? := by
  have e2 : HT.sIx l.length l.length none = l.length := by
    unfold HT.sIx
    simp
  have e : HT.sIx l.length 0 (some (-1)) = l.length - 1 := by
    unfold HT.sIx
    simp only
    rw [if_pos (by decide)]
    omega
  unfold cutS
  rw [S_len, e, e2]
  show (⟨((l.drop (l.length - 1)).take (l.length - (l.length - 1))).toArray⟩ : Str) = _
  rcases List.eq_nil_or_concat l with rfl | ⟨xs, x, rfl⟩
  · rfl
  · simp [O1]
def doesPut2 (b : Bk) (p : Pg) (c : Nat) : Bool :=
  if c = 40 ∨ c = 91 then decide (b.b0 = "always") || (decide (b.b0 = "free") && isFree (nxt p))
  else if b.b1 = "apart" then isFree (nxt p) && (!((p.1.getLast?.map isLetter).getD false) && !decide (p.1.getLast? = some 39))
  else decide (b.b1 = "always")
theorem doesPut_eq (b : Bk) (p : Pg) (c : Nat) : doesPut b p c = if (!decide (b.b2 = "same") && within p.1) = true then false else doesPut2 b p c := rfl
theorem ok_does_put (T : TxP K mg) : FOk P w K mg base CX0 2 ("Page", some "does_put") p_Page_does_put (spDoesPut K) := by
  refine T.m_does_put.f.ok sc_Page_does_put (fun vs H Q E h => ?_) (fun cdv A outer s H vs Q E hr h => ?_)
  · obtain ⟨a, ks, _, _, _, _, rfl, _⟩ := h
    rfl
  · obtain ⟨p, ra, ba, b, pg, c, rfl, at_, hb, hlen, k⟩ := h
    have nd := sc_Page_does_put.nd
    refine ⟨_, PSs.nox (pss_cons (ps_if (PW.pt (pw_and (pt_cmpR op_ne (pe_ix ix_tup (pv 1) pe_int (fun _ _ => rfl)) (pe_gv T.SAME) (nomark _)) (pw_and1 (pt_val (pe_f T.S.d_is_within (ok_is_within T.S) hr (by decide) (pa_cons (pe_fld (pv 0) rfl) pa_nil)) (fun _ => rfl))))) (pss_one (ps_ret pe_bl)) pss_nil)
      (pss_cons (ps_if (pt_cmpR op_in_sign (pv 2) (pe_gv T.S.OPENERS) rfl) (pss_one (ps_ret (pe_or (pe_cmpR op_eq (pe_ix ix_tup (pv 1) pe_int (fun _ _ => rfl)) (pe_gv T.ALWAYS) (nomark _)) (pe_one (pe_and (pe_cmpR op_eq (pe_ix ix_tup (pv 1) pe_int (fun _ _ => rfl)) (pe_gv T.FREE) (nomark _))
          (pe_one (pe_f T.S.d_is_free (ok_is_free T.S) hr (by decide) (pa_cons (pe_m0' T.m_next_sign T.cP (ok_next_sign T) hr (by decide) (pv 0)) pa_nil)))))))) pss_nil)
      (pss_cons (ps_if (pt_cmpR op_ne (pe_ix ix_tup (pv 1) pe_int (fun _ _ => rfl)) (pe_gv T.APART) (nomark _)) (pss_one (ps_ret (pe_cmpR op_eq (pe_ix ix_tup (pv 1) pe_int (fun _ _ => rfl)) (pe_gv T.ALWAYS) (nomark _)))) pss_nil)
      (pss_cons (ps_st 3 nd (pe_slice sl_str (pe_fld (pv 0) rfl) (po_some (pe_un un_neg pe_int)) po_none))
      (pss_one (ps_ret (pe_and (pe_f T.S.d_is_free (ok_is_free T.S) hr (by decide) (pa_cons (pe_m0' T.m_next_sign T.cP (ok_next_sign T) hr (by decide) (pv 0)) pa_nil))
        (pe_and (pe_not (pe_f T.S.d_is_letter (ok_is_letter T.S) hr (by decide) (pa_cons (pv 3) pa_nil))) (pe_one (pe_cmpR op_ne (pv 3) (pe_gv T.S.QUOTE) (nomark _))))))))))), ?_⟩
    obtain ⟨ok, dx, ts, h1, h2, h3⟩ := id at_
    refine ⟨_, rfl, ba, b.V, 2, .str b.b2, rfl, rfl, .inl (.inl hb), rfl, rfl, _, rfl, ?_⟩
    rw [str_dec]
    refine if_and (d := within pg.1) (fun z => ⟨_, rfl, p, _, dx, _, _, rfl, h1, T.cP, T.na_left, rfl, pg.1, rfl, hlen, _, rfl, z⟩) (ite2 (fun hc => ?_) (fun hc => ?_))
    · have e : doesPut b pg c = false := by rw [doesPut_eq, if_pos hc]
      have := k H (Same.refl H)
      rw [e] at this
      exact this
    · have e : doesPut b pg c = doesPut2 b pg c := by rw [doesPut_eq, if_neg hc]
      rw [e] at k
      clear hc e
      refine ⟨_, rfl, c, _, rfl, rfl, _, rfl, ite2 (fun hc => ?_) (fun hc => ?_)⟩
      · have hc' : c = 40 ∨ c = 91 := by simpa using hc
        unfold doesPut2 at k
        rw [if_pos hc'] at k
        refine ⟨_, rfl, ba, b.V, 0, .str b.b0, rfl, rfl, .inl (.inl hb), rfl, rfl, _, rfl, ?_⟩
        rw [str_dec]
        cases e0 : decide (b.b0 = "always") with
        | true =>
          rw [e0] at k
          exact iteT (k H (Same.refl H))
        | false =>
          rw [e0] at k
          refine iteF ⟨_, rfl, ba, b.V, 0, .str b.b0, rfl, rfl, .inl (.inl hb), rfl, rfl, _, rfl, ?_⟩
          rw [str_dec]
          cases e1 : decide (b.b0 = "free") with
          | false =>
            rw [e1] at k
            exact iteF (k H (Same.refl H))
          | true =>
            rw [e1] at k
            exact iteT ⟨_, rfl, p, dx, _, rfl, h1, rfl, p, ra, pg, rfl, at_, fun H' sm => ⟨nxt pg, rfl, k H' sm⟩⟩
      · have hc' : ¬ (c = 40 ∨ c = 91) := by simpa using hc
        unfold doesPut2 at k
        rw [if_neg hc'] at k
        refine ⟨_, rfl, ba, b.V, 1, .str b.b1, rfl, rfl, .inl (.inl hb), rfl, rfl, _, rfl, ?_⟩
        rw [str_dec]
        by_cases ha : b.b1 = "apart"
        · rw [if_pos ha] at k
          rw [decide_eq_true ha]
          refine iteF ⟨_, rfl, p, _, dx, _, _, rfl, h1, T.cP, T.na_left, rfl, 1, rfl, -1, rfl, S pg.1, rfl, ?_, ?_⟩
          · rw [S_len]; exact Nat.le_of_lt (small1000 hlen)
          · rw [last_cut]
            refine ⟨_, rfl, p, dx, _, rfl, h1, rfl, p, ra, pg, rfl, at_, fun H' sm => ⟨nxt pg, rfl, _, rfl, ?_⟩⟩
            cases e0 : isFree (nxt pg) with
            | false =>
              rw [e0] at k
              exact iteF (k H' sm)
            | true =>
              rw [e0] at k
              refine iteT ⟨_, rfl, pg.1.getLast?, rfl, _, rfl, _, rfl, ?_⟩
              cases e1 : pg.1.getLast? with
              | none =>
                rw [e1] at k
                exact iteT ⟨_, rfl, rfl, k H' sm⟩
              | some d =>
                rw [e1] at k
                cases e2 : isLetter d with
                | true =>
                  have k2 := k H' sm
                  simp only [Option.map_some, Option.getD_some, e2, Bool.not_true, Bool.false_and, Bool.and_false] at k2
                  show if (!isLetter d) = true then _ else _
                  rw [e2]
                  exact iteF k2
                | false =>
                  have k2 := k H' sm
                  simp only [Option.map_some, Option.getD_some, e2, Bool.not_false, Bool.true_and] at k2
                  show if (!isLetter d) = true then _ else _
                  rw [e2]
                  refine iteT ⟨_, rfl, rfl, ?_⟩
                  have e3 : decide (V.str (O1 (some d)) = V.str (S [39])) = decide (some d = some 39) := by
                    show decide (V.str (S [d]) = V.str (S [39])) = _
                    rw [sg_eq]; simp
                  show Q (.bl (!decide (V.str (O1 (some d)) = V.str (S [39])))) H'
                  rw [e3]
                  exact k2
        · rw [if_neg ha] at k
          rw [decide_eq_false ha]
          refine iteT ⟨_, rfl, ba, b.V, 1, .str b.b1, rfl, rfl, .inl (.inl hb), rfl, rfl, ?_⟩
          rw [str_dec]
          exact k H (Same.refl H)
end
end Ob
namespace Ob
open PySem PySem.Spec PyProof.Rows L2 L2H
section
variable {CP : Addr} {H H1 H2 H' : Hp} {p ra ra1 ra2 : Addr} {pg pg1 pg2 : Pg}
theorem PgAt.ne (h : PgAt CP H p ra pg) : p ≠ ra := by
  obtain ⟨_, dx, ts, h1, h2, _⟩ := h
  exact pg_ne h1 h2
theorem PgAt.but (h : PgAt CP H p ra pg) {b : Addr} {xs : List V} (e : H b = some (.tup xs)) : b ∉ [p, ra] := by
  obtain ⟨_, dx, ts, h1, h2, _⟩ := h
  exact but_ne e h1 h2 (fun z => by cases z) (fun z => by cases z)
theorem PgTo.of_same (h : PgAt CP H p ra pg) (k : Same H H') : PgTo CP H p ra pg H' ra := ⟨h.same k, Kp.of k, .inl rfl⟩
theorem PgTo.tup (h : PgAt CP H p ra pg) (t : PgTo CP H p ra pg1 H1 ra1) {b : Addr} {xs : List V} (e : H b = some (.tup xs)) : H1 b = some (.tup xs) := t.kp _ _ e (h.but e)
theorem PgTo.trans (h : PgAt CP H p ra pg) (t : PgTo CP H p ra pg1 H1 ra1) (u : PgTo CP H1 p ra1 pg2 H2 ra2) : PgTo CP H p ra pg2 H2 ra2 := by
  have n1 : ∀ b o, H b = some o → b ∉ [p, ra] → b ∉ [p, ra1] := fun b o e hb z => by
    rcases List.mem_cons.mp z with z | z
    · exact hb (by rw [z]; exact List.mem_cons_self)
    · have z := List.mem_singleton.mp z
      rcases t.nw with q | q
      · exact hb (by rw [z, q]; exact List.mem_cons_of_mem _ List.mem_cons_self)
      · rw [z, q] at e; cases e
  refine ⟨u.at_, fun b o e hb => u.kp _ _ (t.kp b o e hb) (n1 b o e hb), ?_⟩
  rcases u.nw with q | q
  · rw [q]; exact t.nw
  · cases e : H ra2 with
    | none => exact .inr rfl
    | some o =>
      by_cases hb : ra2 ∈ [p, ra]
      · rcases List.mem_cons.mp hb with z | z
        · obtain ⟨_, dx, ts, e1, _⟩ := t.at_
          rw [z] at q
          rw [q] at e1
          cases e1
        · exact .inl (List.mem_singleton.mp z)
      · have := t.kp _ _ e hb
        rw [q] at this
        cases this
/-- self.left is another text -/
theorem PgAt.setLeft {dx : Addr} {fs : List (Str × V)} {l : List Nat} (h : PgAt CP H p ra pg) (hp : H p = some (.ins CP dx fs)) (hl : ∀ c ∈ l, c ∈ sigs) : PgTo CP H p ra (l, pg.2) (upd H p (.ins CP dx (putF "left" (.str (S l)) fs))) ra := by
  have hne := h.ne
  obtain ⟨ok, dx', ts, h1, h2, h3⟩ := h
  rw [h1] at hp
  cases hp
  refine ⟨⟨⟨hl, ok.r⟩, _, ts, upd_same, (upd_ne hne.symm).trans h2, h3.mono fun b xs e => (upd_ne (fun z => by rw [z, h1] at e; cases e)).trans e⟩, fun b o e hb => (upd_ne (but2 (o := o) hb).1).trans e, .inl rfl⟩
/-- self.right is another list -/
theorem PgAt.setRight {dx rb : Addr} {fs : List (Str × V)} {ts' : List Addr} {r : List (Nat × Bool)} (h : PgAt CP H p ra pg) (hp : H1 p = some (.ins CP dx fs)) (hfs : fs = pgF pg ra) (sm : Same H H1) (hb : H rb = none) (h2' : H1 rb = some (.lst (ts'.map V.ref))) (h3' : Prs H1 ts' r.reverse) (hr : ∀ q ∈ r, q.1 ∈ sigs) :
    PgTo CP H p ra (pg.1, r) (upd H1 p (.ins CP dx (putF "right" (.ref rb) fs))) rb := by
  obtain ⟨ok, dx', ts, h1, h2, h3⟩ := h
  subst hfs
  have hne : p ≠ rb := fun z => by rw [z, hb] at h1; cases h1
  refine ⟨⟨⟨ok.l, hr⟩, dx, ts', upd_same, (upd_ne hne.symm).trans h2', h3'.mono fun b xs e => (upd_ne (fun z => by rw [z, hp] at e; cases e)).trans e⟩, fun b o e hb => (upd_ne (but2 (o := o) hb).1).trans (sm _ _ e), .inr hb⟩
/-- self.right.append(a pair) -/
theorem PgAt.push {t : Addr} {ts : List Addr} {q : Nat × Bool} (h : PgAt CP H p ra pg) (hr : H ra = some (.lst (ts.map V.ref))) (ht : H t = some (.tup (prV q))) (hq : q.1 ∈ sigs) : PgTo CP H p ra (pg.1, q :: pg.2) (upd H ra (.lst (ts.map V.ref ++ [.ref t]))) ra := by
  have hne := h.ne
  obtain ⟨ok, dx', ts', h1, h2, h3⟩ := h
  rw [h2] at hr
  have e : ts'.map V.ref = ts.map V.ref := HO.lst.inj (Option.some.inj hr)
  have e' : ts' = ts := List.map_inj_right (fun a b z => V.ref.inj z) |>.mp e
  subst e'
  have tm : ∀ b xs, H b = some (.tup xs) → upd H ra (.lst (ts'.map V.ref ++ [.ref t])) b = some (.tup xs) := fun b xs e => (upd_ne (fun z => by rw [z, h2] at e; cases e)).trans e
  refine ⟨⟨⟨ok.l, fun x hx => ?_⟩, dx', ts' ++ [t], (upd_ne hne).trans h1, ?_, ?_⟩, fun b o e hb => (upd_ne (but2 (o := o) hb).2).trans e, .inl rfl⟩
  · rcases List.mem_cons.mp hx with z | z
    · rw [z]; exact hq
    · exact ok.r x z
  · rw [upd_same, List.map_append]
    rfl
  · show Prs _ (ts' ++ [t]) (q :: pg.2).reverse
    rw [List.reverse_cons]
    exact (h3.mono tm).app (.cons (tm _ _ ht) .nil)
/-- self.right.pop() -/
theorem PgAt.pop {ts : List Addr} {q : Nat × Bool} {r : List (Nat × Bool)} (h : PgAt CP H p ra pg) (hr : H ra = some (.lst (ts.map V.ref))) (hg : pg.2 = q :: r) : ∃ t, (ts.map V.ref)[(ts.map V.ref).length - 1]? = some (.ref t) ∧ PgTo CP H p ra (pg.1, r) (upd H ra (.lst (ts.map V.ref).dropLast)) ra := by
  have hne := h.ne
  obtain ⟨ok, dx', ts', h1, h2, h3⟩ := h
  rw [h2] at hr
  have e : ts'.map V.ref = ts.map V.ref := HO.lst.inj (Option.some.inj hr)
  have e' : ts' = ts := List.map_inj_right (fun a b z => V.ref.inj z) |>.mp e
  subst e'
  rw [hg, List.reverse_cons] at h3
  obtain ⟨us, t, rfl, hu, ht⟩ := h3.snoc
  have tm : ∀ b xs, H b = some (.tup xs) → upd H ra (.lst ((us ++ [t]).map V.ref).dropLast) b = some (.tup xs) := fun b xs e => (upd_ne (fun z => by rw [z, h2] at e; cases e)).trans e
  refine ⟨t, by simp, ⟨⟨ok.l, fun x hx => ok.r x (by rw [hg]; exact List.mem_cons_of_mem _ hx)⟩, dx', us, (upd_ne hne).trans h1, ?_, hu.mono tm⟩, fun b o e hb => (upd_ne (but2 (o := o) hb).2).trans e, .inl rfl⟩
  rw [upd_same, List.map_append, List.map_singleton, List.dropLast_concat]
end
section
variable {P : Program} {w : World} {K : PySem.W.Frag} {mg : Str → Option Value} {base : Heap}
theorem if_t {b : Bool} {A B : Prop} (hb : b = true) (h : A) : if b = true then A else B := by rw [if_pos hb]; exact h
theorem if_f {b : Bool} {A B : Prop} (hb : b = false) (h : B) : if b = true then A else B := by rw [if_neg (by rw [hb]; decide)]; exact h
theorem optS_dec {o : Option Nat} {c : Nat} : decide (optS o = V.str (S [c])) = decide (o = some c) := by
  cases o with
  | none =>
    show decide (V.str (S []) = V.str (S [c])) = _
    rw [sg_eq]; simp
  | some d =>
    show decide (V.str (S [d]) = V.str (S [c])) = _
    rw [sg_eq]; simp
abbrev spType (K : PySem.W.Frag) : Sp := fun vs H Q _ => ∃ (p ra ba : Addr) (b : Bk) (pg : Pg) (c : Nat), vs = [.ref p, .ref ba, .str (S [c])] ∧ PgAt (He.ga K "Page") H p ra pg ∧ H ba = some (.tup b.V) ∧ c ∈ sigs ∧ pgLen pg ≤ 900 ∧ ∀ H' ra', PgTo (He.ga K "Page") H p ra (typeSign b pg c) H' ra' → Q .non H'
theorem ok_type_sign (T : TxP K mg) : FOk P w K mg base CX0 3 ("Page", some "type_sign") p_Page_type_sign (spType K) := by
  refine T.m_type_sign.f.ok sc_Page_type_sign (fun vs H Q E h => ?_) (fun cdv A outer s H vs Q E hr h => ?_)
  · obtain ⟨a, ks, _, _, _, _, rfl, _⟩ := h
    rfl
  · obtain ⟨p, ra, ba, b, pg, c, rfl, at_, hb, hc, hlen, k⟩ := h
    have nd := sc_Page_type_sign.nd
    refine ⟨_, PSs.nox (C8.pss_cut (ps_st 3 nd (pe_and (pe_f T.S.d_is_closing (ok_is_closing T.S) hr (by decide) (pa_cons (pv 2) pa_nil)) (pe_one (pe_cmpR op_eq (pe_m0' T.m_next_sign T.cP (ok_next_sign T) hr (by decide) (pv 0)) (pv 2) (nomark _)))))
      (C8.pss_cut (ps_if (PW.pt (pw_and (pt_val (pv 3) (fun _ => rfl)) (pw_and1 (PW.pt (pw_or (pt_cmpR op_eq (pe_ix ix_tup (pv 1) pe_int (fun _ _ => rfl)) (pe_gv T.ANY) (nomark _)) (pw_or1 (PW.pt (pw_and (pt_cmpR op_eq (pe_ix ix_tup (pv 1) pe_int (fun _ _ => rfl)) (pe_gv T.OWN) (nomark _)) (pw_and1 (pt_val (pe_m0' T.m_is_next_own T.cP (ok_is_next_own T) hr (by decide) (pv 0)) (fun _ => rfl)))))))))))
        (pss_cons (ps_expr (pe_m0' T.m_go_over T.cP (ok_go_over T) hr (by decide) (pv 0))) (pss_one ps_retN)) pss_nil)
      (pss_cons (ps_st 4 nd (pe_f T.S.d_closer_of (ok_closer_of T.S) hr (by decide) (pa_cons (pv 2) pa_nil)))
      (C8.pss_cut (ps_st 5 nd (pe_and (pe_cmpR op_ne (pv 4) pe_str (nomark _)) (pe_one (pe_m T.m_does_put T.cP (ok_does_put T) hr (by decide) (pv 0) (pa_cons (pv 1) (pa_cons (pv 2) pa_nil))))))
      (pss_cons (ps_fldaug (pv 0) (pv 2) iop_add_str)
      (C8.pss_cut (ps_if (pt_val (pv 5) (fun _ => rfl)) (pss_one (ps_expr (pe_bm PySem.F.plainAttrs_list PySem.F.slot_list_append PySem.F.type_list_append mt_append (pe_fld (pv 0) rfl) (pa_cons (pe_tup (pa_cons (pv 4) (pa_cons pe_bl pa_nil))) pa_nil)))) pss_nil)
      (pss_one (ps_if (PW.pt (pw_and (pt_cmpR op_eq (pv 2) (pe_gv T.S.LINE) (nomark _)) (pw_and1 (pt_cmpR op_eq (pe_ix ix_tup (pv 1) pe_int (fun _ _ => rfl)) (pe_gv T.AT_LINES) (nomark _)))))
        (pss_one (ps_fld (pv 0) (pe_lc (own := [("other", 6), ("is_own", 7)]) (g := gTup K 2 (gCons (gName 6) (gCons (gName 7) gNil))) (tt := tYes) rfl nd (pi_list (pe_fld (pv 0) rfl)) (blkOk_by (own := [("other", 6), ("is_own", 7)]) (N := N_Page_type_sign) (sc := defScope s_Page_type_sign) (by decide +kernel)) (fun _ _ _ _ _ => pg_tup rfl (pgs_cons (pg_name (i := 6) nd rfl (Or.inl rfl)) (pgs_cons (pg_name (i := 7) nd rfl (Or.inl rfl)) pgs_nil))) (fun _ _ _ _ _ => pts_nil)
          (fun _ _ _ _ _ => pe_tup (pa_cons (pv 6) (pa_cons pe_bl pa_nil)))) rfl)) pss_nil)))))))), ?_⟩
    obtain ⟨ok, dx, ts, h1, h2, h3⟩ := id at_
    have hl1 : pg.1.length ≤ 1000 := by unfold pgLen at hlen; omega
    obtain ⟨m1, hm1⟩ : ∃ m1, m1 = (isClosing c && decide (nxt pg = some c)) := ⟨_, rfl⟩
    refine ⟨fun σ H' => Same H H' ∧ σ = [some (.ref p), some (.ref ba), some (.str (S [c])), some (.bl m1), none, none, none, none], ?_, ?_⟩
    · refine ⟨_, rfl, some c, rfl, isClosing c, rfl, ?_⟩
      cases e1 : isClosing c with
      | false =>
        rw [e1] at hm1
        exact iteF ⟨Same.refl H, by rw [hm1]; rfl⟩
      | true =>
        rw [e1] at hm1
        refine iteT ⟨_, rfl, p, dx, _, rfl, h1, rfl, p, ra, pg, rfl, at_, fun H' sm => ⟨_, rfl, rfl, sm, ?_⟩⟩
        rw [hm1, ← optS_dec]
        rfl
    rintro σ H1 ⟨sm1, rfl⟩
    have a1 := at_.same sm1
    refine ⟨fun σ H' => Same H H' ∧ σ = [some (.ref p), some (.ref ba), some (.str (S [c])), some (.bl m1), none, none, none, none] ∧ goesOver b pg c = false, ?_, ?_⟩
    · refine ⟨_, rfl, m1, rfl, ?_⟩
      have over : goesOver b pg c = true → ∀ H2, Same H H2 → ∀ H3, PgTo (He.ga K "Page") H2 p ra (goOver pg) H3 ra → Q .non H3 := fun hg H2 sm H3 t => by
        refine k H3 ra ?_
        have e : typeSign b pg c = goOver pg := by unfold typeSign; rw [if_pos hg]
        rw [e]
        exact PgTo.trans at_ (PgTo.of_same at_ sm) t
      have go : goesOver b pg c = (m1 && (decide (b.b3 = "any") || (decide (b.b3 = "own") && nxtOwn pg))) := by rw [hm1]; rfl
      cases m1 with
      | false => exact iteF (iteF ⟨sm1, rfl, go⟩)
      | true =>
        refine iteT ⟨_, rfl, ba, b.V, 3, .str b.b3, rfl, rfl, .inl (.inl (sm1 _ _ hb)), rfl, rfl, _, rfl, ?_⟩
        rw [str_dec]
        cases e2 : decide (b.b3 = "any") with
        | true =>
          rw [e2] at go
          exact iteT (iteT ⟨_, rfl, p, _, _, rfl, (sm1 _ _ h1), rfl, p, ra, pg, rfl, a1, hl1, fun H3 t => over go H1 sm1 H3 t⟩)
        | false =>
          rw [e2] at go
          refine iteF ⟨_, rfl, ba, b.V, 3, .str b.b3, rfl, rfl, .inl (.inl (sm1 _ _ hb)), rfl, rfl, _, rfl, ?_⟩
          rw [str_dec]
          cases e3 : decide (b.b3 = "own") with
          | false =>
            rw [e3] at go
            exact iteF (iteF ⟨sm1, rfl, go⟩)
          | true =>
            rw [e3] at go
            refine iteT ⟨_, rfl, p, dx, _, rfl, sm1 _ _ h1, rfl, p, ra, pg, rfl, a1, fun H2 sm2 => ⟨_, rfl, ?_⟩⟩
            cases e4 : nxtOwn pg with
            | false =>
              rw [e4] at go
              exact iteF ⟨sm1.trans sm2, rfl, go⟩
            | true =>
              rw [e4] at go
              exact iteT ⟨_, rfl, p, _, _, rfl, (sm1.trans sm2) _ _ h1, rfl, p, ra, pg, rfl, at_.same (sm1.trans sm2), hl1, fun H3 t => over go H2 (sm1.trans sm2) H3 t⟩
    rintro σ H2 ⟨sm2, rfl, hno⟩
    have hts : typeSign b pg c = (pg.1 ++ [c], forget b c (put b pg c)) := by unfold typeSign; rw [if_neg (by rw [hno]; decide)]
    rw [hts] at k
    refine ⟨_, rfl, some c, rfl, ?_⟩
    obtain ⟨m2, hm2⟩ : ∃ m2, m2 = ((closerOf c).isSome && doesPut b pg c) := ⟨_, rfl⟩
    refine ⟨fun σ H' => Same H H' ∧ σ = [some (.ref p), some (.ref ba), some (.str (S [c])), some (.bl m1), some (optS (closerOf c)), some (.bl m2), none, none], ?_, ?_⟩
    · refine ⟨_, rfl, rfl, _, rfl, ?_⟩
      cases hco : closerOf c with
      | none =>
        have e : optS ((some c).bind closerOf) = V.str (S []) := by show optS (closerOf c) = _; rw [hco]; rfl
        have e5 : (!decide (optS ((some c).bind closerOf) = V.str "")) = false := by
          rw [e]
          have : decide (V.str (S []) = V.str (S [])) = true := by simp
          show (!decide (V.str (S []) = V.str (S []))) = false
          rw [this]; rfl
        refine if_f e5 ⟨sm2, ?_⟩
        rw [hm2, hco]
        show _ = _
        exact congrArg (fun z => [some (V.ref p), some (.ref ba), some (.str (S [c])), some (.bl m1), some z, some (.bl false), none, none]) e
      | some d =>
        have e : optS ((some c).bind closerOf) = V.str (S [d]) := by show optS (closerOf c) = _; rw [hco]; rfl
        have e5 : (!decide (optS ((some c).bind closerOf) = V.str "")) = true := by
          rw [e]
          have : decide (V.str (S [d]) = V.str (S [])) = false := by rw [sg_eq]; simp
          show (!decide (V.str (S [d]) = V.str (S []))) = true
          rw [this]; rfl
        refine if_t e5 ⟨_, rfl, p, dx, _, rfl, sm2 _ _ h1, rfl, _, rfl, _, rfl, p, ra, ba, b, pg, c, rfl, at_.same sm2, sm2 _ _ hb, hl1, fun H3 sm3 => ⟨sm2.trans sm3, ?_⟩⟩
        rw [hm2, hco]
        show _ = _
        exact congrArg (fun z => [some (V.ref p), some (.ref ba), some (.str (S [c])), some (.bl m1), some z, some (.bl (doesPut b pg c)), none, none]) e
    rintro σ H3 ⟨sm3, rfl⟩
    have a3 := at_.same sm3
    refine ⟨_, rfl, p, _, dx, _, .str (S pg.1), rfl, sm3 _ _ h1, T.cP, T.na_left, rfl, _, rfl, _, _, rfl, rfl, ?_, dx, _, sm3 _ _ h1, (by decide : 2 < 1000), ?_⟩
    · rw [S_len, S_len]
      show pg.1.length + 1 ≤ sizeLine
      rw [sizeLine_eq]
      omega
    rw [S_app]
    have t1 := PgTo.trans at_ (PgTo.of_same at_ sm3) (a3.setLeft (l := pg.1 ++ [c]) (sm3 _ _ h1) (fun x hx => (List.mem_append.mp hx).elim (ok.l x) fun z => by rw [List.mem_singleton.mp z]; exact hc))
    revert t1
    generalize upd H3 p _ = H4
    intro t1
    obtain ⟨ok4, dx4, ts4, h41, h42, h43⟩ := id t1.at_
    refine ⟨fun σ H' => PgTo (He.ga K "Page") H p ra (pg.1 ++ [c], put b pg c) H' ra ∧ σ = [some (.ref p), some (.ref ba), some (.str (S [c])), some (.bl m1), some (optS (closerOf c)), some (.bl m2), none, none], ?_, ?_⟩
    · refine ⟨_, rfl, m2, rfl, ?_⟩
      cases hco : closerOf c with
      | none =>
        rw [hco] at hm2
        have hm2 : m2 = false := hm2
        rw [hm2]
        refine iteF ⟨?_, rfl⟩
        have : put b pg c = pg.2 := by unfold put; rw [hco]
        rw [this]
        exact t1
      | some d =>
        rw [hco] at hm2
        have hm2 : m2 = doesPut b pg c := hm2
        rw [hm2]
        cases e1 : doesPut b pg c with
        | false =>
          refine iteF ⟨?_, rfl⟩
          have : put b pg c = pg.2 := by unfold put; rw [hco]; simp [e1]
          rw [this]
          exact t1
        | true =>
          have hput : put b pg c = (d, true) :: pg.2 := by unfold put; rw [hco]; simp [e1]
          rw [hput]
          refine iteT ⟨_, rfl, p, _, dx4, _, .ref ra, rfl, h41, T.cP, T.na_right, rfl, .inl ⟨rfl, _, .inl (.inl h42)⟩, _, rfl, (show 2 ≤ sizeLine by decide), fun t ht => ?_⟩
          have smt : Same H4 (upd H4 t (.tup (prV (d, true)))) := same_new ht
          refine ⟨ra, _, .ref t, rfl, rfl, smt _ _ h42, ?_, ?_, rfl⟩
          · have := h43.len
            rw [List.length_map, this, List.length_reverse]
            unfold pgLen at hlen
            rw [sizeLine_eq]
            show pg.2.length < _
            omega
          · have a5 := t1.at_.same smt
            have hd : d ∈ sigs := by
              unfold closerOf at hco
              split at hco
              · cases hco; decide
              · split at hco
                · cases hco; decide
                · split at hco
                  · cases hco; decide
                  · cases hco
            exact PgTo.trans at_ (PgTo.trans at_ t1 (PgTo.of_same t1.at_ smt)) (a5.push (smt _ _ h42) upd_same hd)
    rintro σ H5 ⟨t5, rfl⟩
    obtain ⟨ok5, dx5, ts5, h51, h52, h53⟩ := id t5.at_
    have done_ : ∀ H', PgTo (He.ga K "Page") H p ra (pg.1 ++ [c], put b pg c) H' ra → ¬ (c = 47 ∧ b.b5 = "line") → Q .non H' := fun H' t hn => by
      refine k H' ra ?_
      have e : forget b c (put b pg c) = put b pg c := by unfold forget; rw [if_neg hn]
      rw [e]
      exact t
    refine ⟨_, rfl, rfl, _, rfl, ?_⟩
    rw [sg_eq]
    by_cases hc47 : c = 47
    · refine if_t (by rw [hc47]; rfl) ⟨_, rfl, ba, b.V, 5, .str b.b5, rfl, rfl, .inl (.inl (PgTo.tup at_ t5 hb)), rfl, rfl, _, rfl, ?_⟩
      rw [str_dec]
      by_cases hb5 : b.b5 = "line"
      · have hfg : forget b c (put b pg c) = (put b pg c).map (fun q => (q.1, false)) := by unfold forget; rw [if_pos ⟨hc47, hb5⟩]
        rw [hfg] at k
        refine if_t (decide_eq_true hb5) ⟨_, rfl, p, _, dx5, _, .ref ra, rfl, h51, T.cP, T.na_right, rfl, ra, rfl, ⟨_, .inl (.inl h52)⟩, fun D hD => ?_⟩
        refine lc_acc1 (walk_list (xs := ts5.map V.ref)) PT1 (fun i acc H' => ∃ us, acc = us.map V.ref ∧ Prs H' us (((put b pg c).reverse.take i).map fun q => (q.1, false)) ∧ i ≤ ts5.length) hD ⟨[], rfl, .nil, Nat.zero_le _⟩ (fun i H' acc hi kp e r => .inl (.inl (kp _ _ h52 True.intro))) (fun _ _ _ _ => True.intro) (fun i acc H' ⟨us, e1, e2, e3⟩ => ?_) (fun i acc H' a0 a1 e ⟨us, e1, e2, e3⟩ => ⟨us, e1, e2.mono fun b' xs z => ?_, e3⟩) ?_ ?_
        · rw [e1, List.length_map, e2.len, List.length_map, List.length_take]
          have := h53.len
          have h1' := put_len b pg c
          have : ((put b pg c).reverse).length ≤ 901 := by rw [List.length_reverse]; unfold pgLen at hlen; omega
          rw [sizeLine_eq]
          omega
        · exact (upd_ne (fun y => by rw [y, e] at z; cases z)).trans z
        · intro i x H6 H6' acc Post hi kp e r hp hy
          obtain ⟨rfl, hx⟩ := hy
          rw [List.getElem?_map] at hx
          obtain ⟨t, htt, rfl⟩ := Option.map_eq_some_iff.mp hx
          obtain ⟨q, hq, hqt⟩ := h53.get htt
          obtain ⟨us, rfl, e2, e3⟩ := r
          have hit : i < ts5.length := (List.getElem?_eq_some_iff.mp htt).1
          refine ⟨t, prV q, rfl, .inl (.inl (kp _ _ hqt True.intro)), rfl, _, _, rfl, _, [], rfl, rfl, rfl, _, rfl, (show 2 ≤ sizeLine by decide), fun t' ht' => hp _ _ (Kp.of (same_new ht')) ⟨us ++ [t'], by rw [List.map_append]; rfl, ?_, hit⟩⟩
          have hq' : (put b pg c).reverse[i]? = some q := hq
          rw [List.take_add_one, hq', List.map_append]
          exact (e2.mono fun b' xs z => same_new ht' _ _ z).app (.cons upd_same .nil)
        · intro H7 acc kp e r
          obtain ⟨us, rfl, e2, _⟩ := r
          refine ⟨_, rfl, p, _, dx5, _, rfl, kp _ _ h51 True.intro, T.cP, T.na_right, (by decide : 2 < 1000), k _ D ?_⟩
          refine PgTo.trans at_ t5 (t5.at_.setRight (r := (put b pg c).map fun q => (q.1, false)) (kp _ _ h51 True.intro) rfl kp.same hD e ?_ fun q hq => ?_)
          · have hn : ((put b pg c).reverse.take (ts5.map V.ref).length) = (put b pg c).reverse := by
              rw [List.length_map, h53.len]
              exact List.take_length
            rw [hn] at e2
            rw [← List.map_reverse]
            exact e2
          · obtain ⟨q', hq', rfl⟩ := List.mem_map.mp hq
            exact ok5.r q' hq'
      · exact if_f (decide_eq_false hb5) (done_ H5 t5 fun z => hb5 z.2)
    · refine if_f (decide_eq_false fun z => hc47 (by simpa using z)) ?_
      exact iteF (done_ H5 t5 fun z => hc47 z.1)
end
end Ob
namespace Ob
open PySem PySem.Spec PyProof.Rows L2 L2H
theorem most_cut (l : List Nat) : cutS (S l) none (some (-1)) = S l.dropLast := by
  have e2 : HT.sIx l.length l.length (some (-1)) = l.length - 1 := by
    unfold HT.sIx
    simp only
    rw [if_pos (by decide)]
    omega
  have e : HT.sIx l.length 0 none = 0 := by
    unfold HT.sIx
    simp
  unfold cutS
  rw [S_len, e, e2]
  show (⟨((l.drop 0).take (l.length - 1 - 0)).toArray⟩ : Str) = _
  rw [List.drop_zero, Nat.sub_zero, ← List.dropLast_eq_take]
section
variable {P : Program} {w : World} {K : PySem.W.Frag} {mg : Str → Option Value} {base : Heap}
theorem ok_go_back (T : TxP K mg) : FOk P w K mg base CX0 2 ("Page", some "go_back") p_Page_go_back (fun vs H Q _ => ∃ (p ra ba : Addr) (b : Bk) (pg : Pg), vs = [.ref p, .ref ba] ∧ PgAt (He.ga K "Page") H p ra pg ∧ H ba = some (.tup b.V) ∧ pgLen pg ≤ 900 ∧ ∀ H' ra', PgTo (He.ga K "Page") H p ra (goBack b pg) H' ra' → Q .non H') := by
  refine T.m_go_back.f.ok sc_Page_go_back (fun vs H Q E h => ?_) (fun cdv A outer s H vs Q E hr h => ?_)
  · obtain ⟨a, ks, _, _, _, rfl, _⟩ := h
    rfl
  · obtain ⟨p, ra, ba, b, pg, rfl, at_, hb, hlen, k⟩ := h
    have nd := sc_Page_go_back.nd
    refine ⟨_, PSs.nox (pss_one (ps_if (pt_cmpR op_ne (pe_fld (pv 0) rfl) pe_str (nomark _))
      (pss_cons (ps_st 2 nd (pe_f T.S.d_closer_of (ok_closer_of T.S) hr (by decide) (pa_cons (pe_ix ix_str (pe_fld (pv 0) rfl) (pe_un un_neg pe_int) (fun _ _ => rfl)) pa_nil)))
      (pss_cons (ps_fld (pv 0) (pe_slice sl_str (pe_fld (pv 0) rfl) po_none (po_some (pe_un un_neg pe_int))) rfl)
      (C8.pss_cut (ps_st 3 nd (pe_and (pe_cmpR op_ne (pv 2) pe_str (nomark _)) (pe_one (pe_cmpR op_eq (pe_m0' T.m_next_sign T.cP (ok_next_sign T) hr (by decide) (pv 0)) (pv 2) (nomark _)))))
      (pss_one (ps_if (PW.pt (pw_and (pt_val (pv 3) (fun _ => rfl)) (pw_and1 (PW.pt (pw_or (pt_cmpR op_eq (pe_ix ix_tup (pv 1) pe_int (fun _ _ => rfl)) (pe_gv T.ANY) (nomark _)) (pw_or1 (PW.pt (pw_and (pt_cmpR op_eq (pe_ix ix_tup (pv 1) pe_int (fun _ _ => rfl)) (pe_gv T.OWN) (nomark _)) (pw_and1 (pt_val (pe_m0' T.m_is_next_own T.cP (ok_is_next_own T) hr (by decide) (pv 0)) (fun _ => rfl)))))))))))
        (pss_one (ps_expr (pe_bm0 PySem.F.plainAttrs_list PySem.F.slot_list_pop PySem.F.type_list_pop mt_pop (pe_fld (pv 0) rfl)))) pss_nil))))) pss_nil)), ?_⟩
    obtain ⟨ok, dx, ts, h1, h2, h3⟩ := id at_
    refine ⟨_, rfl, p, _, dx, _, .str (S pg.1), rfl, h1, T.cP, T.na_left, rfl, rfl, _, rfl, ?_⟩
    rcases List.eq_nil_or_concat pg.1 with e0 | ⟨l0, c, e0⟩
    · have eb : goBack b pg = pg := by unfold goBack; rw [e0]; rfl
      rw [eb] at k
      refine if_f ?_ (k H ra (PgTo.of_same at_ (Same.refl H)))
      rw [e0]
      rfl
    · have eb : goBack b pg = (l0, if takesBoth b (l0 ++ [c], pg.2) c = true then pg.2.tail else pg.2) := by
        obtain ⟨l, r⟩ := pg
        have e0 : l = l0 ++ [c] := by simpa using e0
        subst e0
        unfold goBack
        simp
      rw [eb] at k
      have hl1 : pg.1.length ≤ 1000 := by unfold pgLen at hlen; omega
      have hsz : (S pg.1).length ≤ sizeLine := by rw [S_len]; exact Nat.le_of_lt (small1000 hl1)
      have hat : atI (S pg.1).cps.toList (-1) = some c := by
        show atI pg.1 (-1) = some c
        rw [e0, List.concat_eq_append]
        exact atI_last _ _
      refine if_t ?_ ?_
      · have : decide (V.str (S pg.1) = V.str (S [])) = false := by
          rw [sg_eq, e0]; simp
        show (!decide (V.str (S pg.1) = V.str (S []))) = true
        rw [this]; rfl
      refine ⟨_, rfl, p, _, dx, _, .str (S pg.1), rfl, h1, T.cP, T.na_left, rfl, 1, rfl, S pg.1, -1, c, rfl, rfl, hsz, hat, some c, rfl, ?_⟩
      refine ⟨_, rfl, p, _, dx, _, .str (S pg.1), rfl, h1, T.cP, T.na_left, rfl, 1, rfl, _, rfl, S pg.1, rfl, hsz, _, rfl, p, _, dx, _, rfl, h1, T.cP, T.na_left, (by decide : 2 < 1000), ?_⟩
      rw [most_cut]
      have hdl : pg.1.dropLast = l0 := by rw [e0, List.concat_eq_append, List.dropLast_concat]
      rw [hdl]
      have t1 := at_.setLeft (l := l0) h1 (fun x hx => ok.l x (by rw [e0, List.concat_eq_append]; exact List.mem_append_left _ hx))
      revert t1
      generalize upd H p _ = H4
      intro t1
      obtain ⟨ok4, dx4, ts4, h41, h42, h43⟩ := id t1.at_
      obtain ⟨m1, hm1⟩ : ∃ m1, m1 = (match closerOf c with | none => false | some d => decide (nxt pg = some d)) := ⟨_, rfl⟩
      have htb : takesBoth b (l0 ++ [c], pg.2) c = (m1 && (decide (b.b4 = "any") || (decide (b.b4 = "own") && nxtOwn pg))) := by rw [hm1]; rfl
      refine ⟨fun σ H' => PgTo (He.ga K "Page") H p ra (l0, pg.2) H' ra ∧ σ = [some (.ref p), some (.ref ba), some (optS (closerOf c)), some (.bl m1)], ?_, ?_⟩
      · refine ⟨_, rfl, rfl, _, rfl, ?_⟩
        cases hco : closerOf c with
        | none =>
          have e : optS ((some c).bind closerOf) = V.str (S []) := by show optS (closerOf c) = _; rw [hco]; rfl
          have e5 : (!decide (optS ((some c).bind closerOf) = V.str "")) = false := by
            rw [e]
            have : decide (V.str (S []) = V.str (S [])) = true := by simp
            show (!decide (V.str (S []) = V.str (S []))) = false
            rw [this]; rfl
          refine if_f e5 ⟨t1, ?_⟩
          rw [hm1, hco]
          exact congrArg (fun z => [some (V.ref p), some (.ref ba), some z, some (.bl false)]) e
        | some d =>
          have e : optS ((some c).bind closerOf) = V.str (S [d]) := by show optS (closerOf c) = _; rw [hco]; rfl
          have e5 : (!decide (optS ((some c).bind closerOf) = V.str "")) = true := by
            rw [e]
            have : decide (V.str (S [d]) = V.str (S [])) = false := by rw [sg_eq]; simp
            show (!decide (V.str (S [d]) = V.str (S []))) = true
            rw [this]; rfl
          refine if_t e5 ⟨_, rfl, p, _, _, rfl, h41, rfl, p, ra, (l0, pg.2), rfl, t1.at_, fun H' sm => ⟨_, rfl, ?_, ?_, ?_⟩⟩
          · rw [show ((fun o => optS (o.bind closerOf)) (some c)) = V.str (S [d]) from e]
            rfl
          · exact PgTo.trans at_ t1 (PgTo.of_same t1.at_ sm)
          · rw [hm1, hco]
            have e6 : decide (optS (nxt (l0, pg.2)) = optS ((some c).bind closerOf)) = decide (nxt pg = some d) := by rw [e, optS_dec]; rfl
            show [some (V.ref p), some (V.ref ba), some (optS ((some c).bind closerOf)), some (V.bl (decide (optS (nxt (l0, pg.2)) = optS ((some c).bind closerOf))))] = _
            rw [e6, e]
            rfl
      rintro σ H5 ⟨t5, rfl⟩
      have stop : takesBoth b (l0 ++ [c], pg.2) c = false → ∀ H', Same H5 H' → Q .non H' := fun hf H' sm => by
        refine k H' ra ?_
        rw [hf]
        exact PgTo.trans at_ t5 (PgTo.of_same t5.at_ sm)
      have pops : takesBoth b (l0 ++ [c], pg.2) c = true → m1 = true → ∀ H6, Same H5 H6 → ∃ (dx6 : Addr) (fs6 : List (Str × V)) (ts6 : List Addr) (t6 : Addr), H6 p = some (.ins (He.ga K "Page") dx6 fs6) ∧ fs6 = pgF (l0, pg.2) ra ∧ H6 ra = some (.lst (ts6.map V.ref)) ∧ (ts6.map V.ref)[(ts6.map V.ref).length - 1]? = some (.ref t6) ∧ Q .non (upd H6 ra (.lst (ts6.map V.ref).dropLast)) := fun ht hm H6 sm => by
        have a6 := t5.at_.same sm
        obtain ⟨ok6, dx6, ts6, h61, h62, h63⟩ := id a6
        cases hr2 : pg.2 with
        | nil =>
          rw [hm1] at hm
          have : nxt pg = none := by unfold nxt; rw [hr2]; rfl
          rw [this] at hm
          cases hco : closerOf c with
          | none => rw [hco] at hm; cases hm
          | some d => rw [hco] at hm; simp at hm
        | cons q r =>
          obtain ⟨t6, e6, p6⟩ := a6.pop h62 (q := q) (r := r) hr2
          refine ⟨dx6, _, ts6, t6, h61, by rw [hr2], h62, e6, k _ ra ?_⟩
          rw [ht, hr2]
          exact PgTo.trans at_ t5 (PgTo.trans t5.at_ (PgTo.of_same t5.at_ sm) p6)
      have hb5 := PgTo.tup at_ t5 hb
      refine ⟨_, rfl, m1, rfl, ?_⟩
      cases m1 with
      | false => exact iteF (iteF (stop htb H5 (Same.refl H5)))
      | true =>
        refine iteT ⟨_, rfl, ba, b.V, 4, .str b.b4, rfl, rfl, .inl (.inl hb5), rfl, rfl, _, rfl, ?_⟩
        rw [str_dec]
        cases e2 : decide (b.b4 = "any") with
        | true =>
          rw [e2] at htb
          obtain ⟨dx6, fs6, ts6, t6, g1, rfl, g2, g3, g4⟩ := pops htb rfl H5 (Same.refl H5)
          exact iteT (iteT ⟨_, rfl, p, _, dx6, _, .ref ra, rfl, g1, T.cP, T.na_right, rfl, .inl ⟨rfl, _, .inl (.inl g2)⟩, ra, _, .ref t6, rfl, rfl, g2, g3, g4⟩)
        | false =>
          rw [e2] at htb
          refine iteF ⟨_, rfl, ba, b.V, 4, .str b.b4, rfl, rfl, .inl (.inl hb5), rfl, rfl, _, rfl, ?_⟩
          rw [str_dec]
          cases e3 : decide (b.b4 = "own") with
          | false =>
            rw [e3] at htb
            exact iteF (iteF (stop htb H5 (Same.refl H5)))
          | true =>
            rw [e3] at htb
            obtain ⟨ok5, dx5, ts5, h51, h52, h53⟩ := id t5.at_
            refine iteT ⟨_, rfl, p, dx5, _, rfl, h51, rfl, p, ra, (l0, pg.2), rfl, t5.at_, fun H6 sm6 => ⟨_, rfl, ?_⟩⟩
            have eo : nxtOwn (l0, pg.2) = nxtOwn pg := rfl
            rw [eo]
            cases e4 : nxtOwn pg with
            | false =>
              rw [e4] at htb
              exact iteF (stop htb H6 sm6)
            | true =>
              rw [e4] at htb
              obtain ⟨dx6, fs6, ts6, t6, g1, rfl, g2, g3, g4⟩ := pops htb rfl H6 sm6
              exact iteT ⟨_, rfl, p, _, dx6, _, .ref ra, rfl, g1, T.cP, T.na_right, rfl, .inl ⟨rfl, _, .inl (.inl g2)⟩, ra, _, .ref t6, rfl, rfl, g2, g3, g4⟩
theorem goEnd_step {p : Pg} (h : nxtOwn p = true) : goEnd (goOver p) = goEnd p ∧ (goOver p).2.length + 1 = p.2.length := by
  obtain ⟨l, r⟩ := p
  cases r with
  | nil => cases h
  | cons q r =>
    have h : q.2 = true := h
    constructor
    · unfold goEnd goOver
      simp [List.takeWhile_cons, List.dropWhile_cons, h]
    · rfl
theorem goEnd_stop {p : Pg} (h : nxtOwn p = false) : goEnd p = p := by
  obtain ⟨l, r⟩ := p
  cases r with
  | nil => simp [goEnd]
  | cons q r =>
    have h : q.2 = false := h
    unfold goEnd
    simp [List.takeWhile_cons, List.dropWhile_cons, h]
theorem sg_ne {c : Nat} {z : Str} (h : z.length ≠ 1) : decide (V.str (S [c]) = V.str z) = false := by
  refine decide_eq_false fun e => h ?_
  have := V.str.inj e
  rw [← this]
  exact S_len [c]
abbrev spPress (K : PySem.W.Frag) : Sp := fun vs H Q _ => ∃ (p ra ba : Addr) (b : Bk) (pg : Pg) (q : Ky), vs = [.ref p, .ref ba, .str q.str] ∧ PgAt (He.ga K "Page") H p ra pg ∧ H ba = some (.tup b.V) ∧ q.ok ∧ pgLen pg ≤ 900 ∧ ∀ H' ra', PgTo (He.ga K "Page") H p ra (press b pg q) H' ra' → Q .non H'
theorem ok_press (T : TxP K mg) : FOk P w K mg base CX0 4 ("Page", some "press") p_Page_press (spPress K) := by
  refine T.m_press.f.ok sc_Page_press (fun vs H Q E h => ?_) (fun cdv A outer s H vs Q E hr h => ?_)
  · obtain ⟨a, ks, _, _, _, _, rfl, _⟩ := h
    rfl
  · obtain ⟨p, ra, ba, b, pg, q, rfl, at_, hb, hq, hlen, k⟩ := h
    refine ⟨_, PSs.nox (pss_one (ps_if (pt_cmpR op_eq (pv 2) (pe_gv T.S.BACK) (nomark _)) (pss_one (ps_expr (pe_m T.m_go_back T.cP (ok_go_back T) hr (by decide) (pv 0) (pa_cons (pv 1) pa_nil))))
      (pss_one (ps_if (pt_cmpR op_eq (pv 2) (pe_gv T.S.RIGHT) (nomark _)) (pss_one (ps_expr (pe_m0' T.m_go_over T.cP (ok_go_over T) hr (by decide) (pv 0))))
      (pss_one (ps_if (pt_cmpR op_eq (pv 2) (pe_gv T.S.END) (nomark _)) (pss_one (ps_while PassesOwn.never (pt_val (pe_m0' T.m_is_next_own T.cP (ok_is_next_own T) hr (by decide) (pv 0)) (fun _ => rfl)) (pss_one (ps_expr (pe_m0' T.m_go_over T.cP (ok_go_over T) hr (by decide) (pv 0))))))
        (pss_one (ps_expr (pe_m T.m_type_sign T.cP (ok_type_sign T) hr (by decide) (pv 0) (pa_cons (pv 1) (pa_cons (pv 2) pa_nil))))))))))), ?_⟩
    obtain ⟨ok, dx, ts, h1, h2, h3⟩ := id at_
    have hl1 : pg.1.length ≤ 1000 := by unfold pgLen at hlen; omega
    cases q with
    | back => exact ⟨_, rfl, rfl, _, rfl, if_t (by decide) ⟨_, rfl, p, dx, _, rfl, h1, rfl, _, rfl, p, ra, ba, b, pg, rfl, at_, hb, hlen, fun H' ra' t => k H' ra' t⟩⟩
    | right => exact ⟨_, rfl, rfl, _, rfl, if_f (by decide) ⟨_, rfl, rfl, _, rfl, if_t (by decide) ⟨_, rfl, p, dx, _, rfl, h1, rfl, p, ra, pg, rfl, at_, hl1, fun H' t => k H' ra t⟩⟩⟩
    | sg c => exact ⟨_, rfl, rfl, _, rfl, if_f (sg_ne (by decide)) ⟨_, rfl, rfl, _, rfl, if_f (sg_ne (by decide)) ⟨_, rfl, rfl, _, rfl, if_f (sg_ne (by decide)) ⟨_, rfl, p, dx, _, rfl, h1, rfl, _, rfl, _, rfl, p, ra, ba, b, pg, c, rfl, at_, hb, hq, hlen, fun H' ra' t => k H' ra' t⟩⟩⟩⟩
    | fin =>
      refine ⟨_, rfl, rfl, _, rfl, if_f (by decide) ⟨_, rfl, rfl, _, rfl, if_f (by decide) ⟨_, rfl, rfl, _, rfl, if_t (by decide) ?_⟩⟩⟩
      refine ⟨fun m σ H' => σ = [some (.ref p), some (.ref ba), some (.str (Ky.str .fin))] ∧ ∃ pg', PgTo (He.ga K "Page") H p ra pg' H' ra ∧ pg'.2.length = m ∧ goEnd pg' = goEnd pg ∧ pgLen pg' = pgLen pg, ⟨_, rfl, pg, PgTo.of_same at_ (Same.refl H), rfl, rfl, rfl⟩, ?_⟩
      rintro m σ H1 ⟨rfl, pg', t1, rfl, e1, e2⟩
      obtain ⟨ok1, dx1, ts1, h11, _, _⟩ := id t1.at_
      refine ⟨_, rfl, p, dx1, _, rfl, h11, rfl, p, ra, pg', rfl, t1.at_, fun H2 sm => ⟨_, rfl, ?_⟩⟩
      have t2 := PgTo.trans at_ t1 (PgTo.of_same t1.at_ sm)
      cases en : nxtOwn pg' with
      | false =>
        refine iteF (k H2 ra ?_)
        show PgTo _ _ _ _ (goEnd pg) _ _
        rw [← e1, goEnd_stop en]
        exact t2
      | true =>
        obtain ⟨g1, g2⟩ := goEnd_step en
        refine iteT ⟨fun σ H' => σ = [some (.ref p), some (.ref ba), some (.str (Ky.str .fin))] ∧ PgTo (He.ga K "Page") H p ra (goOver pg') H' ra, fun σ' H' ⟨z, t⟩ => ⟨(goOver pg').2.length, by omega, z, goOver pg', t, rfl, g1.trans e1, (goOver_len pg').trans e2⟩, ?_⟩
        obtain ⟨ok3, dx3, ts3, h31, _, _⟩ := id t2.at_
        refine ⟨_, rfl, p, dx3, _, rfl, h31, rfl, p, ra, pg', rfl, t2.at_, ?_, fun H3 t => ⟨rfl, PgTo.trans at_ t2 t⟩⟩
        unfold pgLen at e2 hlen
        omega
end
end Ob
namespace Ob
open PySem PySem.Spec PyProof.Rows L2 L2H
/-! ### what is told of a page -/
def ownsFrom : Nat → List (Nat × Bool) → List Nat
  | _, [] => []
  | k, q :: r => if q.2 = true then k :: ownsFrom (k + 1) r else ownsFrom (k + 1) r
abbrev owns (r : List (Nat × Bool)) : List Nat := ownsFrom 0 r
theorem ownsFrom_snoc : ∀ (k : Nat) (r : List (Nat × Bool)) (q : Nat × Bool), ownsFrom k (r ++ [q]) = ownsFrom k r ++ (if q.2 = true then [k + r.length] else [])
  | k, [], q => by simp [ownsFrom]
  | k, x :: r, q => by
    have ih := ownsFrom_snoc (k + 1) r q
    simp only [List.cons_append, ownsFrom, List.length_cons, ih]
    have e : k + 1 + r.length = k + (r.length + 1) := by omega
    rw [e]
    split <;> simp
theorem ownsFrom_len : ∀ (k : Nat) (r : List (Nat × Bool)), (ownsFrom k r).length ≤ r.length
  | _, [] => Nat.le_refl _
  | k, q :: r => by
    have ih := ownsFrom_len (k + 1) r
    simp only [ownsFrom]
    split <;> simp <;> omega
theorem ownsFrom_mem : ∀ (k : Nat) (r : List (Nat × Bool)) (i : Nat), i ∈ ownsFrom k r ↔ ∃ j q, i = k + j ∧ r[j]? = some q ∧ q.2 = true
  | k, [], i => by simp [ownsFrom]
  | k, x :: r, i => by
    have ih := ownsFrom_mem (k + 1) r i
    have key : (∃ j q, i = k + j ∧ (x :: r)[j]? = some q ∧ q.2 = true) ↔ (i = k ∧ x.2 = true) ∨ ∃ j q, i = k + 1 + j ∧ r[j]? = some q ∧ q.2 = true := by
      constructor
      · rintro ⟨j, q, e, h1, h2⟩
        cases j with
        | zero =>
          simp at h1
          subst h1
          exact .inl ⟨by omega, h2⟩
        | succ j => exact .inr ⟨j, q, by omega, by simpa using h1, h2⟩
      · rintro (⟨e, h⟩ | ⟨j, q, e, h1, h2⟩)
        · exact ⟨0, x, by omega, rfl, h⟩
        · exact ⟨j + 1, q, by omega, by simpa using h1, h2⟩
    rw [key]
    simp only [ownsFrom]
    split
    · rename_i hx
      rw [List.mem_cons, ih]
      simp [hx]
    · rename_i hx
      rw [ih]
      simp [hx]
theorem ownsFrom_lt (k : Nat) (r : List (Nat × Bool)) (i : Nat) (h : i ∈ ownsFrom k r) : i < k + r.length := by
  obtain ⟨j, q, e, h1, _⟩ := (ownsFrom_mem k r i).mp h
  have := (List.getElem?_eq_some_iff.mp h1).1
  omega
theorem owns_mem {r : List (Nat × Bool)} {i : Nat} {q : Nat × Bool} (h : r[i]? = some q) : decide (i ∈ owns r) = q.2 := by
  rw [Bool.eq_iff_iff, decide_eq_true_iff, ownsFrom_mem]
  constructor
  · rintro ⟨j, q', e, h1, h2⟩
    have : j = i := by omega
    subst this
    rw [h] at h1
    cases h1
    exact h2
  · intro h2
    exact ⟨i, q, by omega, h, h2⟩
abbrev sgs (r : List (Nat × Bool)) : List Nat := r.map (·.1)
abbrev pgD (pg : Pg) : PyData := .tuple [.str (S pg.1), .str (S (sgs pg.2)), .tuple ((owns pg.2).map fun n => .int (n : Nat))]
theorem joinL_sg : ∀ cs : List Nat, TL.joinL [] (cs.map fun c => [c]) = cs
  | [] => rfl
  | [c] => rfl
  | c :: d :: cs => by
    have ih := joinL_sg (d :: cs)
    show [c] ++ [] ++ TL.joinL [] ((d :: cs).map fun c => [c]) = _
    rw [ih]
    rfl
theorem join_sg (cs : List Nat) : Txt.join "" (cs.map fun c => S [c]) = S cs := by
  refine TL.ext_tl ?_
  rw [TL.join_eq, TL.tl_join, List.map_map]
  exact joinL_sg cs
theorem sum_ones (cs : List Nat) : ((cs.map fun c => S [c]).map (·.length)).sum = cs.length := by
  induction cs with
  | nil => rfl
  | cons c cs ih =>
    simp only [List.map_cons, List.sum_cons, List.length_cons]
    rw [ih, S_len]
    simp
    omega
theorem Prs.rev {H : Hp} : ∀ {ts : List Addr} {qs : List (Nat × Bool)}, Prs H ts qs → Prs H ts.reverse qs.reverse
  | _, _, .nil => .nil
  | _, _, .cons r t => by
    rw [List.reverse_cons, List.reverse_cons]
    exact (Prs.rev t).app (.cons r .nil)
section
variable {P : Program} {w : World} {K : PySem.W.Frag} {mg : Str → Option Value} {base : Heap}
theorem ok_right_text (T : TxP K mg) : FOk P w K mg base CX0 1 ("Page", some "right_text") p_Page_right_text (fun vs H Q _ => ∃ (p ra : Addr) (pg : Pg), vs = [.ref p] ∧ PgAt (He.ga K "Page") H p ra pg ∧ pgLen pg ≤ 900 ∧ ∀ H', Same H H' → Q (.str (S (sgs pg.2))) H') := by
  refine T.m_right_text.f.ok sc_Page_right_text (fun vs H Q E h => ?_) (fun cdv A outer s H vs Q E hr h => ?_)
  · obtain ⟨a, ks, _, rfl, _⟩ := h
    rfl
  · obtain ⟨p, ra, pg, rfl, at_, hlen, k⟩ := h
    have nd := sc_Page_right_text.nd
    refine ⟨_, PSs.nox (pss_one (ps_ret (pe_join pe_str (pe_lc (own := [("sign", 1), ("is_own", 2)]) (g := gTup K 2 (gCons (gName 1) (gCons (gName 2) gNil))) (tt := tYes) rfl nd (pi_list (pe_revL (pe_fld (pv 0) rfl))) (blkOk_by (own := [("sign", 1), ("is_own", 2)]) (N := N_Page_right_text) (sc := defScope s_Page_right_text) (by decide +kernel))
      (fun _ _ _ _ _ => pg_tup rfl (pgs_cons (pg_name (i := 1) nd rfl (Or.inl rfl)) (pgs_cons (pg_name (i := 2) nd rfl (Or.inl rfl)) pgs_nil))) (fun _ _ _ _ _ => pts_nil) (fun _ _ _ _ _ => pv 1))))), ?_⟩
    obtain ⟨ok, dx, ts, h1, h2, h3⟩ := id at_
    refine ⟨⟨_, rfl⟩, _, rfl, p, _, dx, _, .ref ra, rfl, h1, T.cP, T.na_right, rfl, ra, _, rfl, .inl (.inl h2), fun l hl => ?_⟩
    have sm : Same H (upd H l (.lst (ts.map V.ref).reverse)) := same_new hl
    refine ⟨l, rfl, ⟨_, .inl (.inl upd_same)⟩, fun D hD => ?_⟩
    have hrv : (ts.map V.ref).reverse = ts.reverse.map V.ref := by rw [List.map_reverse]
    have h3r : Prs H ts.reverse pg.2 := by
      have := h3.rev
      rwa [List.reverse_reverse] at this
    have hlen2 : pg.2.length ≤ 900 := by unfold pgLen at hlen; omega
    rw [hrv] at sm hD ⊢
    refine lc_acc1 (walk_list (xs := ts.reverse.map V.ref)) PT1 (fun i acc _ => acc = (pg.2.take i).map (fun q => V.str (S [q.1])) ∧ i ≤ pg.2.length) hD ⟨by simp, Nat.zero_le _⟩ (fun i H' acc hi kp e r => .inl (.inl (kp _ _ upd_same True.intro))) (fun _ _ _ _ => True.intro) (fun i acc H' ⟨e1, e2⟩ => ?_) (fun i acc H' a0 a1 e r => r) ?_ ?_
    · rw [e1, List.length_map, List.length_take, sizeLine_eq]
      omega
    · intro i x H6 H6' acc Post hi kp e r hp hy
      obtain ⟨rfl, hx⟩ := hy
      rw [List.getElem?_map] at hx
      obtain ⟨t, htt, rfl⟩ := Option.map_eq_some_iff.mp hx
      obtain ⟨q, hq, hqt⟩ := h3r.get htt
      obtain ⟨rfl, e2⟩ := r
      refine ⟨t, prV q, rfl, .inl (.inl (kp _ _ (sm _ _ hqt) True.intro)), rfl, _, _, rfl, _, [], rfl, rfl, rfl, _, rfl, hp _ _ (Kp.refl _) ⟨?_, (List.getElem?_eq_some_iff.mp hq).1⟩⟩
      rw [List.take_add_one, hq, List.map_append]
      rfl
    · intro H7 acc kp e r
      obtain ⟨rfl, _⟩ := r
      have hn : pg.2.take (ts.reverse.map V.ref).length = pg.2 := by
        rw [List.length_map, h3r.len]
        exact List.take_length
      rw [hn] at e
      have e' : (pg.2.map fun q => V.str (S [q.1])) = ((sgs pg.2).map fun c => S [c]).map V.str := by simp
      refine ⟨_, D, (sgs pg.2).map fun c => S [c], rfl, rfl, .inl (.inl (.inl (by rw [← e']; exact e))), ?_, ?_⟩
      · rw [sum_ones]
        show (sgs pg.2).length + _ * 0 ≤ _
        rw [List.length_map]
        omega
      · rw [show Txt.join "" ((sgs pg.2).map fun c => S [c]) = _ from join_sg _]
        exact k _ (sm.trans kp.same)
abbrev spTold (K : PySem.W.Frag) : Sp := fun vs H Q _ => ∃ (p ra : Addr) (pg : Pg), vs = [.ref p] ∧ PgAt (He.ga K "Page") H p ra pg ∧ pgLen pg ≤ 900 ∧ ∀ H' v, Same H H' → DT H' (pgD pg) v → Q v H'
theorem ok_told (T : TxP K mg) : FOk P w K mg base CX0 2 ("Page", some "told") p_Page_told (spTold K) := by
  refine T.m_told.f.ok sc_Page_told (fun vs H Q E h => ?_) (fun cdv A outer s H vs Q E hr h => ?_)
  · obtain ⟨a, ks, _, rfl, _⟩ := h
    rfl
  · obtain ⟨p, ra, pg, rfl, at_, hlen, k⟩ := h
    have nd := sc_Page_told.nd
    refine ⟨_, PSs.nox (pss_cons (ps_st 1 nd (pe_callTy call_tuple_of rfl T.S.n_tuple PyProof.Rows.Boot.«tuple» (pa_cons (pe_lc (own := [("place", 2), ("pair", 3)]) (g := gTup K 2 (gCons (gName 2) (gCons (gName 3) gNil))) (tt := tB (tOp (rIxT K) (tVar 3) (tC (.int 1)))) rfl nd (pi_enum rfl T.S.n_enumerate (pa_cons (pe_revL (pe_fld (pv 0) rfl)) pa_nil)) (blkOk_by (own := [("place", 2), ("pair", 3)]) (N := N_Page_told) (sc := defScope s_Page_told) (by decide +kernel))
      (fun _ _ _ _ _ => pg_tup rfl (pgs_cons (pg_name (i := 2) nd rfl (Or.inl rfl)) (pgs_cons (pg_name (i := 3) nd rfl (Or.inl rfl)) pgs_nil))) (fun _ _ _ _ _ => pts_one (pt_val (pe_ix ix_tup (pv 3) pe_int (fun _ _ => rfl)) (fun _ => rfl))) (fun _ _ _ _ _ => pv 2)) pa_nil)))
      (pss_one (ps_ret (pe_tup (pa_cons (pe_fld (pv 0) rfl) (pa_cons (pe_m0' T.m_right_text T.cP (ok_right_text T) hr (by decide) (pv 0)) (pa_cons (pv 1) pa_nil))))))), ?_⟩
    obtain ⟨ok, dx, ts, h1, h2, h3⟩ := id at_
    refine ⟨_, rfl, p, _, dx, _, .ref ra, rfl, h1, T.cP, T.na_right, rfl, ra, _, rfl, .inl (.inl h2), fun l hl => ?_⟩
    have sm : Same H (upd H l (.lst (ts.map V.ref).reverse)) := same_new hl
    refine ⟨l, _, rfl, .inl (.inl upd_same), fun D hD => ?_⟩
    have hrv : (ts.map V.ref).reverse = ts.reverse.map V.ref := by rw [List.map_reverse]
    have h3r : Prs H ts.reverse pg.2 := by
      have := h3.rev
      rwa [List.reverse_reverse] at this
    have hlen2 : pg.2.length ≤ 900 := by unfold pgLen at hlen; omega
    rw [hrv] at sm hD ⊢
    refine lc_acc (walk_enum (xs := ts.reverse.map V.ref)) PT1 (fun i acc _ => acc = (owns (pg.2.take i)).map (fun n => V.int (n : Nat)) ∧ i ≤ pg.2.length) hD ⟨by simp [ownsFrom], Nat.zero_le _⟩ (fun i H' acc hi kp e r => .inl (.inl (kp _ _ upd_same True.intro))) (fun _ _ _ _ => True.intro) (fun i acc H' ⟨e1, e2⟩ => ?_) (fun i acc H' a0 a1 e r => r) ?_ ?_
    · rw [e1, List.length_map, sizeLine_eq]
      have h9 : (owns (pg.2.take i)).length ≤ (pg.2.take i).length := ownsFrom_len 0 (pg.2.take i)
      rw [List.length_take] at h9
      omega
    · intro i x H6 H6' acc Post Skip hi kp e r hp hskip hy
      obtain ⟨Tp, a, b, rfl, hT, rfl, ea, eb⟩ := hy
      cases ea
      have eb' : (ts.reverse.map V.ref)[i]? = some b := eb
      rw [List.getElem?_map] at eb'
      obtain ⟨t, htt, rfl⟩ := Option.map_eq_some_iff.mp eb'
      obtain ⟨q, hq, hqt⟩ := h3r.get htt
      obtain ⟨rfl, e2⟩ := r
      have smT : Same H6 (upd H6 Tp (.tup [.int (i : Nat), .ref t])) := same_new hT
      have hi' := (List.getElem?_eq_some_iff.mp hq).1
      have eo : owns (pg.2.take (i + 1)) = owns (pg.2.take i) ++ (if q.2 = true then [i] else []) := by
        rw [List.take_add_one, hq]
        show ownsFrom 0 (pg.2.take i ++ [q]) = _
        rw [ownsFrom_snoc, List.length_take, Nat.min_eq_left (by omega), Nat.zero_add]
      refine ⟨Tp, _, rfl, .inl (.inl upd_same), rfl, _, _, rfl, _, [], rfl, rfl, rfl, _, rfl, t, prV q, 1, .bl q.2, rfl, rfl, .inl (.inl (smT _ _ (kp _ _ (sm _ _ hqt) True.intro))), rfl, q.2, rfl, ?_⟩
      cases e6 : q.2 with
      | true =>
        rw [e6] at eo
        refine iteT ⟨_, rfl, hp _ _ (Kp.of smT) ⟨?_, hi'⟩⟩
        rw [eo]
        simp
      | false =>
        rw [e6] at eo
        refine iteF (hskip _ (Kp.of smT) ⟨?_, hi'⟩)
        rw [eo]
        simp
    · intro H7 acc kp e r
      obtain ⟨rfl, _⟩ := r
      have hn : pg.2.take (ts.reverse.map V.ref).length = pg.2 := by
        rw [List.length_map, h3r.len]
        exact List.take_length
      rw [hn] at e
      refine ⟨D, _, rfl, .inl ⟨.inl (.inl e), fun o ho => ?_⟩⟩
      have sm7 : Same H (upd H7 o (.tup ((owns pg.2).map fun n => V.int (n : Nat)))) := sm.trans (kp.same.trans (same_new ho))
      refine ⟨_, rfl, p, _, dx, _, _, rfl, sm7 _ _ h1, T.cP, T.na_left, rfl, _, rfl, p, dx, _, rfl, sm7 _ _ h1, rfl, p, ra, pg, rfl, at_.same sm7, hlen, fun H8 sm8 => ⟨_, rfl, (show 3 ≤ sizeLine by decide), fun t ht => ?_⟩⟩
      have sm9 := same_new (o := .tup [.str (S pg.1), .str (S (sgs pg.2)), .ref o]) ht
      refine k _ _ ((sm7.trans sm8).trans sm9) (DT.mk upd_same (DTs.cons (DT.str_.mpr rfl) (DTs.cons (DT.str_.mpr rfl) (DTs.cons (DT.mk ((sm8.trans sm9) _ _ upd_same) ?_) DTs.nil))))
      have := DTs.ints (H := upd H8 t (.tup [.str (S pg.1), .str (S (sgs pg.2)), .ref o])) ((owns pg.2).map fun n => ((n : Nat) : Int))
      rw [List.map_map, List.map_map] at this
      exact this
end
end Ob
namespace Ob
open PySem PySem.Spec PyProof.Rows L2 L2H
theorem pgD_inv {H : Hp} {pg : Pg} {v : V} (h : DT H (pgD pg) v) : ∃ a o, v = .ref a ∧ H a = some (.tup [.str (S pg.1), .str (S (sgs pg.2)), .ref o]) ∧ H o = some (.tup ((owns pg.2).map fun n => V.int (n : Nat))) := by
  obtain ⟨a, xs, rfl, ha, hs⟩ := DT.tup.mp h
  obtain ⟨v1, r1, rfl, h1, hs⟩ := DTs.cons_.mp hs
  obtain ⟨v2, r2, rfl, h2, hs⟩ := DTs.cons_.mp hs
  obtain ⟨v3, r3, rfl, h3, hs⟩ := DTs.cons_.mp hs
  rw [DTs.nil_.mp hs] at ha
  rw [DT.str_.mp h1, DT.str_.mp h2] at ha
  obtain ⟨o, xs, rfl, ho, hi⟩ := DT.tup.mp h3
  have e : xs = (owns pg.2).map fun n => V.int (n : Nat) := by
    have : ((owns pg.2).map fun n => PyData.int (n : Nat)) = ((owns pg.2).map fun n => ((n : Nat) : Int)).map PyData.int := by rw [List.map_map]; rfl
    rw [this] at hi
    rw [DTs.of_ints hi, List.map_map]
    rfl
  rw [e] at ho
  exact ⟨a, o, rfl, ha, ho⟩
theorem inV_owns {r : List (Nat × Bool)} {i : Nat} {q : Nat × Bool} (h : r[i]? = some q) : inV (.int (i : Nat)) ((owns r).map fun n => V.int (n : Nat)) = q.2 := by
  rw [← owns_mem h]
  unfold inV
  rw [List.any_map, Bool.eq_iff_iff, List.any_eq_true, decide_eq_true_iff]
  constructor
  · rintro ⟨n, hn, e⟩
    have e : (n : Int) = i := by simpa [eqV] using e
    have : n = i := by omega
    rw [← this]; exact hn
  · intro hi
    exact ⟨i, hi, by simp [eqV]⟩
section
variable {P : Program} {w : World} {K : PySem.W.Frag} {mg : Str → Option Value} {base : Heap}
abbrev spPageInit (K : PySem.W.Frag) : Sp := fun vs H Q _ => ∃ (p dx : Addr) (v : V) (pg : Pg), vs = [.ref p, v] ∧ H p = some (.ins (He.ga K "Page") dx []) ∧ DT H (pgD pg) v ∧ SgOk pg ∧ pgLen pg ≤ 900 ∧ ∀ H' ra, PgAt (He.ga K "Page") H' p ra pg → Kp (PBut [p]) H H' → H ra = none → Q .non H'
theorem ok_page_init (T : TxP K mg) : FOk P w K mg base CX0 1 ("Page", some "__init__") p_Page_init (spPageInit K) := by
  refine T.m_init.f.ok sc_Page_init (fun vs H Q E h => ?_) (fun cdv A outer s H vs Q E hr h => ?_)
  · obtain ⟨a, ks, _, _, rfl, _⟩ := h
    rfl
  · obtain ⟨p, dx, v, pg, rfl, hp, hv, ok, hlen, k⟩ := h
    have nd := sc_Page_init.nd
    refine ⟨_, PSs.nox (pss_cons (ps_fld (pv 0) (pe_ix ix_tup (pv 1) pe_int (fun _ _ => rfl)) rfl)
      (pss_one (ps_fld (pv 0) (pe_revL (pe_lc (own := [("place", 2), ("sign", 3)]) (g := gTup K 2 (gCons (gName 2) (gCons (gName 3) gNil))) (tt := tYes) (te := tTup (tCons (tVar 3) (tCons (tOp (rIn K false) (tVar 2) (tOp (rIxT K) (tVar 1) (tC (.int 2)))) tNil))) rfl nd (pi_enumS rfl T.S.n_enumerate (pa_cons (pe_ix ix_tup (pv 1) pe_int (fun _ _ => rfl)) pa_nil)) (blkOk_by (own := [("place", 2), ("sign", 3)]) (N := N_Page_init) (sc := defScope s_Page_init) (by decide +kernel))
        (fun _ _ _ _ _ => pg_tup rfl (pgs_cons (pg_name (i := 2) nd rfl (Or.inl rfl)) (pgs_cons (pg_name (i := 3) nd rfl (Or.inl rfl)) pgs_nil))) (fun _ _ _ _ _ => pts_nil)
        (fun _ _ _ _ _ => pe_tup (pa_cons (pv 3) (pa_cons (pe_cmpR op_in_seq (pv 2) (pe_ix ix_tup (pv 1) pe_int (fun _ _ => rfl)) rfl) pa_nil))))) rfl))), ?_⟩
    obtain ⟨a, o, rfl, ha, ho⟩ := pgD_inv hv
    refine ⟨_, rfl, a, _, 0, .str (S pg.1), rfl, rfl, .inl (.inl ha), rfl, _, rfl, p, _, dx, _, rfl, hp, T.cP, T.na_left, (by decide : 0 < 1000), ?_⟩
    have e1 : upd H p (.ins (He.ga K "Page") dx (putF "left" (.str (S pg.1)) [])) = upd H p (.ins (He.ga K "Page") dx [("left", .str (S pg.1))]) := rfl
    rw [e1]
    have nap : a ≠ p := fun z => by rw [z, hp] at ha; cases ha
    have nop : o ≠ p := fun z => by rw [z, hp] at ho; cases ho
    have hp1 : upd H p (.ins (He.ga K "Page") dx [("left", .str (S pg.1))]) p = some (.ins (He.ga K "Page") dx [("left", .str (S pg.1))]) := upd_same
    have ha1 : upd H p (.ins (He.ga K "Page") dx [("left", .str (S pg.1))]) a = _ := (upd_ne nap).trans ha
    have ho1 : upd H p (.ins (He.ga K "Page") dx [("left", .str (S pg.1))]) o = _ := (upd_ne nop).trans ho
    have k1 : Kp (PBut [p]) H (upd H p (.ins (He.ga K "Page") dx [("left", .str (S pg.1))])) := fun b x e hb => (upd_ne (fun z => hb (by rw [z]; exact List.mem_cons_self))).trans e
    have nn : ∀ x, upd H p (.ins (He.ga K "Page") dx [("left", .str (S pg.1))]) x = none → H x = none := fun x e => by
      by_cases z : x = p
      · rw [z, hp1] at e; cases e
      · rw [upd_ne z] at e; exact e
    revert hp1 ha1 ho1 k1 nn
    generalize upd H p _ = H1
    intro hp1 ha1 ho1 k1 nn
    have hlen2 : pg.2.length ≤ 900 := by unfold pgLen at hlen; omega
    refine ⟨_, rfl, a, _, 1, .str (S (sgs pg.2)), rfl, rfl, .inl (.inl ha1), rfl, S (sgs pg.2), rfl, fun D hD => ?_⟩
    refine lc_acc1 walk_enumS PT1 (fun i acc H' => ∃ us, acc = us.map V.ref ∧ Prs H' us (pg.2.take i) ∧ i ≤ pg.2.length) hD ⟨[], rfl, .nil, Nat.zero_le _⟩ (fun _ _ _ _ _ _ _ => True.intro) (fun _ _ _ _ => True.intro) (fun i acc H' ⟨us, e1, e2, e3⟩ => ?_) (fun i acc H' a0 a1 e ⟨us, e1, e2, e3⟩ => ⟨us, e1, e2.mono fun b' xs z => (upd_ne (fun y => by rw [y, e] at z; cases z)).trans z, e3⟩) ?_ ?_
    · rw [e1, List.length_map, e2.len, List.length_take, sizeLine_eq]
      omega
    · intro i x H6 H6' acc Post hi kp e r hpost hy
      obtain ⟨Tp, xa, xb, rfl, hT, rfl, ea, eb⟩ := hy
      cases ea
      obtain ⟨c, hc, rfl⟩ := Option.map_eq_some_iff.mp eb
      have hc' : (sgs pg.2)[i]? = some c := by simpa [S] using hc
      rw [List.getElem?_map] at hc'
      obtain ⟨q, hq, rfl⟩ := Option.map_eq_some_iff.mp hc'
      obtain ⟨us, rfl, e2, e3⟩ := r
      have smT := same_new (o := .tup [.int (i : Nat), .str (S [q.1])]) hT
      refine ⟨Tp, [.int (i : Nat), .str (S [q.1])], rfl, .inl (.inl upd_same), rfl, _, _, rfl, _, [], rfl, rfl, rfl, _, rfl, _, rfl, _, rfl, a, _, 2, .ref o, rfl, rfl, .inl (.inl (smT _ _ (kp _ _ ha1 True.intro))), rfl, o, _, rfl, .inr (.inl (.inl (smT _ _ (kp _ _ ho1 True.intro)))), rfl, ?_, (show 2 ≤ sizeLine by decide), fun t ht => ?_⟩
      · rw [List.all_eq_true]
        intro x hx
        obtain ⟨z, _, rfl⟩ := List.mem_map.mp hx
        rfl
      · rw [inV_owns hq]
        have sm2 := same_new (o := .tup (prV q)) ht
        refine hpost _ _ (Kp.of (smT.trans sm2)) ⟨us ++ [t], by rw [List.map_append]; rfl, ?_, (List.getElem?_eq_some_iff.mp hq).1⟩
        rw [List.take_add_one, hq]
        exact (e2.mono fun b' xs z => (smT.trans sm2) _ _ z).app (.cons upd_same .nil)
    · intro H7 acc kp e r
      obtain ⟨us, rfl, e2, _⟩ := r
      have hn : pg.2.take (S (sgs pg.2)).cps.size = pg.2 := by
        have : (S (sgs pg.2)).cps.size = pg.2.length := by simp [S]
        rw [this]
        exact List.take_length
      rw [hn] at e2
      refine ⟨D, _, rfl, .inl (.inl e), fun l hl => ?_⟩
      have e3 : (us.map V.ref).reverse = us.reverse.map V.ref := by rw [List.map_reverse]
      rw [e3]
      have sm : Same H1 (upd H7 l (.lst (us.reverse.map V.ref))) := kp.same.trans (same_new hl)
      have hp2 := sm _ _ hp1
      have nlp : p ≠ l := fun z => by rw [← z] at hl; rw [kp.same _ _ hp1] at hl; cases hl
      refine ⟨_, rfl, p, _, dx, _, rfl, hp2, T.cP, T.na_right, (by decide : 1 < 1000), k _ l ⟨ok, dx, us.reverse, upd_same, (upd_ne nlp.symm).trans upd_same, ?_⟩ ?_ ?_⟩
      · refine e2.rev.mono fun b xs z => ?_
        have z2 := same_new (o := .lst (us.reverse.map V.ref)) hl _ _ z
        exact (upd_ne (fun y => by rw [y, hp2] at z2; cases z2)).trans z2
      · intro b x hb nb
        exact (upd_ne (fun z => nb (by rw [z]; exact List.mem_cons_self))).trans (sm _ _ (k1 _ _ hb nb))
      · refine nn l ?_
        cases e9 : H1 l with
        | none => rfl
        | some x => rw [kp.same _ _ e9] at hl; cases hl
end
end Ob
/-! Data that == and repr take. -/
namespace Ob
open PySem PySem.Spec PyProof.Rows L2 L2H
/-- k: its depth at most, n: its weight at most -/
structure Fine (k n : Nat) (d : PyData) : Prop where
  lay : d.canLay0 = true
  sh : d.showable = true
  lv : d.leavesShort 13 = true
  dp : d.depth ≤ k
  wt : d.weight ≤ n
theorem Fine.mono {k n k' n' : Nat} {d : PyData} (h : Fine k n d) (a : k ≤ k') (b : n ≤ n') : Fine k' n' d := ⟨h.lay, h.sh, h.lv, Nat.le_trans h.dp a, Nat.le_trans h.wt b⟩
theorem Fine.shaped {k n : Nat} {d : PyData} (h : Fine k n d) (hk : k ≤ 64 := by decide) : SeqAt.shaped d = true := by
  show (PyData.canLay0 d && decide (PyData.depth d ≤ 64)) = true
  rw [Bool.and_eq_true]
  exact ⟨h.lay, decide_eq_true (Nat.le_trans h.dp hk)⟩
theorem Fine.ok {k n : Nat} {d : PyData} (h : Fine k n d) (hk : k ≤ 60 := by decide) (hn : n ≤ 2 ^ 20 := by decide) : DOk d := ⟨h.sh, h.lv, PyData.hasDict_of_canLay d h.lay, Nat.le_trans h.wt hn, Nat.le_trans h.dp hk⟩
/-- .. of a list of data: w the sum of the weights and one each -/
structure FineA (k n : Nat) (ds : List PyData) : Prop where
  lay : PyData.canLayAll0 ds = true
  sh : PyData.showableAll ds = true
  lv : PyData.leavesShortAll 13 ds = true
  dp : PyData.depthAll ds ≤ k
  wt : PyData.weightAll ds ≤ n
theorem FineA.nil {k n : Nat} : FineA k n [] := ⟨by simp [PyData.canLayAll0], by simp [PyData.showableAll], by simp [PyData.leavesShortAll], by simp [PyData.depthAll], by simp [PyData.weightAll]⟩
theorem FineA.cons {k n m : Nat} {d : PyData} {ds : List PyData} (h : Fine k n d) (t : FineA k m ds) : FineA k (n + 1 + m) (d :: ds) :=
  ⟨by simp [PyData.canLayAll0, h.lay, t.lay], by simp [PyData.showableAll, h.sh, t.sh], by simp [PyData.leavesShortAll, h.lv, t.lv], by simp only [PyData.depthAll]; exact Nat.max_le.mpr ⟨h.dp, t.dp⟩, by
    simp only [PyData.weightAll]
    have := h.wt
    have := t.wt
    omega⟩
theorem FineA.all {k n : Nat} : ∀ {ds : List PyData}, (∀ d ∈ ds, Fine k n d) → FineA k (ds.length * (n + 1)) ds
  | [], _ => FineA.nil
  | d :: ds, h => by
    have := FineA.cons (h d List.mem_cons_self) (FineA.all fun x hx => h x (List.mem_cons_of_mem _ hx))
    rw [List.length_cons, Nat.succ_mul, Nat.add_comm]
    exact this
theorem FineA.mono {k n k' n' : Nat} {d : List PyData} (h : FineA k n d) (a : k ≤ k') (b : n ≤ n') : FineA k' n' d := ⟨h.lay, h.sh, h.lv, Nat.le_trans h.dp a, Nat.le_trans h.wt b⟩
theorem FineA.tup {k n : Nat} {ds : List PyData} (h : FineA k n ds) : Fine (k + 1) n (.tuple ds) := ⟨by simp [PyData.canLay0, h.lay], by simp [PyData.showable, h.sh], by simp [PyData.leavesShort, h.lv], by simp only [PyData.depth]; exact Nat.succ_le_succ h.dp, by simp only [PyData.weight]; exact h.wt⟩
theorem FineA.lst {k n : Nat} {ds : List PyData} (h : FineA k n ds) : Fine (k + 1) n (.list ds) := ⟨by simp [PyData.canLay0, h.lay], by simp [PyData.showable, h.sh], by simp [PyData.leavesShort, h.lv], by simp only [PyData.depth]; exact Nat.succ_le_succ h.dp, by simp only [PyData.weight]; exact h.wt⟩
theorem Fine.non : Fine 0 0 .none := ⟨by simp [PyData.canLay0], by simp [PyData.showable], by simp [PyData.leavesShort], by simp [PyData.depth], by simp [PyData.weight]⟩
theorem Fine.bl (b : Bool) : Fine 0 0 (.bool b) := ⟨by simp [PyData.canLay0], by simp [PyData.showable], by simp [PyData.leavesShort], by simp [PyData.depth], by simp [PyData.weight]⟩
theorem Fine.txt {z : Str} (h : ∀ c ∈ z.cps.toList, c < 128) : Fine 0 z.length (.str z) := by
  refine ⟨?_, by simp [PyData.showable], ?_, by simp [PyData.depth], by simp [PyData.weight, Str.length]⟩
  · simp only [PyData.canLay0]
    unfold PyData.strOk
    rw [Array.all_eq_true']
    intro c hc
    have := h c (by simpa using hc)
    exact decide_eq_true (by omega)
  · simp only [PyData.leavesShort]
    rw [List.all_eq_true]
    intro c hc
    have := h c hc
    exact decide_eq_true (by omega)
theorem Fine.sg {l : List Nat} (h : ∀ c ∈ l, c ∈ sigs) : Fine 0 l.length (.str (S l)) := by
  have := Fine.txt (z := S l) fun c hc => sig_lt c (h c hc)
  rw [S_len] at this
  exact this
theorem log2_lt {n k : Nat} (hk : 0 < k) (h : n < 2 ^ k) : n.log2 < k := by
  by_cases hn : n = 0
  · subst hn; simpa using hk
  · exact (Nat.log2_lt hn).mpr h
theorem Fine.int {i : Int} (h : i.natAbs < 10 ^ 6) : Fine 0 21 (.int i) := by
  have h20 : i.natAbs < 2 ^ 20 := Nat.lt_of_lt_of_le h (by decide)
  have hl : i.natAbs.log2 < 20 := log2_lt (by decide) h20
  refine ⟨by simp [PyData.canLay0], ?_, ?_, by simp [PyData.depth], ?_⟩
  · simp only [PyData.showable]; exact decide_eq_true (by omega)
  · simp only [PyData.leavesShort]; exact decide_eq_true (PyData.shown_int_le (Nat.lt_of_lt_of_le h (by decide)))
  · simp only [PyData.weight]
    split <;> omega
theorem Ky.fine {q : Ky} (h : q.ok) : Fine 0 5 (.str q.str) := by
  cases q with
  | sg c => exact (Fine.sg (l := [c]) (fun x hx => by rw [List.mem_singleton.mp hx]; exact h)).mono (Nat.le_refl _) (by first | decide | (show 1 ≤ 5; decide))
  | back => exact (Fine.txt (z := "back") (by decide)).mono (Nat.le_refl _) (by first | decide | (show 1 ≤ 5; decide))
  | right => exact (Fine.txt (z := "right") (by decide)).mono (Nat.le_refl _) (by first | decide | (show 1 ≤ 5; decide))
  | fin => exact (Fine.txt (z := "end") (by decide)).mono (Nat.le_refl _) (by first | decide | (show 1 ≤ 5; decide))
theorem fine_pgD {pg : Pg} (h : SgOk pg) (hl : pgLen pg ≤ 900) : Fine 2 30000 (pgD pg) := by
  unfold pgLen at hl
  have a := Fine.sg h.l
  have b : Fine 0 (sgs pg.2).length (.str (S (sgs pg.2))) := Fine.sg fun c hc => by
    obtain ⟨q, hq, rfl⟩ := List.mem_map.mp hc
    exact h.r q hq
  have hlen : (owns pg.2).length ≤ 900 := Nat.le_trans (ownsFrom_len 0 pg.2) (by omega)
  have c : FineA 0 (((owns pg.2).map fun n => PyData.int (n : Nat)).length * (21 + 1)) ((owns pg.2).map fun n => PyData.int (n : Nat)) := FineA.all fun d hd => by
    obtain ⟨n, hn, rfl⟩ := List.mem_map.mp hd
    have := ownsFrom_lt 0 pg.2 n hn
    refine Fine.int ?_
    show n < _
    omega
  rw [List.length_map] at c
  refine ((FineA.cons (a.mono (Nat.zero_le 1) (Nat.le_refl _)) (FineA.cons (b.mono (Nat.zero_le 1) (Nat.le_refl _)) (FineA.cons c.tup (FineA.nil (n := 0))))).tup).mono (Nat.le_refl _) ?_
  rw [List.length_map]
  omega
mutual
theorem eqv_lay : ∀ d : PyData, d.canLay0 = true → PyData.eqv d d = true
  | .none, _ => by simp [PyData.eqv]
  | .bool _, _ => by simp [PyData.eqv]
  | .int _, _ => by simp [PyData.eqv]
  | .str _, _ => by simp [PyData.eqv]
  | .list xs, h => by
    simp only [PyData.eqv]
    exact eqv_layA xs (by simpa [PyData.canLay0] using h)
  | .tuple xs, h => by
    simp only [PyData.eqv]
    exact eqv_layA xs (by simpa [PyData.canLay0] using h)
  | .dict _, h => by simp [PyData.canLay0] at h
theorem eqv_layA : ∀ xs : List PyData, PyData.canLayAll0 xs = true → PyData.eqvAll xs xs = true
  | [], _ => by simp [PyData.eqvAll]
  | x :: xs, h => by
    have h' : x.canLay0 = true ∧ PyData.canLayAll0 xs = true := by simpa [PyData.canLayAll0] using h
    simp only [PyData.eqvAll, eqv_lay x h'.1, eqv_layA xs h'.2, Bool.and_self]
end
theorem Fine.eqv {k n : Nat} {d : PyData} (h : Fine k n d) : PyData.eqv d d = true := eqv_lay d h.lay
theorem word_fine {z : Str} (h : z ∈ chs.flatten) : Fine 0 10 (.str z) := by
  have hw : ∀ z ∈ chs.flatten, (∀ c ∈ z.cps.toList, c < 128) ∧ z.length ≤ 10 := by decide
  exact (Fine.txt (hw z h).1).mono (Nat.le_refl _) (hw z h).2
theorem bk_fine {b : Bk} (h : b.ok) : Fine 1 66 (.tuple (b.vs.map .str)) := by
  refine (FineA.all (k := 0) (n := 10) (ds := b.vs.map .str) fun d hd => ?_).tup
  obtain ⟨z, hz, rfl⟩ := List.mem_map.mp hd
  obtain ⟨i, hi⟩ := List.mem_iff_getElem?.mp hz
  obtain ⟨zs, h1, h2⟩ := bk_at h hi
  exact word_fine (List.mem_flatten.mpr ⟨zs, List.mem_of_getElem? h1, h2⟩)
end Ob
/-! An own exception's __init__ that says super().__init__(..), then keeps a field. -/
namespace Ob
open PySem PySem.Spec PyProof.Rows L2 L2H LamX NdefX
/-- the facts of such a class at C, its __init__ at fI -/
structure ExI (P : Program) (K : PySem.W.Frag) (mg : Str → Option Value) (C fI : Addr) (qual fld : Str) (body : List Stmt) (scope : Scope) : Prop where
  fn : ∃ oc od params dV kV doc pm an cda ct cc osl ccl cdd vs ccs file tf cl cld csl ar, K.lookup fI = some ⟨oc, od, .func (PySem.W.ksFn "__init__" qual params body scope dV kV doc pm an (.ref cda) ct cc), osl⟩ ∧ PySem.W.codeIn K (.ref cda) qual = true ∧
    K.lookup cda = some ⟨ccl, cdd, .fields vs, ccs⟩ ∧ vs[2]? = some (.str file tf) ∧ ((P.main.file : Str) == file) = true ∧ K.lookup cc = some ⟨cl, cld, .cell (some (.ref C)), csl⟩ ∧ (params.posonlyargs ++ params.args).head? = some ar ∧ ar.arg = "self"
  top : (P.main.scope.names.lookup ("super" : Str)).isSome = false
  sup : mg "super" = none
  oex : OexC K C
  along : PySem.W.ks_superIn K C C "__init__" = some (some (.builtin "ValueError.__init__"))
  opq : PySem.W.nsIn K cStatics "thirdparty.any" = some none
  sub : PySem.W.subIn K (.ref C) (.type "ValueError") = some true
  noF : PySem.W.findIn K (.ref C) fld = some none
  scp : LScope ["self", fld, "__class__"] ["self", fld] ["__class__"] scope
  nocell : ∀ y ∈ scope.names, y.2 ≠ .cell
  ks : scope.names.lookup ("super" : Str) = some .globalImplicit
  kc : scope.names.lookup ("__class__" : Str) = some .free
  kself : scope.names.lookup ("self" : Str) = some .local
  kf : scope.names.lookup fld = some .local
  fne : fld ≠ "self"
section
variable {P : Program} {w : World} {K : PySem.W.Frag} {mg : Str → Option Value} {base : Heap} {C fI : Addr} {qual fld msg : Str} {scope : Scope} {p0 p1 p2 p3 p4 p5 p6 p7 p8 p9 : Pos} {kk : Nat}
abbrev spExI (C : Addr) (fld : Str) : Sp := fun vs H Q _ => ∃ (a : Addr) (v : V), vs = [.ref a, v] ∧ H a = some (exo a C none) ∧ ∀ dx, H dx = none → dx ≠ a → Q .non (upd (upd H dx (exd dx [(fld, v)])) a (exo a C (some dx)))
theorem ok_exinit (T : ExI P K mg C fI qual fld [.Expr (.Call (.Attribute (.Call (.Name "super" p0) [] [] p1) "__init__" p2) [.Constant (.str msg) kk p3] [] p4) p5, .Assign [.Attribute (.Name "self" p6) fld p7] (.Name fld p8) p9] scope)
    {pl : Env → Sem Bool} (hc1 : ∀ env : Env, eval (.Call (.Attribute (.Call (.Name "super" p0) [] [] p1) "__init__" p2) [.Constant (.str msg) kk p3] [] p4) env = (do
      let ov ← attributeBase (.Call (.Name "super" p0) [] [] p1) "__init__" env (eval (.Call (.Name "super" p0) [] [] p1) env)
      standAt p2.atName
      let (f, first) ← holding [ov] (getMethod ov "__init__" (pl env))
      callWith p4 f first (backTo p4 (starEach [.Constant (.str msg) kk p3] env)) []))
    (hd1 : (fld == ("__debug__" : Str)) = false) (hd2 : (fld == ("__classdict__" : Str)) = false) :
    FnOk P w K mg base CX0 1 fI (fdAt K fI) ["self", fld] (spExI C fld) := by
  obtain ⟨oc, od, params, dV, kV, doc, pm, an, cda, ct, cc, osl, ccl, cdd, vs0, ccs, file, tf, cl, cld, csl, ar, hf, hcd, hcode, hvs, hfile, hcell, hhead, har⟩ := T.fn
  have hfd : fdAt K fI = PySem.W.ksFn "__init__" qual params [.Expr (.Call (.Attribute (.Call (.Name "super" p0) [] [] p1) "__init__" p2) [.Constant (.str msg) kk p3] [] p4) p5, .Assign [.Attribute (.Name "self" p6) fld p7] (.Name fld p8) p9] scope dV kV doc pm an (.ref cda) ct cc := by
    unfold fdAt
    rw [hf]
  refine ⟨fun vs H Q E h => ?_, fun A outer s H args us vs Q E hr e0 hb r hsp => ?_⟩
  · obtain ⟨a, v, rfl, _⟩ := h
    rfl
  obtain ⟨a, v, rfl, hex, hq⟩ := hsp
  rw [hfd] at hb
  cases r with
  | cons ra r' =>
  cases r' with
  | cons rv r'' =>
  cases r''
  rename_i u0 u
  obtain rfl : u0 = Value.ref a := ra
  have KX : PySem.W.Frag.In K s.heap := e0.mod.kin.keeps fun b o e => (e0.bs b o e).1
  have lim : s.heap.NoLimit := e0.mod.nolimit.keeps fun b o e => (e0.bs b o e).1
  have nH : ∀ b o, K.lookup b = some o → H b = none := fun b o e => (e0.bs b o (e0.mod.kin _ _ e)).2
  refine ks_codeAny_call_defAt hr.depth (KX _ _ hf) rfl lim (PySem.W.codeRec_of KX hcd) rfl hb T.nocell (fun ⟨n, _⟩ hy => T.scp.par n (List.of_mem_zip hy).1) (fun h₀ hns hkp => ?_) T.scp.co T.scp.gen T.scp.kind
  let F : LF := ⟨qual, params, .Constant .none 0 p0, scope, [("__class__", cc)], cda⟩
  have lk1 : ∀ y : Str, ([(("__class__" : Str), cc)] : List (Str × Addr)).lookup y = if y = "__class__" then some cc else none := fun y => by
    rw [List.lookup_cons]
    by_cases h : y = "__class__"
    · subst h; simp
    · rw [show (y == ("__class__" : Str)) = false from beq_eq_false_iff_ne.mpr h, if_neg h]; rfl
  have CA : CellsAt [("__class__", cc)] ["__class__"] [none] h₀ H := by
    refine ⟨rfl, fun y c e => ?_, fun y z c e1 e2 => ?_, fun i y e => ?_⟩
    · rw [lk1] at e
      split at e
      · cases e
        exact ⟨nH _ _ hcell, _, _, hkp _ _ (KX _ _ hcell), rfl⟩
      · cases e
    · rw [lk1] at e1 e2
      split at e1
      · split at e2
        · rename_i q1 q2
          rw [q1, q2]
        · cases e2
      · cases e1
    · cases i with
      | zero =>
        simp at e
        subst e
        exact ⟨cc, by simp, fun v ev => by simp at ev⟩
      | succ i => simp at e
  have J : L2.Inv (lcx CX0 P w K mg base (["self", fld, "__class__"] : List Str) F [("__class__", cc)] fI A outer s H E) [] (startF (["self", fld, "__class__"] : List Str) [.ref a, v] [none]) H { s with heap := h₀, toks := s.toks + ((["self", fld] : List Str).zip [Value.ref a, u]).length } :=
    inv_startL (F := F) (ps := ["self", fld]) (us := [Value.ref a, u]) T.scp hr.hd e0 rfl (.cons (show L2.RelV (.ref a) (Value.ref a) from rfl) (.cons rv .nil)) CA hns hkp
  have KX0 := J.kIn
  obtain ⟨nm, q, N, bs, bm, sn, sub, ab, col, dd, k0, k1, k2, k3, k5, hC, hbm⟩ := T.oex.cls
  have hcl : PySem.W.clsIn K C = some { name := nm, bases := bs, mro := .ref C :: bm, ns := N, qualname := q, hasDict := true, slotNames := sn, subclasses := sub, abstract := ab, collection := col, hasDel := false } := by unfold PySem.W.clsIn; rw [hC] <;> rfl
  have halong : PySem.W.alongIn K "__init__" (((Value.ref C :: bm).dropWhile (· != .ref C)).drop 1) = some (some (.builtin "ValueError.__init__")) := by
    have := T.along
    unfold PySem.W.ks_superIn at this
    rw [hcl] at this
    exact this
  obtain ⟨t1, hao⟩ := L2.exo_at J.hok hex
  have haC : a ≠ C := fun z => by
    have := nH _ _ hC
    rw [← z, hex] at this
    cases this
  have hCC : PySem.W.mroIn K C (.ref C) = some true := by
    unfold PySem.W.mroIn
    rw [hcl, Option.bind_some, if_neg (by simp)]
    simp
  obtain ⟨mb, hb1, hb2⟩ := J.mod.blt
  have hself : (((["self", fld] : List Str).zip [Value.ref a, u]).reverse.lookup ("self" : Str)) = some (Value.ref a) := by
    have : (("self" : Str) == fld) = false := beq_eq_false_iff_ne.mpr (Ne.symm T.fne)
    show List.lookup ("self" : Str) [(fld, u), ("self", Value.ref a)] = _
    rw [List.lookup_cons, this]
    simp
  refine ks_wpAt_execs_cons (ks_wpAt_Expr_any (ks_wpAt_MethodCall (ks_wpAt_super_base (env := envL F fI s.heap.objs.size [("__class__", cc)]) T.ks T.kc rfl rfl (KX0 _ _ hf) rfl hhead rfl (KX0 _ _ hcode) rfl hvs hfile T.top ?_) (hc1 _)) J.quiet)
  refine PySem.W.ks_loadName_global T.scp.kind T.ks (Calls.loadGlobal_builtin (J.mod.glob.keeps J.bk) T.sup (hb1.keeps J.bk) ((hb2 "super" (by decide)).trans (by decide +kernel)) ⟨rfl, ?_⟩)
  refine wpAny_loadName_free (env := envL F fI s.heap.objs.size [("__class__", cc)]) T.scp.kind T.kc rfl ⟨_, KX0 _ _ hcell, rfl⟩ ?_
  rw [har]
  refine wpAny_loadName_local (env := envL F fI s.heap.objs.size [("__class__", cc)]) T.scp.kind T.kself hns hself ?_
  refine ks_wpAny_isType_cls (KX0 _ _ hC) rfl ⟨rfl, ?_⟩
  refine ks_wpAny_call_super (KX0 _ _ hC) rfl hao rfl (fun c e => by cases e) (PySem.W.looks_mroIn KX0 hCC) (fun h2 hso k2 => ?_)
  have J2 := J.kept (t' := s.toks + ((["self", fld] : List Str).zip [Value.ref a, u]).length) k2
  have KX2 := J2.kIn
  refine PySem.W.kxs_getMethod PySem.W.kxs_ValueError hso (PySem.W.looks_opaque KX2 T.opq) (l₀ := .ref C :: bm) (fun A Q E s k q => wpAny_bind ((PySem.W.looks_clsIn KX2 hcl) A _ E s k (wpAny_pure q))) rfl KX2 halong ?_ haC rfl ?_
  · have IA : PySem.W.InstAt h2 a { cls := .ref C, dict := none, data := .fields #[.ref t1, .none, .none, .none, .bool false, .none] } C none := ⟨k2 _ _ hao, rfl, rfl, trivial⟩
    exact IA.type.andThen (PySem.W.looks_subIn KX2 T.sub)
  have k3 : ∀ b o, h2.get? b = some o → (h2.push (PySem.W.kxs_mw "ValueError.__init__" a)).get? b = some o := fun b o e => Heap.get?_push_of_some _ e
  have hu : (h2.push (PySem.W.kxs_mw "ValueError.__init__" a)).get? h2.objs.size = some (PySem.W.kxs_mw "ValueError.__init__" a) := Heap.get?_push_at rfl rfl
  have J3 := J2.kept (t' := s.toks + ((["self", fld] : List Str).zip [Value.ref a, u]).length + 1) k3
  refine PySem.W.kxs_callWith (i := "ValueError.__init__") (x := a) rfl (Calls.evalArgs_plain ?_)
  refine Calls.spliced_cons (Calls.Constant_str (k := kk) (pos := p3) (Calls.spliced_nil ?_))
  refine ⟨hu, ?_⟩
  refine wpAny_call (codeAny_of_tree ?_)
  show wpAny _ (A.deeper _).in1 (callAny (.ref h2.objs.size) ⟨[_], []⟩) _ _ _
  simp only [callAny]
  refine wpAny_bind (wpAny_load hu ?_)
  simp only [PySem.W.kxs_mw, show (Value.type "method-wrapper" == Value.type "method" || Value.type "method-wrapper" == Value.type "builtin_function_or_method" || Value.type "method-wrapper" == Value.type "method-wrapper") = true by decide, if_true]
  refine PySem.W.KFB.if_so (by decide) ?_
  have hC3 := J3.kIn _ _ hC
  have ha3 := k3 _ _ (k2 _ _ hao)
  refine wpAny_bind (PySem.W.check_bound_init PySem.F.excBase_ValueError.toExcCallFacts hC3 ha3 rfl ?_)
  refine wpAny_bind (wpAny_pure (wpAny_pure ?_))
  refine ⟨plainId_quiet PySem.F.excBase_ValueError.init.plain _, codeAny_builtin PySem.F.excBase_ValueError.initEntry ?_⟩
  refine PySem.W.exc_init_tree (cls := .ref C) (t0 := t1) (dv := none) (c2 := .none) (c3 := .none) (b4 := .bool false) ha3 (by show 1 ≤ sizeLine; decide) (fun h4 k4 e4 t4 => ?_)
  have J4 := J3.write (t' := s.toks + ((["self", fld] : List Str).zip [Value.ref a, u]).length + 2) (x := a) (e := a) (o := exo a C none) (by rw [hex]; exact True.intro) (.inl rfl) k4 ⟨_, e4⟩ (exo_ok e4)
  have eu : upd H a (exo a C none) = H := by
    funext b
    by_cases hb : b = a
    · rw [hb, upd_same, hex]
    · rw [upd_ne hb]
  rw [eu] at J4
  have nd : (["self", fld, "__class__"] : List Str).Nodup := T.scp.nd
  have ht : PSs (lcx CX0 P w K mg base (["self", fld, "__class__"] : List Str) F [("__class__", cc)] fI A outer s H E) [.Assign [.Attribute (.Name "self" p6) fld p7] (.Name fld p8) p9] _ := pss_one (ps_ost (pe_var (i := 0) rfl (.inl T.kself)) (pe_var (i := 1) rfl (.inl T.kf) hd1 hd2))
  refine wpAt_of_wpAny (wpAny_mono (ht.run [] _ (startF (["self", fld, "__class__"] : List Str) [.ref a, v] [none]) H { nx := fun _ H' => Q .non H', rt := Q } J4 ⟨v, rfl, _, rfl, a, C, rfl, T.oex, T.noF, .inl ⟨hex, hq⟩⟩) (fun fl s' hs => ?_) fun e s' hs => hs)
  cases fl with
  | ret u =>
    obtain ⟨v, σ', H', J, rv, q⟩ := hs
    exact ⟨v, H', J.os, J.bare, J.base, J.hok, rv, q⟩
  | next =>
    obtain ⟨σ', H', J, q⟩ := hs
    exact ⟨.non, H', J.os, J.bare, J.base, J.hok, rfl, q⟩
  | brk =>
    obtain ⟨_, _, _, q⟩ := hs
    exact False.elim q
  | cont =>
    obtain ⟨_, _, _, q⟩ := hs
    exact False.elim q
end
end Ob
/-! a, b = x, y -/
namespace Ob
open PySem PySem.Spec PyProof.Rows L2 L2H
/-- the layer's rule, its side conditions filled -/
abbrev tPar2 (i j : Nat) (ta : TA) : TS := tPar i j ta
theorem ps_par2 {X : Cx} (i j : Nat) {x y : Str} {a b : Expr} {ta : TA} {px py pt pos : Pos} {kt k2 pt2} (hN : X.N.Nodup) (ha : PA X [a, b] ta) (hc : X.calm = true := by rfl) (hi : X.N[i]? = some x := by rfl) (hj : X.N[j]? = some y := by rfl) (hij : i ≠ j := by decide)
    (hx : X.env.scope.names.lookup x = some .local := by rfl) (hy : X.env.scope.names.lookup y = some .local := by rfl) (hw : swappedStores [.Tuple [.Name x px, .Name y py] kt pt] (.Tuple [a, b] k2 pt2) X.env = pure (some [x, y]) := by rfl)
    (hz : swapsWithSole [.Tuple [.Name x px, .Name y py] kt pt] (.Tuple [a, b] k2 pt2) pos.line X.env = pure false := by rfl) : PS X (.Assign [.Tuple [.Name x px, .Name y py] kt pt] (.Tuple [a, b] k2 pt2) pos) (tPar2 i j ta) :=
  ps_par hc hN hi hj hij hx hy ha hw hz
end Ob
/-! The editor: what it is. -/
namespace Ob
open PySem PySem.Spec PyProof.Rows L2 L2H
abbrev En := Ky × Pg
structure Ed where
  b : Bk
  tail : List Nat
  done : List En
  later : List En
abbrev first (tail : List Nat) : Pg := ([], tail.map fun c => (c, false))
def nowOf (tail : List Nat) (done : List En) : Pg := (done.getLast?.map (·.2)).getD (first tail)
abbrev Ed.now (ed : Ed) : Pg := nowOf ed.tail ed.done
abbrev entD (x : En) : PyData := .tuple [.str x.1.str, pgD x.2]
abbrev dnD (l : List En) : PyData := .tuple (l.map entD)
structure EnOk (T : Nat) (x : En) : Prop where
  k : x.1.ok
  s : SgOk x.2
  l : pgLen x.2 ≤ 6 + 2 * T
structure EdOk (T : Nat) (ed : Ed) : Prop where
  b : ed.b.ok
  tl : ∀ c ∈ ed.tail, c ∈ sigs
  tn : ed.tail.length ≤ 6
  n : ed.done.length + ed.later.length ≤ T
  d : ∀ x ∈ ed.done, EnOk T x
  r : ∀ x ∈ ed.later, EnOk T x
theorem EnOk.mono {T T' : Nat} {x : En} (h : EnOk T x) (k : T ≤ T') : EnOk T' x := ⟨h.k, h.s, Nat.le_trans h.l (by omega)⟩
theorem EdOk.mono {T T' : Nat} {ed : Ed} (h : EdOk T ed) (k : T ≤ T') : EdOk T' ed := ⟨h.b, h.tl, h.tn, Nat.le_trans h.n k, fun x hx => (h.d x hx).mono k, fun x hx => (h.r x hx).mono k⟩
theorem first_ok {tail : List Nat} (h : ∀ c ∈ tail, c ∈ sigs) : SgOk (first tail) := by
  refine ⟨fun c hc => (by cases hc), fun q hq => ?_⟩
  obtain ⟨c, hc, rfl⟩ := List.mem_map.mp hq
  exact h c hc
theorem nowOf_ok {T : Nat} {tail : List Nat} {done : List En} (h : ∀ c ∈ tail, c ∈ sigs) (hn : tail.length ≤ 6) (hd : ∀ x ∈ done, EnOk T x) : SgOk (nowOf tail done) ∧ pgLen (nowOf tail done) ≤ 6 + 2 * T := by
  unfold nowOf
  cases e : done.getLast? with
  | none =>
    refine ⟨first_ok h, ?_⟩
    show 0 + (tail.map _).length ≤ _
    rw [List.length_map]; omega
  | some x =>
    have := hd x (List.mem_of_getLast? e)
    exact ⟨this.s, this.l⟩
theorem EdOk.now {T : Nat} {ed : Ed} (h : EdOk T ed) : SgOk ed.now ∧ pgLen ed.now ≤ 6 + 2 * T := nowOf_ok h.tl h.tn h.d
theorem owns_false : ∀ (k : Nat) (tail : List Nat), ownsFrom k (tail.map fun c => (c, false)) = []
  | _, [] => rfl
  | k, c :: r => by
    show (if false = true then _ else _) = _
    rw [if_neg (by decide)]
    exact owns_false (k + 1) r
theorem pgD_first (tail : List Nat) : pgD (first tail) = .tuple [.str (S []), .str (S tail), .tuple []] := by
  have h := owns_false 0 tail
  show PyData.tuple [.str (S []), .str (S (sgs (tail.map fun c => (c, false)))), .tuple ((owns (tail.map fun c => (c, false))).map _)] = _
  rw [show owns (tail.map fun c => (c, false)) = [] from h]
  have : sgs (tail.map fun c => (c, false)) = tail := by
    unfold sgs
    rw [List.map_map]
    exact List.map_id tail
  rw [this]
  rfl
theorem fine_ent {T : Nat} {x : En} (h : EnOk T x) (hT : T ≤ 400) : Fine 3 30010 (entD x) :=
  ((FineA.cons ((Ky.fine h.k).mono (Nat.zero_le 2) (Nat.le_refl _)) (FineA.cons (fine_pgD h.s (Nat.le_trans h.l (by omega))) (FineA.nil (n := 0)))).tup).mono (Nat.le_refl _) (by omega)
theorem fine_ents {T : Nat} {l : List En} (h : ∀ x ∈ l, EnOk T x) (hT : T ≤ 400) : FineA 3 (l.length * 30011) (l.map entD) := by
  have := FineA.all (k := 3) (n := 30010) (ds := l.map entD) fun d hd => by
    obtain ⟨x, hx, rfl⟩ := List.mem_map.mp hd
    exact fine_ent (h x hx) hT
  rw [List.length_map] at this
  exact this
/-! ### what stands -/
abbrev edF (ba : Addr) (tail : List Nat) (dv lv : V) : List (Str × V) := [("own_book", .ref ba), ("own_behind", .str (S tail)), ("done", dv), ("later", lv)]
structure EdV (H : Hp) (ed : Ed) (ba : Addr) (dv lv : V) : Prop where
  b : H ba = some (.tup ed.b.V)
  d : DT H (dnD ed.done) dv
  l : DT H (dnD ed.later) lv
theorem EdV.mono {H H' : Hp} {ed : Ed} {ba : Addr} {dv lv : V} (h : EdV H ed ba dv lv) (k : ∀ b xs, H b = some (.tup xs) → H' b = some (.tup xs)) : EdV H' ed ba dv lv := ⟨k _ _ h.b, DT.mono k _ _ h.d, DT.mono k _ _ h.l⟩
/-- the editor at e -/
structure EdAt (C : Addr) (T : Nat) (H : Hp) (e : Addr) (ed : Ed) (dx ba : Addr) (dv lv : V) : Prop where
  ok : EdOk T ed
  at_ : H e = some (.ins C dx (edF ba ed.tail dv lv))
  v : EdV H ed ba dv lv
def EdI (C : Addr) (T : Nat) (H : Hp) (e : Addr) (ed : Ed) : Prop := ∃ dx ba dv lv, EdAt C T H e ed dx ba dv lv
theorem EdAt.same {C : Addr} {T : Nat} {H H' : Hp} {e : Addr} {ed : Ed} {dx ba : Addr} {dv lv : V} (h : EdAt C T H e ed dx ba dv lv) (k : Same H H') : EdAt C T H' e ed dx ba dv lv := ⟨h.ok, k _ _ h.at_, h.v.mono fun b xs z => k _ _ z⟩
theorem EdI.same {C : Addr} {T : Nat} {H H' : Hp} {e : Addr} {ed : Ed} (h : EdI C T H e ed) (k : Same H H') : EdI C T H' e ed := by
  obtain ⟨dx, ba, dv, lv, h⟩ := h
  exact ⟨dx, ba, dv, lv, h.same k⟩
theorem Kp.one {H H' : Hp} {e b : Addr} {o u : HO} (k : Kp (PBut [e]) H H') (he : H e = some u) (hb : H b = some o) (h : o ≠ u) : H' b = some o := k _ _ hb fun z => by
  rw [List.mem_singleton.mp z, he] at hb
  exact h (Option.some.inj hb).symm
theorem Kp.upd {H : Hp} {e : Addr} {o : HO} : Kp (PBut [e]) H (upd H e o) := fun b u hb n => (upd_ne (fun z => n (by rw [z]; exact List.mem_cons_self))).trans hb
theorem shaped_nil : SeqAt.shaped (.tuple []) = true := by decide +kernel
theorem eqv_nil {ds : List PyData} : PyData.eqv (.tuple ds) (.tuple []) = ds.isEmpty := by
  cases ds <;> simp [PyData.eqv, PyData.eqvAll]
theorem eqv_nilL {ds : List PyData} : PyData.eqv (.list ds) (.list []) = ds.isEmpty := by
  cases ds <;> simp [PyData.eqv, PyData.eqvAll]
/-- t != () -/
theorem neT {K : PySem.W.Frag} {T : Nat} {H : Hp} {v : V} {l : Addr} {xs : List En} {Q : VK} (h : DT H (dnD xs) v) (ho : ∀ x ∈ xs, EnOk T x) (hT : T ≤ 400) (hl : H l = some (.tup [])) (q : Q (.bl (!xs.isEmpty)) H) : rNeD K v (.ref l) H Q := by
  refine ⟨dnD xs, .tuple [], DT.dp _ _ h, .tup (.inl (.inl hl)) .nil, (fine_ents ho hT).tup.shaped, shaped_nil, ?_⟩
  rw [eqv_nil, List.isEmpty_map]
  exact q
theorem eqT {K : PySem.W.Frag} {T : Nat} {H : Hp} {v : V} {l : Addr} {xs : List En} {Q : VK} (h : DT H (dnD xs) v) (ho : ∀ x ∈ xs, EnOk T x) (hT : T ≤ 400) (hl : H l = some (.tup [])) (q : Q (.bl xs.isEmpty) H) : rEqD K v (.ref l) H Q := by
  refine ⟨dnD xs, .tuple [], DT.dp _ _ h, .tup (.inl (.inl hl)) .nil, (fine_ents ho hT).tup.shaped, shaped_nil, ?_⟩
  rw [eqv_nil, List.isEmpty_map]
  exact q
/-- where the getter of the class's property stands -/
def gtAd (K : PySem.W.Frag) (c m : Str) : Addr := match PySem.W.recIn K (He.fAd K (c, some m)) "property" with
  | some (.ref g :: _) => g
  | _ => 0
/-- a getter's promise -/
abbrev FPk (P : Program) (w : World) (K : PySem.W.Frag) (mg : Str → Option Value) (base : Heap) (CX : CXT) (k : Nat) (c m : Str) (ps : List Str) (sp : Sp) : Prop := FnOk P w K mg base CX k (gtAd K c m) (fdAt K (gtAd K c m)) ps sp
/-- a property -/
structure Pt (K : PySem.W.Frag) (c m : Str) (qual : Str) (st : Stmt) : Prop where
  f : FunD K m qual (defArgs st) (defBody st) (defScope st) [] [] (gtAd K c m) (fdAt K (gtAd K c m))
  b : Binds K (fdAt K (gtAd K c m)) ["self"] []
  p : PropOf K (He.ga K c) m (He.fAd K (c, some m)) (gtAd K c m)
section
variable {X : Cx} {CX : CXT} {k j : Nat} {c m qual : Str} {ps : List Str} {st : Stmt} {sp : Sp} {ta : TE} {t : TA} {o e : Expr} {es : List Expr} {apos pos : Pos} {pl : Sem Bool} {E : XK}
theorem pe_pr (D : Pt X.K c m qual st) (C : Cls X.K (He.ga X.K c)) (F : FPk X.prog X.w X.K X.mg X.base CX0 k c m ["self"] sp) (hr : Room j X.A) (hk : k + 1 ≤ j) (he : PE X e ta)
    (hab : attributeBase e m X.env (eval e X.env) = eval e X.env := by rfl) : PE X (.Attribute e m pos) (tProp (He.ga X.K c) sp [] E0 ta) := by
  exact pe_prop he C D.p F (hr.mono hk) D.b .nil pass0 hab
theorem pe_mX (D : Mt X.K c m qual st ps) (C : Cls X.K (He.ga X.K c)) (F : FOk X.prog X.w X.K X.mg X.base CX k (c, some m) ps sp) (hr : Room j X.A) (hk : k ≤ j) (hx : Passes CX X E) (he : PE X o ta) (ha : PA X (e :: es) t)
    (hst : starEach (e :: es) X.env = (false, eval e X.env) :: starEach es X.env := by rfl) (hpl : (backTo pos (starEach es X.env)).any (·.1) = false := by rfl)
    (ht : eval (.Call (.Attribute o m apos) (e :: es) [] pos) X.env = (do
      let ov ← eval o X.env
      standAt apos.atName
      let (f, first) ← holding [ov] (getMethod ov m pl)
      callWith pos f first (backTo pos (starEach (e :: es) X.env)) (backToKw pos (keywordEach [] X.env))) := by rfl) :
    PE X (.Call (.Attribute o m apos) (e :: es) [] pos) (tMeth (He.ga X.K c) m sp [] E ta t) := pe_meth (pl := pl) he C D.m F (hr.mono hk) D.b .nil hx ha hst hpl ht
/-- len(x), the text's own __len__ -/
theorem call_lenI {C f : Addr} {fd : FuncData} (F : FnOk X.prog X.w X.K X.mg X.base CX k f fd ["self"] sp) (hs : PySem.W.findIn X.K (.ref C) "__len__" = some (some (.ref f))) (hf : PySem.W.isFn X.K (.ref f) = true) (hb : Binds X.K fd ["self"] []) (hr : Room (k + 1) X.A) (hx : Passes CX X E) :
    CallR X (.builtin "len") (fun xs H Q => ∃ a dx fs, xs = [.ref a] ∧ H a = some (.ins C dx fs) ∧ sp [.ref a] H (fun v H' => ∃ n : Nat, v = .int n ∧ n < 2 ^ 63 ∧ Q (.int n) H') E) := by
  intro pins s σ H xs us Q I r h
  obtain ⟨a, dx, fs, rfl, ea, h⟩ := h
  obtain ⟨u, rfl, rx⟩ := vals1 r
  obtain rfl : u = Value.ref a := rx
  obtain ⟨mA, O, _⟩ := ins_get I.hok ea
  obtain ⟨od, J, _⟩ := O.look
  obtain ⟨m, hF⟩ := I.fr
  refine PySem.W.len_K hF I.ok.mod.kin J hs hf ?_
  refine wpAny_call (codeAny_mono (F.run X.A.in1 X.stack s H ⟨[.ref a], []⟩ [.ref a] [.ref a] _ E hr.in1 I.env0.in1 (by
    have := hb s [.ref a] I.kIn rfl
    rw [List.append_nil] at this
    exact this) (.cons rfl .nil) h) fun r s' hq => ?_)
  cases r with
  | error e => exact hx pins σ H s e s' I hq
  | ok fl =>
    cases fl with
    | ret w =>
      obtain ⟨z, H', I', rz, n, ez, hn, q⟩ := I.after hq
      subst ez
      obtain ⟨t, rfl⟩ := rz
      exact ⟨⟨Int.natCast_nonneg n, by omega⟩, .int n, H', I'.tok _, ⟨_, rfl⟩, q⟩
    | next => exact False.elim hq
    | brk => exact False.elim hq
    | cont => exact False.elim hq
end
end Ob
/-! The editor: what is read of it. -/
namespace Ob
open PySem PySem.Spec PyProof.Rows L2 L2H
structure TxE (P : Program) (K : PySem.W.Frag) (mg : Str → Option Value) : Prop where
  G : TxP K mg
  n_bool : mg "bool" = none
  tyE : ∀ (H : Hp) (a dx : Addr) (fs : List (Str × V)), H a = some (.ins (He.ga K "Editor") dx fs) → TyX K H (.ref a) (.ref (He.ga K "Editor"))
  kitE : PySem.W.kitOne K (.ref (He.ga K "Editor")) (.ref (He.ga K "Editor")) = some true
  n_int : mg "int" = none
  cE : Cls K (He.ga K "Editor")
  cT : Cls K (He.ga K "Trial")
  na_own_book : NoAttr K (He.ga K "Editor") "own_book"
  na_own_behind : NoAttr K (He.ga K "Editor") "own_behind"
  na_done : NoAttr K (He.ga K "Editor") "done"
  na_later : NoAttr K (He.ga K "Editor") "later"
  na_held_editor : NoAttr K (He.ga K "Trial") "held_editor"
  na_kept_done : NoAttr K (He.ga K "Trial") "kept_done"
  na_kept_later : NoAttr K (He.ga K "Trial") "kept_later"
  gE : mg "Editor" = some (.ref (He.ga K "Editor"))
  gT : mg "Trial" = some (.ref (He.ga K "Trial"))
  mkE : Mk K (He.ga K "Editor") (He.fAd K ("Editor", some "__init__"))
  mkT : Mk K (He.ga K "Trial") (He.fAd K ("Trial", some "__init__"))
  e_init : Fn K ("Editor", some "__init__") "__init__" "Editor.__init__" s_Editor_init [] [("behind", .str "")]
  bE1 : ∃ g : List Value → List Value → List Value, KBn K (fdAt K (He.fAd K ("Editor", some "__init__"))) p_Editor_init 2 ["behind"] g (fun vs zs => vs ++ zs)
  bE0 : ∃ ds, Vals [V.str ""] ds ∧ Binds K (fdAt K (He.fAd K ("Editor", some "__init__"))) p_Editor_init ds
  p_book : Pt K "Editor" "book" "Editor.book" s_Editor_book
  p_behind : Pt K "Editor" "behind" "Editor.behind" s_Editor_behind
  p_page : Pt K "Editor" "page" "Editor.page" s_Editor_page
  p_row : Pt K "Editor" "row" "Editor.row" s_Editor_row
  m_page_at : Mt K "Editor" "page_at" "Editor.page_at" s_Editor_page_at p_Editor_page_at
  m_harms : Mt K "Editor" "harms" "Editor.harms" s_Editor_harms p_Editor_harms
  m_saved : Mt K "Editor" "saved" "Editor.saved" s_Editor_saved p_Editor_saved
  m_len : Mt K "Editor" "__len__" "Editor.__len__" s_Editor_len p_Editor_len
  m_eq : Mt K "Editor" "__eq__" "Editor.__eq__" s_Editor_eq p_Editor_eq
  m_press : Mt K "Editor" "press" "Editor.press" s_Editor_press p_Editor_press
  m_press_all : Mt K "Editor" "press_all" "Editor.press_all" s_Editor_press_all p_Editor_press_all
  m_undo : Mt K "Editor" "undo" "Editor.undo" s_Editor_undo p_Editor_undo
  m_redo : Mt K "Editor" "redo" "Editor.redo" s_Editor_redo p_Editor_redo
  m_copy : Mt K "Editor" "copy" "Editor.copy" s_Editor_copy p_Editor_copy
  m_trial : Mt K "Editor" "trial" "Editor.trial" s_Editor_trial p_Editor_trial
  t_init : Mt K "Trial" "__init__" "Trial.__init__" s_Trial_init p_Trial_init
  t_enter : Mt K "Trial" "__enter__" "Trial.__enter__" s_Trial_enter p_Trial_enter
  t_exit : Mt K "Trial" "__exit__" "Trial.__exit__" s_Trial_exit p_Trial_exit
  xk : ExI P K mg (He.ga K "BadKeys") (He.fAd K ("BadKeys", some "__init__")) "BadKeys.__init__" "place" (defBody s_BadKeys_init) (defScope s_BadKeys_init)
  xkg : mg "BadKeys" = some (.ref (He.ga K "BadKeys"))
  xki : PySem.W.findIn K (.ref (He.ga K "BadKeys")) "__init__" = some (some (.ref (He.fAd K ("BadKeys", some "__init__"))))
  xkt : PySem.W.typeIn K (.ref (He.fAd K ("BadKeys", some "__init__"))) = some (.type "function")
  xkb : Binds K (fdAt K (He.fAd K ("BadKeys", some "__init__"))) p_BadKeys_init []
  xn : ExI P K mg (He.ga K "BadNumber") (He.fAd K ("BadNumber", some "__init__")) "BadNumber.__init__" "value" (defBody s_BadNumber_init) (defScope s_BadNumber_init)
  xng : mg "BadNumber" = some (.ref (He.ga K "BadNumber"))
  xni : PySem.W.findIn K (.ref (He.ga K "BadNumber")) "__init__" = some (some (.ref (He.fAd K ("BadNumber", some "__init__"))))
  xnt : PySem.W.typeIn K (.ref (He.fAd K ("BadNumber", some "__init__"))) = some (.type "function")
  xnb : Binds K (fdAt K (He.fAd K ("BadNumber", some "__init__"))) p_BadNumber_init []
theorem DTs.getv {H : Hp} : ∀ {ds : List PyData} {xs : List V} {i : Nat} {v : V}, DTs H ds xs → xs[i]? = some v → ∃ d, ds[i]? = some d ∧ DT H d v
  | [], _, _, _, h, e => by rw [DTs.nil_.mp h] at e; simp at e
  | d :: ds, _, 0, _, h, e => by
    obtain ⟨v, vs, rfl, h1, h2⟩ := DTs.cons_.mp h
    cases e
    exact ⟨d, rfl, h1⟩
  | d :: ds, _, i + 1, _, h, e => by
    obtain ⟨v, vs, rfl, h1, h2⟩ := DTs.cons_.mp h
    obtain ⟨v', e', h'⟩ := DTs.getv (i := i) h2 (by simpa using e)
    exact ⟨v', by simpa using e', h'⟩
theorem ent_inv {H : Hp} {x : En} {v : V} (h : DT H (entD x) v) : ∃ a pv, v = .ref a ∧ H a = some (.tup [.str x.1.str, pv]) ∧ DT H (pgD x.2) pv := by
  obtain ⟨a, xs, rfl, ha, hs⟩ := DT.tup.mp h
  obtain ⟨v1, r1, rfl, h1, hs⟩ := DTs.cons_.mp hs
  obtain ⟨v2, r2, rfl, h2, hs⟩ := DTs.cons_.mp hs
  rw [DTs.nil_.mp hs, DT.str_.mp h1] at ha
  exact ⟨a, v2, rfl, ha, h2⟩
/-- the last of a told row -/
theorem dn_last {H : Hp} {l : List En} {x : En} {v : V} (h : DT H (dnD l) v) (hx : l.getLast? = some x) : ∃ a xs y, v = .ref a ∧ H a = some (.tup xs) ∧ DTs H (l.map entD) xs ∧ atI xs (-1) = some y ∧ DT H (entD x) y := by
  obtain ⟨a, xs, rfl, ha, hs⟩ := DT.tup.mp h
  have hl := hs.length
  rw [List.length_map] at hl
  obtain ⟨l', rfl⟩ : ∃ l', l = l' ++ [x] := by
    rcases List.eq_nil_or_concat l with rfl | ⟨l', y, e⟩
    · cases hx
    · rw [List.concat_eq_append] at e
      rw [e, List.getLast?_concat] at hx
      cases hx
      exact ⟨l', e⟩
  have e1 : ((l' ++ [x]).map entD)[l'.length]? = some (entD x) := by simp
  obtain ⟨y, hy, hd⟩ := hs.get e1
  refine ⟨a, xs, y, rfl, ha, hs, ?_, hd⟩
  have hl2 : xs.length = l'.length + 1 := by rw [hl]; simp
  obtain ⟨hi, he⟩ := List.getElem?_eq_some_iff.mp hy
  have : xs = xs.take l'.length ++ [y] := by
    have := List.take_append_drop l'.length xs
    rw [List.drop_eq_getElem_cons hi, he, List.drop_of_length_le (by omega)] at this
    exact this.symm
  rw [this]
  exact atI_last _ _
section
variable {P : Program} {w : World} {K : PySem.W.Frag} {mg : Str → Option Value} {base : Heap}
abbrev spEd (K : PySem.W.Frag) (R : Ed → Hp → V → Prop) : Sp := fun vs H Q _ => ∃ (e : Addr) (T : Nat) (ed : Ed) (dx ba : Addr) (dv lv : V), vs = [.ref e] ∧ EdAt (He.ga K "Editor") T H e ed dx ba dv lv ∧ T ≤ 400 ∧ ∀ H' v, Same H H' → R ed H' v → Q v H'
theorem spEd_len {K : PySem.W.Frag} {R : Ed → Hp → V → Prop} {vs : List V} {H : Hp} {Q : VK} {E : XK} (h : spEd K R vs H Q E) : vs.length = 1 := by
  obtain ⟨_, _, _, _, _, _, _, rfl, _⟩ := h
  rfl
theorem ok_ed_book (T : TxE P K mg) : FPk P w K mg base CX0 1 "Editor" "book" ["self"] (fun vs H Q _ => ∃ (e : Addr) (T : Nat) (ed : Ed) (dx ba : Addr) (dv lv : V), vs = [.ref e] ∧ EdAt (He.ga K "Editor") T H e ed dx ba dv lv ∧ Q (.ref ba) H) := by
  refine T.p_book.f.ok sc_Editor_book (fun vs H Q E h => ?_) (fun cdv A outer s H vs Q E hr h => ?_)
  · obtain ⟨_, _, _, _, _, _, _, rfl, _⟩ := h
    rfl
  · obtain ⟨e, n, ed, dx, ba, dv, lv, rfl, at_, k⟩ := h
    exact ⟨_, PSs.nox (pss_one (ps_ret (pe_fld (pv 0) rfl))), _, rfl, e, _, dx, _, .ref ba, rfl, at_.at_, T.cE, T.na_own_book, rfl, k⟩
theorem ok_ed_behind (T : TxE P K mg) : FPk P w K mg base CX0 1 "Editor" "behind" ["self"] (fun vs H Q _ => ∃ (e : Addr) (T : Nat) (ed : Ed) (dx ba : Addr) (dv lv : V), vs = [.ref e] ∧ EdAt (He.ga K "Editor") T H e ed dx ba dv lv ∧ Q (.str (S ed.tail)) H) := by
  refine T.p_behind.f.ok sc_Editor_behind (fun vs H Q E h => ?_) (fun cdv A outer s H vs Q E hr h => ?_)
  · obtain ⟨_, _, _, _, _, _, _, rfl, _⟩ := h
    rfl
  · obtain ⟨e, n, ed, dx, ba, dv, lv, rfl, at_, k⟩ := h
    exact ⟨_, PSs.nox (pss_one (ps_ret (pe_fld (pv 0) rfl))), _, rfl, e, _, dx, _, .str (S ed.tail), rfl, at_.at_, T.cE, T.na_own_behind, rfl, k⟩
theorem ok_ed_page (T : TxE P K mg) : FPk P w K mg base CX0 1 "Editor" "page" ["self"] (spEd K fun ed H' v => DT H' (pgD ed.now) v) := by
  refine T.p_page.f.ok sc_Editor_page (fun vs H Q E h => spEd_len h) (fun cdv A outer s H vs Q E hr h => ?_)
  obtain ⟨e, n, ed, dx, ba, dv, lv, rfl, at_, hn, k⟩ := h
  refine ⟨_, PSs.nox (pss_one (ps_ret (pe_ifExp (pt_cmpR (op_neD hr.units) (pe_fld (pv 0) rfl) (pe_tup pa_nil) (nomark _)) (pe_ix ix_tup (pe_ix ix_tup (pe_fld (pv 0) rfl) (pe_un un_neg pe_int) (fun _ _ => rfl)) pe_int (fun _ _ => rfl))
    (pe_tup (pa_cons pe_str (pa_cons (pe_fld (pv 0) rfl) (pa_cons (pe_tup pa_nil) pa_nil))))))), ?_⟩
  refine ⟨_, rfl, e, _, dx, _, dv, rfl, at_.at_, T.cE, T.na_done, rfl, Nat.zero_le _, fun l hl => ?_⟩
  have sm : Same H (upd H l (.tup [])) := same_new hl
  refine neT (at_.v.d.same sm) at_.ok.d hn upd_same ⟨_, rfl, ?_⟩
  have e0 : ed.now = ((ed.done.getLast?.map (·.2)).getD (first ed.tail)) := rfl
  cases el : ed.done.getLast? with
  | none =>
    have : ed.done = [] := List.getLast?_eq_none_iff.mp el
    rw [el] at e0
    rw [this]
    refine iteF ⟨_, rfl, e, _, dx, _, .str (S ed.tail), rfl, sm _ _ at_.at_, T.cE, T.na_own_behind, rfl, Nat.zero_le _, fun l2 hl2 => ⟨(show 3 ≤ sizeLine by decide), fun l3 hl3 => ?_⟩⟩
    have sm2 : Same (upd H l (.tup [])) (upd (upd H l (.tup [])) l2 (.tup [])) := same_new hl2
    have sm3 : Same (upd (upd H l (.tup [])) l2 (.tup [])) (upd (upd (upd H l (.tup [])) l2 (.tup [])) l3 (.tup [.str "", .str (S ed.tail), .ref l2])) := same_new hl3
    refine k _ _ ((sm.trans sm2).trans sm3) ?_
    show DT _ (pgD ed.now) _
    rw [e0]
    show DT _ (pgD (first ed.tail)) _
    rw [pgD_first]
    exact DT.mk upd_same (DTs.cons (DT.str_.mpr rfl) (DTs.cons (DT.str_.mpr rfl) (DTs.cons (DT.mk (sm3 _ _ upd_same) DTs.nil) DTs.nil)))
  | some x =>
    have hne : (!ed.done.isEmpty) = true := by
      cases hd : ed.done with
      | nil => rw [hd] at el; cases el
      | cons a b => rfl
    rw [el] at e0
    rw [hne]
    obtain ⟨a, xs, y, e1, ha, hs, hy, hd⟩ := dn_last at_.v.d el
    obtain ⟨b, pv_, rfl, hb, hp⟩ := ent_inv hd
    refine iteT ⟨_, rfl, e, _, dx, _, dv, rfl, sm _ _ at_.at_, T.cE, T.na_done, rfl, 1, rfl, a, xs, -1, .ref b, e1, rfl, .inl (.inl (sm _ _ ha)), hy, b, _, 1, pv_, rfl, rfl, .inl (.inl (sm _ _ hb)), rfl, ?_⟩
    refine k _ _ sm ?_
    show DT _ (pgD ed.now) _
    rw [e0]
    exact hp.same sm
theorem ok_ed_row (T : TxE P K mg) : FPk P w K mg base CX0 1 "Editor" "row" ["self"] (spEd K fun ed H' v => DT H' (.tuple ((ed.done.map fun x => x.1.str).map .str)) v) := by
  refine T.p_row.f.ok sc_Editor_row (fun vs H Q E h => spEd_len h) (fun cdv A outer s H vs Q E hr h => ?_)
  obtain ⟨e, n, ed, dx, ba, dv, lv, rfl, at_, hn, k⟩ := h
  have nd := sc_Editor_row.nd
  refine ⟨_, PSs.nox (pss_one (ps_ret (pe_callTy call_tuple_of rfl T.G.S.n_tuple PyProof.Rows.Boot.«tuple» (pa_cons (pe_lc (own := [("key", 1), ("page", 2)]) (g := gTup K 2 (gCons (gName 1) (gCons (gName 2) gNil))) (tt := tYes) rfl nd (pi_tup (pe_fld (pv 0) rfl)) (blkOk_by (own := [("key", 1), ("page", 2)]) (N := N_Editor_row) (sc := defScope s_Editor_row) (by decide +kernel))
      (fun _ _ _ _ _ => pg_tup rfl (pgs_cons (pg_name (i := 1) nd rfl (Or.inl rfl)) (pgs_cons (pg_name (i := 2) nd rfl (Or.inl rfl)) pgs_nil))) (fun _ _ _ _ _ => pts_nil) (fun _ _ _ _ _ => pv 1)) pa_nil)))), ?_⟩
  obtain ⟨a, xs, rfl, ha, hs⟩ := DT.tup.mp at_.v.d
  have hl := hs.length
  rw [List.length_map] at hl
  have hn2 := at_.ok.n
  refine ⟨_, rfl, e, _, dx, _, .ref a, rfl, at_.at_, T.cE, T.na_done, rfl, a, rfl, ⟨xs, .inl (.inl ha)⟩, fun D hD => ?_⟩
  refine lc_acc1 (walk_tup (xs := xs)) PT1 (fun i acc _ => acc = (ed.done.take i).map (fun x => V.str x.1.str) ∧ i ≤ ed.done.length) hD ⟨by simp, Nat.zero_le _⟩ (fun i H' acc hi kp e r => .inl (.inl (kp _ _ ha True.intro))) (fun _ _ _ _ => True.intro) (fun i acc H' ⟨e1, e2⟩ => ?_) (fun i acc H' a0 a1 e r => r) ?_ ?_
  · rw [e1, List.length_map, List.length_take, sizeLine_eq]
    omega
  · intro i x H6 H6' acc Post hi kp e r hp hy
    obtain ⟨rfl, hx⟩ := hy
    obtain ⟨d, hd, hdt⟩ := hs.getv hx
    rw [List.getElem?_map] at hd
    obtain ⟨y, hy, rfl⟩ := Option.map_eq_some_iff.mp hd
    obtain ⟨b, pv_, rfl, hb, hpg⟩ := ent_inv hdt
    obtain ⟨rfl, e2⟩ := r
    refine ⟨b, _, rfl, .inl (.inl (kp _ _ hb True.intro)), rfl, _, _, rfl, _, [], rfl, rfl, rfl, _, rfl, hp _ _ (Kp.refl _) ⟨?_, (List.getElem?_eq_some_iff.mp hy).1⟩⟩
    rw [List.take_add_one, hy, List.map_append]
    rfl
  · intro H7 acc kp e r
    obtain ⟨rfl, _⟩ := r
    have hn : ed.done.take xs.length = ed.done := by
      rw [hl]
      exact List.take_length
    rw [hn] at e
    refine ⟨D, _, rfl, .inl ⟨.inl (.inl e), fun o ho => ?_⟩⟩
    refine k _ _ (kp.same.trans (same_new ho)) (DT.mk upd_same ?_)
    have := DTs.strs (H := upd H7 o (.tup (ed.done.map fun x => V.str x.1.str))) (ed.done.map fun x => x.1.str)
    rw [List.map_map (g := V.str)] at this
    exact this
theorem ok_ed_harms (T : TxE P K mg) : FOk P w K mg base CX0 3 ("Editor", some "harms") p_Editor_harms (spEd K fun ed H' v => v = .bl (!decide (sgs ed.now.2 = ed.tail))) := by
  refine T.m_harms.f.ok sc_Editor_harms (fun vs H Q E h => spEd_len h) (fun cdv A outer s H vs Q E hr h => ?_)
  obtain ⟨e, n, ed, dx, ba, dv, lv, rfl, at_, hn, k⟩ := h
  refine ⟨_, PSs.nox (pss_one (ps_ret (pe_cmpR op_ne (pe_ix ix_tup (pe_pr T.p_page T.cE (ok_ed_page T) hr (by decide) (pv 0)) pe_int (fun _ _ => rfl)) (pe_fld (pv 0) rfl) (nomark _)))), ?_⟩
  refine ⟨_, rfl, e, dx, _, rfl, at_.at_, e, n, ed, dx, ba, dv, lv, rfl, at_, hn, fun H' v sm hv => ?_⟩
  obtain ⟨a, o, rfl, ha, ho⟩ := pgD_inv hv
  refine ⟨a, _, 1, .str (S (sgs ed.now.2)), rfl, rfl, .inl (.inl ha), rfl, _, rfl, e, _, dx, _, .str (S ed.tail), rfl, sm _ _ at_.at_, T.cE, T.na_own_behind, rfl, rfl, ?_⟩
  rw [sg_eq]
  exact k _ _ sm rfl
theorem ok_ed_saved (T : TxE P K mg) : FOk P w K mg base CX0 3 ("Editor", some "saved") p_Editor_saved (spEd K fun ed H' v => v = .int ((ed.now.1.length : Int) - (ed.done.length : Int))) := by
  refine T.m_saved.f.ok sc_Editor_saved (fun vs H Q E h => spEd_len h) (fun cdv A outer s H vs Q E hr h => ?_)
  obtain ⟨e, n, ed, dx, ba, dv, lv, rfl, at_, hn, k⟩ := h
  refine ⟨_, PSs.nox (pss_one (ps_ret (pe_op op_sub (pe_callB call_len rfl T.G.S.n_len boot_len (pa_cons (pe_ix ix_tup (pe_pr T.p_page T.cE (ok_ed_page T) hr (by decide) (pv 0)) pe_int (fun _ _ => rfl)) pa_nil)) (pe_callB call_len rfl T.G.S.n_len boot_len (pa_cons (pe_fld (pv 0) rfl) pa_nil))))), ?_⟩
  refine ⟨_, rfl, e, dx, _, rfl, at_.at_, e, n, ed, dx, ba, dv, lv, rfl, at_, hn, fun H' v sm hv => ?_⟩
  obtain ⟨a, o, rfl, ha, ho⟩ := pgD_inv hv
  obtain ⟨a2, xs, rfl, ha2, hs⟩ := DT.tup.mp at_.v.d
  have hl := hs.length
  rw [List.length_map] at hl
  have hb := at_.ok.now.2
  unfold pgLen at hb
  refine ⟨a, _, 0, .str (S ed.now.1), rfl, rfl, .inl (.inl ha), rfl, _, ed.now.1.length, rfl, ⟨?_, (S_len _).symm⟩, _, rfl, e, _, dx, _, .ref a2, rfl, sm _ _ at_.at_, T.cE, T.na_done, rfl, _, ed.done.length, rfl, .inr ⟨xs, .inl (.inl (sm _ _ ha2)), hl.symm⟩, _, _, rfl, rfl, k _ _ sm rfl⟩
  rw [S_len, sizeLine_eq]
  omega
theorem ok_ed_len (T : TxE P K mg) : FOk P w K mg base CX0 1 ("Editor", some "__len__") p_Editor_len (spEd K fun ed H' v => v = .int (ed.done.length : Int)) := by
  refine T.m_len.f.ok sc_Editor_len (fun vs H Q E h => spEd_len h) (fun cdv A outer s H vs Q E hr h => ?_)
  obtain ⟨e, n, ed, dx, ba, dv, lv, rfl, at_, hn, k⟩ := h
  refine ⟨_, PSs.nox (pss_one (ps_ret (pe_callB call_len rfl T.G.S.n_len boot_len (pa_cons (pe_fld (pv 0) rfl) pa_nil)))), ?_⟩
  obtain ⟨a2, xs, rfl, ha2, hs⟩ := DT.tup.mp at_.v.d
  have hl := hs.length
  rw [List.length_map] at hl
  exact ⟨_, rfl, e, _, dx, _, .ref a2, rfl, at_.at_, T.cE, T.na_done, rfl, _, ed.done.length, rfl, .inr ⟨xs, .inl (.inl ha2), hl.symm⟩, k _ _ (Same.refl H) rfl⟩
def EdEq (C : Addr) (a b : Addr) (H : Hp) : Prop := ∃ T ed ed2, T ≤ 400 ∧ EdI C T H a ed ∧ EdI C T H b ed2 ∧ ed.b = ed2.b ∧ ed.tail = ed2.tail ∧ ed.done = ed2.done
theorem ok_ed_eq (T : TxE P K mg) : FOk P w K mg base CX0 1 ("Editor", some "__eq__") p_Editor_eq (spEq (EdEq (He.ga K "Editor"))) := by
  refine T.m_eq.f.ok sc_Editor_eq (fun vs H Q E h => ?_) (fun cdv A outer s H vs Q E hr h => ?_)
  · obtain ⟨_, _, rfl, _⟩ := h
    rfl
  · obtain ⟨a, b, rfl, ⟨n, ed, ed2, hn, ⟨dx, ba, dv, lv, at1⟩, ⟨dx2, ba2, dv2, lv2, at2⟩, eb, et, edn⟩, k⟩ := h
    refine ⟨_, PSs.nox (pss_cons (ps_if (PW.pt (pw_or (pt_not (pt_val (pe_callB call_isi rfl T.G.S.n_isinstance PyProof.Rows.Boot.«isinstance» (pa_cons (pv 1) (pa_cons (pe_glob rfl T.gE (v := .ref (He.ga K "Editor")) rfl) pa_nil))) (fun _ => rfl)))
        (pw_or (pt_cmpR (op_neD hr.units) (pe_fld (pv 0) rfl) (pe_fld (pv 1) rfl) (nomark _)) (pw_or1 (pt_cmpR op_ne (pe_fld (pv 0) rfl) (pe_fld (pv 1) rfl) (nomark _)))))) (pss_one (ps_ret pe_bl)) pss_nil)
      (pss_one (ps_ret (pe_cmpR (op_eqD hr.units) (pe_fld (pv 0) rfl) (pe_fld (pv 1) rfl) (nomark _))))), ?_⟩
    have fb : ∀ (H : Hp) (x : Addr) (b : Bk), H x = some (.tup b.V) → Dp K H (.ref x) (.tuple (b.vs.map .str)) := fun H x b h => .tup (.inl (.inl h)) (DTs.dp _ _ (DTs.strs b.vs))
    have sb := (bk_fine at1.ok.b).shaped
    refine ⟨_, rfl, .ref b, .ref (He.ga K "Editor"), _, _, true, rfl, .own _, T.tyE _ _ _ _ at2.at_, T.kitE, true, rfl, iteF ?_⟩
    refine ⟨_, rfl, a, _, dx, _, .ref ba, rfl, at1.at_, T.cE, T.na_own_book, rfl, _, rfl, b, _, dx2, _, .ref ba2, rfl, at2.at_, T.cE, T.na_own_book, rfl, _, _, fb _ _ _ at1.v.b, fb _ _ _ at2.v.b, sb, by rw [← eb]; exact sb, _, rfl, ?_⟩
    rw [← eb]
    refine if_f (by rw [(bk_fine at1.ok.b).eqv]; rfl) ?_
    refine ⟨_, rfl, a, _, dx, _, .str (S ed.tail), rfl, at1.at_, T.cE, T.na_own_behind, rfl, _, rfl, b, _, dx2, _, .str (S ed2.tail), rfl, at2.at_, T.cE, T.na_own_behind, rfl, rfl, _, rfl, ?_⟩
    rw [← et]
    refine if_f (by simp) ?_
    refine ⟨_, rfl, a, _, dx, _, dv, rfl, at1.at_, T.cE, T.na_done, rfl, _, rfl, b, _, dx2, _, dv2, rfl, at2.at_, T.cE, T.na_done, rfl, _, _, DT.dp _ _ at1.v.d, DT.dp _ _ at2.v.d, (fine_ents at1.ok.d hn).tup.shaped, (fine_ents at2.ok.d hn).tup.shaped, ?_⟩
    rw [← edn, (fine_ents at1.ok.d hn).tup.eqv]
    exact k H (fun _ _ h => h)
end
end Ob
/-! The editor: keys pressed. -/
namespace Ob
open PySem PySem.Spec PyProof.Rows L2 L2H
def runK (b : Bk) : Pg → List Ky → List En
  | _, [] => []
  | p, q :: r => (q, press b p q) :: runK b (press b p q) r
def after (b : Bk) (p : Pg) (ks : List Ky) : Pg := ks.foldl (press b) p
theorem runK_snoc (b : Bk) : ∀ (p : Pg) (ks : List Ky) (q : Ky), runK b p (ks ++ [q]) = runK b p ks ++ [(q, press b (after b p ks) q)]
  | _, [], _ => rfl
  | p, x :: r, q => by
    show (x, press b p x) :: runK b (press b p x) (r ++ [q]) = _
    rw [runK_snoc b _ r q]
    rfl
theorem after_snoc (b : Bk) (p : Pg) (ks : List Ky) (q : Ky) : after b p (ks ++ [q]) = press b (after b p ks) q := by
  unfold after
  rw [List.foldl_append]
  rfl
theorem after_len (b : Bk) : ∀ (ks : List Ky) (p : Pg), pgLen (after b p ks) ≤ pgLen p + 2 * ks.length
  | [], p => Nat.le_refl _
  | q :: r, p => by
    have h1 := after_len b r (press b p q)
    have h2 := press_len b p q
    show pgLen (after b (press b p q) r) ≤ _
    rw [List.length_cons]
    omega
theorem press_ok {b : Bk} {p : Pg} {q : Ky} (h : SgOk p) (hq : q.ok) : SgOk (press b p q) := by
  have go : SgOk (goOver p) := by
    obtain ⟨l, r⟩ := p
    cases r with
    | nil => exact h
    | cons x r =>
      refine ⟨fun c hc => ?_, fun y hy => h.r y (List.mem_cons_of_mem _ hy)⟩
      rcases List.mem_append.mp hc with z | z
      · exact h.l c z
      · rw [List.mem_singleton.mp z]; exact h.r x List.mem_cons_self
  cases q with
  | back =>
    show SgOk (goBack b p)
    unfold goBack
    split
    · exact h
    · refine ⟨fun c hc => h.l c ((List.dropLast_sublist _).subset hc), fun y hy => ?_⟩
      have hy : y ∈ (if takesBoth b p _ = true then p.2.tail else p.2) := hy
      split at hy
      · exact h.r y (List.mem_of_mem_tail hy)
      · exact h.r y hy
  | right => exact go
  | fin =>
    show SgOk (goEnd p)
    refine ⟨fun c hc => ?_, fun y hy => h.r y ((List.dropWhile_sublist _).subset hy)⟩
    rcases List.mem_append.mp hc with z | z
    · exact h.l c z
    · obtain ⟨x, hx, rfl⟩ := List.mem_map.mp z
      exact h.r x ((List.takeWhile_sublist _).subset hx)
  | sg c =>
    show SgOk (typeSign b p c)
    unfold typeSign
    split
    · exact go
    · have hp : ∀ y ∈ put b p c, y.1 ∈ sigs := fun y hy => by
        unfold put at hy
        split at hy
        · exact h.r y hy
        · rename_i d hd
          split at hy
          · rcases List.mem_cons.mp hy with z | z
            · rw [z]
              show d ∈ sigs
              unfold closerOf at hd
              split at hd
              · cases hd; decide
              · split at hd
                · cases hd; decide
                · split at hd
                  · cases hd; decide
                  · cases hd
            · exact h.r y z
          · exact h.r y hy
      refine ⟨fun x hx => ?_, fun y hy => ?_⟩
      · rcases List.mem_append.mp hx with z | z
        · exact h.l x z
        · rw [List.mem_singleton.mp z]; exact hq
      · have hy : y ∈ forget b c (put b p c) := hy
        unfold forget at hy
        split at hy
        · obtain ⟨x, hx, rfl⟩ := List.mem_map.mp hy
          exact hp x hx
        · exact hp y hy
theorem runK_ok {b : Bk} {m : Nat} : ∀ {ks : List Ky} {p : Pg}, SgOk p → (∀ q ∈ ks, q.ok) → pgLen p + 2 * ks.length ≤ 6 + 2 * m → ∀ x ∈ runK b p ks, EnOk m x
  | [], _, _, _, _, x, hx => by cases hx
  | q :: r, p, hp, hk, hl, x, hx => by
    rw [List.length_cons] at hl
    have h2 := press_len b p q
    have hs := press_ok (b := b) hp (hk q List.mem_cons_self)
    rcases List.mem_cons.mp hx with rfl | z
    · exact ⟨hk q List.mem_cons_self, hs, by show pgLen (press b p q) ≤ _; omega⟩
    · exact runK_ok hs (fun y hy => hk y (List.mem_cons_of_mem _ hy)) (by omega) x z
theorem runK_len (b : Bk) : ∀ (p : Pg) (ks : List Ky), (runK b p ks).length = ks.length
  | _, [] => rfl
  | p, q :: r => by
    show (runK b _ r).length + 1 = _
    rw [runK_len b _ r]; rfl
def keyed (ed : Ed) (ks : List Ky) : Ed := { ed with done := ed.done ++ runK ed.b ed.now ks, later := if ks.isEmpty = true then ed.later else [] }
theorem keyed_ok {T : Nat} {ed : Ed} {ks : List Ky} (h : EdOk T ed) (hk : ∀ q ∈ ks, q.ok) : EdOk (T + ks.length) (keyed ed ks) := by
  have hn := h.n
  refine ⟨h.b, h.tl, h.tn, ?_, fun x hx => ?_, fun x hx => ?_⟩
  · show (ed.done ++ runK ed.b ed.now ks).length + (if ks.isEmpty = true then ed.later else []).length ≤ _
    rw [List.length_append, runK_len]
    have : (if ks.isEmpty = true then ed.later else []).length ≤ ed.later.length := by split <;> simp
    omega
  · rcases List.mem_append.mp hx with z | z
    · exact (h.d x z).mono (by omega)
    · exact runK_ok h.now.1 hk (by have := h.now.2; omega) x z
  · have hx : x ∈ (if ks.isEmpty = true then ed.later else []) := hx
    split at hx
    · exact (h.r x hx).mono (by omega)
    · cases hx
/-- a + b of told tuples -/
theorem cat_dt {K : PySem.W.Frag} {H : Hp} {a b : Addr} {xs ys : List V} {ds es : List PyData} {Q : VK} (ha : H a = some (.tup xs)) (hb : H b = some (.tup ys)) (hx : DTs H ds xs) (hy : DTs H es ys) (hl : ds.length + es.length ≤ sizeLine)
    (q : ∀ H' v, Same H H' → DT H' (.tuple (ds ++ es)) v → Q v H') : rCatA K (.ref a) (.ref b) H Q := by
  refine ⟨a, b, xs, ys, rfl, rfl, .inl (.inl ha), .inl (.inl hb), by rw [hx.length, hy.length]; exact hl, fun e => ?_, fun _ e => ?_, fun _ _ p hp => ?_⟩
  · subst e
    have : ds = [] := by
      have := hx.length
      cases ds with
      | nil => rfl
      | cons => cases this
    subst this
    exact q H _ (Same.refl H) (DT.mk hb hy)
  · subst e
    have : es = [] := by
      have := hy.length
      cases es with
      | nil => rfl
      | cons => cases this
    subst this
    exact q H _ (Same.refl H) (DT.mk ha (by rw [List.append_nil]; exact hx))
  · exact q _ _ (same_new hp) (DT.mk upd_same ((hx.app hy).same (same_new hp)))
theorem upd_put {H : Hp} {e : Addr} {o : HO} {b : Addr} {xs : List V} {C dx : Addr} {fs : List (Str × V)} (he : H e = some (.ins C dx fs)) (h : H b = some (.tup xs)) : upd H e o b = some (.tup xs) := (upd_ne (fun z => by rw [z, he] at h; cases h)).trans h
section
variable {P : Program} {w : World} {K : PySem.W.Frag} {mg : Str → Option Value} {base : Heap}
abbrev kyV (ks : List Ky) : List V := ks.map fun q => V.str q.str
abbrev spKeys (K : PySem.W.Frag) : Sp := fun vs H Q _ => ∃ (e ka : Addr) (T : Nat) (ed : Ed) (ks : List Ky) (dx ba : Addr) (dv lv : V), vs = [.ref e, .ref ka] ∧ EdAt (He.ga K "Editor") T H e ed dx ba dv lv ∧ H ka = some (.tup (kyV ks)) ∧ (∀ q ∈ ks, q.ok) ∧ T + ks.length ≤ 96 ∧
  ∀ H' dv' lv', EdAt (He.ga K "Editor") (T + ks.length) H' e (keyed ed ks) dx ba dv' lv' → Kp (PBut [e]) H H' → Q .non H'
theorem ok_ed_press_all (T : TxE P K mg) : FOk P w K mg base CX0 6 ("Editor", some "press_all") p_Editor_press_all (spKeys K) := by
  refine T.m_press_all.f.ok sc_Editor_press_all (fun vs H Q E h => ?_) (fun cdv A outer s H vs Q E hr h => ?_)
  · obtain ⟨_, _, _, _, _, _, _, _, _, rfl, _⟩ := h
    rfl
  obtain ⟨e, ka, n, ed, ks, dx, ba, dv, lv, rfl, at_, hka, hks, hn, k⟩ := h
  have nd := sc_Editor_press_all.nd
  refine ⟨_, PSs.nox (pss_cons (ps_expr (pe_f T.G.S.d_need_keys (ok_need_keys T.G.S) hr (by decide) (pa_cons (pv 1) pa_nil)))
    (pss_cons (ps_if (pt_cmpR op_gt (pe_op op_add (pe_callB call_len rfl T.G.S.n_len boot_len (pa_cons (pe_fld (pv 0) rfl) pa_nil)) (pe_callB call_len rfl T.G.S.n_len boot_len (pa_cons (pv 1) pa_nil))) (pe_gv T.G.S.MOST_KEYS) (nomark _)) pss_never pss_nil)
    (pss_cons (ps_par2 2 3 nd (pa_cons (pe_make T.G.mkr (ok_page_init T.G) (hr.mono (by decide)) rfl T.G.g T.G.m_init.b .nil pass0 (pa_cons (pe_pr T.p_page T.cE (ok_ed_page T) hr (by decide) (pv 0)) pa_nil)) (pa_cons (pe_lst pa_nil) pa_nil)))
    (C8.pss_cut (ps_for PassesOwn.never rfl (pi_tup (pv 1)) (pg_nm 4 nd)
      (pss_cons (ps_expr (pe_m T.G.m_press T.G.cP (ok_press T.G) hr (by decide) (pv 2) (pa_cons (pe_fld (pv 0) rfl) (pa_cons (pv 4) pa_nil))))
      (pss_cons (ps_if (PW.pt (pw_or (pt_cmpR op_gt (pe_callB call_len rfl T.G.S.n_len boot_len (pa_cons (pe_fld (pv 2) rfl) pa_nil)) (pe_gv T.G.S.MOST_TEXT) (nomark _)) (pw_or1 (pt_cmpR op_gt (pe_callB call_len rfl T.G.S.n_len boot_len (pa_cons (pe_fld (pv 2) rfl) pa_nil)) (pe_gv T.G.S.MOST_TEXT) (nomark _))))) pss_never pss_nil)
      (pss_one (ps_expr (pe_bm PySem.F.plainAttrs_list PySem.F.slot_list_append PySem.F.type_list_append mt_append (pv 3) (pa_cons (pe_tup (pa_cons (pv 4) (pa_cons (pe_m0' T.G.m_told T.G.cP (ok_told T.G) hr (by decide) (pv 2)) pa_nil))) pa_nil)))))))
    (pss_one (ps_if (pt_cmpR (op_neD hr.units) (pv 3) (pe_lst pa_nil) (nomark _))
      (pss_cons (ps_fld (pv 0) (pe_op op_catA (pe_fld (pv 0) rfl) (pe_callTy call_tuple_of rfl T.G.S.n_tuple PyProof.Rows.Boot.«tuple» (pa_cons (pv 3) pa_nil))) rfl)
      (pss_one (ps_fld (pv 0) (pe_tup pa_nil) rfl))) pss_nil)))))), ?_⟩
  obtain ⟨da, xs, rfl, hda, hds⟩ := DT.tup.mp at_.v.d
  have hdl := hds.length
  rw [List.length_map] at hdl
  have hnn := at_.ok.n
  refine ⟨_, rfl, ka, ks, rfl, hka, by omega, hks, fun H1 sm1 => ?_⟩
  have at1 := at_.same sm1
  refine ⟨_, rfl, e, _, dx, _, .ref da, rfl, at1.at_, T.cE, T.na_done, rfl, _, ed.done.length, rfl, .inr ⟨xs, .inl (.inl (sm1 _ _ hda)), hdl.symm⟩, _, rfl, _, ks.length, rfl, .inr ⟨_, .inl (.inl (sm1 _ _ hka)), by rw [List.length_map]⟩, _, _, rfl, rfl, _, _, rfl, rfl, _, rfl, ?_⟩
  refine if_f (decide_eq_false (by omega)) ?_
  refine ⟨_, rfl, e, dx, _, rfl, at1.at_, e, n, ed, dx, ba, _, lv, rfl, at1, by omega, fun H2 pv_ sm2 hpv => ?_⟩
  intro p dxp hp hdp hne
  have sm3 : Same H2 (upd (upd H2 dxp (.own p)) p (.ins (He.ga K "Page") dxp [])) := (same_new hdp).trans (same_new (by rw [upd_ne hne.symm]; exact hp))
  have hnow := at_.ok.now
  refine ⟨p, dxp, pv_, ed.now, rfl, upd_same, hpv.same sm3, hnow.1, by omega, fun H3 ra pa kp hra => ⟨rfl, Nat.zero_le _, fun fl hfl => ⟨_, _, rfl, ?_⟩⟩⟩
  have sm12 : Same H H2 := sm1.trans sm2
  have hpn : ∀ b o, H b = some o → b ≠ p := fun b o hb z => by rw [z] at hb; rw [sm12 _ _ hb] at hp; cases hp
  have smH3 : Same H H3 := fun b o hb => kp _ _ (sm3 _ _ (sm12 _ _ hb)) fun z => hpn b o hb (List.mem_singleton.mp z)
  have hran : H ra = none := by
    cases e9 : H ra with
    | none => rfl
    | some x => rw [sm3 _ _ (sm12 _ _ e9)] at hra; cases hra
  have hfn : H fl = none := by
    cases e9 : H fl with
    | none => rfl
    | some x => rw [smH3 _ _ e9] at hfl; cases hfl
  have hpn' : H p = none := by
    cases e9 : H p with
    | none => rfl
    | some x => exact absurd rfl (hpn _ _ e9)
  have sm4 : Same H3 (upd H3 fl (.lst [])) := same_new hfl
  have hpf : p ≠ fl := fun z => by
    obtain ⟨_, _, _, h1, _⟩ := id pa
    rw [z, hfl] at h1; cases h1
  have hraf : ra ≠ fl := fun z => by
    obtain ⟨_, _, _, _, h2, _⟩ := id pa
    rw [z, hfl] at h2; cases h2
  refine ⟨fun σ H' => Same H H' ∧ ∃ acc x4, H' fl = some (.lst acc) ∧ DTs H' ((runK ed.b ed.now ks).map entD) acc ∧ σ = [some (.ref e), some (.ref ka), some (.ref p), some (.ref fl), x4], ?_, ?_⟩
  · refine ⟨_, rfl, ka, rfl, ⟨_, .inl (.inl ((smH3.trans sm4) _ _ hka))⟩, ?_⟩
    refine for_it walk_tup (fun i σ H' => Same H H' ∧ (∃ ra', PgAt (He.ga K "Page") H' p ra' (after ed.b ed.now (ks.take i)) ∧ H ra' = none ∧ ra' ≠ fl) ∧ ∃ acc x4, H' fl = some (.lst acc) ∧ DTs H' ((runK ed.b ed.now (ks.take i)).map entD) acc ∧ i ≤ ks.length ∧ σ = [some (.ref e), some (.ref ka), some (.ref p), some (.ref fl), x4])
      ⟨smH3.trans sm4, ⟨ra, pa.same sm4, hran, hraf⟩, [], _, upd_same, DTs.nil, Nat.zero_le _, rfl⟩ (fun _ _ H' _ p => .inl (.inl (p.1 _ _ hka))) (fun i x σ H5 H6 hi ⟨sm5, ⟨ra5, at5, hr5, hf5⟩, acc, x4, hfl5, hd5, hi5, e5⟩ hy => ?_) (fun σ H5 ⟨sm5, _, acc, x4, hfl5, hd5, _, e5⟩ => ?_)
    · obtain ⟨rfl, hx⟩ := hy
      subst e5
      rw [List.getElem?_map] at hx
      obtain ⟨q, hq, rfl⟩ := Option.map_eq_some_iff.mp hx
      have hqk : q ∈ ks := List.mem_of_getElem? hq
      have hil := (List.getElem?_eq_some_iff.mp hq).1
      have htk : ks.take (i + 1) = ks.take i ++ [q] := by rw [List.take_add_one, hq]; rfl
      have hal := after_len ed.b (ks.take i) ed.now
      have htl : (ks.take i).length = i := by rw [List.length_take]; omega
      rw [htl] at hal
      obtain ⟨ok5, dx5, ts5, h51, h52, h53⟩ := id at5
      have at_5 := at_.same sm5
      refine ⟨_, rfl, p, dx5, _, rfl, h51, rfl, _, rfl, e, _, dx, _, .ref ba, rfl, at_5.at_, T.cE, T.na_own_book, rfl, _, rfl, p, ra5, ba, ed.b, _, q, rfl, at5, at_5.v.b, hks q hqk, by omega, fun H7 ra7 t7 => ?_⟩
      have at7 := t7.at_
      rw [← after_snoc, ← htk] at at7
      have hal7 := after_len ed.b (ks.take (i + 1)) ed.now
      have htl7 : (ks.take (i + 1)).length = i + 1 := by rw [List.length_take]; omega
      rw [htl7] at hal7
      have sm7 : Same H H7 := fun b o hb => t7.kp _ _ (sm5 _ _ hb) fun z => by
        rcases List.mem_cons.mp z with z | z
        · exact hpn b o hb z
        · rw [List.mem_singleton.mp z, hr5] at hb; cases hb
      have hfl7 : H7 fl = some (.lst acc) := t7.kp _ _ hfl5 fun z => by
        rcases List.mem_cons.mp z with z | z
        · exact hpf z.symm
        · exact hf5 (List.mem_singleton.mp z).symm
      have hr7 : H ra7 = none := by
        rcases t7.nw with z | z
        · rw [z]; exact hr5
        · cases e9 : H ra7 with
          | none => rfl
          | some x => rw [sm5 _ _ e9] at z; cases z
      have hf7 : ra7 ≠ fl := by
        rcases t7.nw with z | z
        · rw [z]; exact hf5
        · intro y; rw [y, hfl5] at z; cases z
      have hd7 : DTs H7 ((runK ed.b ed.now (ks.take i)).map entD) acc := DTs.mono (fun b xs z => PgTo.tup at5 t7 z) _ _ hd5
      obtain ⟨ok7, dx7, ts7, h71, h72, h73⟩ := id at7
      have hl7 : pgLen (after ed.b ed.now (ks.take (i + 1))) ≤ 200 := by omega
      have hl7' := hl7
      unfold pgLen at hl7'
      refine ⟨_, rfl, p, _, dx7, _, .str (S (after ed.b ed.now (ks.take (i + 1))).1), rfl, h71, T.G.cP, T.G.na_left, rfl, _, (after ed.b ed.now (ks.take (i + 1))).1.length, rfl, ⟨by rw [S_len, sizeLine_eq]; omega, (S_len _).symm⟩, _, _, rfl, rfl, _, rfl, if_f (decide_eq_false (by omega)) ?_⟩
      have hts7 : ts7.length = (after ed.b ed.now (ks.take (i + 1))).2.length := by rw [h73.len, List.length_reverse]
      refine ⟨_, rfl, p, _, dx7, _, .ref ra7, rfl, h71, T.G.cP, T.G.na_right, rfl, _, (after ed.b ed.now (ks.take (i + 1))).2.length, rfl, .inl ⟨_, .inl (.inl h72), by rw [List.length_map]; exact hts7.symm⟩, _, _, rfl, rfl, _, rfl, if_f (decide_eq_false (by omega)) ?_⟩
      refine ⟨_, rfl, .inl ⟨rfl, _, .inl (.inl hfl7)⟩, _, rfl, _, rfl, p, dx7, _, rfl, h71, rfl, p, ra7, _, rfl, at7, by omega, fun H8 tv sm8 htv => ⟨(show 2 ≤ sizeLine by decide), fun t ht => ?_⟩⟩
      have sm9 : Same H8 (upd H8 t (.tup [.str q.str, tv])) := same_new ht
      have sm79 := sm8.trans sm9
      have hacc : acc.length = i := by
        have := hd5.length
        rw [List.length_map, runK_len, htl] at this
        exact this
      have ent : DT (upd H8 t (.tup [.str q.str, tv])) (entD (q, after ed.b ed.now (ks.take (i + 1)))) (.ref t) := DT.mk upd_same (DTs.cons (DT.str_.mpr rfl) (DTs.cons (htv.same sm9) DTs.nil))
      have hfl9 := sm79 _ _ hfl7
      refine ⟨fl, _, .ref t, rfl, rfl, hfl9, by rw [hacc, sizeLine_eq]; omega, ?_⟩
      have keep : ∀ {b : Addr} {o : HO}, (upd H8 t (.tup [.str q.str, tv])) b = some o → (∀ xs, o ≠ .lst xs) → (upd (upd H8 t (.tup [.str q.str, tv])) fl (.lst (acc ++ [.ref t]))) b = some o := fun {b o} hb hne => (upd_ne (fun z => by rw [z, hfl9] at hb; exact hne _ (Option.some.inj hb).symm)).trans hb
      refine ⟨fun b o hb => (upd_ne (fun z => by rw [z, hfn] at hb; cases hb)).trans ((sm7.trans sm79) _ _ hb), ⟨ra7, ⟨ok7, dx7, ts7, keep (sm79 _ _ h71) (fun xs z => by cases z), (upd_ne hf7).trans (sm79 _ _ h72), h73.mono fun b xs z => keep (sm79 _ _ z) (fun ys y => by cases y)⟩, hr7, hf7⟩, acc ++ [.ref t], _, upd_same, ?_, hil, rfl⟩
      rw [htk, runK_snoc, List.map_append, ← after_snoc, ← htk]
      exact DTs.mono (fun b xs z => keep z (fun ys y => by cases y)) _ _ ((hd7.same sm79).app (DTs.cons ent DTs.nil))
    · have hn9 : ks.take (kyV ks).length = ks := by rw [List.length_map]; exact List.take_length
      rw [hn9] at hd5
      exact ⟨sm5, acc, x4, hfl5, hd5, e5⟩
  rintro σ H6 ⟨sm6, acc, x4, hfl6, hd6, rfl⟩
  have fK : FineA 3 (((runK ed.b ed.now ks)).length * 30011) ((runK ed.b ed.now ks).map entD) := fine_ents (T := n + ks.length) (runK_ok hnow.1 hks (by omega)) (by omega)
  refine ⟨_, rfl, Nat.zero_le _, fun l hl => ?_⟩
  have sm7 : Same H6 (upd H6 l (.lst [])) := same_new hl
  refine ⟨.list ((runK ed.b ed.now ks).map entD), .list [], .lst (.inl (.inl (sm7 _ _ hfl6))) (DTs.dp _ _ (hd6.same sm7)), .lst (.inl (.inl upd_same)) .nil, fK.lst.shaped, by decide +kernel, _, rfl, ?_⟩
  rw [eqv_nilL, List.isEmpty_map]
  have smF := sm6.trans sm7
  revert smF
  have hfl7 := sm7 _ _ hfl6
  have hd7 := hd6.same sm7
  revert hfl7 hd7
  generalize upd H6 l _ = H7
  intro hfl7 hd7 smF
  have at7 := at_.same smF
  cases ks with
  | nil =>
    refine if_f rfl (k H7 (.ref da) lv ?_ (Kp.of smF))
    have e9 : keyed ed [] = ed := by
      unfold keyed
      show { ed with done := ed.done ++ [], later := ed.later } = ed
      rw [List.append_nil]
    rw [e9]
    exact at7
  | cons q0 kr =>
    refine if_t rfl ?_
    have okd := keyed_ok at_.ok hks
    refine ⟨_, rfl, e, _, dx, _, .ref da, rfl, at7.at_, T.cE, T.na_done, rfl, _, rfl, fl, acc, rfl, .inl ⟨.inl (.inl hfl7), fun t ht => ?_⟩⟩
    have sm8 := same_new (o := .tup acc) ht
    refine cat_dt ((smF.trans sm8) _ _ hda) upd_same (hds.same (smF.trans sm8)) (hd7.same sm8) ?_ fun H9 v9 sm9 hv9 => ?_
    · rw [List.length_map, List.length_map, runK_len, sizeLine_eq]
      omega
    rw [← List.map_append] at hv9
    have at9 := at7.same (sm8.trans sm9)
    refine ⟨_, rfl, e, _, dx, _, rfl, at9.at_, T.cE, T.na_done, (by decide : 4 < 1000), Nat.zero_le _, fun l2 hl2 => ⟨_, rfl, e, _, dx, _, rfl, same_new hl2 _ _ upd_same, T.cE, T.na_later, (by decide : 4 < 1000), ?_⟩⟩
    · have smA : Same H H9 := smF.trans (sm8.trans sm9)
      have tk : ∀ b xs, H9 b = some (.tup xs) → upd (upd (upd H9 e (.ins (He.ga K "Editor") dx (putF "done" v9 (edF ba ed.tail (.ref da) lv)))) l2 (.tup [])) e (.ins (He.ga K "Editor") dx (putF "later" (.ref l2) (putF "done" v9 (edF ba ed.tail (.ref da) lv)))) b = some (.tup xs) := fun b xs z => by
        have z1 : upd H9 e (.ins (He.ga K "Editor") dx (putF "done" v9 (edF ba ed.tail (.ref da) lv))) b = some (.tup xs) := upd_put at9.at_ z
        have z2 := same_new (o := .tup []) hl2 _ _ z1
        refine (upd_ne (fun y => ?_)).trans z2
        rw [y, upd_same] at z1; cases z1
      have hle : l2 ≠ e := fun y => by rw [y, upd_same] at hl2; cases hl2
      refine k _ v9 (.ref l2) ⟨okd, upd_same, tk _ _ at9.v.b, DT.mono tk _ _ hv9, DT.mk ((upd_ne hle).trans upd_same) DTs.nil⟩ fun b o hb hn => ?_
      have nbe : b ≠ e := fun z => hn (by rw [z]; exact List.mem_cons_self)
      refine (upd_ne nbe).trans (same_new hl2 _ _ ((upd_ne nbe).trans (smA _ _ hb)))
end
end Ob
/-! The editor: a key, undo, redo, what is refused. -/
namespace Ob
open PySem PySem.Spec PyProof.Rows L2 L2H LamX NdefX
/-- an exception that keeps one field -/
theorem mkO_read {C : Addr} {fld : Str} {v : V} {H : Hp} {Q : XK} (q : ∀ d H', H d = none → Same H H' → H' d = some (.xd [(fld, v)]) → Q (.ref C) (some d) H') :
    ([v] : List V).length ≤ 1000 ∧ ∀ a, H a = none → spExI C fld (.ref a :: ([v] ++ [])) (upd H a (exo a C none))
      (fun v H2 => v = .non ∧ ∃ (d : Addr) (fs : List (Str × V)), H2 a = some (exo a C (some d)) ∧ H2 d = some (exd d fs) ∧ H d = none ∧ Q (.ref C) (some d) (upd (del H2 a) d (.xd fs))) (fun _ _ _ => False) := by
  refine ⟨by simp, fun a ha => ⟨a, v, rfl, upd_same, fun dx hdx hne => ⟨rfl, dx, [(fld, v)], upd_same, (upd_ne hne).trans upd_same, ?_, ?_⟩⟩⟩
  · rw [upd_ne hne] at hdx; exact hdx
  · have hd : H dx = none := by rw [upd_ne hne] at hdx; exact hdx
    refine q dx _ hd (fun b o hb => ?_) upd_same
    have n1 : b ≠ dx := fun z => by rw [z, hd] at hb; cases hb
    have n2 : b ≠ a := fun z => by rw [z, ha] at hb; cases hb
    rw [upd_ne n1, del_ne n2, upd_ne n2, upd_ne n1, upd_ne n2]
    exact hb
def undo (ed : Ed) : Ed := match ed.done.getLast? with
  | none => ed
  | some x => { ed with done := ed.done.dropLast, later := ed.later ++ [x] }
def redo (ed : Ed) : Ed := match ed.later.getLast? with
  | none => ed
  | some x => { ed with done := ed.done ++ [x], later := ed.later.dropLast }
theorem undo_ok {T : Nat} {ed : Ed} (h : EdOk T ed) : EdOk T (undo ed) := by
  unfold undo
  cases e : ed.done.getLast? with
  | none => exact h
  | some x =>
    have hx := h.d x (List.mem_of_getLast? e)
    have hn := h.n
    refine ⟨h.b, h.tl, h.tn, ?_, fun y hy => h.d y ((List.dropLast_sublist _).subset hy), fun y hy => ?_⟩
    · show ed.done.dropLast.length + (ed.later ++ [x]).length ≤ T
      have : ed.done ≠ [] := fun z => by rw [z] at e; cases e
      have := List.length_pos_iff.mpr this
      rw [List.length_dropLast, List.length_append, List.length_singleton]
      omega
    · rcases List.mem_append.mp hy with z | z
      · exact h.r y z
      · rw [List.mem_singleton.mp z]; exact hx
theorem redo_ok {T : Nat} {ed : Ed} (h : EdOk T ed) : EdOk T (redo ed) := by
  unfold redo
  cases e : ed.later.getLast? with
  | none => exact h
  | some x =>
    have hx := h.r x (List.mem_of_getLast? e)
    have hn := h.n
    refine ⟨h.b, h.tl, h.tn, ?_, fun y hy => ?_, fun y hy => h.r y ((List.dropLast_sublist _).subset hy)⟩
    · show (ed.done ++ [x]).length + ed.later.dropLast.length ≤ T
      have : ed.later ≠ [] := fun z => by rw [z] at e; cases e
      have := List.length_pos_iff.mpr this
      rw [List.length_dropLast, List.length_append, List.length_singleton]
      omega
    · rcases List.mem_append.mp hy with z | z
      · exact h.d y z
      · rw [List.mem_singleton.mp z]; exact hx
theorem cutV_last (xs : List V) : cutV xs none (some (-1)) = xs.dropLast := by
  have e2 : HT.sIx xs.length xs.length (some (-1)) = xs.length - 1 := by
    unfold HT.sIx
    simp only
    rw [if_pos (by decide)]
    omega
  unfold cutV
  rw [HT.sIx_none, e2, List.drop_zero, Nat.sub_zero, ← List.dropLast_eq_take]
theorem DTs.dropLast {H : Hp} {ds : List PyData} {xs : List V} (h : DTs H ds xs) : DTs H ds.dropLast xs.dropLast := by
  rcases List.eq_nil_or_concat ds with rfl | ⟨ds', d, e⟩
  · rw [DTs.nil_.mp h]; exact DTs.nil
  · rw [List.concat_eq_append] at e
    subst e
    rw [List.dropLast_concat]
    have key : ∀ (as : List PyData) (ys : List V), DTs H (as ++ [d]) ys → DTs H as ys.dropLast := by
      intro as
      induction as with
      | nil =>
        intro ys hy
        obtain ⟨v, vs, rfl, _, ht⟩ := DTs.cons_.mp hy
        rw [DTs.nil_.mp ht]
        exact DTs.nil
      | cons a as ih =>
        intro ys hy
        obtain ⟨v, vs, rfl, hv, ht⟩ := DTs.cons_.mp hy
        have hne : vs ≠ [] := fun z => by
          have := ht.length
          rw [z] at this
          have this : 0 = (as ++ [d]).length := this
          rw [List.length_append] at this
          simp at this
        rw [List.dropLast_cons_of_ne_nil hne]
        exact DTs.cons hv (ih vs ht)
    exact key ds' xs h
theorem last_dt {K : PySem.W.Frag} {H : Hp} {a : Addr} {xs : List V} {ds : List PyData} {Q : VK} (ha : H a = some (.tup xs)) (hx : DTs H ds xs) (q : ∀ H' v, Same H H' → DT H' (.tuple ds.dropLast) v → Q v H') : rSlA K (.ref a) none (some (-1)) H Q := by
  refine ⟨a, xs, rfl, .inl (.inl ha), fun ⟨_, e⟩ => ?_, fun _ p hp => ?_⟩
  · have e2 : HT.sIx xs.length xs.length (some (-1)) = xs.length - 1 := by
      unfold HT.sIx
      simp only
      rw [if_pos (by decide)]
      omega
    rw [e2] at e
    have h0 : xs = [] := List.eq_nil_of_length_eq_zero (by omega)
    have : ds = [] := by
      have := hx.length
      rw [h0] at this
      exact List.eq_nil_of_length_eq_zero this.symm
    subst this
    exact q H _ (Same.refl H) (DT.mk ha hx)
  · rw [cutV_last]
    exact q _ _ (same_new hp) (DT.mk upd_same (hx.dropLast.same (same_new hp)))
section
variable {P : Program} {w : World} {K : PySem.W.Frag} {mg : Str → Option Value} {base : Heap}
theorem ok_badKeys (T : TxE P K mg) : FOk P w K mg base CX0 1 ("BadKeys", some "__init__") p_BadKeys_init (spExI (He.ga K "BadKeys") "place") := by
  exact ok_exinit (w := w) (base := base) (fld := "place") (scope := defScope s_BadKeys_init) T.xk (fun _ => rfl) (by decide) (by decide)
theorem ok_badNumber (T : TxE P K mg) : FOk P w K mg base CX0 1 ("BadNumber", some "__init__") p_BadNumber_init (spExI (He.ga K "BadNumber") "value") := by
  exact ok_exinit (w := w) (base := base) (fld := "value") (scope := defScope s_BadNumber_init) T.xn (fun _ => rfl) (by decide) (by decide)
theorem ok_ed_press (T : TxE P K mg) : FOk P w K mg base CX0 7 ("Editor", some "press") p_Editor_press (fun vs H Q _ => ∃ (e : Addr) (n : Nat) (ed : Ed) (q : Ky) (dx ba : Addr) (dv lv : V), vs = [.ref e, .str q.str] ∧ EdAt (He.ga K "Editor") n H e ed dx ba dv lv ∧ q.ok ∧ n + 1 ≤ 96 ∧
    ∀ H' dv' lv', EdAt (He.ga K "Editor") (n + 1) H' e (keyed ed [q]) dx ba dv' lv' → Kp (PBut [e]) H H' → Q .non H') := by
  refine T.m_press.f.ok sc_Editor_press (fun vs H Q E h => ?_) (fun cdv A outer s H vs Q E hr h => ?_)
  · obtain ⟨_, _, _, _, _, _, _, _, rfl, _⟩ := h
    rfl
  obtain ⟨e, n, ed, q, dx, ba, dv, lv, rfl, at_, hq, hn, k⟩ := h
  refine ⟨_, PSs.nox (pss_cons (ps_if (pt_not (pt_val (pe_f T.G.S.d_is_key (ok_is_key T.G.S) hr (by decide) (pa_cons (pv 1) pa_nil)) (fun _ => rfl))) pss_never pss_nil)
    (pss_one (ps_expr (pe_m T.m_press_all T.cE (ok_ed_press_all T) hr (by decide) (pv 0) (pa_cons (pe_tup (pa_cons (pv 1) pa_nil)) pa_nil))))), ?_⟩
  refine ⟨_, rfl, .inl ⟨q, hq, rfl, fun H1 sm1 => ⟨true, rfl, iteF ?_⟩⟩⟩
  have at1 := at_.same sm1
  refine ⟨_, rfl, e, dx, _, rfl, at1.at_, rfl, _, rfl, (show 1 ≤ sizeLine by decide), fun t ht => ?_⟩
  have sm2 := same_new (o := .tup [.str q.str]) ht
  refine ⟨e, t, n, ed, [q], dx, ba, dv, lv, rfl, at1.same sm2, upd_same, fun x hx => by rw [List.mem_singleton.mp hx]; exact hq, hn, fun H' dv' lv' a b => k H' dv' lv' a fun c o hc hn => b _ _ ((sm1.trans sm2) _ _ hc) hn⟩
/-- press(None) -/
theorem ok_ed_pressN (T : TxE P K mg) : FOk P w K mg base (L2.CX P w) 7 ("Editor", some "press") p_Editor_press (fun vs H Q E => ∃ (e : Addr), vs = [.ref e, .non] ∧
    ∀ d H', H d = none → Same H H' → H' d = some (.xd [("place", .int 0)]) → E (.ref (He.ga K "BadKeys")) (some d) H') := by
  refine T.m_press.f.ok sc_Editor_press (fun vs H Q E h => ?_) (fun cdv A outer s H vs Q E hr h => ?_)
  · obtain ⟨_, rfl, _⟩ := h
    rfl
  obtain ⟨e, rfl, k⟩ := h
  refine ⟨_, pss_cons (ps_if (pt_not (pt_val (pe_f T.G.S.d_is_key (ok_is_key T.G.S) hr (by decide) (pa_cons (pv 1) pa_nil)) (fun _ => rfl))) (pss_one (ps_raise rfl (takes_of rfl rfl rfl rfl) (pmk_oex T.xk.oex T.xki T.xkt (ok_badKeys T) (hr.mono (by decide)) T.xkb .nil pass0 rfl T.xkg (pa_cons pe_int pa_nil)))) pss_nil)
    (pss_one (ps_expr (pe_m T.m_press_all T.cE (ok_ed_press_all T) hr (by decide) (pv 0) (pa_cons (pe_tup (pa_cons (pv 1) pa_nil)) pa_nil)))), ?_⟩
  exact ⟨_, rfl, .inr ⟨rfl, false, rfl, iteT (mkO_read fun d H' h1 h2 h3 => k d H' h1 h2 h3)⟩⟩
/-- page_at(-1) -/
theorem ok_ed_page_atN (T : TxE P K mg) : FOk P w K mg base (L2.CX P w) 3 ("Editor", some "page_at") p_Editor_page_at (fun vs H Q E => ∃ (e : Addr), vs = [.ref e, .int (-1)] ∧
    ∀ d H', H d = none → Same H H' → H' d = some (.xd [("value", .int (-1))]) → E (.ref (He.ga K "BadNumber")) (some d) H') := by
  refine T.m_page_at.f.ok sc_Editor_page_at (fun vs H Q E h => ?_) (fun cdv A outer s H vs Q E hr h => ?_)
  · obtain ⟨_, rfl, _⟩ := h
    rfl
  obtain ⟨e, rfl, k⟩ := h
  refine ⟨_, pss_cons (ps_if (PW.pt (pw_or (pt_not (pt_val (pe_callB call_isi rfl T.G.S.n_isinstance PyProof.Rows.Boot.«isinstance» (pa_cons (pv 1) (pa_cons (pe_bltn rfl T.n_int PyProof.Rows.Boot.«int» (v := .ty "int") rfl) pa_nil))) (fun _ => rfl)))
      (pw_or (pt_val (pe_callB call_isi rfl T.G.S.n_isinstance PyProof.Rows.Boot.«isinstance» (pa_cons (pv 1) (pa_cons (pe_bltn rfl T.n_bool PyProof.Rows.Boot.«bool» (v := .ty "bool") rfl) pa_nil))) (fun _ => rfl))
      (pw_or1 (pt_not (pt_chain op_le op_le pe_int (pv 1) (pe_callB call_len rfl T.G.S.n_len boot_len (pa_cons (pe_fld (pv 0) rfl) pa_nil)))))))) (pss_one (ps_raise rfl (takes_of rfl rfl rfl rfl) (pmk_oex T.xn.oex T.xni T.xnt (ok_badNumber T) (hr.mono (by decide)) T.xnb .nil pass0 rfl T.xng (pa_cons (pv 1) pa_nil)))) pss_nil)
    (pss_one (ps_ret (pe_ifExp (pt_cmpR op_gt (pv 1) pe_int (nomark _)) (pe_ix ix_tup (pe_ix ix_tup (pe_fld (pv 0) rfl) (pe_op op_sub (pv 1) pe_int) (fun _ _ => rfl)) pe_int (fun _ _ => rfl)) (pe_tup (pa_cons pe_str (pa_cons (pe_fld (pv 0) rfl) (pa_cons (pe_tup pa_nil) pa_nil))))))), ?_⟩
  refine ⟨_, rfl, .int (-1), .ty "int", _, _, true, rfl, .ty _, .base (.int _), kit_ty (by decide +kernel), true, rfl, iteF ?_⟩
  refine ⟨_, rfl, .int (-1), .ty "bool", _, _, false, rfl, .ty _, .base (.int _), kit_ty (by decide +kernel), false, rfl, iteF ?_⟩
  refine ⟨_, rfl, _, _, rfl, rfl, false, rfl, if_f rfl ⟨_, rfl, if_t rfl ⟨_, rfl, mkO_read fun d H' h1 h2 h3 => k d H' h1 h2 h3⟩⟩⟩
abbrev spMove (K : PySem.W.Frag) (f : Ed → Ed) (r : Ed → Bool) : Sp := fun vs H Q _ => ∃ (e : Addr) (n : Nat) (ed : Ed) (dx ba : Addr) (dv lv : V), vs = [.ref e] ∧ EdAt (He.ga K "Editor") n H e ed dx ba dv lv ∧ n ≤ 400 ∧
    ∀ H' dv' lv', EdAt (He.ga K "Editor") n H' e (f ed) dx ba dv' lv' → Kp (PBut [e]) H H' → Q (.bl (r ed)) H'
theorem ok_ed_undo (T : TxE P K mg) : FOk P w K mg base CX0 1 ("Editor", some "undo") p_Editor_undo (spMove K undo fun ed => !ed.done.isEmpty) := by
  refine T.m_undo.f.ok sc_Editor_undo (fun vs H Q E h => ?_) (fun cdv A outer s H vs Q E hr h => ?_)
  · obtain ⟨_, _, _, _, _, _, _, rfl, _⟩ := h
    rfl
  obtain ⟨e, n, ed, dx, ba, dv, lv, rfl, at_, hn, k⟩ := h
  dsimp only at k
  refine ⟨_, PSs.nox (pss_cons (ps_if (pt_cmpR (op_eqD hr.units) (pe_fld (pv 0) rfl) (pe_tup pa_nil) (nomark _)) (pss_one (ps_ret pe_bl)) pss_nil)
    (pss_cons (ps_fld (pv 0) (pe_tup (StX.pa_star (pe_fld (pv 0) rfl) (pa_cons (pe_ix ix_tup (pe_fld (pv 0) rfl) (pe_un un_neg pe_int) (fun _ _ => rfl)) pa_nil))) rfl)
    (pss_cons (ps_fld (pv 0) (pe_slice sl_tupA (pe_fld (pv 0) rfl) po_none (po_some (pe_un un_neg pe_int))) rfl)
    (pss_one (ps_ret pe_bl))))), ?_⟩
  refine ⟨_, rfl, e, _, dx, _, dv, rfl, at_.at_, T.cE, T.na_done, rfl, Nat.zero_le _, fun l hl => ?_⟩
  have sm : Same H (upd H l (.tup [])) := same_new hl
  refine eqT (at_.v.d.same sm) at_.ok.d hn upd_same ⟨_, rfl, ?_⟩
  have a1 := at_.same sm
  revert sm a1
  generalize upd H l _ = H1
  intro sm a1
  cases el : ed.done.getLast? with
  | none =>
    have h0 : ed.done = [] := List.getLast?_eq_none_iff.mp el
    refine if_t (by rw [h0]; rfl) ?_
    have e1 : undo ed = ed := by unfold undo; rw [el]
    have := k H1 dv lv (by rw [e1]; exact a1) (Kp.of sm)
    rw [h0] at this
    exact this
  | some x =>
    have hne : ed.done.isEmpty = false := by
      cases hd : ed.done with
      | nil => rw [hd] at el; cases el
      | cons a b => rfl
    have e1 : undo ed = { ed with done := ed.done.dropLast, later := ed.later ++ [x] } := by unfold undo; rw [el]
    have ok1 := undo_ok at_.ok
    rw [e1] at ok1
    rw [hne, e1] at k
    refine if_f hne ?_
    obtain ⟨a, xs, y, rfl, ha, hs, hy, hd⟩ := dn_last a1.v.d el
    obtain ⟨la, ls, rfl, hla, hls⟩ := DT.tup.mp a1.v.l
    have hll := hls.length
    rw [List.length_map] at hll
    have hnn := at_.ok.n
    refine ⟨_, rfl, e, _, dx, _, .ref la, rfl, a1.at_, T.cE, T.na_later, rfl, la, ls, rfl, .inl (.inl (.inl hla)), _, rfl, e, _, dx, _, .ref a, rfl, a1.at_, T.cE, T.na_done, rfl, 1, rfl, a, xs, -1, y, rfl, rfl, .inl (.inl ha), hy, ?_, fun t ht => ?_⟩
    · rw [List.length_append, sizeLine_eq]
      simp
      omega
    have sm2 := same_new (o := .tup (ls ++ [y])) ht
    have a2 := a1.same sm2
    have hl2 : DT (upd H1 t (.tup (ls ++ [y]))) (dnD (ed.later ++ [x])) (.ref t) := by
      refine DT.mk upd_same ?_
      rw [List.map_append]
      exact (hls.app (DTs.cons hd DTs.nil)).same sm2
    have ha2 := sm2 _ _ ha
    have hs2 := hs.same sm2
    have smT := sm.trans sm2
    revert a2 hl2 ha2 hs2 smT
    generalize upd H1 t _ = H2
    intro a2 hl2 ha2 hs2 smT
    refine ⟨_, rfl, e, _, dx, _, rfl, a2.at_, T.cE, T.na_later, (by decide : 4 < 1000), ?_⟩
    have tk : ∀ b xs, H2 b = some (.tup xs) → upd H2 e (.ins (He.ga K "Editor") dx (putF "later" (.ref t) (edF ba ed.tail (.ref a) (.ref la)))) b = some (.tup xs) := fun b xs z => upd_put a2.at_ z
    refine ⟨_, rfl, e, _, dx, _, .ref a, rfl, upd_same, T.cE, T.na_done, rfl, 1, rfl, _, rfl, ?_⟩
    refine last_dt (tk _ _ ha2) (DTs.mono tk _ _ hs2) fun H3 v sm3 hv => ?_
    refine ⟨_, rfl, e, _, dx, _, rfl, sm3 _ _ upd_same, T.cE, T.na_done, (by decide : 4 < 1000), ?_⟩
    have he3 := sm3 _ _ (upd_same (H := H2) (a := e) (o := .ins (He.ga K "Editor") dx (putF "later" (.ref t) (edF ba ed.tail (.ref a) (.ref la)))))
    have tk3 : ∀ b xs, H3 b = some (.tup xs) → upd H3 e (.ins (He.ga K "Editor") dx (putF "done" v (putF "later" (.ref t) (edF ba ed.tail (.ref a) (.ref la))))) b = some (.tup xs) := fun b xs z => upd_put he3 z
    have tk13 : ∀ b xs, H2 b = some (.tup xs) → upd H3 e (.ins (He.ga K "Editor") dx (putF "done" v (putF "later" (.ref t) (edF ba ed.tail (.ref a) (.ref la))))) b = some (.tup xs) := fun b xs z => tk3 _ _ (sm3 _ _ (tk _ _ z))
    refine k _ v (.ref t) ⟨ok1, upd_same, tk13 _ _ a2.v.b, ?_, DT.mono tk13 _ _ hl2⟩ fun b o hb hn => ?_
    · have := DT.mono tk3 _ _ hv
      rw [← List.map_dropLast] at this
      exact this
    · have nbe : b ≠ e := fun z => hn (by rw [z]; exact List.mem_cons_self)
      exact (upd_ne nbe).trans (sm3 _ _ ((upd_ne nbe).trans (smT _ _ hb)))
theorem ok_ed_redo (T : TxE P K mg) : FOk P w K mg base CX0 1 ("Editor", some "redo") p_Editor_redo (spMove K redo fun ed => !ed.later.isEmpty) := by
  refine T.m_redo.f.ok sc_Editor_redo (fun vs H Q E h => ?_) (fun cdv A outer s H vs Q E hr h => ?_)
  · obtain ⟨_, _, _, _, _, _, _, rfl, _⟩ := h
    rfl
  obtain ⟨e, n, ed, dx, ba, dv, lv, rfl, at_, hn, k⟩ := h
  dsimp only at k
  refine ⟨_, PSs.nox (pss_cons (ps_if (pt_cmpR (op_eqD hr.units) (pe_fld (pv 0) rfl) (pe_tup pa_nil) (nomark _)) (pss_one (ps_ret pe_bl)) pss_nil)
    (pss_cons (ps_fld (pv 0) (pe_tup (StX.pa_star (pe_fld (pv 0) rfl) (pa_cons (pe_ix ix_tup (pe_fld (pv 0) rfl) (pe_un un_neg pe_int) (fun _ _ => rfl)) pa_nil))) rfl)
    (pss_cons (ps_fld (pv 0) (pe_slice sl_tupA (pe_fld (pv 0) rfl) po_none (po_some (pe_un un_neg pe_int))) rfl)
    (pss_one (ps_ret pe_bl))))), ?_⟩
  refine ⟨_, rfl, e, _, dx, _, lv, rfl, at_.at_, T.cE, T.na_later, rfl, Nat.zero_le _, fun l hl => ?_⟩
  have sm : Same H (upd H l (.tup [])) := same_new hl
  refine eqT (at_.v.l.same sm) at_.ok.r hn upd_same ⟨_, rfl, ?_⟩
  have a1 := at_.same sm
  revert sm a1
  generalize upd H l _ = H1
  intro sm a1
  cases el : ed.later.getLast? with
  | none =>
    have h0 : ed.later = [] := List.getLast?_eq_none_iff.mp el
    refine if_t (by rw [h0]; rfl) ?_
    have e1 : redo ed = ed := by unfold redo; rw [el]
    have := k H1 dv lv (by rw [e1]; exact a1) (Kp.of sm)
    rw [h0] at this
    exact this
  | some x =>
    have hne : ed.later.isEmpty = false := by
      cases hd : ed.later with
      | nil => rw [hd] at el; cases el
      | cons a b => rfl
    have e1 : redo ed = { ed with done := ed.done ++ [x], later := ed.later.dropLast } := by unfold redo; rw [el]
    have ok1 := redo_ok at_.ok
    rw [e1] at ok1
    rw [hne, e1] at k
    refine if_f hne ?_
    obtain ⟨a, xs, y, rfl, ha, hs, hy, hd⟩ := dn_last a1.v.l el
    obtain ⟨la, ls, rfl, hla, hls⟩ := DT.tup.mp a1.v.d
    have hll := hls.length
    rw [List.length_map] at hll
    have hnn := at_.ok.n
    refine ⟨_, rfl, e, _, dx, _, .ref la, rfl, a1.at_, T.cE, T.na_done, rfl, la, ls, rfl, .inl (.inl (.inl hla)), _, rfl, e, _, dx, _, .ref a, rfl, a1.at_, T.cE, T.na_later, rfl, 1, rfl, a, xs, -1, y, rfl, rfl, .inl (.inl ha), hy, ?_, fun t ht => ?_⟩
    · rw [List.length_append, sizeLine_eq]
      simp
      omega
    have sm2 := same_new (o := .tup (ls ++ [y])) ht
    have a2 := a1.same sm2
    have hl2 : DT (upd H1 t (.tup (ls ++ [y]))) (dnD (ed.done ++ [x])) (.ref t) := by
      refine DT.mk upd_same ?_
      rw [List.map_append]
      exact (hls.app (DTs.cons hd DTs.nil)).same sm2
    have ha2 := sm2 _ _ ha
    have hs2 := hs.same sm2
    have smT := sm.trans sm2
    revert a2 hl2 ha2 hs2 smT
    generalize upd H1 t _ = H2
    intro a2 hl2 ha2 hs2 smT
    refine ⟨_, rfl, e, _, dx, _, rfl, a2.at_, T.cE, T.na_done, (by decide : 4 < 1000), ?_⟩
    have tk : ∀ b xs, H2 b = some (.tup xs) → upd H2 e (.ins (He.ga K "Editor") dx (putF "done" (.ref t) (edF ba ed.tail (.ref la) (.ref a)))) b = some (.tup xs) := fun b xs z => upd_put a2.at_ z
    refine ⟨_, rfl, e, _, dx, _, .ref a, rfl, upd_same, T.cE, T.na_later, rfl, 1, rfl, _, rfl, ?_⟩
    refine last_dt (tk _ _ ha2) (DTs.mono tk _ _ hs2) fun H3 v sm3 hv => ?_
    refine ⟨_, rfl, e, _, dx, _, rfl, sm3 _ _ upd_same, T.cE, T.na_later, (by decide : 4 < 1000), ?_⟩
    have he3 := sm3 _ _ (upd_same (H := H2) (a := e) (o := .ins (He.ga K "Editor") dx (putF "done" (.ref t) (edF ba ed.tail (.ref la) (.ref a)))))
    have tk3 : ∀ b xs, H3 b = some (.tup xs) → upd H3 e (.ins (He.ga K "Editor") dx (putF "later" v (putF "done" (.ref t) (edF ba ed.tail (.ref la) (.ref a))))) b = some (.tup xs) := fun b xs z => upd_put he3 z
    have tk13 : ∀ b xs, H2 b = some (.tup xs) → upd H3 e (.ins (He.ga K "Editor") dx (putF "later" v (putF "done" (.ref t) (edF ba ed.tail (.ref la) (.ref a))))) b = some (.tup xs) := fun b xs z => tk3 _ _ (sm3 _ _ (tk _ _ z))
    refine k _ (.ref t) v ⟨ok1, upd_same, tk13 _ _ a2.v.b, DT.mono tk13 _ _ hl2, ?_⟩ fun b o hb hn => ?_
    · have := DT.mono tk3 _ _ hv
      rw [← List.map_dropLast] at this
      exact this
    · have nbe : b ≠ e := fun z => hn (by rw [z]; exact List.mem_cons_self)
      exact (upd_ne nbe).trans (sm3 _ _ ((upd_ne nbe).trans (smT _ _ hb)))
end
end Ob
/-! The editor made, copied; its trial. -/
namespace Ob
open PySem PySem.Spec PyProof.Rows L2 L2H
abbrev trF (e : Addr) (dv lv : V) : List (Str × V) := [("held_editor", .ref e), ("kept_done", dv), ("kept_later", lv)]
abbrev fresh (b : Bk) (tail : List Nat) : Ed := ⟨b, tail, [], []⟩
theorem fresh_ok {b : Bk} {tail : List Nat} (hb : b.ok) (ht : ∀ c ∈ tail, c ∈ sigs) (hn : tail.length ≤ 6) : EdOk 0 (fresh b tail) := ⟨hb, ht, hn, Nat.le_refl _, fun x hx => (by cases hx), fun x hx => (by cases hx)⟩
theorem Kp.but {H H' : Hp} {e : Addr} (k : Same H H') : Kp (PBut [e]) H H' := Kp.of k
theorem Kp.step {H H1 : Hp} {e : Addr} {o : HO} (k : Kp (PBut [e]) H H1) : Kp (PBut [e]) H (L2.upd H1 e o) := k.trans Kp.upd
section
variable {P : Program} {w : World} {K : PySem.W.Frag} {mg : Str → Option Value} {base : Heap}
theorem ok_ed_init (T : TxE P K mg) : FOk P w K mg base CX0 2 ("Editor", some "__init__") p_Editor_init (fun vs H Q _ => ∃ (e dx ba : Addr) (b : Bk) (tail : List Nat), vs = [.ref e, .ref ba, .str (S tail)] ∧ H e = some (.ins (He.ga K "Editor") dx []) ∧ H ba = some (.tup b.V) ∧ b.ok ∧ (∀ c ∈ tail, c ∈ sigs) ∧ tail.length ≤ 6 ∧
    ∀ H' dv lv, EdAt (He.ga K "Editor") 0 H' e (fresh b tail) dx ba dv lv → Kp (PBut [e]) H H' → Q .non H') := by
  refine T.e_init.ok sc_Editor_init (fun vs H Q E h => ?_) (fun cdv A outer s H vs Q E hr h => ?_)
  · obtain ⟨_, _, _, _, _, rfl, _⟩ := h
    rfl
  obtain ⟨e, dx, ba, b, tail, rfl, he, hb, ob, ot, on, k⟩ := h
  refine ⟨_, PSs.nox (pss_cons (ps_expr (pe_f T.G.S.d_need_book (ok_need_book T.G.S) hr (by decide) (pa_cons (pv 1) pa_nil)))
    (pss_cons (ps_expr (pe_f T.G.S.d_need_text (ok_need_text T.G.S) hr (by decide) (pa_cons (pv 2) pa_nil)))
    (pss_cons (ps_fld (pv 0) (pv 1) rfl) (pss_cons (ps_fld (pv 0) (pv 2) rfl) (pss_cons (ps_fld (pv 0) (pe_tup pa_nil) rfl) (pss_one (ps_fld (pv 0) (pe_tup pa_nil) rfl))))))), ?_⟩
  refine ⟨_, rfl, ba, b, rfl, hb, ob, fun H1 sm1 => ⟨_, rfl, tail, rfl, by omega, ot, fun H2 sm2 => ?_⟩⟩
  have he2 := (sm1.trans sm2) _ _ he
  have k2 : Kp (PBut [e]) H H2 := Kp.of (sm1.trans sm2)
  have hb2 := (sm1.trans sm2) _ _ hb
  clear sm1 sm2
  refine ⟨_, rfl, _, rfl, e, _, dx, _, rfl, he2, T.cE, T.na_own_book, (by decide : 0 < 1000), ?_⟩
  have e3 : upd H2 e (.ins (He.ga K "Editor") dx (putF "own_book" (.ref ba) [])) = upd H2 e (.ins (He.ga K "Editor") dx [("own_book", .ref ba)]) := rfl
  rw [e3]
  have he3 : upd H2 e (.ins (He.ga K "Editor") dx [("own_book", .ref ba)]) e = _ := upd_same
  have k3 := k2.step (o := .ins (He.ga K "Editor") dx [("own_book", .ref ba)])
  have hb3 : upd H2 e (.ins (He.ga K "Editor") dx [("own_book", .ref ba)]) ba = _ := upd_put he2 hb2
  revert he3 k3 hb3
  generalize upd H2 e _ = H3
  intro he3 k3 hb3
  refine ⟨_, rfl, _, rfl, e, _, dx, _, rfl, he3, T.cE, T.na_own_behind, (by decide : 1 < 1000), ?_⟩
  have e4 : upd H3 e (.ins (He.ga K "Editor") dx (putF "own_behind" (.str (S tail)) [("own_book", .ref ba)])) = upd H3 e (.ins (He.ga K "Editor") dx [("own_book", .ref ba), ("own_behind", .str (S tail))]) := rfl
  rw [e4]
  have he4 : upd H3 e (.ins (He.ga K "Editor") dx [("own_book", .ref ba), ("own_behind", .str (S tail))]) e = _ := upd_same
  have k4 := k3.step (o := .ins (He.ga K "Editor") dx [("own_book", .ref ba), ("own_behind", .str (S tail))])
  have hb4 : upd H3 e (.ins (He.ga K "Editor") dx [("own_book", .ref ba), ("own_behind", .str (S tail))]) ba = _ := upd_put he3 hb3
  revert he4 k4 hb4
  generalize upd H3 e _ = H4
  intro he4 k4 hb4
  refine ⟨Nat.zero_le _, fun l hl => ⟨_, rfl, e, _, dx, _, rfl, same_new hl _ _ he4, T.cE, T.na_done, (by decide : 2 < 1000), ?_⟩⟩
  have e5 : upd (upd H4 l (.tup [])) e (.ins (He.ga K "Editor") dx (putF "done" (.ref l) [("own_book", .ref ba), ("own_behind", .str (S tail))])) = upd (upd H4 l (.tup [])) e (.ins (He.ga K "Editor") dx [("own_book", .ref ba), ("own_behind", .str (S tail)), ("done", .ref l)]) := rfl
  rw [e5]
  have s4 : Same H4 (upd H4 l (.tup [])) := same_new hl
  have he5 : upd (upd H4 l (.tup [])) e (.ins (He.ga K "Editor") dx [("own_book", .ref ba), ("own_behind", .str (S tail)), ("done", .ref l)]) e = _ := upd_same
  have k5 := (k4.trans (Kp.of s4)).step (o := .ins (He.ga K "Editor") dx [("own_book", .ref ba), ("own_behind", .str (S tail)), ("done", .ref l)])
  have hb5 : upd (upd H4 l (.tup [])) e (.ins (He.ga K "Editor") dx [("own_book", .ref ba), ("own_behind", .str (S tail)), ("done", .ref l)]) ba = _ := upd_put (s4 _ _ he4) (s4 _ _ hb4)
  have hl5 : upd (upd H4 l (.tup [])) e (.ins (He.ga K "Editor") dx [("own_book", .ref ba), ("own_behind", .str (S tail)), ("done", .ref l)]) l = some (.tup []) := upd_put (s4 _ _ he4) upd_same
  revert he5 k5 hb5 hl5
  generalize upd (upd H4 l (.tup [])) e _ = H5
  intro he5 k5 hb5 hl5
  refine ⟨Nat.zero_le _, fun l2 hl2 => ⟨_, rfl, e, _, dx, _, rfl, same_new hl2 _ _ he5, T.cE, T.na_later, (by decide : 3 < 1000), ?_⟩⟩
  have s5 : Same H5 (upd H5 l2 (.tup [])) := same_new hl2
  refine k _ (.ref l) (.ref l2) ⟨fresh_ok ob ot on, upd_same, upd_put (s5 _ _ he5) (s5 _ _ hb5), DT.mk (upd_put (s5 _ _ he5) (s5 _ _ hl5)) DTs.nil, DT.mk (upd_put (s5 _ _ he5) upd_same) DTs.nil⟩ ((k5.trans (Kp.of s5)).step)
theorem same_made {H : Hp} {x dx C : Addr} (hx : H x = none) (hd : H dx = none) (hne : dx ≠ x) : Same H (upd (upd H dx (.own x)) x (.ins C dx [])) := (same_new hd).trans (same_new (by rw [upd_ne hne.symm]; exact hx))
theorem Kp.fresh {H H1 H2 : Hp} {x : Addr} (a : Same H H1) (hx : H x = none) (k : Kp (PBut [x]) H1 H2) : Same H H2 := fun b o hb => k _ _ (a _ _ hb) fun z => by rw [List.mem_singleton.mp z, hx] at hb; cases hb
theorem ok_ed_copy (T : TxE P K mg) : FOk P w K mg base CX0 4 ("Editor", some "copy") p_Editor_copy (fun vs H Q _ => ∃ (e : Addr) (n : Nat) (ed : Ed) (dx ba : Addr) (dv lv : V), vs = [.ref e] ∧ EdAt (He.ga K "Editor") n H e ed dx ba dv lv ∧
    ∀ H' f dx', EdAt (He.ga K "Editor") n H' f ed dx' ba dv lv → H f = none → Same H H' → Q (.ref f) H') := by
  refine T.m_copy.f.ok sc_Editor_copy (fun vs H Q E h => ?_) (fun cdv A outer s H vs Q E hr h => ?_)
  · obtain ⟨_, _, _, _, _, _, _, rfl, _⟩ := h
    rfl
  obtain ⟨e, n, ed, dx, ba, dv, lv, rfl, at_, k⟩ := h
  have nd := sc_Editor_copy.nd
  obtain ⟨g, hg⟩ := T.bE1
  refine ⟨_, PSs.nox (pss_cons (ps_st 1 nd (pe_makeK T.mkE (ok_ed_init T) (hr.mono (by decide)) rfl T.gE hg pass0 (pa_cons (pe_fld (pv 0) rfl) pa_nil) (pk_cons (pe_fld (pv 0) rfl) pk_nil)))
    (pss_cons (ps_fld (pv 1) (pe_fld (pv 0) rfl) rfl) (pss_cons (ps_fld (pv 1) (pe_fld (pv 0) rfl) rfl) (pss_one (ps_ret (pv 1)))))), ?_⟩
  refine ⟨_, rfl, e, _, dx, _, .ref ba, rfl, at_.at_, T.cE, T.na_own_book, rfl, _, rfl, e, _, dx, _, .str (S ed.tail), rfl, at_.at_, T.cE, T.na_own_behind, rfl, rfl, rfl, fun x dx' hx hdx hne => ?_⟩
  have sm := same_made (C := He.ga K "Editor") hx hdx hne
  refine ⟨x, dx', ba, ed.b, ed.tail, rfl, upd_same, sm _ _ at_.v.b, at_.ok.b, at_.ok.tl, at_.ok.tn, fun H1 dv1 lv1 at1 k1 => ⟨rfl, ?_⟩⟩
  have smA : Same H H1 := Kp.fresh sm hx k1
  have a2 := at_.same smA
  refine ⟨_, rfl, e, _, dx, _, dv, rfl, a2.at_, T.cE, T.na_done, rfl, _, rfl, x, _, dx', _, rfl, at1.at_, T.cE, T.na_done, (by decide : 4 < 1000), ?_⟩
  have hex : e ≠ x := fun z => by have := at_.at_; rw [z, hx] at this; cases this
  refine ⟨_, rfl, e, _, dx, _, lv, rfl, (upd_ne hex).trans a2.at_, T.cE, T.na_later, rfl, _, rfl, x, _, dx', _, rfl, upd_same, T.cE, T.na_later, (by decide : 4 < 1000), _, rfl, ?_⟩
  have tk : ∀ b xs, H b = some (.tup xs) → upd (upd H1 x (.ins (He.ga K "Editor") dx' (putF "done" dv (edF ba ed.tail dv1 lv1)))) x (.ins (He.ga K "Editor") dx' (putF "later" lv (putF "done" dv (edF ba ed.tail dv1 lv1)))) b = some (.tup xs) := fun b xs z => upd_put upd_same (upd_put at1.at_ (smA _ _ z))
  refine k _ x dx' ⟨at_.ok, upd_same, at_.v.mono tk⟩ hx (Kp.fresh (Same.refl H) hx ((Kp.of smA).step.step))
theorem ok_tr_init (T : TxE P K mg) : FOk P w K mg base CX0 1 ("Trial", some "__init__") p_Trial_init (fun vs H Q _ => ∃ (t dx e dxe : Addr) (fs : List (Str × V)) (dv lv : V), vs = [.ref t, .ref e] ∧ H t = some (.ins (He.ga K "Trial") dx []) ∧ H e = some (.ins (He.ga K "Editor") dxe fs) ∧ fs.lookup ("done" : Str) = some dv ∧ fs.lookup ("later" : Str) = some lv ∧ t ≠ e ∧
    ∀ H', H' t = some (.ins (He.ga K "Trial") dx (trF e dv lv)) → Kp (PBut [t]) H H' → Q .non H') := by
  refine T.t_init.f.ok sc_Trial_init (fun vs H Q E h => ?_) (fun cdv A outer s H vs Q E hr h => ?_)
  · obtain ⟨_, _, _, _, _, _, _, rfl, _⟩ := h
    rfl
  obtain ⟨t, dx, e, dxe, fs, dv, lv, rfl, ht, he, hd, hl, hne, k⟩ := h
  refine ⟨_, PSs.nox (pss_cons (ps_fld (pv 0) (pv 1) rfl) (pss_cons (ps_fld (pv 0) (pe_fld (pv 1) rfl) rfl) (pss_one (ps_fld (pv 0) (pe_fld (pv 1) rfl) rfl)))), ?_⟩
  refine ⟨_, rfl, _, rfl, t, _, dx, _, rfl, ht, T.cT, T.na_held_editor, (by decide : 0 < 1000), ?_⟩
  refine ⟨_, rfl, e, _, dxe, _, dv, rfl, (upd_ne hne.symm).trans he, T.cE, T.na_done, hd, _, rfl, t, _, dx, _, rfl, upd_same, T.cT, T.na_kept_done, (by decide : 1 < 1000), ?_⟩
  refine ⟨_, rfl, e, _, dxe, _, lv, rfl, (upd_ne hne.symm).trans ((upd_ne hne.symm).trans he), T.cE, T.na_later, hl, _, rfl, t, _, dx, _, rfl, upd_same, T.cT, T.na_kept_later, (by decide : 2 < 1000), ?_⟩
  exact k _ upd_same ((Kp.refl H).step.step.step)
theorem ok_ed_trial (T : TxE P K mg) : FOk P w K mg base CX0 3 ("Editor", some "trial") p_Editor_trial (fun vs H Q _ => ∃ (e dx : Addr) (fs : List (Str × V)) (dv lv : V), vs = [.ref e] ∧ H e = some (.ins (He.ga K "Editor") dx fs) ∧ fs.lookup ("done" : Str) = some dv ∧ fs.lookup ("later" : Str) = some lv ∧
    ∀ H' t dxt, H' t = some (.ins (He.ga K "Trial") dxt (trF e dv lv)) → H t = none → Same H H' → Q (.ref t) H') := by
  refine T.m_trial.f.ok sc_Editor_trial (fun vs H Q E h => ?_) (fun cdv A outer s H vs Q E hr h => ?_)
  · obtain ⟨_, _, _, _, _, rfl, _⟩ := h
    rfl
  obtain ⟨e, dx, fs, dv, lv, rfl, he, hd, hl, k⟩ := h
  refine ⟨_, PSs.nox (pss_one (ps_ret (pe_make T.mkT (ok_tr_init T) (hr.mono (by decide)) rfl T.gT T.t_init.b .nil pass0 (pa_cons (pv 0) pa_nil)))), ?_⟩
  refine ⟨_, rfl, fun t dxt ht hdt hne => ?_⟩
  have sm := same_made (C := He.ga K "Trial") ht hdt hne
  have hte : t ≠ e := fun z => by rw [← z, ht] at he; cases he
  exact ⟨t, dxt, e, dx, fs, dv, lv, rfl, upd_same, sm _ _ he, hd, hl, hte, fun H1 h1 k1 => ⟨rfl, k _ t dxt h1 ht (Kp.fresh sm ht k1)⟩⟩
/-- __enter__ -/
abbrev spEnter (K : PySem.W.Frag) : Sp := fun vs H Q _ => ∃ (t dx e dxe : Addr) (fs : List (Str × V)) (dv lv d0 l0 : V), vs = [.ref t] ∧ H t = some (.ins (He.ga K "Trial") dx (trF e d0 l0)) ∧ H e = some (.ins (He.ga K "Editor") dxe fs) ∧ fs.lookup ("done" : Str) = some dv ∧ fs.lookup ("later" : Str) = some lv ∧ t ≠ e ∧
    ∀ H', H' t = some (.ins (He.ga K "Trial") dx (trF e dv lv)) → Kp (PBut [t]) H H' → Q (.ref e) H'
theorem ok_tr_enter (T : TxE P K mg) : FOk P w K mg base CX0 1 ("Trial", some "__enter__") p_Trial_enter (spEnter K) := by
  refine T.t_enter.f.ok sc_Trial_enter (fun vs H Q E h => ?_) (fun cdv A outer s H vs Q E hr h => ?_)
  · obtain ⟨_, _, _, _, _, _, _, _, _, rfl, _⟩ := h
    rfl
  obtain ⟨t, dx, e, dxe, fs, dv, lv, d0, l0, rfl, ht, he, hd, hl, hne, k⟩ := h
  refine ⟨_, PSs.nox (pss_cons (ps_fld (pv 0) (pe_fld (pe_fld (pv 0) rfl) rfl) rfl) (pss_cons (ps_fld (pv 0) (pe_fld (pe_fld (pv 0) rfl) rfl) rfl) (pss_one (ps_ret (pe_fld (pv 0) rfl))))), ?_⟩
  refine ⟨_, rfl, t, _, dx, _, .ref e, rfl, ht, T.cT, T.na_held_editor, rfl, e, _, dxe, _, dv, rfl, he, T.cE, T.na_done, hd, _, rfl, t, _, dx, _, rfl, ht, T.cT, T.na_kept_done, (by decide : 3 < 1000), ?_⟩
  refine ⟨_, rfl, t, _, dx, _, .ref e, rfl, upd_same, T.cT, T.na_held_editor, rfl, e, _, dxe, _, lv, rfl, (upd_ne hne.symm).trans he, T.cE, T.na_later, hl, _, rfl, t, _, dx, _, rfl, upd_same, T.cT, T.na_kept_later, (by decide : 3 < 1000), ?_⟩
  refine ⟨_, rfl, t, _, dx, _, .ref e, rfl, upd_same, T.cT, T.na_held_editor, rfl, ?_⟩
  exact k _ upd_same ((Kp.refl H).step.step)
/-- __exit__ -/
abbrev spExit (K : PySem.W.Frag) : Sp := fun vs H Q _ => ∃ (t dx e dxe ba : Addr) (tail : List Nat) (dv lv d1 l1 v1 v2 v3 : V), vs = [.ref t, v1, v2, v3] ∧ H t = some (.ins (He.ga K "Trial") dx (trF e dv lv)) ∧ H e = some (.ins (He.ga K "Editor") dxe (edF ba tail d1 l1)) ∧ t ≠ e ∧
    ∀ H', H' e = some (.ins (He.ga K "Editor") dxe (edF ba tail dv lv)) → Kp (PBut [e]) H H' → Q .non H'
theorem ok_tr_exit (T : TxE P K mg) : FVk P w K mg base CX0 1 ("Trial", some "__exit__") p_Trial_exit (spExit K) := by
  refine okV T.t_exit.f sc_Trial_exit (fun vs H Q E h => ?_) (fun cdv A outer s H vs Q E hr h => ?_)
  · obtain ⟨_, _, _, _, _, _, _, _, _, _, _, _, _, rfl, _⟩ := h
    rfl
  obtain ⟨t, dx, e, dxe, ba, tail, dv, lv, d1, l1, v1, v2, v3, rfl, ht, he, hne, k⟩ := h
  refine ⟨_, (pss_cons (ps_fld (pe_fld (pv 0) rfl) (pe_fld (pv 0) rfl) rfl) (pss_one (ps_fld (pe_fld (pv 0) rfl) (pe_fld (pv 0) rfl) rfl))), ?_⟩
  refine ⟨_, rfl, t, _, dx, _, dv, rfl, ht, T.cT, T.na_kept_done, rfl, _, rfl, t, _, dx, _, .ref e, rfl, ht, T.cT, T.na_held_editor, rfl, e, _, dxe, _, rfl, he, T.cE, T.na_done, (by decide : 4 < 1000), ?_⟩
  refine ⟨_, rfl, t, _, dx, _, lv, rfl, (upd_ne hne).trans ht, T.cT, T.na_kept_later, rfl, _, rfl, t, _, dx, _, .ref e, rfl, (upd_ne hne).trans ht, T.cT, T.na_held_editor, rfl, e, _, dxe, _, rfl, upd_same, T.cE, T.na_later, (by decide : 4 < 1000), ?_⟩
  exact k _ upd_same ((Kp.refl H).step.step)
end
end Ob
/-! under, _law_said: defs that call what they get. -/
namespace Ob
open PySem PySem.Spec PyProof.Rows L2 L2H
section
variable {P : Program} {w : World} {K : PySem.W.Frag} {mg : Str → Option Value} {base : Heap} {x qual : Str} {params : Arguments} {body : List Stmt} {scope : Scope} {dvs : List V} {kws : List (Str × V)} {f : Addr} {fd : FuncData}
/-- THE RULE for a def whose last argument is called -/
theorem okG {CX CXf : CXT} {N ps : List Str} {k j n : Nat} {spG : Addr → Sp → Sp} (F : FunD K x qual params body scope dvs kws f fd) (bB : Binds K fd ps []) (S : FnScope N ps scope) (len : ∀ g spF vs H Q E, spG g spF vs H Q E → vs.length = ps.length)
    (hbody : ∀ (cdv : Value) (A : Around) (outer : List Env) (s : Shared) (H : Hp) (vs : List V) (g : Addr) (spF : Sp) (Q : VK) (E : XK), Room k (A.deeper (envOfC qual scope s.heap.objs.size f cdv)) → A.guards = some [] → CbRun P w K mg base CXf j outer s H g n spF → spG g spF (vs ++ [.ref g]) H Q E →
      ∃ t, PSs (cxOf CX P w K mg base N qual scope f cdv A outer s H E) body t ∧ t { nx := fun _ H' => Q .non H', rt := Q } (L2.start N (vs ++ [.ref g])) H) : FnG P w K mg base CX CXf (k + 1) j f n spG := by
  obtain ⟨_, _, _, _, _, _, _, cdv, _, _, rfl, lk, hcd, _⟩ := F.ex
  intro A outer s H us0 vs0 g spF Q E hr hgd e0 r0 cb hsp
  have r : Vals (vs0 ++ [.ref g]) (us0 ++ [.ref g]) := r0.append (.cons (show RelV (.ref g) (Value.ref g) from rfl) .nil)
  have hl := len _ _ _ _ _ _ hsp
  have bt := bB s (us0 ++ [.ref g]) (e0.mod.kin.keeps fun b o e => (e0.bs b o e).1) (by rw [List.append_nil, ← r.length]; exact hl)
  rw [List.append_nil] at bt
  obtain ⟨t, tb, go⟩ := hbody cdv A outer s H vs0 g spF Q E (hr.deeper _) hgd cb hsp
  exact def_run true lk hcd S hr.depth e0 bt (fun s1 x => inv_start S hr.hd e0 hl r x) tb go
end
structure TxU (P : Program) (K : PySem.W.Frag) (mg : Str → Option Value) : Prop where
  E : TxE P K mg
  d_under : Df K mg "under" s_under p_under
  wc : WithC K (He.ga K "Trial") (He.fAd K ("Trial", some "__enter__")) (He.fAd K ("Trial", some "__exit__"))
/-- what is left to do behind the block: done and later stand as they were kept -/
def leaveTo (K : PySem.W.Frag) (t dx e dxe ba : Addr) (tail : List Nat) (dv lv : V) (H : Hp) (Q : Hp → Prop) : Prop :=
  H t = some (.ins (He.ga K "Trial") dx (trF e dv lv)) ∧ (∃ d1 l1, H e = some (.ins (He.ga K "Editor") dxe (edF ba tail d1 l1))) ∧
    ∀ H', H' e = some (.ins (He.ga K "Editor") dxe (edF ba tail dv lv)) → Kp (PBut [e]) H H' → Q H'
theorem leave_n {K : PySem.W.Frag} {t dx e dxe ba : Addr} {tail : List Nat} {dv lv : V} {H : Hp} {Q : Hp → Prop} (hte : t ≠ e) (h : leaveTo K t dx e dxe ba tail dv lv H Q) : wOut (spExit K) t H Q := by
  obtain ⟨h1, ⟨d1, l1, h2⟩, h3⟩ := h
  exact ⟨t, dx, e, dxe, ba, tail, dv, lv, d1, l1, _, _, _, rfl, h1, h2, hte, fun H' a b => ⟨rfl, h3 H' a b⟩⟩
theorem leave_x {K : PySem.W.Frag} {t dx e dxe ba : Addr} {tail : List Nat} {dv lv kv : V} {c : Value} {H : Hp} {Q : Hp → Prop} (hte : t ≠ e) (hc : RelV kv c) (h : leaveTo K t dx e dxe ba tail dv lv H Q) : wOutE (spExit K) t c H Q := by
  obtain ⟨h1, ⟨d1, l1, h2⟩, h3⟩ := h
  exact ⟨kv, hc, fun a tr ha => ⟨t, dx, e, dxe, ba, tail, dv, lv, d1, l1, _, _, _, rfl, h1, h2, hte, fun H' a b => ⟨rfl, h3 H' a b⟩⟩⟩
abbrev spUnder (K : PySem.W.Frag) (g : Addr) (spF : Sp) : Sp := fun vs H Q E => ∃ (t dx e dxe ba : Addr) (tail : List Nat) (dv lv d0 l0 : V), vs = [.ref t, .ref g] ∧ H t = some (.ins (He.ga K "Trial") dx (trF e d0 l0)) ∧ H e = some (.ins (He.ga K "Editor") dxe (edF ba tail dv lv)) ∧ t ≠ e ∧
    ∀ H1, H1 t = some (.ins (He.ga K "Trial") dx (trF e dv lv)) → Kp (PBut [t]) H H1 → spF [.ref e] H1 (fun v H2 => wOut (spExit K) t H2 fun H3 => Q v H3)
      (fun c d H2 => wOutE (spExit K) t c H2 fun H3 => E c d H3)
section
variable {P : Program} {w : World} {K : PySem.W.Frag} {mg : Str → Option Value} {base : Heap}
theorem ok_under (T : TxU P K mg) (j : Nat) : FnG P w K mg base (L2.CX P w) (L2.CX P w) (j + 2) j (He.fAd K ("under", none)) 1 (spUnder K) := by
  refine okG T.d_under.f T.d_under.b sc_under (fun g spF vs H Q E h => ?_) (fun cdv A outer s H vs g spF Q E hr hgd cb h => ?_)
  · obtain ⟨_, _, _, _, _, _, _, _, _, _, rfl, _⟩ := h
    rfl
  obtain ⟨t, dx, e, dxe, ba, tail, dv, lv, d0, l0, evs, ht, he, hte, k⟩ := h
  have nd := sc_under.nd
  refine ⟨_, pss_one (ps_with rfl rfl rfl nd (i := 2) rfl (.inl rfl) (takes_of rfl rfl rfl rfl) (pv 0) T.wc (ok_tr_enter T.E) T.E.t_enter.b (hr.mono (by omega)) (ok_tr_exit T.E) T.E.t_exit.b (hr.mono (by omega))
    (fun W pn xe tk => pss_one (ps_ret (pe_cb (i := 1) (E := WE W) cb rfl (hr.mono (by omega)) hgd (fun σ => passAt tk σ) rfl (.inl rfl) (pa_cons (pv 2) pa_nil))))), ?_⟩
  rw [evs]
  refine ⟨_, rfl, t, dx, _, rfl, ht, t, dx, e, dxe, _, dv, lv, d0, l0, rfl, ht, he, rfl, rfl, hte, fun H1 h1 k1 => ?_⟩
  have hs := k H1 h1 k1
  exact ⟨rfl, _, rfl, rfl, hs⟩
end
end Ob
/-! _law_said -/
namespace Ob
open PySem PySem.Spec PyProof.Rows L2 L2H
/-- an exception class of the text as it may be caught and looked at -/
structure XcF (K : PySem.W.Frag) (D : Addr) (fld : Str) : Prop where
  xc : ExcC K D
  xf : XfC K D
  no : PySem.W.findIn K (.ref D) fld = some none
  any : PySem.W.exmAny K (.ref D) [.ref (He.ga K "CloserError"), .ref (He.ga K "TooMany")] = some true
structure TxX (P : Program) (K : PySem.W.Frag) (mg : Str → Option Value) : Prop where
  U : TxU P K mg
  d_said : Df K mg "_law_said" s_law_said p_law_said
  g : ∀ x ∈ (["CloserError", "TooMany", "BadText", "BadKeys", "BadBook", "NotMeant", "BadPage", "BadManner", "BadNumber"] : List Str), mg x = some (.ref (He.ga K x))
  ck : XcF K (He.ga K "BadKeys") "place"
  cn : XcF K (He.ga K "BadNumber") "value"
  kk : ∀ x ∈ (["TooMany", "BadText", "BadKeys", "BadBook", "NotMeant", "BadPage", "BadManner", "BadNumber"] : List Str), PySem.W.kitOne K (.ref (He.ga K "BadKeys")) (.ref (He.ga K x)) = some (decide (x = "BadKeys"))
  kn : ∀ x ∈ (["TooMany", "BadText", "BadKeys", "BadBook", "NotMeant", "BadPage", "BadManner", "BadNumber"] : List Str), PySem.W.kitOne K (.ref (He.ga K "BadNumber")) (.ref (He.ga K x)) = some (decide (x = "BadNumber"))
  z : PySem.W.exmAny K (.type "ZeroDivisionError") [.ref (He.ga K "CloserError"), .ref (He.ga K "TooMany")] = some false
  k : PySem.W.exmAny K (.type "KeyError") [.ref (He.ga K "CloserError"), .ref (He.ga K "TooMany")] = some false
theorem said_pick {K : PySem.W.Frag} {k : Nat} {fld : Str} {xs : List V} {ws : List Str} {c0 c1 c3 c5 c6 c7 : Option V} {sl a D dd : Addr} {fs : List (Str × V)} {v : V} {H : Hp} {Q : VK} (hs : H sl = some (.lst xs)) (hl : xs.length = ws.length) (hw : ws.length ≤ 10)
    (hx : ∀ i x w, xs[i]? = some x → ws[i]? = some w → ∃ t, x = .ref t ∧ H t = some (.tup [.str w, .bl (decide (i = k))])) (ha : H a = some (ExO a (.ref D) (some dd))) (hd : H dd = some (.xd fs)) (hf : ∀ w, ws[k]? = some w → XfC K D ∧ PySem.W.findIn K (.ref D) fld = some none ∧ fs.lookup fld = some v)
    (q : ∀ H' l acc, Same H H' → H' l = some (.lst acc) → (match ws[k]? with | some w => ∃ t, acc = [.ref t] ∧ H' t = some (.tup [.str w, v]) | none => acc = []) → Q (.ref l) H') :
    tLc (iList K (tVar 4)) (gTup K 2 (gCons (gName 6) (gCons (gName 7) gNil))) (tB (tVar 7)) (tTup (tCons (tVar 6) (tCons (tXfT K fld (tVar 2)) tNil))) [6, 7] [c0, c1, some (.ref a), c3, some (.ref sl), c5, c6, c7] H Q := by
  refine ⟨_, rfl, sl, rfl, ⟨xs, .inl (.inl hs)⟩, fun l hD => ?_⟩
  have sm0 : Same H (upd H l (.lst [])) := same_new hD
  refine lc_acc (walk_list (xs := xs)) PT1 (fun i acc H' => match (if k < i then ws[k]? else none) with | some w => ∃ t, acc = [V.ref t] ∧ H' t = some (.tup [.str w, v]) | none => acc = []) hD (by simp) (fun i H' acc hi kp e r => .inl (.inl (kp _ _ hs True.intro))) (fun _ _ _ _ => True.intro) (fun i acc H' r => ?_) (fun i acc H' a0 a1 e r => ?_) ?_ ?_
  · cases e : (if k < i then ws[k]? else none) with
    | none => rw [e] at r; rw [show acc = [] from r]; simp
    | some w =>
      rw [e] at r
      obtain ⟨t, e1, _⟩ := r
      rw [e1, sizeLine_eq]
      simp
  · cases e9 : (if k < i then ws[k]? else none) with
    | none => rw [e9] at r; exact r
    | some w =>
      rw [e9] at r
      obtain ⟨t, e1, e2⟩ := r
      exact ⟨t, e1, (upd_ne (fun z => by rw [z, e] at e2; cases e2)).trans e2⟩
  · intro i x H6 H6' acc Post Skip hi kp e r hp hskip hy
    obtain ⟨rfl, hxi⟩ := hy
    have hil := (List.getElem?_eq_some_iff.mp hxi).1
    obtain ⟨w, hwi⟩ : ∃ w, ws[i]? = some w := ⟨ws[i]'(by omega), List.getElem?_eq_getElem (by omega)⟩
    obtain ⟨t, rfl, ht⟩ := hx i x w hxi hwi
    have ht6 := kp _ _ ht True.intro
    refine ⟨t, _, rfl, .inl (.inl ht6), rfl, _, _, rfl, _, [], rfl, rfl, rfl, _, rfl, _, rfl, ?_⟩
    by_cases hik : i = k
    · subst hik
      refine if_t (by simp) ?_
      obtain ⟨h1, h2, h3⟩ := hf w hwi
      have r0 : acc = [] := by
        rw [if_neg (Nat.lt_irrefl _)] at r
        exact r
      subst r0
      refine ⟨_, rfl, _, rfl, a, D, dd, fs, v, rfl, h1, h2, kp _ _ ha True.intro, kp _ _ hd True.intro, h3, (show 2 ≤ sizeLine by decide), fun t2 ht2 => hp _ _ (Kp.of (same_new ht2)) ?_⟩
      rw [if_pos (Nat.lt_succ_self _), hwi]
      exact ⟨t2, rfl, upd_same⟩
    · refine if_f (by simp [hik]) (hskip _ (Kp.refl _) ?_)
      have : (if k < i + 1 then ws[k]? else none) = (if k < i then ws[k]? else none) := by
        by_cases h : k < i
        · rw [if_pos h, if_pos (by omega)]
        · rw [if_neg h, if_neg (by omega)]
      rw [this]
      exact r
  · intro H7 acc kp e r
    refine q H7 l acc kp.same e ?_
    have : (if k < xs.length then ws[k]? else none) = ws[k]? := by
      by_cases h : k < xs.length
      · rw [if_pos h]
      · rw [if_neg h, List.getElem?_eq_none (by omega)]
    rw [this] at r
    exact r
def SaidX (K : PySem.W.Frag) (c : Value) (d : Option Addr) (H : Hp) (Q : VK) (E : XK) : Prop :=
  (c = .ref (He.ga K "BadKeys") ∧ (∃ dd, d = some dd ∧ H dd = some (.xd [("place", .int 0)])) ∧ ∀ H' t, Same H H' → H' t = some (.tup [.str "keys", .int 0]) → Q (.ref t) H') ∨
  (c = .ref (He.ga K "BadNumber") ∧ (∃ dd, d = some dd ∧ H dd = some (.xd [("value", .int (-1))])) ∧ ∀ H' t, Same H H' → H' t = some (.tup [.str "number", .int (-1)]) → Q (.ref t) H') ∨
  ((c = .type "ZeroDivisionError" ∨ c = .type "KeyError") ∧ E c d H)
abbrev spSaid (K : PySem.W.Frag) (g : Addr) (spF : Sp) : Sp := fun vs H Q E => vs = [.ref g] ∧ ∀ H1 (Q1 : VK) (E1 : XK), Same H H1 → (∀ v H2, (∀ l H3, Same H2 H3 → H3 l = some (.lst [v]) → Q (.ref l) H3) → Q1 v H2) → (∀ c d H2, SaidX K c d H2 Q E → E1 c d H2) → spF [] H1 Q1 E1
section
variable {P : Program} {w : World} {K : PySem.W.Frag} {mg : Str → Option Value} {base : Heap}
theorem ok_said (T : TxX P K mg) (j : Nat) : FnG P w K mg base (L2.CX P w) (L2.CX P w) (j + 2) j (He.fAd K ("_law_said", none)) 0 (spSaid K) := by
  refine okG T.d_said.f T.d_said.b sc_law_said (fun g spF vs H Q E h => ?_) (fun cdv A outer s H vs g spF Q E hr hgd cb h => ?_)
  · obtain ⟨rfl, _⟩ := h
    rfl
  obtain ⟨evs, k⟩ := h
  have nd := sc_law_said.nd
  have U := T.U.E.G.S
  have gN : ∀ {x : Str} (hx : x ∈ (["CloserError", "TooMany", "BadText", "BadKeys", "BadBook", "NotMeant", "BadPage", "BadManner", "BadNumber"] : List Str)), mg x = some (.ref (He.ga K x)) := fun hx => T.g _ hx
  refine ⟨_, pss_cons (ps_asg (pe_tup (pa_cons (pe_lst pa_nil) (pa_cons pe_non pa_nil))) (pg_tup rfl (pgs_cons (pg_nm 1 nd) (pgs_cons (pg_nm 2 nd) pgs_nil))))
    (pss_cons (ps_try2_as rfl rfl rfl nd (i := 3) rfl rfl (n1 := ⟨rfl, by decide, .inl (gN (x := "CloserError") (by decide))⟩) (n2 := ⟨rfl, by decide, .inl (gN (x := "TooMany") (by decide))⟩) (takes_of rfl rfl rfl rfl)
      (fun W pn xe tk _ => pss_one (ps_st 1 nd (pe_lst (pa_cons (pe_cb0 (i := 0) (E := WE W) cb rfl (hr.mono (by omega)) hgd (fun σ => passAt tk σ) rfl (.inl rfl)) pa_nil))))
      (fun a cls d pn => pss_one (ps_st 2 nd (pv 3))))
    (pss_cons (ps_if (pt_cmpR op_isN (pv 2) pe_non (nomark _)) (pss_one (ps_ret (pv 1))) pss_nil)
    (pss_cons (ps_st 4 nd (pe_lst (pa_cons (pe_tup (pa_cons pe_str (pa_cons (pe_callB call_isX rfl U.n_isinstance PyProof.Rows.Boot.«isinstance» (pa_cons (pv 2) (pa_cons (pe_glob rfl (gN (x := "BadText") (by decide)) (v := .ref (He.ga K "BadText")) rfl) pa_nil))) pa_nil))) (pa_cons (pe_tup (pa_cons pe_str (pa_cons (pe_callB call_isX rfl U.n_isinstance PyProof.Rows.Boot.«isinstance» (pa_cons (pv 2) (pa_cons (pe_glob rfl (gN (x := "BadKeys") (by decide)) (v := .ref (He.ga K "BadKeys")) rfl) pa_nil))) pa_nil))) pa_nil))))
    (pss_cons (ps_st 4 nd (pe_op op_cat (pv 4) (pe_lst (pa_cons (pe_tup (pa_cons pe_str (pa_cons (pe_callB call_isX rfl U.n_isinstance PyProof.Rows.Boot.«isinstance» (pa_cons (pv 2) (pa_cons (pe_glob rfl (gN (x := "BadBook") (by decide)) (v := .ref (He.ga K "BadBook")) rfl) pa_nil))) pa_nil))) (pa_cons (pe_tup (pa_cons pe_str (pa_cons (pe_callB call_isX rfl U.n_isinstance PyProof.Rows.Boot.«isinstance» (pa_cons (pv 2) (pa_cons (pe_glob rfl (gN (x := "NotMeant") (by decide)) (v := .ref (He.ga K "NotMeant")) rfl) pa_nil))) pa_nil))) pa_nil)))))
    (pss_cons (ps_setLc (i := 5) (own := [("_law_word", 6), ("_law_is_so", 7)]) (g := gTup K 2 (gCons (gName 6) (gCons (gName 7) gNil))) (tt := tB (tVar 7)) (te := tTup (tCons (tVar 6) (tCons (tXfT K "place" (tVar 2)) tNil))) rfl nd rfl rfl rfl (pi_list (pv 4)) (blkOk_by (own := [("_law_word", 6), ("_law_is_so", 7)]) (N := N_law_said) (sc := defScope s_law_said) (by decide +kernel))
      (fun _ _ _ _ _ => pg_tup rfl (pgs_cons (pg_name (i := 6) nd rfl (Or.inl rfl)) (pgs_cons (pg_name (i := 7) nd rfl (Or.inl rfl)) pgs_nil))) (fun _ _ _ _ _ => pts_one (pt_val (pv 7) (fun _ => rfl))) (fun _ _ _ _ _ => pe_tup (pa_cons (pv 6) (pa_cons (pe_xfT (pv 2)) pa_nil))))
    (pss_cons (ps_st 4 nd (pe_lst (pa_cons (pe_tup (pa_cons pe_str (pa_cons (pe_callB call_isX rfl U.n_isinstance PyProof.Rows.Boot.«isinstance» (pa_cons (pv 2) (pa_cons (pe_glob rfl (gN (x := "BadPage") (by decide)) (v := .ref (He.ga K "BadPage")) rfl) pa_nil))) pa_nil))) (pa_cons (pe_tup (pa_cons pe_str (pa_cons (pe_callB call_isX rfl U.n_isinstance PyProof.Rows.Boot.«isinstance» (pa_cons (pv 2) (pa_cons (pe_glob rfl (gN (x := "BadManner") (by decide)) (v := .ref (He.ga K "BadManner")) rfl) pa_nil))) pa_nil))) pa_nil))))
    (pss_cons (ps_expr (pe_bm PySem.F.plainAttrs_list PySem.F.slot_list_append PySem.F.type_list_append mt_append (pv 4) (pa_cons (pe_tup (pa_cons pe_str (pa_cons (pe_callB call_isX rfl U.n_isinstance PyProof.Rows.Boot.«isinstance» (pa_cons (pv 2) (pa_cons (pe_glob rfl (gN (x := "BadNumber") (by decide)) (v := .ref (He.ga K "BadNumber")) rfl) pa_nil))) pa_nil))) pa_nil)))
    (pss_cons (ps_st 5 nd (pe_op op_cat (pv 5) (pe_lc (own := [("_law_word", 6), ("_law_is_so", 7)]) (g := gTup K 2 (gCons (gName 6) (gCons (gName 7) gNil))) (tt := tB (tVar 7)) (te := tTup (tCons (tVar 6) (tCons (tXfT K "value" (tVar 2)) tNil))) rfl nd (pi_list (pv 4)) (blkOk_by (own := [("_law_word", 6), ("_law_is_so", 7)]) (N := N_law_said) (sc := defScope s_law_said) (by decide +kernel))
      (fun _ _ _ _ _ => pg_tup rfl (pgs_cons (pg_name (i := 6) nd rfl (Or.inl rfl)) (pgs_cons (pg_name (i := 7) nd rfl (Or.inl rfl)) pgs_nil))) (fun _ _ _ _ _ => pts_one (pt_val (pv 7) (fun _ => rfl))) (fun _ _ _ _ _ => pe_tup (pa_cons (pv 6) (pa_cons (pe_xfT (pv 2)) pa_nil))))))
    (pss_cons (ps_if (pt_val (pe_callB call_isX rfl U.n_isinstance PyProof.Rows.Boot.«isinstance» (pa_cons (pv 2) (pa_cons (pe_glob rfl (gN (x := "TooMany") (by decide)) (v := .ref (He.ga K "TooMany")) rfl) pa_nil))) (fun _ => rfl)) pss_never pss_nil)
    (pss_one (ps_ret (pe_ifExp (pt_cmpR op_eq (pe_callB call_len rfl U.n_len boot_len (pa_cons (pv 5) pa_nil)) pe_int (nomark _)) (pe_ix ix_list (pv 5) pe_int (fun _ _ => rfl)) (pe_tup (pa_cons pe_str pa_nil)))))))))))))), ?_⟩
  rw [evs]
  refine ⟨Nat.zero_le _, fun l hl => ⟨(show 2 ≤ sizeLine by decide), fun t ht => ⟨t, _, rfl, .inl (.inl upd_same), rfl, _, _, rfl, _, [], rfl, rfl, ?_⟩⟩⟩
  have sm1 : Same H (upd (upd H l (.lst [])) t (.tup [.ref l, .non])) := (same_new hl).trans (same_new ht)
  refine ⟨rfl, k _ _ _ sm1 (fun v H2 hv => ⟨(show 1 ≤ sizeLine by decide), fun l2 hl2 => ⟨_, rfl, rfl, _, rfl, if_t (by simp) ⟨_, rfl, hv l2 _ (same_new hl2) upd_same⟩⟩⟩) (fun c d H2 hx => ?_)⟩
  rcases hx with ⟨rfl, ⟨dd, rfl, hd2⟩, kq⟩ | ⟨rfl, ⟨dd, rfl, hd2⟩, kq⟩ | ⟨hc, hE⟩
  · refine ⟨true, T.ck.any, fun _ a ha => ?_, fun z => (by cases z)⟩
    have he : upd H2 a (ExO a (.ref (He.ga K "BadKeys")) (some dd)) a = some (ExO a (.ref (He.ga K "BadKeys")) (some dd)) := upd_same
    have hdd : upd H2 a (ExO a (.ref (He.ga K "BadKeys")) (some dd)) dd = some (.xd [("place", .int 0)]) := (upd_ne (fun z => by rw [z, ha] at hd2; cases hd2)).trans hd2
    have sm3 : Same H2 (upd H2 a (ExO a (.ref (He.ga K "BadKeys")) (some dd))) := same_new ha
    revert he hdd sm3
    generalize upd H2 a _ = H3
    intro he hdd sm3
    refine ⟨_, rfl, _, rfl, rfl, _, rfl, if_f (by simp) ?_⟩
    refine ⟨_, rfl, a, _, dd, _, .ref (He.ga K "BadText"), _, _, rfl, T.ck.xc, he, hdd, fun u r => r, T.kk "BadText" (by decide), (show 2 ≤ sizeLine by decide), fun t1 h1 => ?_⟩
    have s1 := same_new (o := .tup [.str "text", .bl (decide (("BadText" : Str) = "BadKeys"))]) h1
    refine ⟨_, rfl, a, _, dd, _, .ref (He.ga K "BadKeys"), _, _, rfl, T.ck.xc, (s1 _ _ he), (s1 _ _ hdd), fun u r => r, T.kk "BadKeys" (by decide), (show 2 ≤ sizeLine by decide), fun t2 h2 => ⟨(show 2 ≤ sizeLine by decide), fun l3 h3 => ?_⟩⟩
    have s2 := s1.trans (same_new (o := .tup [.str "keys", .bl (decide (("BadKeys" : Str) = "BadKeys"))]) h2)
    have s3 := s2.trans (same_new (o := .lst [.ref t1, .ref t2]) h3)
    refine ⟨_, rfl, _, rfl, a, _, dd, _, .ref (He.ga K "BadBook"), _, _, rfl, T.ck.xc, (s3 _ _ he), (s3 _ _ hdd), fun u r => r, T.kk "BadBook" (by decide), (show 2 ≤ sizeLine by decide), fun t4 h4 => ?_⟩
    have s4 := s3.trans (same_new (o := .tup [.str "book", .bl (decide (("BadBook" : Str) = "BadKeys"))]) h4)
    refine ⟨_, rfl, a, _, dd, _, .ref (He.ga K "NotMeant"), _, _, rfl, T.ck.xc, (s4 _ _ he), (s4 _ _ hdd), fun u r => r, T.kk "NotMeant" (by decide), (show 2 ≤ sizeLine by decide), fun t5 h5 => ⟨(show 2 ≤ sizeLine by decide), fun l6 h6 => ?_⟩⟩
    have s5 := s4.trans (same_new (o := .tup [.str "meant", .bl (decide (("NotMeant" : Str) = "BadKeys"))]) h5)
    have s6 := s5.trans (same_new (o := .lst [.ref t4, .ref t5]) h6)
    have hl3 := (same_new (o := .lst [.ref t4, .ref t5]) h6) _ _ ((same_new (o := .tup [.str "meant", .bl (decide (("NotMeant" : Str) = "BadKeys"))]) h5) _ _ ((same_new (o := .tup [.str "book", .bl (decide (("BadBook" : Str) = "BadKeys"))]) h4) _ _ (upd_same (a := l3))))
    refine ⟨l3, l6, _, _, rfl, rfl, hl3, upd_same, (show 4 ≤ sizeLine by decide), fun l7 h7 => ?_⟩
    have b7 := same_new (o := .lst ([.ref t1, .ref t2] ++ [.ref t4, .ref t5])) h7
    have s7 := s6.trans b7
    have ht1 := b7 _ _ ((same_new (o := .lst [.ref t4, .ref t5]) h6) _ _ ((same_new (o := .tup [.str "meant", .bl (decide (("NotMeant" : Str) = "BadKeys"))]) h5) _ _ ((same_new (o := .tup [.str "book", .bl (decide (("BadBook" : Str) = "BadKeys"))]) h4) _ _ ((same_new (o := .lst [.ref t1, .ref t2]) h3) _ _ ((same_new (o := .tup [.str "keys", .bl (decide (("BadKeys" : Str) = "BadKeys"))]) h2) _ _ (upd_same (a := t1)))))))
    have ht2 := b7 _ _ ((same_new (o := .lst [.ref t4, .ref t5]) h6) _ _ ((same_new (o := .tup [.str "meant", .bl (decide (("NotMeant" : Str) = "BadKeys"))]) h5) _ _ ((same_new (o := .tup [.str "book", .bl (decide (("BadBook" : Str) = "BadKeys"))]) h4) _ _ ((same_new (o := .lst [.ref t1, .ref t2]) h3) _ _ (upd_same (a := t2))))))
    have ht4 := b7 _ _ ((same_new (o := .lst [.ref t4, .ref t5]) h6) _ _ ((same_new (o := .tup [.str "meant", .bl (decide (("NotMeant" : Str) = "BadKeys"))]) h5) _ _ (upd_same (a := t4))))
    have ht5 := b7 _ _ ((same_new (o := .lst [.ref t4, .ref t5]) h6) _ _ (upd_same (a := t5)))
    unfold gName
    dsimp only [tSeq, tAsg]
    refine said_pick (K := K) (c0 := some (.ref g)) (c1 := some (.ref l)) (c3 := none) (c5 := none) (c6 := none) (c7 := none) (k := 1) (fld := "place") (ws := ["text", "keys", "book", "meant"]) (D := He.ga K "BadKeys") (dd := dd) (fs := [("place", .int 0)]) (v := .int 0) upd_same rfl (by decide) (fun i x w h1 h2 => ?_) (s7 _ _ he) (s7 _ _ hdd) (fun w hw => ?_) (fun H8 l8 acc8 s8 hl8 hm8 => ?_)
    · match i, h1, h2 with
      | 0, h1, h2 => cases h1; cases h2; exact ⟨t1, rfl, ht1⟩
      | 1, h1, h2 => cases h1; cases h2; exact ⟨t2, rfl, ht2⟩
      | 2, h1, h2 => cases h1; cases h2; exact ⟨t4, rfl, ht4⟩
      | 3, h1, h2 => cases h1; cases h2; exact ⟨t5, rfl, ht5⟩
      | (n + 4), h1, h2 => simp at h2
    · exact ⟨T.ck.xf, T.ck.no, rfl⟩
    have s37 := s7.trans s8
    have he8 := s37 _ _ he
    have hdd8 := s37 _ _ hdd
    refine ⟨_, rfl, a, _, dd, _, .ref (He.ga K "BadPage"), _, _, rfl, T.ck.xc, (s37 _ _ he), (s37 _ _ hdd), fun u r => r, T.kk "BadPage" (by decide), (show 2 ≤ sizeLine by decide), fun t1 h1 => ?_⟩
    have q1 := same_new (o := .tup [.str "page", .bl (decide (("BadPage" : Str) = "BadKeys"))]) h1
    have r1 := s37.trans q1
    refine ⟨_, rfl, a, _, dd, _, .ref (He.ga K "BadManner"), _, _, rfl, T.ck.xc, (r1 _ _ he), (r1 _ _ hdd), fun u r => r, T.kk "BadManner" (by decide), (show 2 ≤ sizeLine by decide), fun t2 h2 => ⟨(show 2 ≤ sizeLine by decide), fun l3 h3 => ?_⟩⟩
    have q2 := same_new (o := .tup [.str "manner", .bl (decide (("BadManner" : Str) = "BadKeys"))]) h2
    have q3 := same_new (o := .lst [.ref t1, .ref t2]) h3
    have g1 := q3 _ _ (q2 _ _ (upd_same (a := t1)))
    have g2 := q3 _ _ (upd_same (a := t2))
    have gl3 := upd_same (H := upd (upd H8 t1 (.tup [.str "page", .bl (decide (("BadPage" : Str) = "BadKeys"))])) t2 (.tup [.str "manner", .bl (decide (("BadManner" : Str) = "BadKeys"))])) (a := l3) (o := .lst [.ref t1, .ref t2])
    have f8 := q3 _ _ ((q1.trans q2) _ _ hl8)
    have he9 := q3 _ _ ((r1.trans q2) _ _ he)
    have hdd9 := q3 _ _ ((r1.trans q2) _ _ hdd)
    have n8 : l8 ≠ l3 := fun z => by
      have := (q1.trans q2) _ _ hl8
      rw [z, h3] at this; cases this
    have na : a ≠ l3 := fun z => by
      have := (r1.trans q2) _ _ he
      rw [z, h3] at this; cases this
    have nd2 : dd ≠ l3 := fun z => by
      have := (r1.trans q2) _ _ hdd
      rw [z, h3] at this; cases this
    have sm9 : Same H2 (upd (upd (upd H8 t1 (.tup [.str "page", .bl (decide (("BadPage" : Str) = "BadKeys"))])) t2 (.tup [.str "manner", .bl (decide (("BadManner" : Str) = "BadKeys"))])) l3 (.lst [.ref t1, .ref t2])) := sm3.trans ((r1.trans q2).trans q3)
    have hl2 : H2 l3 = none := by
      cases e9 : H2 l3 with
      | none => rfl
      | some x => rw [(sm3.trans (r1.trans q2)) _ _ e9] at h3; cases h3
    have hm9 : ∃ t, acc8 = [V.ref t] ∧ upd (upd (upd H8 t1 (.tup [.str "page", .bl (decide (("BadPage" : Str) = "BadKeys"))])) t2 (.tup [.str "manner", .bl (decide (("BadManner" : Str) = "BadKeys"))])) l3 (.lst [.ref t1, .ref t2]) t = some (.tup [.str "keys", .int 0]) ∧ t ≠ l3 := by
      obtain ⟨t9, e9, e10⟩ := hm8
      exact ⟨t9, e9, q3 _ _ ((q1.trans q2) _ _ e10), fun z => by have := (q1.trans q2) _ _ e10; rw [z, h3] at this; cases this⟩
    revert g1 g2 gl3 f8 he9 hdd9 hm9 sm9
    generalize upd (upd (upd H8 t1 _) t2 _) l3 _ = H9
    intro g1 g2 gl3 f8 he9 hdd9 sm9 hm9
    refine ⟨_, rfl, .inl ⟨rfl, _, .inl (.inl gl3)⟩, _, rfl, a, _, dd, _, .ref (He.ga K "BadNumber"), _, _, rfl, T.ck.xc, he9, hdd9, fun u r => r, T.kk "BadNumber" (by decide), (show 2 ≤ sizeLine by decide), fun t4 h4 => ?_⟩
    have q4 := same_new (o := .tup [.str "number", .bl (decide (("BadNumber" : Str) = "BadKeys"))]) h4
    have g4 := upd_same (H := H9) (a := t4) (o := .tup [.str "number", .bl (decide (("BadNumber" : Str) = "BadKeys"))])
    have n4 : t4 ≠ l3 := fun z => by rw [z, gl3] at h4; cases h4
    have n1 : t1 ≠ l3 := fun z => by rw [z, gl3] at g1; cases g1
    have n2 : t2 ≠ l3 := fun z => by rw [z, gl3] at g2; cases g2
    refine ⟨l3, _, .ref t4, rfl, rfl, q4 _ _ gl3, (by show 2 < sizeLine; decide), ?_⟩
    have kp5 : ∀ b o, H9 b = some o → b ≠ l3 → upd (upd H9 t4 (.tup [.str "number", .bl (decide (("BadNumber" : Str) = "BadKeys"))])) l3 (.lst ([.ref t1, .ref t2] ++ [.ref t4])) b = some o := fun b o z hb => (upd_ne hb).trans (q4 _ _ z)
    have e1 := kp5 _ _ g1 n1
    have e2 := kp5 _ _ g2 n2
    have e4 := (upd_ne (o := HO.lst ([.ref t1, .ref t2] ++ [.ref t4])) n4).trans g4
    have e8 := kp5 _ _ f8 n8
    have ea := kp5 _ _ he9 na
    have ed := kp5 _ _ hdd9 nd2
    have el := upd_same (H := upd H9 t4 (.tup [.str "number", .bl (decide (("BadNumber" : Str) = "BadKeys"))])) (a := l3) (o := .lst ([.ref t1, .ref t2] ++ [.ref t4]))
    have smA : Same H2 (upd (upd H9 t4 (.tup [.str "number", .bl (decide (("BadNumber" : Str) = "BadKeys"))])) l3 (.lst ([.ref t1, .ref t2] ++ [.ref t4]))) := fun b o hb => kp5 _ _ (sm9 _ _ hb) fun z => by rw [z, hl2] at hb; cases hb
    have hmA : ∃ t, acc8 = [V.ref t] ∧ upd (upd H9 t4 (.tup [.str "number", .bl (decide (("BadNumber" : Str) = "BadKeys"))])) l3 (.lst ([.ref t1, .ref t2] ++ [.ref t4])) t = some (.tup [.str "keys", .int 0]) := by
      obtain ⟨t9, e9, e10, e11⟩ := hm9
      exact ⟨t9, e9, kp5 _ _ e10 e11⟩
    revert e1 e2 e4 e8 ea ed el smA hmA
    generalize upd (upd H9 t4 _) l3 _ = HB
    intro e1 e2 e4 e8 ea ed el smA hmA
    refine ⟨_, rfl, ?_⟩
    dsimp only [tSeq, tAsg]
    refine said_pick (K := K) (c0 := some (.ref g)) (c1 := some (.ref l)) (c3 := none) (c5 := some (.ref l8)) (c6 := none) (c7 := none) (k := 99) (fld := "value") (ws := ["page", "manner", "number"]) (D := He.ga K "BadKeys") (dd := dd) (fs := [("place", .int 0)]) (v := .int 0) el rfl (by decide) (fun i x w h1 h2 => ?_) ea ed (fun w hw => ?_) (fun HC lC accC sC hlC hmC => ?_)
    · match i, h1, h2 with
      | 0, h1, h2 => cases h1; cases h2; exact ⟨t1, rfl, e1⟩
      | 1, h1, h2 => cases h1; cases h2; exact ⟨t2, rfl, e2⟩
      | 2, h1, h2 => cases h1; cases h2; exact ⟨t4, rfl, e4⟩
      | (n + 3), h1, h2 => simp at h2
    · simp at hw
    refine ⟨l8, lC, _, _, rfl, rfl, sC _ _ e8, hlC, ?_, fun lD hlD => ?_⟩
    · obtain ⟨t9, e9, _⟩ := hmA
      rw [e9, show accC = [] from hmC, sizeLine_eq]
      simp
    have sD := same_new (o := .lst (acc8 ++ accC)) hlD
    have sAD := sC.trans sD
    refine ⟨_, rfl, a, _, dd, _, .ref (He.ga K "TooMany"), _, _, rfl, T.ck.xc, sAD _ _ ea, sAD _ _ ed, fun u r => r, T.kk "TooMany" (by decide), _, rfl, if_f (by decide) ?_⟩
    obtain ⟨t9, e9, e10⟩ := hmA
    have eacc : acc8 ++ accC = [V.ref t9] := by
      rw [e9, show accC = [] from hmC]; rfl
    have hlist : upd HC lD (.lst (acc8 ++ accC)) lD = some (.lst [V.ref t9]) := by rw [← eacc]; exact upd_same
    refine ⟨_, rfl, _, 1, rfl, .inl ⟨[V.ref t9], .inl (.inl hlist), rfl⟩, rfl, _, rfl, if_t (by simp) ⟨_, rfl, lD, [V.ref t9], 0, .ref t9, rfl, rfl, .inl (.inl hlist), rfl, ?_⟩⟩
    exact kq _ t9 (smA.trans (sC.trans sD)) ((sC.trans sD) _ _ e10)
  · refine ⟨true, T.cn.any, fun _ a ha => ?_, fun z => (by cases z)⟩
    have he : upd H2 a (ExO a (.ref (He.ga K "BadNumber")) (some dd)) a = some (ExO a (.ref (He.ga K "BadNumber")) (some dd)) := upd_same
    have hdd : upd H2 a (ExO a (.ref (He.ga K "BadNumber")) (some dd)) dd = some (.xd [("value", .int (-1))]) := (upd_ne (fun z => by rw [z, ha] at hd2; cases hd2)).trans hd2
    have sm3 : Same H2 (upd H2 a (ExO a (.ref (He.ga K "BadNumber")) (some dd))) := same_new ha
    revert he hdd sm3
    generalize upd H2 a _ = H3
    intro he hdd sm3
    refine ⟨_, rfl, _, rfl, rfl, _, rfl, if_f (by simp) ?_⟩
    refine ⟨_, rfl, a, _, dd, _, .ref (He.ga K "BadText"), _, _, rfl, T.cn.xc, he, hdd, fun u r => r, T.kn "BadText" (by decide), (show 2 ≤ sizeLine by decide), fun t1 h1 => ?_⟩
    have s1 := same_new (o := .tup [.str "text", .bl (decide (("BadText" : Str) = "BadNumber"))]) h1
    refine ⟨_, rfl, a, _, dd, _, .ref (He.ga K "BadKeys"), _, _, rfl, T.cn.xc, (s1 _ _ he), (s1 _ _ hdd), fun u r => r, T.kn "BadKeys" (by decide), (show 2 ≤ sizeLine by decide), fun t2 h2 => ⟨(show 2 ≤ sizeLine by decide), fun l3 h3 => ?_⟩⟩
    have s2 := s1.trans (same_new (o := .tup [.str "keys", .bl (decide (("BadKeys" : Str) = "BadNumber"))]) h2)
    have s3 := s2.trans (same_new (o := .lst [.ref t1, .ref t2]) h3)
    refine ⟨_, rfl, _, rfl, a, _, dd, _, .ref (He.ga K "BadBook"), _, _, rfl, T.cn.xc, (s3 _ _ he), (s3 _ _ hdd), fun u r => r, T.kn "BadBook" (by decide), (show 2 ≤ sizeLine by decide), fun t4 h4 => ?_⟩
    have s4 := s3.trans (same_new (o := .tup [.str "book", .bl (decide (("BadBook" : Str) = "BadNumber"))]) h4)
    refine ⟨_, rfl, a, _, dd, _, .ref (He.ga K "NotMeant"), _, _, rfl, T.cn.xc, (s4 _ _ he), (s4 _ _ hdd), fun u r => r, T.kn "NotMeant" (by decide), (show 2 ≤ sizeLine by decide), fun t5 h5 => ⟨(show 2 ≤ sizeLine by decide), fun l6 h6 => ?_⟩⟩
    have s5 := s4.trans (same_new (o := .tup [.str "meant", .bl (decide (("NotMeant" : Str) = "BadNumber"))]) h5)
    have s6 := s5.trans (same_new (o := .lst [.ref t4, .ref t5]) h6)
    have hl3 := (same_new (o := .lst [.ref t4, .ref t5]) h6) _ _ ((same_new (o := .tup [.str "meant", .bl (decide (("NotMeant" : Str) = "BadNumber"))]) h5) _ _ ((same_new (o := .tup [.str "book", .bl (decide (("BadBook" : Str) = "BadNumber"))]) h4) _ _ (upd_same (a := l3))))
    refine ⟨l3, l6, _, _, rfl, rfl, hl3, upd_same, (show 4 ≤ sizeLine by decide), fun l7 h7 => ?_⟩
    have b7 := same_new (o := .lst ([.ref t1, .ref t2] ++ [.ref t4, .ref t5])) h7
    have s7 := s6.trans b7
    have ht1 := b7 _ _ ((same_new (o := .lst [.ref t4, .ref t5]) h6) _ _ ((same_new (o := .tup [.str "meant", .bl (decide (("NotMeant" : Str) = "BadNumber"))]) h5) _ _ ((same_new (o := .tup [.str "book", .bl (decide (("BadBook" : Str) = "BadNumber"))]) h4) _ _ ((same_new (o := .lst [.ref t1, .ref t2]) h3) _ _ ((same_new (o := .tup [.str "keys", .bl (decide (("BadKeys" : Str) = "BadNumber"))]) h2) _ _ (upd_same (a := t1)))))))
    have ht2 := b7 _ _ ((same_new (o := .lst [.ref t4, .ref t5]) h6) _ _ ((same_new (o := .tup [.str "meant", .bl (decide (("NotMeant" : Str) = "BadNumber"))]) h5) _ _ ((same_new (o := .tup [.str "book", .bl (decide (("BadBook" : Str) = "BadNumber"))]) h4) _ _ ((same_new (o := .lst [.ref t1, .ref t2]) h3) _ _ (upd_same (a := t2))))))
    have ht4 := b7 _ _ ((same_new (o := .lst [.ref t4, .ref t5]) h6) _ _ ((same_new (o := .tup [.str "meant", .bl (decide (("NotMeant" : Str) = "BadNumber"))]) h5) _ _ (upd_same (a := t4))))
    have ht5 := b7 _ _ ((same_new (o := .lst [.ref t4, .ref t5]) h6) _ _ (upd_same (a := t5)))
    unfold gName
    dsimp only [tSeq, tAsg]
    refine said_pick (K := K) (c0 := some (.ref g)) (c1 := some (.ref l)) (c3 := none) (c5 := none) (c6 := none) (c7 := none) (k := 99) (fld := "place") (ws := ["text", "keys", "book", "meant"]) (D := He.ga K "BadNumber") (dd := dd) (fs := [("value", .int (-1))]) (v := .int (-1)) upd_same rfl (by decide) (fun i x w h1 h2 => ?_) (s7 _ _ he) (s7 _ _ hdd) (fun w hw => ?_) (fun H8 l8 acc8 s8 hl8 hm8 => ?_)
    · match i, h1, h2 with
      | 0, h1, h2 => cases h1; cases h2; exact ⟨t1, rfl, ht1⟩
      | 1, h1, h2 => cases h1; cases h2; exact ⟨t2, rfl, ht2⟩
      | 2, h1, h2 => cases h1; cases h2; exact ⟨t4, rfl, ht4⟩
      | 3, h1, h2 => cases h1; cases h2; exact ⟨t5, rfl, ht5⟩
      | (n + 4), h1, h2 => simp at h2
    · simp at hw
    have s37 := s7.trans s8
    have he8 := s37 _ _ he
    have hdd8 := s37 _ _ hdd
    refine ⟨_, rfl, a, _, dd, _, .ref (He.ga K "BadPage"), _, _, rfl, T.cn.xc, (s37 _ _ he), (s37 _ _ hdd), fun u r => r, T.kn "BadPage" (by decide), (show 2 ≤ sizeLine by decide), fun t1 h1 => ?_⟩
    have q1 := same_new (o := .tup [.str "page", .bl (decide (("BadPage" : Str) = "BadNumber"))]) h1
    have r1 := s37.trans q1
    refine ⟨_, rfl, a, _, dd, _, .ref (He.ga K "BadManner"), _, _, rfl, T.cn.xc, (r1 _ _ he), (r1 _ _ hdd), fun u r => r, T.kn "BadManner" (by decide), (show 2 ≤ sizeLine by decide), fun t2 h2 => ⟨(show 2 ≤ sizeLine by decide), fun l3 h3 => ?_⟩⟩
    have q2 := same_new (o := .tup [.str "manner", .bl (decide (("BadManner" : Str) = "BadNumber"))]) h2
    have q3 := same_new (o := .lst [.ref t1, .ref t2]) h3
    have g1 := q3 _ _ (q2 _ _ (upd_same (a := t1)))
    have g2 := q3 _ _ (upd_same (a := t2))
    have gl3 := upd_same (H := upd (upd H8 t1 (.tup [.str "page", .bl (decide (("BadPage" : Str) = "BadNumber"))])) t2 (.tup [.str "manner", .bl (decide (("BadManner" : Str) = "BadNumber"))])) (a := l3) (o := .lst [.ref t1, .ref t2])
    have f8 := q3 _ _ ((q1.trans q2) _ _ hl8)
    have he9 := q3 _ _ ((r1.trans q2) _ _ he)
    have hdd9 := q3 _ _ ((r1.trans q2) _ _ hdd)
    have n8 : l8 ≠ l3 := fun z => by
      have := (q1.trans q2) _ _ hl8
      rw [z, h3] at this; cases this
    have na : a ≠ l3 := fun z => by
      have := (r1.trans q2) _ _ he
      rw [z, h3] at this; cases this
    have nd2 : dd ≠ l3 := fun z => by
      have := (r1.trans q2) _ _ hdd
      rw [z, h3] at this; cases this
    have sm9 : Same H2 (upd (upd (upd H8 t1 (.tup [.str "page", .bl (decide (("BadPage" : Str) = "BadNumber"))])) t2 (.tup [.str "manner", .bl (decide (("BadManner" : Str) = "BadNumber"))])) l3 (.lst [.ref t1, .ref t2])) := sm3.trans ((r1.trans q2).trans q3)
    have hl2 : H2 l3 = none := by
      cases e9 : H2 l3 with
      | none => rfl
      | some x => rw [(sm3.trans (r1.trans q2)) _ _ e9] at h3; cases h3
    have hm9 : acc8 = [] := hm8
    revert g1 g2 gl3 f8 he9 hdd9 hm9 sm9
    generalize upd (upd (upd H8 t1 _) t2 _) l3 _ = H9
    intro g1 g2 gl3 f8 he9 hdd9 sm9 hm9
    refine ⟨_, rfl, .inl ⟨rfl, _, .inl (.inl gl3)⟩, _, rfl, a, _, dd, _, .ref (He.ga K "BadNumber"), _, _, rfl, T.cn.xc, he9, hdd9, fun u r => r, T.kn "BadNumber" (by decide), (show 2 ≤ sizeLine by decide), fun t4 h4 => ?_⟩
    have q4 := same_new (o := .tup [.str "number", .bl (decide (("BadNumber" : Str) = "BadNumber"))]) h4
    have g4 := upd_same (H := H9) (a := t4) (o := .tup [.str "number", .bl (decide (("BadNumber" : Str) = "BadNumber"))])
    have n4 : t4 ≠ l3 := fun z => by rw [z, gl3] at h4; cases h4
    have n1 : t1 ≠ l3 := fun z => by rw [z, gl3] at g1; cases g1
    have n2 : t2 ≠ l3 := fun z => by rw [z, gl3] at g2; cases g2
    refine ⟨l3, _, .ref t4, rfl, rfl, q4 _ _ gl3, (by show 2 < sizeLine; decide), ?_⟩
    have kp5 : ∀ b o, H9 b = some o → b ≠ l3 → upd (upd H9 t4 (.tup [.str "number", .bl (decide (("BadNumber" : Str) = "BadNumber"))])) l3 (.lst ([.ref t1, .ref t2] ++ [.ref t4])) b = some o := fun b o z hb => (upd_ne hb).trans (q4 _ _ z)
    have e1 := kp5 _ _ g1 n1
    have e2 := kp5 _ _ g2 n2
    have e4 := (upd_ne (o := HO.lst ([.ref t1, .ref t2] ++ [.ref t4])) n4).trans g4
    have e8 := kp5 _ _ f8 n8
    have ea := kp5 _ _ he9 na
    have ed := kp5 _ _ hdd9 nd2
    have el := upd_same (H := upd H9 t4 (.tup [.str "number", .bl (decide (("BadNumber" : Str) = "BadNumber"))])) (a := l3) (o := .lst ([.ref t1, .ref t2] ++ [.ref t4]))
    have smA : Same H2 (upd (upd H9 t4 (.tup [.str "number", .bl (decide (("BadNumber" : Str) = "BadNumber"))])) l3 (.lst ([.ref t1, .ref t2] ++ [.ref t4]))) := fun b o hb => kp5 _ _ (sm9 _ _ hb) fun z => by rw [z, hl2] at hb; cases hb
    have hmA : acc8 = [] := hm9
    revert e1 e2 e4 e8 ea ed el smA hmA
    generalize upd (upd H9 t4 _) l3 _ = HB
    intro e1 e2 e4 e8 ea ed el smA hmA
    refine ⟨_, rfl, ?_⟩
    dsimp only [tSeq, tAsg]
    refine said_pick (K := K) (c0 := some (.ref g)) (c1 := some (.ref l)) (c3 := none) (c5 := some (.ref l8)) (c6 := none) (c7 := none) (k := 2) (fld := "value") (ws := ["page", "manner", "number"]) (D := He.ga K "BadNumber") (dd := dd) (fs := [("value", .int (-1))]) (v := .int (-1)) el rfl (by decide) (fun i x w h1 h2 => ?_) ea ed (fun w hw => ?_) (fun HC lC accC sC hlC hmC => ?_)
    · match i, h1, h2 with
      | 0, h1, h2 => cases h1; cases h2; exact ⟨t1, rfl, e1⟩
      | 1, h1, h2 => cases h1; cases h2; exact ⟨t2, rfl, e2⟩
      | 2, h1, h2 => cases h1; cases h2; exact ⟨t4, rfl, e4⟩
      | (n + 3), h1, h2 => simp at h2
    · exact ⟨T.cn.xf, T.cn.no, rfl⟩
    refine ⟨l8, lC, _, _, rfl, rfl, sC _ _ e8, hlC, ?_, fun lD hlD => ?_⟩
    · obtain ⟨t9, e9, _⟩ := hmC
      rw [e9, hmA, sizeLine_eq]
      simp
    have sD := same_new (o := .lst (acc8 ++ accC)) hlD
    have sAD := sC.trans sD
    refine ⟨_, rfl, a, _, dd, _, .ref (He.ga K "TooMany"), _, _, rfl, T.cn.xc, sAD _ _ ea, sAD _ _ ed, fun u r => r, T.kn "TooMany" (by decide), _, rfl, if_f (by decide) ?_⟩
    obtain ⟨t9, e9, e10⟩ := hmC
    have eacc : acc8 ++ accC = [V.ref t9] := by
      rw [e9, hmA]; rfl
    have hlist : upd HC lD (.lst (acc8 ++ accC)) lD = some (.lst [V.ref t9]) := by rw [← eacc]; exact upd_same
    refine ⟨_, rfl, _, 1, rfl, .inl ⟨[V.ref t9], .inl (.inl hlist), rfl⟩, rfl, _, rfl, if_t (by simp) ⟨_, rfl, lD, [V.ref t9], 0, .ref t9, rfl, rfl, .inl (.inl hlist), rfl, ?_⟩⟩
    exact kq _ t9 (smA.trans (sC.trans sD)) (sD _ _ e10)
  · rcases hc with rfl | rfl
    · exact ⟨false, T.z, fun z => (by cases z), fun _ => hE⟩
    · exact ⟨false, T.k, fun z => (by cases z), fun _ => hE⟩
end
end Ob
/-! The law's draws. -/
namespace Ob
open PySem PySem.Spec PyProof.Rows L2 L2H
abbrev Ks (z : String) : Key := Sum.inr (Str.ofString z)
abbrev mD (cl G : Addr) (n : Int) : List (Key × V) := [(Ks "cells", .ref cl), (Ks "great", .ref G), (Ks "spot", .int n)]
/-- the bag of cells at m: its lists at cl, G; k: at most so many were drawn -/
structure MAt (H : Hp) (m cl G : Addr) (k : Nat) : Prop where
  spot : ∃ n : Int, 0 ≤ n ∧ n ≤ k ∧ H m = some (.dK (mD cl G n))
  cells : ∃ is : List Int, is.length = 64 ∧ (∀ i ∈ is, 0 ≤ i ∧ i < 2147483648) ∧ H cl = some (.lst (is.map .int))
  great : ∃ is : List Int, is.length ≤ 200 ∧ H G = some (.lst (is.map .int))
  ne : cl ≠ G
theorem MAt.mono {H : Hp} {m cl G : Addr} {k k' : Nat} (h : MAt H m cl G k) (hk : k ≤ k') : MAt H m cl G k' := by
  obtain ⟨⟨n, h0, h1, h2⟩, c, g, ne⟩ := h
  exact ⟨⟨n, h0, by omega, h2⟩, c, g, ne⟩
theorem MAt.same {H H' : Hp} {m cl G : Addr} {k : Nat} (h : MAt H m cl G k) (s : Same H H') : MAt H' m cl G k := by
  obtain ⟨⟨n, h0, h1, h2⟩, ⟨is, c1, c2, c3⟩, ⟨js, g1, g2⟩, ne⟩ := h
  exact ⟨⟨n, h0, h1, s _ _ h2⟩, ⟨is, c1, c2, s _ _ c3⟩, ⟨js, g1, s _ _ g2⟩, ne⟩
structure TxL (P : Program) (K : PySem.W.Frag) (mg : Str → Option Value) : Prop where
  X : TxX P K mg
  n_range : mg "range" = none
  n_repr : mg "repr" = none
  n_dict : mg "dict" = none
  n_min : mg "min" = none
  d_mixed : Df K mg "_law_mixed" s_law_mixed p_law_mixed
  d_folded : Df K mg "_law_folded" s_law_folded p_law_folded
  d_draw : Df K mg "_law_draw" s_law_draw p_law_draw
  d_begun : Df K mg "_law_begun" s_law_begun p_law_begun
  d_like : Df K mg "_law_like" s_law_like p_law_like
  d_book : Df K mg "_law_book" s_law_book p_law_book
  d_signs : Df K mg "_law_signs" s_law_signs p_law_signs
  d_closer : Df K mg "_law_closer" s_law_closer p_law_closer
  d_puts : Df K mg "_law_puts" s_law_puts p_law_puts
  d_pressed : Df K mg "_law_pressed" s_law_pressed p_law_pressed
  d_page : Df K mg "_law_page" s_law_page p_law_page
  d_on : Df K mg "_law_on" s_law_on p_law_on
  d_own : Df K mg "_law_own" s_law_own p_law_own
  d_now : Df K mg "_law_now" s_law_now p_law_now
  d_keyed : Df K mg "_law_keyed" s_law_keyed p_law_keyed
  d_shift : Df K mg "_law_shift" s_law_shift p_law_shift
  d_stands : Df K mg "_law_stands" s_law_stands p_law_stands
  d_keys : Df K mg "_law_keys" s_law_keys p_law_keys
  d_step : Df K mg "_law_step" s_law_step p_law_step
  d_within : Df K mg "_law_within" s_law_within p_law_within
  d_tried : Df K mg "_law_tried" s_law_tried p_law_tried
  d_later_right : Df K mg "_law_later_right" s_law_later_right p_law_later_right
theorem mul_lt {a b : Int} {A B : Int} (h0 : 0 ≤ a) (h1 : a < A) (h2 : 0 ≤ b) (h3 : b < B) : 0 ≤ a * b ∧ a * b < A * B := by
  refine ⟨Int.mul_nonneg h0 h2, ?_⟩
  calc a * b ≤ a * B := Int.mul_le_mul_of_nonneg_left (Int.le_of_lt h3) h0
    _ < A * B := Int.mul_lt_mul_of_pos_right h1 (Int.lt_of_le_of_lt h2 h3)
section
variable {P : Program} {w : World} {K : PySem.W.Frag} {mg : Str → Option Value} {base : Heap}
theorem ok_mixed (T : TxL P K mg) : FOk P w K mg base CX0 1 ("_law_mixed", none) p_law_mixed (fun vs H Q _ => ∃ c n : Int, vs = [.int c, .int n] ∧ 0 ≤ c ∧ c < 2 ^ 50 ∧ 0 ≤ n ∧ n < 2 ^ 40 ∧ ∀ r : Int, 0 ≤ r → r < 2 ^ 31 → Q (.int r) H) := by
  refine T.d_mixed.f.ok sc_law_mixed (fun vs H Q E h => ?_) (fun cdv A outer s H vs Q E hr h => ?_)
  · obtain ⟨_, _, rfl, _⟩ := h
    rfl
  obtain ⟨c, n, rfl, c0, c1, n0, n1, k⟩ := h
  have nd := sc_law_mixed.nd
  refine ⟨_, PSs.nox (pss_cons (ps_st 2 nd (pe_op op_add (pe_op op_add (pe_op op_mod (pe_callTy call_int1 rfl T.X.U.E.n_int PyProof.Rows.Boot.«int» (pa_cons (pe_op op_mul (pe_op op_mul (pv 0) (pe_op op_add pe_int (pe_op op_mul pe_int (pv 1)))) pe_int) pa_nil)) pe_int) (pe_op op_mul (pe_op op_mul pe_int (pv 1)) (pv 1))) (pe_op op_mul pe_int (pv 1))))
    (pss_one (ps_ret (pe_op op_fdiv (pe_op op_mod (pe_callTy call_int1 rfl T.X.U.E.n_int PyProof.Rows.Boot.«int» (pa_cons (pe_op op_mul (pv 2) pe_int) pa_nil)) pe_int) pe_int)))), ?_⟩
  have big : ∀ i : Int, 0 ≤ i → i < 2 ^ 60 → -(2 ^ 64) < i ∧ i < 2 ^ 64 := fun i a b => by omega
  refine ⟨_, rfl, _, rfl, _, _, rfl, rfl, .inl (by decide), _, _, rfl, rfl, _, _, rfl, rfl, .inl (big c c0 (by omega)), _, _, rfl, rfl, .inr (by decide), .inl ⟨_, rfl, _, _, rfl, rfl, (by show (0 : Int) < 2147483647; decide), _, rfl, _, _, rfl, rfl, .inl (by decide), _, rfl, _, _, rfl, rfl, .inr (big n n0 (by omega)), _, _, rfl, rfl, _, rfl, _, _, rfl, rfl, .inl (by decide), _, _, rfl, rfl, ?_⟩⟩
  refine ⟨_, rfl, _, _, rfl, rfl, .inr (by decide), .inl ⟨_, rfl, _, _, rfl, rfl, (by show (0 : Int) < 2147483629; decide), _, _, rfl, rfl, ⟨by decide, by decide⟩, ?_⟩⟩
  have hm := Int.emod_nonneg ((c * (1 + 2 * n) * 48271 % 2147483647 + 7919 * n * n + 104729 * n) * 69621) (b := 2147483629) (by decide)
  have hl := Int.emod_lt_of_pos ((c * (1 + 2 * n) * 48271 % 2147483647 + 7919 * n * n + 104729 * n) * 69621) (b := 2147483629) (by decide)
  exact k _ (Int.ediv_nonneg hm (by decide)) (by omega)
theorem put_spot {cl G : Addr} {n j : Int} : putK (mD cl G n) (Ks "spot") (.int j) = mD cl G j := rfl
theorem fine_ints (is : List Int) : SeqAt.shaped (.list (is.map .int)) = true := by
  have h1 : PyData.canLayAll0 (is.map .int) = true := by
    induction is with
    | nil => simp [PyData.canLayAll0]
    | cons a l ih => simp [PyData.canLayAll0, PyData.canLay0, ih]
  have h2 : PyData.depthAll (is.map .int) = 0 := by
    induction is with
    | nil => simp [PyData.depthAll]
    | cons a l ih =>
      have hl : PyData.canLayAll0 (l.map .int) = true := by simpa [PyData.canLayAll0, PyData.canLay0] using h1
      simp [PyData.depthAll, PyData.depth, ih hl]
  show (PyData.canLay0 (.list (is.map .int)) && decide (PyData.depth (.list (is.map .int)) ≤ 64)) = true
  simp [PyData.canLay0, PyData.depth, h1, h2]
abbrev spDraw : Sp := fun vs H Q _ => ∃ (m cl G : Addr) (k : Nat) (lim : Int), vs = [.ref m, .int lim] ∧ MAt H m cl G k ∧ k ≤ 2 ^ 30 ∧ 0 < lim ∧ lim ≤ 1000 ∧ ∀ H' (r : Int), MAt H' m cl G (k + 1) → Kp (PBut [m, G]) H H' → 0 ≤ r → r < lim → Q (.int r) H'
theorem ok_draw (T : TxL P K mg) : FOk P w K mg base CX0 2 ("_law_draw", none) p_law_draw spDraw := by
  refine T.d_draw.f.ok sc_law_draw (fun vs H Q E h => ?_) (fun cdv A outer s H vs Q E hr h => ?_)
  · obtain ⟨_, _, _, _, _, rfl, _⟩ := h
    rfl
  obtain ⟨m, cl, G, kk, lim, rfl, ⟨⟨n, n0, n1, hm⟩, ⟨is, il, ib, hcl⟩, ⟨gs, gl, hG⟩, hne⟩, hk, l0, l1, k⟩ := h
  have nd := sc_law_draw.nd
  have hu := hu_of hr
  have U := T.X.U.E.G.S
  refine ⟨_, PSs.nox (pss_cons (ps_st 2 nd (pe_dget hu (pv 0) pe_str (fun _ _ => rfl)))
    (pss_cons (ps_dput hu (pv 0) pe_str (pe_op op_add (pv 2) pe_int) rfl)
    (C8.pss_cut (ps_if (pt_cmpR (op_neD hr.units) (pe_dget hu (pv 0) pe_str (fun _ _ => rfl)) (pe_lst pa_nil) (nomark _))
      (pss_cons (ps_st 3 nd (pe_dget hu (pv 0) pe_str (fun _ _ => rfl)))
      (pss_cons (ps_st 4 nd (pe_op op_mod (pe_callTy call_int1 rfl T.X.U.E.n_int PyProof.Rows.Boot.«int» (pa_cons (pv 2) pa_nil)) (pe_callB call_len rfl U.n_len boot_len (pa_cons (pv 3) pa_nil))))
      (pss_cons (ps_st 5 nd (pe_ix ix_list (pv 3) (pv 4) (fun _ _ => rfl)))
      (pss_one (ps_if (pt_cmpR op_gt (pv 5) pe_int (nomark _)) (pss_cons (ps_asg (pe_op op_fdiv (pv 5) (pv 1)) (pg_sub (pv 3) (pv 4) set_list)) (pss_one (ps_ret (pe_op op_mod (pe_callTy call_int1 rfl T.X.U.E.n_int PyProof.Rows.Boot.«int» (pa_cons (pv 5) pa_nil)) (pv 1))))) pss_nil))))) pss_nil)
    (pss_cons (ps_st 3 nd (pe_dget hu (pv 0) pe_str (fun _ _ => rfl)))
    (pss_one (ps_ret (pe_op op_mod (pe_callTy call_int1 rfl T.X.U.E.n_int PyProof.Rows.Boot.«int» (pa_cons (pe_f T.d_mixed (ok_mixed T) hr (by decide) (pa_cons (pe_f T.d_mixed (ok_mixed T) hr (by decide) (pa_cons (pe_op op_add (pe_ix ix_list (pv 3) (pe_op op_mod (pe_callTy call_int1 rfl T.X.U.E.n_int PyProof.Rows.Boot.«int» (pa_cons (pv 2) pa_nil)) pe_int) (fun _ _ => rfl)) (pe_op op_mul pe_int (pe_op op_fdiv (pv 2) pe_int))) (pa_cons (pv 2) pa_nil))) (pa_cons (pe_op op_add (pv 2) pe_int) pa_nil))) pa_nil)) (pv 1)))))))), ?_⟩
  have hclm : cl ≠ m := fun z => by rw [z, hm] at hcl; cases hcl
  have hGm : G ≠ m := fun z => by rw [z, hm] at hG; cases hG
  refine ⟨_, rfl, m, .int n, rfl, DGet.k (k := Ks "spot") hm, _, rfl, _, _, rfl, rfl, _, rfl, m, _, rfl, DPut.k (k := Ks "spot") hm (show 3 < sizeLine by decide), ?_⟩
  have k1 : Kp (PBut [m, G]) H (upd H m (.dK (mD cl G (n + 1)))) := fun b o hb hn => (upd_ne (fun z => hn (by rw [z]; exact List.mem_cons_self))).trans hb
  have hm1 : upd H m (.dK (mD cl G (n + 1))) m = some (.dK (mD cl G (n + 1))) := upd_same
  have hcl1 : upd H m (.dK (mD cl G (n + 1))) cl = _ := (upd_ne hclm).trans hcl
  have hG1 : upd H m (.dK (mD cl G (n + 1))) G = _ := (upd_ne hGm).trans hG
  show C8.tCut _ _ _ _ (upd H m (.dK (mD cl G (n + 1))))
  revert k1 hm1 hcl1 hG1
  generalize upd H m _ = H1
  intro k1 hm1 hcl1 hG1
  refine ⟨fun σ H' => Same H1 H' ∧ ∃ x3 x4 x5, σ = [some (.ref m), some (.int lim), some (.int n), x3, x4, x5], ?_, ?_⟩
  · refine ⟨_, rfl, m, .ref G, rfl, DGet.k (k := Ks "great") hm1, Nat.zero_le _, fun l hl => ?_⟩
    have sm2 : Same H1 (upd H1 l (.lst [])) := same_new hl
    refine ⟨.list (gs.map .int), .list [], .lst (.inl (.inl (sm2 _ _ hG1))) (DTs.dp _ _ (DTs.ints gs)), .lst (.inl (.inl upd_same)) .nil, fine_ints gs, by decide +kernel, _, rfl, ?_⟩
    rw [eqv_nilL, List.isEmpty_map]
    revert sm2
    generalize upd H1 l _ = H2
    intro sm2
    have hm2 := sm2 _ _ hm1
    have hG2 := sm2 _ _ hG1
    cases hge : gs.isEmpty with
    | true => exact iteF ⟨sm2, _, _, _, rfl⟩
    | false =>
      have hpos : (0 : Int) < (gs.length : Int) := by
        cases gs with
        | nil => cases hge
        | cons a b => simp
      have hr0 := Int.emod_nonneg n (b := (gs.length : Int)) (by omega)
      have hr1 := Int.emod_lt_of_pos n hpos
      obtain ⟨j, hj⟩ : ∃ j : Nat, n % (gs.length : Int) = (j : Int) := ⟨(n % (gs.length : Int)).toNat, by omega⟩
      rw [hj] at hr1
      have hjl : j < gs.length := by omega
      have hat : atI (gs.map V.int) (n % (gs.length : Int)) = some (.int gs[j]) := by
        rw [hj]
        exact atI_nat (by rw [List.getElem?_map, List.getElem?_eq_getElem hjl]; rfl)
      refine iteT ⟨_, rfl, m, .ref G, rfl, DGet.k (k := Ks "great") hm2, _, rfl, .inl ⟨_, rfl, _, rfl, _, gs.length, rfl, .inl ⟨_, .inl (.inl hG2), by rw [List.length_map]⟩, _, _, rfl, rfl, hpos, _, rfl, _, rfl, G, _, _, .int gs[j], rfl, rfl, .inl (.inl hG2), hat, _, rfl, _, _, rfl, rfl, _, rfl, ?_⟩⟩
      by_cases hc : (0 : Int) < gs[j]
      · refine if_t (decide_eq_true hc) ?_
        refine ⟨_, rfl, _, rfl, _, _, rfl, rfl, ⟨l0, by omega⟩, _, rfl, _, rfl, G, _, _, j, rfl, rfl, hG2, ?_, ?_⟩
        · rw [List.length_map, hj]
          unfold ixN
          rw [if_pos (by omega), if_pos (by omega)]
          simp
        · refine ⟨_, rfl, .inl ⟨_, rfl, _, rfl, _, _, rfl, rfl, l0, ?_⟩⟩
          have nmG : m ≠ G := hGm.symm
          refine k _ _ ⟨⟨n + 1, by omega, by omega, (upd_ne nmG).trans hm2⟩, ⟨is, il, ib, (upd_ne hne).trans (sm2 _ _ hcl1)⟩, ⟨gs.set j (gs[j] / lim), by rw [List.length_set]; exact gl, ?_⟩, hne⟩ (fun b o hb hn => (upd_ne (fun z => hn (by rw [z]; exact List.mem_cons_of_mem _ List.mem_cons_self))).trans (sm2 _ _ (k1 _ _ hb hn))) (Int.emod_nonneg _ (by omega)) (Int.emod_lt_of_pos _ l0)
          rw [upd_same, List.map_set]
      · refine if_f (decide_eq_false hc) ⟨sm2, _, _, _, rfl⟩
  · rintro σ H3 ⟨sm3, x3, x4, x5, rfl⟩
    have hm3 := sm3 _ _ hm1
    have hcl3 := sm3 _ _ hcl1
    have hr0 := Int.emod_nonneg n (b := 64) (by omega)
    have hr1 := Int.emod_lt_of_pos n (b := 64) (by omega)
    obtain ⟨j, hj⟩ : ∃ j : Nat, n % 64 = (j : Int) := ⟨(n % 64).toNat, by omega⟩
    have hjl : j < is.length := by omega
    have hat : atI (is.map V.int) (n % 64) = some (.int is[j]) := by
      rw [hj]
      exact atI_nat (by rw [List.getElem?_map, List.getElem?_eq_getElem hjl]; rfl)
    have hbj := ib is[j] (List.getElem_mem hjl)
    have hd0 : 0 ≤ n / 64 := Int.ediv_nonneg n0 (by decide)
    refine ⟨_, rfl, m, .ref cl, rfl, DGet.k (k := Ks "cells") hm3, _, rfl, _, rfl, .inl ⟨_, rfl, _, _, rfl, rfl, (by show (0 : Int) < 64; decide), cl, _, _, .int is[j], rfl, rfl, .inl (.inl hcl3), hat, _, rfl, _, _, rfl, rfl, ⟨by decide, by decide⟩, _, _, rfl, rfl, .inl (by decide), _, _, rfl, rfl, _, rfl, _, n, rfl, by omega, by omega, n0, by omega, fun r1 a1 b1 => ⟨_, rfl, _, _, rfl, rfl, r1, n + 7, rfl, a1, by omega, by omega, by omega, fun r2 a2 b2 => .inl ⟨_, rfl, _, rfl, _, _, rfl, rfl, l0, ?_⟩⟩⟩⟩
    exact k _ _ ⟨⟨n + 1, by omega, by omega, hm3⟩, ⟨is, il, ib, hcl3⟩, ⟨gs, gl, sm3 _ _ hG1⟩, hne⟩ (fun b o hb hn => sm3 _ _ (k1 _ _ hb hn)) (Int.emod_nonneg _ (by omega)) (Int.emod_lt_of_pos _ l0)
end
end Ob
/-! The cells are laid. -/
namespace Ob
open PySem PySem.Spec PyProof.Rows L2 L2H
def G64 (H : Hp) (l : Addr) : Prop := ∃ is : List Int, is.length = 64 ∧ (∀ i ∈ is, 0 ≤ i ∧ i < 2147483648) ∧ H l = some (.lst (is.map .int))
theorem G64.set {H : Hp} {l : Addr} {is : List Int} {j : Nat} {v : Int} (h1 : is.length = 64) (h2 : ∀ i ∈ is, 0 ≤ i ∧ i < 2147483648) (hv : 0 ≤ v ∧ v < 2147483648) : G64 (upd H l (.lst ((is.map V.int).set j (.int v)))) l := by
  refine ⟨is.set j v, by rw [List.length_set]; exact h1, fun i hi => ?_, by rw [upd_same, List.map_set]⟩
  rcases List.mem_or_eq_of_mem_set hi with z | z
  · exact h2 i z
  · rw [z]; exact hv
theorem ixN_nat {n j : Nat} {i : Int} (hi : i = (j : Int)) (h : j < n) : ixN n i = some j := by
  unfold ixN
  rw [hi, if_pos (by omega), if_pos (by omega)]
  simp
theorem int_at {is : List Int} {j : Nat} {i : Int} (hi : i = (j : Int)) (h : j < is.length) : atI (is.map V.int) i = some (.int is[j]) := by
  rw [hi]
  exact atI_nat (by rw [List.getElem?_map, List.getElem?_eq_getElem h]; rfl)
section
variable {P : Program} {w : World} {K : PySem.W.Frag} {mg : Str → Option Value} {base : Heap}
theorem ok_folded (T : TxL P K mg) : FOk P w K mg base CX0 1 ("_law_folded", none) p_law_folded (fun vs H Q _ => ∃ (s : Addr) (js : List Int), vs = [.ref s] ∧ SqL K H s (js.map .int) ∧ js.length ≤ 200 ∧ ∀ H' l, G64 H' l → H l = none → Same H H' → Q (.ref l) H') := by
  refine T.d_folded.f.ok sc_law_folded (fun vs H Q E h => ?_) (fun cdv A outer s0 H vs Q E hr h => ?_)
  · obtain ⟨_, _, rfl, _⟩ := h
    rfl
  obtain ⟨s, js, rfl, hs, hjl, k⟩ := h
  have nd := sc_law_folded.nd
  have U := T.X.U.E.G.S
  have pI : ∀ {X : Cx} {e : Expr} {te : TE} {p pos : Pos}, Gl X "int" → X.mg "int" = none → PE X e te → (starEach [e] X.env = (false, eval e X.env) :: starEach [] X.env) → True := fun _ _ _ _ => True.intro
  refine ⟨_, PSs.nox (pss_cons (ps_setLc (i := 1) (own := [("_law_n", 2)]) (g := gName 2) (tt := tYes) rfl nd rfl rfl rfl (pi_range1 rfl T.n_range (pa_cons pe_int pa_nil)) (blkOk_by (own := [("_law_n", 2)]) (N := N_law_folded) (sc := defScope s_law_folded) (by decide +kernel))
      (fun _ _ _ _ _ => pg_name (i := 2) nd rfl (Or.inl rfl)) (fun _ _ _ _ _ => pts_nil) (fun _ _ _ _ _ => pe_op op_add pe_int (pv 2)))
    (pss_cons (ps_for PassesOwn.never rfl (pi_enum rfl U.n_enumerate (pa_cons (pv 0) pa_nil)) (pg_tup rfl (pgs_cons (pg_nm 2 nd) (pgs_cons (pg_nm 3 nd) pgs_nil)))
      (pss_one (ps_asg (pe_op op_mod (pe_callTy call_int1 rfl T.X.U.E.n_int PyProof.Rows.Boot.«int» (pa_cons (pe_op op_add (pe_op op_mul (pe_ix ix_list (pv 1) (pe_op op_mod (pe_callTy call_int1 rfl T.X.U.E.n_int PyProof.Rows.Boot.«int» (pa_cons (pv 2) pa_nil)) pe_int) (fun _ _ => rfl)) pe_int) (pv 3)) pa_nil)) pe_int)
        (pg_sub (pv 1) (pe_op op_mod (pe_callTy call_int1 rfl T.X.U.E.n_int PyProof.Rows.Boot.«int» (pa_cons (pv 2) pa_nil)) pe_int) set_list))))
    (pss_cons (ps_for PassesOwn.never rfl (pi_range2 rfl T.n_range (pa_cons pe_int (pa_cons pe_int pa_nil))) (pg_nm 2 nd)
      (pss_one (ps_asg (pe_op op_mod (pe_callTy call_int1 rfl T.X.U.E.n_int PyProof.Rows.Boot.«int» (pa_cons (pe_op op_add (pe_ix ix_list (pv 1) (pv 2) (fun _ _ => rfl)) (pe_op op_mul (pe_ix ix_list (pv 1) (pe_op op_sub (pv 2) pe_int) (fun _ _ => rfl)) pe_int)) pa_nil)) pe_int) (pg_sub (pv 1) (pv 2) set_list))))
    (pss_one (ps_ret (pv 1)))))), ?_⟩
  refine ⟨_, rfl, by decide, by decide, fun l hl => ?_⟩
  have p64 : (0 : Int) < 64 := by decide
  have pM : (0 : Int) < 2147483647 := by decide
  refine lc_acc1 (walk_range (lo := 0) (n := 64)) PT1 (fun i acc _ => ∃ is : List Int, acc = is.map .int ∧ is.length = i ∧ i ≤ 64 ∧ (∀ x ∈ is, 0 ≤ x ∧ x < 2147483648)) hl ⟨[], rfl, rfl, by decide, fun x hx => (by cases hx)⟩ (fun _ _ _ _ _ _ _ => True.intro) (fun _ _ _ _ => True.intro) (fun i acc H' ⟨is, e1, e2, e4, e3⟩ => ?_) (fun i acc H' a0 a1 e r => r) ?_ ?_
  · rw [e1, List.length_map, sizeLine_eq]; omega
  · intro i x H6 H6' acc Post hi kp e r hp hy
    obtain ⟨is, rfl, e2, e4, e3⟩ := r
    obtain ⟨rfl, rfl⟩ := hy
    refine ⟨rfl, _, rfl, _, _, rfl, rfl, hp _ _ (Kp.refl _) ⟨is ++ [17 + (0 + (i : Int))], by rw [List.map_append]; rfl, by rw [List.length_append, e2]; rfl, hi, fun x hx => ?_⟩⟩
    rcases List.mem_append.mp hx with z | z
    · exact e3 x z
    · rw [List.mem_singleton.mp z]; omega
  · intro H7 acc kp e r
    obtain ⟨is0, rfl, e2, _, e3⟩ := r
    have sm7 := kp.same
    have g7 : G64 H7 l := ⟨is0, e2, e3, e⟩
    refine ⟨_, rfl, s, js.map .int, rfl, sm7.seq hs, ?_⟩
    refine for_it walk_enum (fun i σ H' => Same H H' ∧ G64 H' l ∧ ∃ x2 x3, σ = [some (.ref s), some (.ref l), x2, x3]) ⟨sm7, g7, _, _, rfl⟩ (fun i σ H' _ p => p.1.seq hs) (fun i x σ H1 H2 hi ⟨p1, ⟨is, g1, g2, g3⟩, x2, x3, p2⟩ hy => ?_) (fun σ H1 ⟨p1, p2, x2, x3, p3⟩ => ?_)
    · obtain ⟨Tp, xa, xb, rfl, hT, rfl, ea, eb⟩ := hy
      subst p2
      cases ea
      have eb' : (js.map V.int)[i]? = some xb := eb
      rw [List.getElem?_map] at eb'
      obtain ⟨c, hc, rfl⟩ := Option.map_eq_some_iff.mp eb'
      have sT := same_new (o := .tup [.int (i : Nat), .int c]) hT
      have gT := sT _ _ g3
      have p1T := p1.trans sT
      refine ⟨Tp, [.int (i : Nat), .int c], rfl, .inl (.inl upd_same), rfl, _, _, rfl, _, [], rfl, rfl, ?_⟩
      revert gT p1T
      generalize upd H1 Tp _ = H3
      intro gT p1T
      have hj : ((i : Nat) : Int) % 64 = ((i % 64 : Nat) : Int) := by omega
      have hlt : i % 64 < is.length := by rw [g1]; exact Nat.mod_lt _ (by decide)
      have hv := g2 _ (List.getElem_mem hlt)
      refine ⟨_, rfl, _, rfl, .inl ⟨_, rfl, _, _, rfl, rfl, p64, l, _, _, .int is[i % 64], rfl, rfl, .inl (.inl gT), int_at hj hlt, _, _, rfl, rfl, .inr (by decide), _, rfl, _, _, rfl, rfl, .inl ⟨_, rfl, _, _, rfl, rfl, pM, _, rfl, _, rfl, .inl ⟨_, rfl, _, _, rfl, rfl, p64, l, _, _, i % 64, rfl, rfl, gT, ixN_nat hj (by rw [List.length_map]; exact hlt), ?_⟩⟩⟩⟩
      have m0 := Int.emod_nonneg (is[i % 64] * 48271 + c) (b := 2147483647) (by decide)
      have m1 := Int.emod_lt_of_pos (is[i % 64] * 48271 + c) (b := 2147483647) (by decide)
      exact ⟨fun b o hb => (upd_ne (fun z => by rw [z, hl] at hb; cases hb)).trans (p1T _ _ hb), G64.set g1 g2 ⟨m0, by omega⟩, _, _, rfl⟩
    · subst p3
      refine ⟨1, 64, rfl, by decide, ?_⟩
      refine for_it (walk_range (lo := 1) (n := 63)) (fun i σ H' => Same H H' ∧ G64 H' l ∧ ∃ x2 x3, σ = [some (.ref s), some (.ref l), x2, x3]) ⟨p1, p2, _, _, rfl⟩ (fun i σ H' _ p => True.intro) (fun i x σ H1 H2 hi ⟨p1, ⟨is, g1, g2, g3⟩, x2, x3, p2⟩ hy => ?_) (fun σ H1 ⟨p1, p2, x2, x3, p3⟩ => ?_)
      · obtain ⟨rfl, rfl⟩ := hy
        subst p2
        have h1 : (1 : Int) + (i : Int) = ((i + 1 : Nat) : Int) := by omega
        have h0 : (1 : Int) + (i : Int) - 1 = ((i : Nat) : Int) := by omega
        have l1 : i + 1 < is.length := by omega
        have l0 : i < is.length := by omega
        have hv := g2 _ (List.getElem_mem l1)
        have hv0 := g2 _ (List.getElem_mem l0)
        refine ⟨_, rfl, _, rfl, l, _, _, .int is[i + 1], rfl, rfl, .inl (.inl g3), int_at h1 l1, _, rfl, _, rfl, _, _, rfl, rfl, l, _, _, .int is[i], rfl, rfl, .inl (.inl g3), int_at h0 l0, _, _, rfl, rfl, .inr (by decide), _, _, rfl, rfl, .inl ⟨_, rfl, _, _, rfl, rfl, pM, _, rfl, _, rfl, l, _, _, i + 1, rfl, rfl, g3, ixN_nat h1 (by rw [List.length_map]; exact l1), ?_⟩⟩
        have m0 := Int.emod_nonneg (is[i + 1] + is[i] * 16807) (b := 2147483647) (by decide)
        have m1 := Int.emod_lt_of_pos (is[i + 1] + is[i] * 16807) (b := 2147483647) (by decide)
        exact ⟨fun b o hb => (upd_ne (fun z => by rw [z, hl] at hb; cases hb)).trans (p1 _ _ hb), G64.set g1 g2 ⟨m0, by omega⟩, _, _, rfl⟩
      · subst p3
        exact ⟨_, rfl, k H1 l p2 hl p1⟩
theorem ok_begun (T : TxL P K mg) : FOk P w K mg base CX0 2 ("_law_begun", none) p_law_begun (fun vs H Q _ => ∃ (s : Addr) (js : List Int), vs = [.ref s] ∧ SqL K H s (js.map .int) ∧ js.length ≤ 200 ∧ ∀ H' m cl G, MAt H' m cl G 0 → H m = none → H cl = none → H G = none → Same H H' → Q (.ref m) H') := by
  refine T.d_begun.f.ok sc_law_begun (fun vs H Q E h => ?_) (fun cdv A outer s0 H vs Q E hr h => ?_)
  · obtain ⟨_, _, rfl, _⟩ := h
    rfl
  obtain ⟨s, js, rfl, hs, hjl, k⟩ := h
  have nd := sc_law_begun.nd
  have hu := hu_of hr
  refine ⟨_, PSs.nox (pss_cons (ps_st 1 nd (pe_disp (pps_cons pe_str (pe_f T.d_folded (ok_folded T) hr (by decide) (pa_cons (pv 0) pa_nil)) (pps_cons pe_str (pe_lst pa_nil) (pps_cons pe_str pe_int pps_nil))) (by rfl) (by rfl) (fun z => by cases z) (by decide)))
    (pss_cons (ps_dput hu (pv 1) pe_str (pe_lc (own := [("_law_cell", 2)]) (g := gName 2) (tt := tYes) rfl nd (pi_list (pv 0)) (blkOk_by (own := [("_law_cell", 2)]) (N := N_law_begun) (sc := defScope s_law_begun) (by decide +kernel))
      (fun _ _ _ _ _ => pg_name (i := 2) nd rfl (Or.inl rfl)) (fun _ _ _ _ _ => pts_nil) (fun _ _ _ _ _ => pe_ifExp (pt_cmpR op_ge (pv 2) (pe_op op_pow pe_int pe_int) (nomark _)) (pv 2) pe_int)) rfl)
    (pss_one (ps_ret (pv 1))))), ?_⟩
  refine fun m hm => ?_
  have sm0 : Same H (upd H m (.dK [])) := same_new hm
  refine ⟨_, rfl, s, js, rfl, sm0.seq hs, hjl, fun H1 cl g1 hcl sm1 => ?_⟩
  refine ⟨Nat.zero_le _, fun G hG => ⟨same_new hG _ _ (sm1 _ _ upd_same), mD cl G 0, rfl, (show 3 ≤ 15 by decide), ?_⟩⟩
  have smG : Same H1 (upd H1 G (.lst [])) := same_new hG
  have hm1 := smG _ _ (sm1 _ _ (upd_same (H := H) (a := m) (o := .dK [])))
  have hcl0 : H cl = none := by
    cases e : H cl with
    | none => rfl
    | some x => rw [sm0 _ _ e] at hcl; cases hcl
  have hG0 : H G = none := by
    cases e : H G with
    | none => rfl
    | some x => rw [sm1 _ _ (sm0 _ _ e)] at hG; cases hG
  have smA : Same H (upd H1 G (.lst [])) := (sm0.trans sm1).trans smG
  obtain ⟨is, c1, c2, c3⟩ := g1
  have c4 := smG _ _ c3
  have hclG : cl ≠ G := fun z => by rw [z, hG] at c3; cases c3
  have hGe : upd H1 G (.lst []) G = some (.lst []) := upd_same
  revert smA hm1 c4 hGe
  generalize upd H1 G _ = H2
  intro hm1 smA c4 hGe
  show (fun σ H' => _) _ (upd H2 m (.dK (mD cl G 0)))
  have k2 : Same H (upd H2 m (.dK (mD cl G 0))) := fun b o hb => (upd_ne (fun z => by rw [z, hm] at hb; cases hb)).trans (smA _ _ hb)
  have hm2 : upd H2 m (.dK (mD cl G 0)) m = _ := upd_same
  have hcm : cl ≠ m := fun z => by rw [z, hm1] at c4; cases c4
  have c5 : upd H2 m (.dK (mD cl G 0)) cl = _ := (upd_ne hcm).trans c4
  revert k2 hm2 c5
  generalize upd H2 m _ = H3
  intro k2 hm2 c5
  refine ⟨_, rfl, s, rfl, ⟨_, k2.seq hs⟩, fun l hl => ?_⟩
  refine lc_acc1 (walk_list (xs := js.map V.int)) PT1 (fun i acc _ => ∃ is : List Int, acc = is.map .int ∧ is.length = i ∧ i ≤ js.length) hl ⟨[], rfl, rfl, Nat.zero_le _⟩ (fun i H' acc hi kp e r => kp.same.seq (k2.seq hs)) (fun _ _ _ _ => True.intro) (fun i acc H' ⟨is, e1, e2, e3⟩ => ?_) (fun i acc H' a0 a1 e r => r) ?_ ?_
  · rw [e1, List.length_map, sizeLine_eq]; omega
  · intro i x H6 H6' acc Post hi kp e r hp hy
    obtain ⟨rfl, hx⟩ := hy
    obtain ⟨gs, rfl, e2, e3⟩ := r
    rw [List.getElem?_map] at hx
    obtain ⟨c, hc, rfl⟩ := Option.map_eq_some_iff.mp hx
    have hil := (List.getElem?_eq_some_iff.mp hc).1
    refine ⟨rfl, _, rfl, _, _, rfl, rfl, ⟨by decide, by decide, by decide⟩, _, _, rfl, rfl, _, rfl, ?_⟩
    by_cases hc : (10 : Int) ^ (18 : Int).toNat ≤ c
    · exact if_t (decide_eq_true hc) ⟨_, rfl, hp _ _ (Kp.refl _) ⟨gs ++ [c], by rw [List.map_append]; rfl, by rw [List.length_append, e2]; rfl, hil⟩⟩
    · exact if_f (decide_eq_false hc) (hp _ _ (Kp.refl _) ⟨gs ++ [0], by rw [List.map_append]; rfl, by rw [List.length_append, e2]; rfl, hil⟩)
  · intro H7 acc kp e r
    obtain ⟨gs, rfl, e2, _⟩ := r
    have hm7 := kp.same _ _ hm2
    have hlm : l ≠ m := fun z => by rw [z, hm2] at hl; cases hl
    have hl0 : H l = none := by
      cases e : H l with
      | none => rfl
      | some x => rw [k2 _ _ e] at hl; cases hl
    refine ⟨_, rfl, m, _, rfl, DPut.k (k := Ks "great") hm7 (show 3 < sizeLine by decide), _, rfl, ?_⟩
    have hcll : cl ≠ l := fun z => by rw [z, hl] at c5; cases c5
    refine k (upd H7 m (.dK (mD cl l 0))) m cl l ⟨⟨0, by omega, by omega, upd_same⟩, ⟨is, c1, c2, (upd_ne hcm).trans (kp.same _ _ c5)⟩, ⟨gs, by rw [e2]; simpa using hjl, (upd_ne hlm).trans e⟩, hcll⟩ hm hcl0 hl0 fun b o hb => (upd_ne (fun z => by rw [z, hm] at hb; cases hb)).trans (kp.same _ _ (k2 _ _ hb))
end
end Ob
/-! Books, texts, keys are drawn. -/
namespace Ob
open PySem PySem.Spec PyProof.Rows L2 L2H
theorem MAt.put {H : Hp} {m cl G D : Addr} {k : Nat} {o : HO} (h : MAt H m cl G k) (h1 : D ≠ m) (h2 : D ≠ cl) (h3 : D ≠ G) : MAt (upd H D o) m cl G k := by
  obtain ⟨⟨n, a0, a1, a2⟩, ⟨is, c1, c2, c3⟩, ⟨js, g1, g2⟩, ne⟩ := h
  exact ⟨⟨n, a0, a1, (upd_ne h1.symm).trans a2⟩, ⟨is, c1, c2, (upd_ne h2.symm).trans c3⟩, ⟨js, g1, (upd_ne h3.symm).trans g2⟩, ne⟩
theorem MAt.fresh {H : Hp} {m cl G D : Addr} {k : Nat} (h : MAt H m cl G k) (hD : H D = none) : D ≠ m ∧ D ≠ cl ∧ D ≠ G := by
  obtain ⟨⟨n, a0, a1, a2⟩, ⟨is, c1, c2, c3⟩, ⟨js, g1, g2⟩, ne⟩ := h
  exact ⟨fun z => (by rw [z, a2] at hD; cases hD), fun z => (by rw [z, c3] at hD; cases hD), fun z => (by rw [z, g2] at hD; cases hD)⟩
/-- only the bag is changed -/
abbrev KM (m G : Addr) : Hp → Hp → Prop := Kp (PBut [m, G])
theorem KM.tup {H H' : Hp} {m cl G b : Addr} {k : Nat} {xs : List V} (h : MAt H m cl G k) (t : KM m G H H') (e : H b = some (.tup xs)) : H' b = some (.tup xs) := by
  obtain ⟨⟨n, a0, a1, a2⟩, ⟨is, c1, c2, c3⟩, ⟨js, g1, g2⟩, ne⟩ := h
  exact t _ _ e (but_ne e a2 g2 (fun z => by cases z) (fun z => by cases z))
abbrev tLenE (K : PySem.W.Frag) (t : TE) : TE := tCB (fun xs H Q => ∃ x n, xs = [x] ∧ LenV K x H n ∧ Q (.int n) H) (tCons t tNil)
abbrev tDrawE (t u : TE) : TE := tCallS spDraw (fun _ => E0) (tCons t (tCons u tNil))
def kyList : List Ky := [.sg 40, .sg 91, .sg 39, .sg 41, .sg 93, .sg 40, .sg 39, .sg 97, .sg 98, .sg 32, .sg 47, .back, .back, .right, .fin, .sg 122]
theorem kyList_ok : ∀ q ∈ kyList, q.ok := by
  intro q hq
  simp only [kyList, List.mem_cons, List.not_mem_nil, or_false] at hq
  rcases hq with rfl | rfl | rfl | rfl | rfl | rfl | rfl | rfl | rfl | rfl | rfl | rfl | rfl | rfl | rfl | rfl <;> first | exact True.intro | (show _ ∈ sigs; decide)
def sgList : List Nat := [40, 40, 91, 91, 41, 41, 93, 93, 39, 39, 39, 97, 32, 98, 47, 122]
theorem sgList_ok : ∀ c ∈ sgList, c ∈ sigs := by decide
section
variable {P : Program} {w : World} {K : PySem.W.Frag} {mg : Str → Option Value} {base : Heap}
theorem ok_keys (T : TxL P K mg) : FOk P w K mg base CX0 3 ("_law_keys", none) p_law_keys (fun vs H Q _ => ∃ (m cl G : Addr) (k most : Nat), vs = [.ref m, .int most] ∧ MAt H m cl G k ∧ k ≤ 2 ^ 20 ∧ most ≤ 10 ∧
    ∀ H' ka (ks : List Ky), H' ka = some (.tup (kyV ks)) → (∀ q ∈ ks, q.ok) → ks.length ≤ most → MAt H' m cl G (k + 1 + most) → KM m G H H' → Q (.ref ka) H') := by
  refine T.d_keys.f.ok sc_law_keys (fun vs H Q E h => ?_) (fun cdv A outer s0 H vs Q E hr h => ?_)
  · obtain ⟨_, _, _, _, _, rfl, _⟩ := h
    rfl
  obtain ⟨m, cl, G, k, most, rfl, hm, hk, hmo, kq⟩ := h
  have nd := sc_law_keys.nd
  have U := T.X.U.E.G.S
  refine ⟨_, PSs.nox (pss_cons (ps_st 2 nd (pe_lst (pa_cons pe_str (pa_cons pe_str (pa_cons pe_str (pa_cons pe_str (pa_cons pe_str (pa_cons pe_str (pa_cons pe_str (pa_cons pe_str (pa_cons pe_str (pa_cons pe_str (pa_cons pe_str (pa_cons pe_str (pa_cons pe_str (pa_cons pe_str (pa_cons pe_str (pa_cons pe_str pa_nil))))))))))))))))))
    (pss_one (ps_ret (pe_callTy call_tuple_of rfl U.n_tuple PyProof.Rows.Boot.«tuple» (pa_cons (pe_lc (own := [("_law_k", 3)]) (g := gName 3) (tt := tYes) (te := tOp (rIxL K) (tVar 2) (tDrawE (tVar 0) (tC (.int 16)))) rfl nd (pi_range1 rfl T.n_range (pa_cons (pe_f T.d_draw (ok_draw T) hr (by decide) (pa_cons (pv 0) (pa_cons (pe_op op_add (pv 1) pe_int) pa_nil))) pa_nil)) (blkOk_by (own := [("_law_k", 3)]) (N := N_law_keys) (sc := defScope s_law_keys) (by decide +kernel))
      (fun _ _ _ _ _ => pg_name (i := 3) nd rfl (Or.inl rfl)) (fun _ _ _ _ _ => pts_nil) (fun _ _ _ _ _ => pe_ix ix_list (pv 2) (pe_f T.d_draw (ok_draw T) hr (by decide) (pa_cons (pv 0) (pa_cons pe_int pa_nil))) (fun _ _ => rfl))) pa_nil))))), ?_⟩
  refine ⟨(show 16 ≤ sizeLine by decide), fun sl hsl => ?_⟩
  have sm1 : Same H (upd H sl (.lst (kyV kyList))) := same_new hsl
  have m1 := hm.same sm1
  have nsl := hm.fresh hsl
  have hs1 : upd H sl (.lst (kyV kyList)) sl = _ := upd_same
  revert sm1 m1 hs1
  generalize eH : upd H sl (.lst (kyV kyList)) = H1
  intro sm1 m1 hs1
  dsimp only
  rw [show upd H sl (.lst [V.str "(", .str "[", .str "'", .str ")", .str "]", .str "(", .str "'", .str "a", .str "b", .str " ", .str "/", .str "back", .str "back", .str "right", .str "end", .str "z"]) = H1 from eH]
  refine ⟨_, rfl, _, rfl, _, _, rfl, rfl, m, cl, G, k, _, rfl, m1, by omega, by omega, by omega, fun H2 r m2 k2 r0 r1 => ⟨r, rfl, by omega, by omega, fun l hl => ?_⟩⟩
  obtain ⟨n, rfl⟩ : ∃ n : Nat, r = (n : Int) := ⟨r.toNat, by omega⟩
  have hs2 := k2 _ _ hs1 (fun z => by
    rcases List.mem_cons.mp z with z | z
    · exact nsl.1 z
    · exact nsl.2.2 (List.mem_singleton.mp z))
  have nl := m2.fresh hl
  have hll : l ≠ sl := fun z => by rw [z, hs2] at hl; cases hl
  have nb : sl ∉ [m, G] := fun z => by
    rcases List.mem_cons.mp z with z | z
    · exact nsl.1 z
    · exact nsl.2.2 (List.mem_singleton.mp z)
  refine lc_acc1 (walk_range (lo := 0) (n := ((n : Int)).toNat)) (PBut [m, G]) (fun i acc H' => ∃ ks : List Ky, acc = kyV ks ∧ (∀ q ∈ ks, q.ok) ∧ ks.length = i ∧ i ≤ n ∧ MAt H' m cl G (k + 1 + i)) hl ⟨[], rfl, fun q hq => (by cases hq), rfl, Nat.zero_le _, m2.put nl.1 nl.2.1 nl.2.2⟩ (fun _ _ _ _ _ _ _ => True.intro) (fun _ _ _ _ z => by
      rcases List.mem_cons.mp z with z | z
      · exact nl.1 z
      · exact nl.2.2 (List.mem_singleton.mp z)) (fun i acc H' ⟨ks, e1, _, e2, e3, _⟩ => ?_) (fun i acc H' a0 a1 e ⟨ks, e1, e2, e3, e4, e5⟩ => ⟨ks, e1, e2, e3, e4, e5.put nl.1 nl.2.1 nl.2.2⟩) ?_ ?_
  · rw [e1, List.length_map, sizeLine_eq]; omega
  · intro i x H6 H6' acc Post hi kp e r hp hy
    obtain ⟨ks, rfl, e2, e3, e4, e5⟩ := r
    obtain ⟨rfl, rfl⟩ := hy
    have hi' : i < n := by simpa using hi
    refine ⟨rfl, _, rfl, _, rfl, m, cl, G, _, _, rfl, e5, by omega, by decide, by decide, fun H7 r7 m7 k7 a b => ?_⟩
    obtain ⟨j, rfl⟩ : ∃ j : Nat, r7 = (j : Int) := ⟨r7.toNat, by omega⟩
    have hj : j < kyList.length := by show j < 16; omega
    have hs7 := k7 _ _ (kp _ _ hs2 nb) nb
    refine ⟨sl, _, _, .str kyList[j].str, rfl, rfl, .inl (.inl hs7), atI_nat (by rw [List.getElem?_map, List.getElem?_eq_getElem hj]; rfl), hp _ _ k7 ⟨ks ++ [kyList[j]], by simp [kyV], fun q hq => ?_, by rw [List.length_append, e3]; rfl, hi', m7⟩⟩
    rcases List.mem_append.mp hq with z | z
    · exact e2 q z
    · rw [List.mem_singleton.mp z]; exact kyList_ok _ (List.getElem_mem hj)
  · intro H7 acc kp e r
    obtain ⟨ks, rfl, e2, e3, e4, e5⟩ := r
    refine ⟨l, _, rfl, .inl ⟨.inl (.inl e), fun t ht => ?_⟩⟩
    have st : Same H7 (upd H7 t (.tup (kyV ks))) := same_new ht
    refine kq _ t ks upd_same e2 (by rw [e3]; simp; omega) ((e5.same st).mono (by simp; omega)) fun b o hb hn => st _ _ (kp _ _ (k2 _ _ (sm1 _ _ hb) hn) hn)
theorem ok_signs (T : TxL P K mg) : FOk P w K mg base CX0 3 ("_law_signs", none) p_law_signs (fun vs H Q _ => ∃ (m cl G : Addr) (k most : Nat), vs = [.ref m, .int most] ∧ MAt H m cl G k ∧ k ≤ 2 ^ 20 ∧ most ≤ 10 ∧
    ∀ H' (l : List Nat), (∀ c ∈ l, c ∈ sigs) → l.length ≤ most → MAt H' m cl G (k + 1 + most) → KM m G H H' → Q (.str (S l)) H') := by
  refine T.d_signs.f.ok sc_law_signs (fun vs H Q E h => ?_) (fun cdv A outer s0 H vs Q E hr h => ?_)
  · obtain ⟨_, _, _, _, _, rfl, _⟩ := h
    rfl
  obtain ⟨m, cl, G, k, most, rfl, hm, hk, hmo, kq⟩ := h
  have nd := sc_law_signs.nd
  refine ⟨_, PSs.nox (pss_one (ps_ret (pe_join pe_str (pe_lc (own := [("_law_k", 2)]) (g := gName 2) (tt := tYes) (te := tOp rIxS (tC (.str "(([[))]]'''a b/z")) (tDrawE (tVar 0) (tC (.int 16)))) rfl nd (pi_range1 rfl T.n_range (pa_cons (pe_f T.d_draw (ok_draw T) hr (by decide) (pa_cons (pv 0) (pa_cons (pe_op op_add (pv 1) pe_int) pa_nil))) pa_nil)) (blkOk_by (own := [("_law_k", 2)]) (N := N_law_signs) (sc := defScope s_law_signs) (by decide +kernel))
      (fun _ _ _ _ _ => pg_name (i := 2) nd rfl (Or.inl rfl)) (fun _ _ _ _ _ => pts_nil) (fun _ _ _ _ _ => pe_ix ix_str pe_str (pe_f T.d_draw (ok_draw T) hr (by decide) (pa_cons (pv 0) (pa_cons pe_int pa_nil))) (fun _ _ => rfl)))))), ?_⟩
  refine ⟨⟨_, rfl⟩, _, rfl, _, rfl, _, _, rfl, rfl, m, cl, G, k, _, rfl, hm, by omega, by omega, by omega, fun H2 r m2 k2 r0 r1 => ⟨r, rfl, by omega, by omega, fun l hl => ?_⟩⟩
  obtain ⟨n, rfl⟩ : ∃ n : Nat, r = (n : Int) := ⟨r.toNat, by omega⟩
  have nl := m2.fresh hl
  refine lc_acc1 (walk_range (lo := 0) (n := ((n : Int)).toNat)) (PBut [m, G]) (fun i acc H' => ∃ cs : List Nat, acc = (cs.map fun c => S [c]).map V.str ∧ (∀ c ∈ cs, c ∈ sigs) ∧ cs.length = i ∧ i ≤ n ∧ MAt H' m cl G (k + 1 + i)) hl ⟨[], rfl, fun q hq => (by cases hq), rfl, Nat.zero_le _, m2.put nl.1 nl.2.1 nl.2.2⟩ (fun _ _ _ _ _ _ _ => True.intro) (fun _ _ _ _ z => by
      rcases List.mem_cons.mp z with z | z
      · exact nl.1 z
      · exact nl.2.2 (List.mem_singleton.mp z)) (fun i acc H' ⟨ks, e1, _, e2, e3, _⟩ => ?_) (fun i acc H' a0 a1 e ⟨ks, e1, e2, e3, e4, e5⟩ => ⟨ks, e1, e2, e3, e4, e5.put nl.1 nl.2.1 nl.2.2⟩) ?_ ?_
  · rw [e1, List.length_map, List.length_map, sizeLine_eq]; omega
  · intro i x H6 H6' acc Post hi kp e r hp hy
    obtain ⟨ks, rfl, e2, e3, e4, e5⟩ := r
    obtain ⟨rfl, rfl⟩ := hy
    have hi' : i < n := by simpa using hi
    refine ⟨rfl, _, rfl, m, cl, G, _, _, rfl, e5, by omega, by decide, by decide, fun H7 r7 m7 k7 a b => ?_⟩
    obtain ⟨j, rfl⟩ : ∃ j : Nat, r7 = (j : Int) := ⟨r7.toNat, by omega⟩
    have hj : j < sgList.length := by show j < 16; omega
    refine ⟨S sgList, _, sgList[j], rfl, rfl, by decide, atI_nat (by show sgList[j]? = _; rw [List.getElem?_eq_getElem hj]), hp _ _ k7 ⟨ks ++ [sgList[j]], by simp [S], fun q hq => ?_, by rw [List.length_append, e3]; rfl, hi', m7⟩⟩
    rcases List.mem_append.mp hq with z | z
    · exact e2 q z
    · rw [List.mem_singleton.mp z]; exact sgList_ok _ (List.getElem_mem hj)
  · intro H7 acc kp e r
    obtain ⟨ks, rfl, e2, e3, e4, e5⟩ := r
    refine ⟨_, l, ks.map fun c => S [c], rfl, rfl, .inl (.inl (.inl e)), ?_, ?_⟩
    · rw [sum_ones]
      show ks.length + _ * 0 ≤ _
      rw [e3]; simp; omega
    · rw [show Txt.join "" (ks.map fun c => S [c]) = _ from join_sg _]
      exact kq _ ks e2 (by rw [e3]; simp; omega) (e5.mono (by simp; omega)) fun b o hb hn => kp _ _ (k2 _ _ hb hn) hn
theorem chs_at {i : Nat} {ws : List Str} (h : chs[i]? = some ws) : 0 < ws.length ∧ ws.length ≤ 3 := by
  have : ∀ ws ∈ chs, 0 < ws.length ∧ ws.length ≤ 3 := by decide
  exact this ws (List.mem_of_getElem? h)
theorem bk_of {zs : List Str} (h6 : zs.length = 6) (h : ∀ (j : Nat) (z : Str), zs[j]? = some z → ∃ ws, chs[j]? = some ws ∧ z ∈ ws) : ∃ b : Bk, b.ok ∧ b.vs = zs := by
  match zs, h6 with
  | [z0, z1, z2, z3, z4, z5], _ =>
    refine ⟨⟨z0, z1, z2, z3, z4, z5⟩, ⟨?_, ?_, ?_, ?_, ?_, ?_⟩, rfl⟩
    · obtain ⟨ws, h1, h2⟩ := h 0 z0 rfl; cases h1; exact h2
    · obtain ⟨ws, h1, h2⟩ := h 1 z1 rfl; cases h1; exact h2
    · obtain ⟨ws, h1, h2⟩ := h 2 z2 rfl; cases h1; exact h2
    · obtain ⟨ws, h1, h2⟩ := h 3 z3 rfl; cases h1; exact h2
    · obtain ⟨ws, h1, h2⟩ := h 4 z4 rfl; cases h1; exact h2
    · obtain ⟨ws, h1, h2⟩ := h 5 z5 rfl; cases h1; exact h2
theorem ok_book (T : TxL P K mg) : FOk P w K mg base CX0 3 ("_law_book", none) p_law_book (fun vs H Q _ => ∃ (m cl G : Addr) (k : Nat), vs = [.ref m] ∧ MAt H m cl G k ∧ k ≤ 2 ^ 20 ∧
    ∀ H' ba (b : Bk), H' ba = some (.tup b.V) → b.ok → MAt H' m cl G (k + 6) → KM m G H H' → Q (.ref ba) H') := by
  refine T.d_book.f.ok sc_law_book (fun vs H Q E h => ?_) (fun cdv A outer s0 H vs Q E hr h => ?_)
  · obtain ⟨_, _, _, _, rfl, _⟩ := h
    rfl
  obtain ⟨m, cl, G, k, rfl, hm, hk, kq⟩ := h
  have nd := sc_law_book.nd
  have U := T.X.U.E.G.S
  refine ⟨_, PSs.nox (pss_cons (ps_st 1 nd (pe_tup (pa_cons (pe_tup (pa_cons pe_str (pa_cons pe_str (pa_cons pe_str pa_nil)))) (pa_cons (pe_tup (pa_cons pe_str (pa_cons pe_str (pa_cons pe_str pa_nil)))) (pa_cons (pe_tup (pa_cons pe_str (pa_cons pe_str pa_nil))) (pa_cons (pe_tup (pa_cons pe_str (pa_cons pe_str (pa_cons pe_str pa_nil)))) pa_nil))))))
    (pss_cons (ps_st 1 nd (pe_op op_catA (pv 1) (pe_tup (pa_cons (pe_tup (pa_cons pe_str (pa_cons pe_str (pa_cons pe_str pa_nil)))) (pa_cons (pe_tup (pa_cons pe_str (pa_cons pe_str pa_nil))) pa_nil)))))
    (pss_one (ps_ret (pe_callTy call_tuple_of rfl U.n_tuple PyProof.Rows.Boot.«tuple» (pa_cons (pe_lc (own := [("_law_some", 2)]) (g := gName 2) (tt := tYes) (te := tOp (rIxT K) (tVar 2) (tDrawE (tVar 0) (tLenE K (tVar 2)))) rfl nd (pi_tup (pv 1)) (blkOk_by (own := [("_law_some", 2)]) (N := N_law_book) (sc := defScope s_law_book) (by decide +kernel))
      (fun _ _ _ _ _ => pg_name (i := 2) nd rfl (Or.inl rfl)) (fun _ _ _ _ _ => pts_nil) (fun _ _ _ _ _ => pe_ix ix_tup (pv 2) (pe_f T.d_draw (ok_draw T) hr (by decide) (pa_cons (pv 0) (pa_cons (pe_callB call_len rfl U.n_len boot_len (pa_cons (pv 2) pa_nil)) pa_nil))) (fun _ _ => rfl))) pa_nil)))))), ?_⟩
  have w3 : (3 : Nat) ≤ sizeLine := by decide
  have w2 : (2 : Nat) ≤ sizeLine := by decide
  have w4 : (4 : Nat) ≤ sizeLine := by decide
  refine ⟨w3, fun t0 h0 => ⟨w3, fun t1 h1 => ⟨w2, fun t2 h2 => ⟨w3, fun t3 h3 => ⟨w4, fun ta ha => ?_⟩⟩⟩⟩⟩
  refine ⟨_, rfl, w3, fun t4 h4 => ⟨w2, fun t5 h5 => ⟨w2, fun tb hb => ⟨ta, tb, [.ref t0, .ref t1, .ref t2, .ref t3], [.ref t4, .ref t5], rfl, rfl, ?_, .inl (.inl upd_same), (by show 6 ≤ sizeLine; decide), fun z => (by cases z), fun _ z => (by cases z), fun _ _ tc hc => ?_⟩⟩⟩⟩
  · exact .inl (.inl ((same_new hb) _ _ ((same_new h5) _ _ ((same_new h4) _ _ upd_same))))
  have s0 := same_new (o := .tup [.str "always", .str "free", .str "never"]) h0
  have s1 := same_new (o := .tup [.str "always", .str "apart", .str "never"]) h1
  have s2 := same_new (o := .tup [.str "same", .str "none"]) h2
  have s3 := same_new (o := .tup [.str "own", .str "any", .str "never"]) h3
  have sa := same_new (o := .tup [.ref t0, .ref t1, .ref t2, .ref t3]) ha
  have s4 := same_new (o := .tup [.str "own", .str "any", .str "one"]) h4
  have s5 := same_new (o := .tup [.str "never", .str "line"]) h5
  have sb := same_new (o := .tup [.ref t4, .ref t5]) hb
  have sc := same_new (o := .tup ([.ref t0, .ref t1, .ref t2, .ref t3] ++ [.ref t4, .ref t5])) hc
  have q5 := sb.trans sc
  have q4 := s5.trans q5
  have qa := s4.trans q4
  have q3 := sa.trans qa
  have q2 := s3.trans q3
  have q1 := s2.trans q2
  have q0 := s1.trans q1
  have f0 := q0 _ _ (upd_same (a := t0))
  have f1 := q1 _ _ (upd_same (a := t1))
  have f2 := q2 _ _ (upd_same (a := t2))
  have f3 := q3 _ _ (upd_same (a := t3))
  have f4 := q4 _ _ (upd_same (a := t4))
  have f5 := q5 _ _ (upd_same (a := t5))
  have smA := s0.trans q0
  have fc := upd_same (H := upd (upd (upd (upd (upd (upd (upd (upd H t0 (.tup [.str "always", .str "free", .str "never"])) t1 (.tup [.str "always", .str "apart", .str "never"])) t2 (.tup [.str "same", .str "none"])) t3 (.tup [.str "own", .str "any", .str "never"])) ta (.tup [.ref t0, .ref t1, .ref t2, .ref t3])) t4 (.tup [.str "own", .str "any", .str "one"])) t5 (.tup [.str "never", .str "line"])) tb (.tup [.ref t4, .ref t5])) (a := tc) (o := .tup ([.ref t0, .ref t1, .ref t2, .ref t3] ++ [.ref t4, .ref t5]))
  clear s0 s1 s2 s3 sa s4 s5 sb sc q0 q1 q2 q3 qa q4 q5
  refine ⟨_, rfl, tc, rfl, ⟨_, .inl (.inl fc)⟩, fun l hl => ?_⟩
  have m7 := hm.same smA
  revert f0 f1 f2 f3 f4 f5 smA fc m7 hl
  generalize upd _ tc _ = H7
  intro f0 f1 f2 f3 f4 f5 smA fc hl m7
  have nl := m7.fresh hl
  have tat : ∀ (i : Nat) (x : V), ([.ref t0, .ref t1, .ref t2, .ref t3] ++ [.ref t4, .ref t5] : List V)[i]? = some x → ∃ t ws, x = .ref t ∧ chs[i]? = some ws ∧ H7 t = some (.tup (ws.map .str)) := fun i x hx => by
    match i, hx with
    | 0, hx => cases hx; exact ⟨t0, _, rfl, rfl, f0⟩
    | 1, hx => cases hx; exact ⟨t1, _, rfl, rfl, f1⟩
    | 2, hx => cases hx; exact ⟨t2, _, rfl, rfl, f2⟩
    | 3, hx => cases hx; exact ⟨t3, _, rfl, rfl, f3⟩
    | 4, hx => cases hx; exact ⟨t4, _, rfl, rfl, f4⟩
    | 5, hx => cases hx; exact ⟨t5, _, rfl, rfl, f5⟩
    | (n + 6), hx => simp at hx
  refine lc_acc1 (walk_tup (xs := [.ref t0, .ref t1, .ref t2, .ref t3] ++ [.ref t4, .ref t5])) (PBut [m, G]) (fun i acc H' => ∃ zs : List Str, acc = zs.map V.str ∧ zs.length = i ∧ i ≤ 6 ∧ (∀ (j : Nat) (z : Str), zs[j]? = some z → ∃ ws, chs[j]? = some ws ∧ z ∈ ws) ∧ MAt H' m cl G (k + i)) hl ⟨[], rfl, rfl, by decide, fun j z hz => (by simp at hz), m7.put nl.1 nl.2.1 nl.2.2⟩ (fun i H' acc hi kp e r => .inl (.inl (KM.tup m7 kp fc))) (fun _ _ _ _ z => by
      rcases List.mem_cons.mp z with z | z
      · exact nl.1 z
      · exact nl.2.2 (List.mem_singleton.mp z)) (fun i acc H' ⟨ks, e1, e2, e3, _, _⟩ => ?_) (fun i acc H' a0 a1 e ⟨ks, e1, e2, e3, e4, e5⟩ => ⟨ks, e1, e2, e3, e4, e5.put nl.1 nl.2.1 nl.2.2⟩) ?_ ?_
  · rw [e1, List.length_map, sizeLine_eq]; omega
  · intro i x H6 H6' acc Post hi kp e r hp hy
    obtain ⟨zs, rfl, e2, e3, e4, e5⟩ := r
    obtain ⟨rfl, hx⟩ := hy
    have hi' : i < 6 := hi
    obtain ⟨t, ws, rfl, hws, ht⟩ := tat i x hx
    obtain ⟨w0, w1⟩ := chs_at hws
    have ht6 := KM.tup m7 kp ht
    refine ⟨rfl, _, rfl, _, rfl, _, rfl, _, ws.length, rfl, .inr ⟨_, .inl (.inl ht6), by rw [List.length_map]⟩, m, cl, G, _, _, rfl, e5, by omega, by omega, by omega, fun H9 r9 m9 k9 a b => ?_⟩
    obtain ⟨j, rfl⟩ : ∃ j : Nat, r9 = (j : Int) := ⟨r9.toNat, by omega⟩
    have hj : j < ws.length := by omega
    refine ⟨t, _, _, .str ws[j], rfl, rfl, .inl (.inl (KM.tup e5 k9 ht6)), atI_nat (by rw [List.getElem?_map, List.getElem?_eq_getElem hj]; rfl), hp _ _ k9 ⟨zs ++ [ws[j]], by simp, by rw [List.length_append, e2]; rfl, hi', fun j' z hz => ?_, m9⟩⟩
    rcases Nat.lt_or_ge j' zs.length with hlt | hge
    · rw [List.getElem?_append_left hlt] at hz
      exact e4 j' z hz
    · rw [List.getElem?_append_right hge] at hz
      have : j' - zs.length = 0 := by
        rcases Nat.eq_zero_or_pos (j' - zs.length) with h | h
        · exact h
        · rw [List.getElem?_eq_none (by simp; omega)] at hz; cases hz
      rw [this] at hz
      cases hz
      have : j' = i := by omega
      rw [this]
      exact ⟨ws, hws, List.getElem_mem hj⟩
  · intro H8 acc kp e r
    obtain ⟨zs, rfl, e2, e3, e4, e5⟩ := r
    obtain ⟨b, ob, rfl⟩ := bk_of e2 e4
    refine ⟨l, _, rfl, .inl ⟨.inl (.inl e), fun t ht => ?_⟩⟩
    have st : Same H8 (upd H8 t (.tup (b.vs.map V.str))) := same_new ht
    exact kq _ t b upd_same ob (e5.same st) fun b o hb hn => st _ _ (kp _ _ (smA _ _ hb) hn)
end
end Ob
/-! The law's own page: closer, puts, page, on. -/
namespace Ob
open PySem PySem.Spec PyProof.Rows L2 L2H
abbrev clD : List (Key × V) := [(Ks "(", .str ")"), (Ks "[", .str "]"), (Ks "'", .str "'")]
theorem clD_get (o : Option Nat) : ((valV clD (Sum.inr (O1 o))).getD (.str "")) = optS (o.bind closerOf) := by
  cases o with
  | none => rfl
  | some c =>
    by_cases h1 : c = 40
    · subst h1; rfl
    · by_cases h2 : c = 91
      · subst h2; rfl
      · by_cases h3 : c = 39
        · subst h3; rfl
        · have ne : ∀ d : Nat, c ≠ d → ¬ ((Sum.inr (S [d]) : Key) = Sum.inr (O1 (some c))) := fun d hd e => by
            have e2 := Sum.inr.inj e
            have e3 : [d] = [c] := S_inj e2
            exact hd (List.cons.inj e3).1.symm
          have e1 : valV clD (Sum.inr (O1 (some c))) = none := by
            show valV ((Sum.inr (S [40]), _) :: _) _ = _
            rw [valV_neg (ne 40 h1)]
            show valV ((Sum.inr (S [91]), _) :: _) _ = _
            rw [valV_neg (ne 91 h2)]
            show valV ((Sum.inr (S [39]), _) :: _) _ = _
            rw [valV_neg (ne 39 h3)]
            rfl
          rw [e1]
          have e4 : (some c).bind closerOf = none := by
            show closerOf c = none
            unfold closerOf
            rw [if_neg h3, if_neg h1, if_neg h2]
          rw [e4]
          rfl
abbrev lpD (pg : Pg) : PyData := .tuple [.str (S pg.1), .tuple (pg.2.map prD')]
section
variable {P : Program} {w : World} {K : PySem.W.Frag} {mg : Str → Option Value} {base : Heap}
abbrev spCl : Sp := fun vs H Q _ => ∃ o : Option Nat, vs = [.str (O1 o)] ∧ ∀ H', Same H H' → Q (optS (o.bind closerOf)) H'
theorem ok_closer (T : TxL P K mg) : FOk P w K mg base CX0 1 ("_law_closer", none) p_law_closer spCl := by
  refine T.d_closer.f.ok sc_law_closer (fun vs H Q E h => ?_) (fun cdv A outer s0 H vs Q E hr h => ?_)
  · obtain ⟨_, rfl, _⟩ := h
    rfl
  obtain ⟨o, rfl, k⟩ := h
  have hu := hu_of hr
  refine ⟨_, PSs.nox (pss_one (ps_ret (pe_dget2 hu (pe_disp (pps_cons pe_str pe_str (pps_cons pe_str pe_str (pps_cons pe_str pe_str pps_nil))) (by rfl) (by rfl) (fun z => by cases z) (by decide)) (pv 0) pe_str ⟨rfl, rfl, rfl, rfl⟩))), ?_⟩
  refine fun d hd => ⟨upd_same, clD, rfl, by decide, d, rfl, ?_, _, rfl, _, DGet.k (k := Sum.inr (O1 o)) upd_same, ?_⟩
  · exact .inl ⟨_, .inl upd_same⟩
  · have e : (valV (mergeK [] clD) (Sum.inr (O1 o))).getD (.str "") = optS (o.bind closerOf) := clD_get o
    have q := k (upd (upd H d (.dK [])) d (.dK (mergeK [] clD))) (fun b u hb => by
      have nb : b ≠ d := fun z => by rw [z, hd] at hb; cases hb
      rw [upd_ne nb, upd_ne nb]; exact hb)
    rw [← e] at q
    exact q
theorem free_in (c : Nat) : decide (c ∈ (S [41, 93, 39, 32, 47]).cps.toList) = isFree (some c) := by
  show decide (c ∈ [41, 93, 39, 32, 47]) = decide (c ∈ [41, 93, 39, 32, 47])
  rfl
theorem apart_in {c : Nat} (h : c ∈ sigs) : decide (c ∈ [40, 41, 91, 93, 32, 47]) = (!isLetter c && !decide (c = 39)) := by
  have : ∀ c ∈ sigs, decide (c ∈ [40, 41, 91, 93, 32, 47]) = (!isLetter c && !decide (c = 39)) := by decide
  exact this c h
theorem b2_none {b : Bk} (h : b.ok) : decide (b.b2 = "none") = !decide (b.b2 = "same") := by
  have := h.o2
  simp only [List.mem_cons, List.not_mem_nil, or_false] at this
  rcases this with e | e <;> rw [e] <;> decide
theorem b1_cases {b : Bk} (h : b.ok) : decide (b.b1 = "always") = true → ¬ b.b1 = "apart" := by
  intro e z
  rw [z] at e
  exact absurd e (by decide)
abbrev spPuts : Sp := fun vs H Q _ => ∃ (ba : Addr) (b : Bk) (p : Pg) (c : Nat), vs = [.ref ba, .str (S p.1), .str (S [c]), .str (O1 (nxt p))] ∧ H ba = some (.tup b.V) ∧ b.ok ∧ (∀ x ∈ p.1, x ∈ sigs) ∧ p.1.length ≤ 1000 ∧ ∀ H', Same H H' → Q (.bl ((closerOf c).isSome && doesPut b p c)) H'
theorem ok_puts (T : TxL P K mg) : FOk P w K mg base CX0 2 ("_law_puts", none) p_law_puts spPuts := by
  refine T.d_puts.f.ok sc_law_puts (fun vs H Q E h => ?_) (fun cdv A outer s0 H vs Q E hr h => ?_)
  · obtain ⟨_, _, _, _, rfl, _⟩ := h
    rfl
  obtain ⟨ba, b, p, c, rfl, hb, ob, hs, hl, k⟩ := h
  have nd := sc_law_puts.nd
  refine ⟨_, PSs.nox (pss_cons (ps_st 4 nd (pe_cmpR op_eq (pe_op op_mod (pe_callTy call_int1 rfl T.X.U.E.n_int PyProof.Rows.Boot.«int» (pa_cons (pe_m1 F.slot_str_count F.type_str_count mt_count (pe_ix ix_list (pe_split (pv 1) pe_str) (pe_un un_neg pe_int) (fun _ _ => rfl)) pe_str) pa_nil)) pe_int) pe_int (nomark _)))
    (C8.pss_cut (ps_st 5 nd (pe_or (pe_cmpR op_eq (pv 3) pe_str (nomark _)) (pe_one (pe_cmpR op_in_sign (pv 3) pe_str rfl))))
    (C8.pss_cut (ps_if (PW.pt (pw_or (PW.pt (pw_and (pt_cmpR op_eq (pe_ix ix_tup (pv 0) pe_int (fun _ _ => rfl)) pe_str (nomark _)) (pw_and1 (pt_val (pv 4) (fun _ => rfl))))) (pw_or1 (pt_cmpR op_eq (pe_f T.d_closer (ok_closer T) hr (by decide) (pa_cons (pv 2) pa_nil)) pe_str (nomark _))))) (pss_one (ps_ret pe_bl)) pss_nil)
    (pss_cons (ps_if (pt_cmpR op_ne (pv 2) pe_str (nomark _)) (pss_one (ps_ret (pe_or (pe_cmpR op_eq (pe_ix ix_tup (pv 0) pe_int (fun _ _ => rfl)) pe_str (nomark _)) (pe_one (pe_and (pe_cmpR op_eq (pe_ix ix_tup (pv 0) pe_int (fun _ _ => rfl)) pe_str (nomark _)) (pe_one (pv 5))))))) pss_nil)
    (pss_cons (ps_st 6 nd (pe_slice sl_str (pv 1) (po_some (pe_un un_neg pe_int)) po_none))
    (C8.pss_cut (ps_st 7 nd (pe_and (pv 5) (pe_one (pe_or (pe_cmpR op_eq (pv 6) pe_str (nomark _)) (pe_one (pe_cmpR op_in_sign (pv 6) pe_str rfl))))))
    (pss_one (ps_ret (pe_or (pe_cmpR op_eq (pe_ix ix_tup (pv 0) pe_int (fun _ _ => rfl)) pe_str (nomark _)) (pe_one (pe_and (pe_cmpR op_eq (pe_ix ix_tup (pv 0) pe_int (fun _ _ => rfl)) pe_str (nomark _)) (pe_one (pv 7))))))))))))), ?_⟩
  obtain ⟨zl, hz1, hz2⟩ := split_line p.1
  refine ⟨_, rfl, ⟨_, rfl⟩, S p.1, S [47], rfl, rfl, by decide, by rw [S_len, sizeLine_eq]; omega, fun l0 hl0 => ?_⟩
  have sm1 : Same H (upd H l0 (.lst ((Txt.split (S p.1) (S [47])).map V.str))) := same_new hl0
  have hat : atI ((Txt.split (S p.1) (S [47])).map V.str) (-1) = some (.str (S (lastLine p.1))) := by
    rw [← hz2]
    rcases List.eq_nil_or_concat (Txt.split (S p.1) (S [47])) with e | ⟨ys, y, e⟩
    · rw [e] at hz1; cases hz1
    · rw [List.concat_eq_append] at e
      rw [e, List.getLast?_concat] at hz1
      cases hz1
      rw [e, List.map_append]
      exact atI_last _ _
  have hw : decide (V.int (((lastLine p.1).count 39 : Nat) % 2 : Int) = V.int 1) = within p.1 := by
    unfold within quotes
    rw [Bool.eq_iff_iff]
    simp
    omega
  refine ⟨1, rfl, l0, _, -1, .str (S (lastLine p.1)), rfl, rfl, .inl (.inl upd_same), hat, ⟨_, rfl⟩, S (lastLine p.1), S [39], rfl, rfl, .inl ⟨_, rfl, _, _, rfl, rfl, (by show (0 : Int) < 2; decide), rfl, ?_⟩⟩
  rw [count_line, hw]
  revert sm1
  generalize upd H l0 _ = H1
  intro sm1
  refine ⟨fun σ H' => H' = H1 ∧ σ = [some (.ref ba), some (.str (S p.1)), some (.str (S [c])), some (.str (O1 (nxt p))), some (.bl (within p.1)), some (.bl (isFree (nxt p))), none, none], ?_, ?_⟩
  · refine ⟨_, rfl, rfl, _, rfl, ?_⟩
    cases hn : nxt p with
    | none => exact iteT ⟨rfl, rfl⟩
    | some d => exact iteF ⟨_, rfl, d, _, rfl, rfl, rfl, rfl⟩
  rintro σ H' ⟨rfl, rfl⟩
  have hb1 := sm1 _ _ hb
  have kF : ((closerOf c).isSome && doesPut b p c) = false → ∀ H', Same H H' → Q (.bl false) H' := fun e H' sm => by
    have := k H' sm
    rw [e] at this
    exact this
  refine ⟨fun σ H' => Same H H' ∧ (closerOf c).isSome = true ∧ doesPut b p c = doesPut2 b p c ∧ σ = [some (.ref ba), some (.str (S p.1)), some (.str (S [c])), some (.str (O1 (nxt p))), some (.bl (within p.1)), some (.bl (isFree (nxt p))), none, none], ?_, ?_⟩
  · refine ⟨_, rfl, ba, b.V, 2, .str b.b2, rfl, rfl, .inl (.inl hb1), rfl, rfl, _, rfl, ?_⟩
    rw [str_dec, b2_none ob]
    cases e1 : (!decide (b.b2 = "same")) with
    | true =>
      refine iteT ⟨_, rfl, _, rfl, ?_⟩
      cases e2 : within p.1 with
      | true =>
        refine iteT (iteT (kF ?_ _ sm1))
        rw [doesPut_eq, e1, e2]
        simp
      | false =>
        have ed : doesPut b p c = doesPut2 b p c := by rw [doesPut_eq, e2]; simp
        refine if_f rfl ?_
        refine ⟨_, rfl, some c, rfl, fun H2 sm2 => ⟨rfl, _, rfl, ?_⟩⟩
        cases hc : closerOf c with
        | none =>
          refine if_t ?_ (kF (by rw [hc]; rfl) _ (sm1.trans sm2))
          show decide (optS (closerOf c) = V.str (S [])) = true
          rw [hc]
          show decide (V.str (S []) = V.str (S [])) = true
          simp
        | some d =>
          refine if_f ?_ ⟨sm1.trans sm2, rfl, ed, rfl⟩
          show decide (optS (closerOf c) = V.str (S [])) = false
          rw [hc]
          show decide (V.str (S [d]) = V.str (S [])) = false
          rw [sg_eq]; simp
    | false =>
      have ed : doesPut b p c = doesPut2 b p c := by rw [doesPut_eq, e1]; simp
      refine iteF (iteF ⟨_, rfl, some c, rfl, fun H2 sm2 => ⟨rfl, _, rfl, ?_⟩⟩)
      cases hc : closerOf c with
      | none =>
        refine if_t ?_ (kF (by rw [hc]; rfl) _ (sm1.trans sm2))
        show decide (optS (closerOf c) = V.str (S [])) = true
        rw [hc]
        show decide (V.str (S []) = V.str (S [])) = true
        simp
      | some d =>
        refine if_f ?_ ⟨sm1.trans sm2, rfl, ed, rfl⟩
        show decide (optS (closerOf c) = V.str (S [])) = false
        rw [hc]
        show decide (V.str (S [d]) = V.str (S [])) = false
        rw [sg_eq]; simp
  rintro σ H2 ⟨sm2, hsome, ed, rfl⟩
  have k2 : ∀ H', Same H H' → Q (.bl (doesPut2 b p c)) H' := fun H' sm => by
    have := k H' sm
    rw [hsome, ed] at this
    exact this
  have hb2 := sm2 _ _ hb
  have hcc : c = 39 ∨ c = 40 ∨ c = 91 := by
    unfold closerOf at hsome
    by_cases h1 : c = 39
    · exact .inl h1
    · by_cases h2 : c = 40
      · exact .inr (.inl h2)
      · by_cases h3 : c = 91
        · exact .inr (.inr h3)
        · rw [if_neg h1, if_neg h2, if_neg h3] at hsome; cases hsome
  refine ⟨_, rfl, rfl, _, rfl, ?_⟩
  have e39 : (!decide (V.str (S [c]) = V.str "'")) = !decide (c = 39) := by
    show (!decide (V.str (S [c]) = V.str (S [39]))) = _
    rw [sg_eq]; simp
  by_cases h39 : c = 39
  · refine if_f (by rw [e39, h39]; rfl) ?_
    have k3 : ∀ H', Same H H' → Q (.bl (if b.b1 = "apart" then isFree (nxt p) && (!((p.1.getLast?.map isLetter).getD false) && !decide (p.1.getLast? = some 39)) else decide (b.b1 = "always"))) H' := fun H' sm => by
      have := k2 H' sm
      unfold doesPut2 at this
      rw [if_neg (by rw [h39]; decide)] at this
      exact this
    refine ⟨_, rfl, 1, rfl, -1, rfl, S p.1, rfl, ?_, ?_⟩
    · rw [S_len]; exact Nat.le_of_lt (small1000 hl)
    · rw [last_cut]
      refine ⟨fun σ H' => H' = H2 ∧ σ = [some (.ref ba), some (.str (S p.1)), some (.str (S [c])), some (.str (O1 (nxt p))), some (.bl (within p.1)), some (.bl (isFree (nxt p))), some (.str (O1 p.1.getLast?)), some (.bl (isFree (nxt p) && (!((p.1.getLast?.map isLetter).getD false) && !decide (p.1.getLast? = some 39))))], ?_, ?_⟩
      · refine ⟨_, rfl, _, rfl, ?_⟩
        cases ef : isFree (nxt p) with
        | false => exact iteF ⟨rfl, rfl⟩
        | true =>
          refine iteT ⟨_, rfl, rfl, _, rfl, ?_⟩
          cases el : p.1.getLast? with
          | none => exact iteT ⟨rfl, rfl⟩
          | some d =>
            refine iteF ⟨_, rfl, d, _, rfl, rfl, rfl, ?_⟩
            have hd := hs d (List.mem_of_getLast? el)
            have e9 := apart_in hd
            have e11 : decide (d ∈ (Str.ofString "()[] /").cps.toList) = (true && (!((Option.map isLetter (some d)).getD false) && !decide (some d = some 39))) := by
              show decide (d ∈ [40, 41, 91, 93, 32, 47]) = _
              rw [e9]
              simp
            exact congrArg (fun z => [some (V.ref ba), some (.str (S p.1)), some (.str (S [c])), some (.str (O1 (nxt p))), some (.bl (within p.1)), some (.bl true), some (.str (O1 (some d))), some (.bl z)]) e11
      rintro σ H' ⟨rfl, rfl⟩
      refine ⟨_, rfl, ba, b.V, 1, .str b.b1, rfl, rfl, .inl (.inl hb2), rfl, rfl, _, rfl, ?_⟩
      rw [str_dec]
      cases ea : decide (b.b1 = "always") with
      | true =>
        have := k3 H' sm2
        rw [if_neg (b1_cases ob ea), ea] at this
        exact iteT this
      | false =>
        refine iteF ⟨_, rfl, ba, b.V, 1, .str b.b1, rfl, rfl, .inl (.inl hb2), rfl, rfl, _, rfl, ?_⟩
        rw [str_dec]
        have := k3 H' sm2
        by_cases hap : b.b1 = "apart"
        · rw [if_pos hap] at this
          exact if_t (decide_eq_true hap) ⟨_, rfl, this⟩
        · rw [if_neg hap, ea] at this
          exact if_f (decide_eq_false hap) this
  · refine if_t (by rw [e39, decide_eq_false h39]; rfl) ?_
    have h40 : c = 40 ∨ c = 91 := by rcases hcc with h | h; exact absurd h h39; exact h
    have k3 : ∀ H', Same H H' → Q (.bl (decide (b.b0 = "always") || (decide (b.b0 = "free") && isFree (nxt p)))) H' := fun H' sm => by
      have := k2 H' sm
      unfold doesPut2 at this
      rw [if_pos h40] at this
      exact this
    refine ⟨_, rfl, ba, b.V, 0, .str b.b0, rfl, rfl, .inl (.inl hb2), rfl, rfl, _, rfl, ?_⟩
    rw [str_dec]
    have := k3 H2 sm2
    cases e0 : decide (b.b0 = "always") with
    | true =>
      rw [e0] at this
      exact iteT this
    | false =>
      rw [e0] at this
      refine iteF ⟨_, rfl, ba, b.V, 0, .str b.b0, rfl, rfl, .inl (.inl hb2), rfl, rfl, _, rfl, ?_⟩
      rw [str_dec]
      cases e1 : decide (b.b0 = "free") with
      | false =>
        rw [e1] at this
        exact iteF this
      | true =>
        rw [e1] at this
        exact iteT ⟨_, rfl, this⟩
end
end Ob
/-! The law's own page: page, on. -/
namespace Ob
open PySem PySem.Spec PyProof.Rows L2 L2H
theorem prs_of {H : Hp} : ∀ {qs : List (Nat × Bool)} {xs : List V}, DTs H (qs.map prD') xs → ∃ ts, xs = ts.map V.ref ∧ Prs H ts qs
  | [], xs, h => ⟨[], DTs.nil_.mp h, .nil⟩
  | q :: qs, xs, h => by
    obtain ⟨v, vs, rfl, h1, h2⟩ := DTs.cons_.mp h
    obtain ⟨ts, rfl, h3⟩ := prs_of h2
    obtain ⟨a, ys, rfl, ha, hs⟩ := DT.tup.mp h1
    obtain ⟨v1, r1, rfl, e1, hs⟩ := DTs.cons_.mp hs
    obtain ⟨v2, r2, rfl, e2, hs⟩ := DTs.cons_.mp hs
    rw [DTs.nil_.mp hs, DT.str_.mp e1, DT.bl_.mp e2] at ha
    exact ⟨a :: ts, rfl, .cons ha h3⟩
theorem lp_inv {H : Hp} {pg : Pg} {v : V} (h : DT H (lpD pg) v) : ∃ a ra ts, v = .ref a ∧ H a = some (.tup [.str (S pg.1), .ref ra]) ∧ H ra = some (.tup (ts.map V.ref)) ∧ Prs H ts pg.2 := by
  obtain ⟨a, xs, rfl, ha, hs⟩ := DT.tup.mp h
  obtain ⟨v1, r1, rfl, e1, hs⟩ := DTs.cons_.mp hs
  obtain ⟨v2, r2, rfl, e2, hs⟩ := DTs.cons_.mp hs
  rw [DTs.nil_.mp hs, DT.str_.mp e1] at ha
  obtain ⟨ra, ys, rfl, hra, hys⟩ := DT.tup.mp e2
  obtain ⟨ts, rfl, hp⟩ := prs_of hys
  exact ⟨a, ra, ts, rfl, ha, hra, hp⟩
theorem lp_mk {H : Hp} {pg : Pg} {a ra : Addr} {ts : List Addr} (ha : H a = some (.tup [.str (S pg.1), .ref ra])) (hr : H ra = some (.tup (ts.map V.ref))) (hp : Prs H ts pg.2) : DT H (lpD pg) (.ref a) :=
  DT.mk ha (DTs.cons (DT.str_.mpr rfl) (DTs.cons (DT.mk hr hp.dts) DTs.nil))
section
variable {P : Program} {w : World} {K : PySem.W.Frag} {mg : Str → Option Value} {base : Heap}
theorem ok_on (T : TxL P K mg) : FOk P w K mg base CX0 1 ("_law_on", none) p_law_on (fun vs H Q _ => ∃ tail : List Nat, vs = [.str (S tail)] ∧ tail.length ≤ 1000 ∧ ∀ H' v, Same H H' → DT H' (lpD (first tail)) v → Q v H') := by
  refine T.d_on.f.ok sc_law_on (fun vs H Q E h => ?_) (fun cdv A outer s0 H vs Q E hr h => ?_)
  · obtain ⟨_, rfl, _⟩ := h
    rfl
  obtain ⟨tail, rfl, hl, k⟩ := h
  have nd := sc_law_on.nd
  have U := T.X.U.E.G.S
  refine ⟨_, PSs.nox (pss_one (ps_ret (pe_tup (pa_cons pe_str (pa_cons (pe_callTy call_tuple_of rfl U.n_tuple PyProof.Rows.Boot.«tuple» (pa_cons (pe_lc (own := [("_law_sign", 1)]) (g := gName 1) (tt := tYes) rfl nd (pi_str (pv 0)) (blkOk_by (own := [("_law_sign", 1)]) (N := N_law_on) (sc := defScope s_law_on) (by decide +kernel))
      (fun _ _ _ _ _ => pg_name (i := 1) nd rfl (Or.inl rfl)) (fun _ _ _ _ _ => pts_nil) (fun _ _ _ _ _ => pe_tup (pa_cons (pv 1) (pa_cons pe_bl pa_nil)))) pa_nil)) pa_nil))))), ?_⟩
  refine ⟨_, rfl, S tail, rfl, fun D hD => ?_⟩
  refine lc_acc1 (walk_str (z := S tail)) PT1 (fun i acc H' => ∃ ts, acc = ts.map V.ref ∧ Prs H' ts ((tail.take i).map fun c => (c, false)) ∧ i ≤ tail.length) hD ⟨[], rfl, .nil, Nat.zero_le _⟩ (fun _ _ _ _ _ _ _ => True.intro) (fun _ _ _ _ => True.intro) (fun i acc H' ⟨ts, e1, e2, e3⟩ => ?_) (fun i acc H' a0 a1 e ⟨ts, e1, e2, e3⟩ => ⟨ts, e1, e2.mono fun b' xs z => (upd_ne (fun y => by rw [y, e] at z; cases z)).trans z, e3⟩) ?_ ?_
  · rw [e1, List.length_map, e2.len, List.length_map, List.length_take, sizeLine_eq]; omega
  · intro i x H6 H6' acc Post hi kp e r hp hy
    obtain ⟨ts, rfl, e2, e3⟩ := r
    obtain ⟨rfl, c, hc, rfl⟩ := hy
    have hc' : tail[i]? = some c := by simpa [S] using hc
    refine ⟨rfl, _, rfl, (show 2 ≤ sizeLine by decide), fun t ht => hp _ _ (Kp.of (same_new ht)) ⟨ts ++ [t], by rw [List.map_append]; rfl, ?_, (List.getElem?_eq_some_iff.mp hc').1⟩⟩
    rw [List.take_add_one, hc', List.map_append]
    exact (e2.mono fun b xs z => same_new ht _ _ z).app (.cons upd_same .nil)
  · intro H7 acc kp e r
    obtain ⟨ts, rfl, e2, _⟩ := r
    have hn : tail.take (S tail).cps.size = tail := by
      have : (S tail).cps.size = tail.length := by simp [S]
      rw [this]
      exact List.take_length
    rw [hn] at e2
    refine ⟨D, _, rfl, .inl ⟨.inl (.inl e), fun o ho => ⟨(show 2 ≤ sizeLine by decide), fun t ht => ?_⟩⟩⟩
    have s1 : Same H7 (upd H7 o (.tup (ts.map V.ref))) := same_new ho
    have s2 : Same (upd H7 o (.tup (ts.map V.ref))) (upd (upd H7 o (.tup (ts.map V.ref))) t (.tup [.str "", .ref o])) := same_new ht
    exact k _ _ (kp.same.trans (s1.trans s2)) (lp_mk (pg := first tail) upd_same (s2 _ _ upd_same) (e2.mono fun b xs z => (s1.trans s2) _ _ z))
theorem ok_page (T : TxL P K mg) : FOk P w K mg base CX0 1 ("_law_page", none) p_law_page (fun vs H Q _ => ∃ (v : V) (pg : Pg), vs = [v] ∧ DT H (lpD pg) v ∧ pgLen pg ≤ 900 ∧ ∀ H' v', Same H H' → DT H' (pgD pg) v' → Q v' H') := by
  refine T.d_page.f.ok sc_law_page (fun vs H Q E h => ?_) (fun cdv A outer s0 H vs Q E hr h => ?_)
  · obtain ⟨_, _, rfl, _⟩ := h
    rfl
  obtain ⟨v, pg, rfl, hv, hlen, k⟩ := h
  have nd := sc_law_page.nd
  have U := T.X.U.E.G.S
  refine ⟨_, PSs.nox (pss_cons (ps_st 1 nd (pe_callTy call_tuple_of rfl U.n_tuple PyProof.Rows.Boot.«tuple» (pa_cons (pe_lc (own := [("_law_k", 2), ("_law_pair", 3)]) (g := gTup K 2 (gCons (gName 2) (gCons (gName 3) gNil))) (tt := tB (tOp (rIxT K) (tVar 3) (tC (.int 1)))) rfl nd (pi_enumT rfl U.n_enumerate (pa_cons (pe_ix ix_tup (pv 0) pe_int (fun _ _ => rfl)) pa_nil)) (blkOk_by (own := [("_law_k", 2), ("_law_pair", 3)]) (N := N_law_page) (sc := defScope s_law_page) (by decide +kernel))
      (fun _ _ _ _ _ => pg_tup rfl (pgs_cons (pg_name (i := 2) nd rfl (Or.inl rfl)) (pgs_cons (pg_name (i := 3) nd rfl (Or.inl rfl)) pgs_nil))) (fun _ _ _ _ _ => pts_one (pt_val (pe_ix ix_tup (pv 3) pe_int (fun _ _ => rfl)) (fun _ => rfl))) (fun _ _ _ _ _ => pv 2)) pa_nil)))
    (pss_one (ps_ret (pe_tup (pa_cons (pe_ix ix_tup (pv 0) pe_int (fun _ _ => rfl)) (pa_cons (pe_join pe_str (pe_lc (own := [("_law_sign", 4), ("_law_mine", 5)]) (g := gTup K 2 (gCons (gName 4) (gCons (gName 5) gNil))) (tt := tYes) rfl nd (pi_tup (pe_ix ix_tup (pv 0) pe_int (fun _ _ => rfl))) (blkOk_by (own := [("_law_sign", 4), ("_law_mine", 5)]) (N := N_law_page) (sc := defScope s_law_page) (by decide +kernel))
      (fun _ _ _ _ _ => pg_tup rfl (pgs_cons (pg_name (i := 4) nd rfl (Or.inl rfl)) (pgs_cons (pg_name (i := 5) nd rfl (Or.inl rfl)) pgs_nil))) (fun _ _ _ _ _ => pts_nil) (fun _ _ _ _ _ => pv 4))) (pa_cons (pv 1) pa_nil))))))), ?_⟩
  obtain ⟨a, ra, ts, rfl, ha, hra, h3⟩ := lp_inv hv
  have hlen2 : pg.2.length ≤ 900 := by unfold pgLen at hlen; omega
  refine ⟨_, rfl, a, _, 1, .ref ra, rfl, rfl, .inl (.inl ha), rfl, ra, _, rfl, .inl (.inl hra), fun D hD => ?_⟩
  refine lc_acc (walk_enumT (xs := ts.map V.ref)) PT1 (fun i acc _ => acc = (owns (pg.2.take i)).map (fun n => V.int (n : Nat)) ∧ i ≤ pg.2.length) hD ⟨by simp [ownsFrom], Nat.zero_le _⟩ (fun i H' acc hi kp e r => .inl (.inl (kp _ _ hra True.intro))) (fun _ _ _ _ => True.intro) (fun i acc H' ⟨e1, e2⟩ => ?_) (fun i acc H' a0 a1 e r => r) ?_ ?_
  · rw [e1, List.length_map, sizeLine_eq]
    have h9 : (owns (pg.2.take i)).length ≤ (pg.2.take i).length := ownsFrom_len 0 (pg.2.take i)
    rw [List.length_take] at h9
    omega
  · intro i x H6 H6' acc Post Skip hi kp e r hp hskip hy
    obtain ⟨Tp, xa, xb, rfl, hT, rfl, ea, eb⟩ := hy
    cases ea
    have eb' : (ts.map V.ref)[i]? = some xb := eb
    rw [List.getElem?_map] at eb'
    obtain ⟨t, htt, rfl⟩ := Option.map_eq_some_iff.mp eb'
    obtain ⟨q, hq, hqt⟩ := h3.get htt
    obtain ⟨rfl, e2⟩ := r
    have smT : Same H6 (upd H6 Tp (.tup [.int (i : Nat), .ref t])) := same_new hT
    have hi' := (List.getElem?_eq_some_iff.mp hq).1
    have eo : owns (pg.2.take (i + 1)) = owns (pg.2.take i) ++ (if q.2 = true then [i] else []) := by
      rw [List.take_add_one, hq]
      show ownsFrom 0 (pg.2.take i ++ [q]) = _
      rw [ownsFrom_snoc, List.length_take, Nat.min_eq_left (by omega), Nat.zero_add]
    refine ⟨Tp, _, rfl, .inl (.inl upd_same), rfl, _, _, rfl, _, [], rfl, rfl, rfl, _, rfl, t, prV q, 1, .bl q.2, rfl, rfl, .inl (.inl (smT _ _ (kp _ _ hqt True.intro))), rfl, q.2, rfl, ?_⟩
    cases e6 : q.2 with
    | true =>
      rw [e6] at eo
      refine iteT ⟨_, rfl, hp _ _ (Kp.of smT) ⟨?_, hi'⟩⟩
      rw [eo]
      simp
    | false =>
      rw [e6] at eo
      refine iteF (hskip _ (Kp.of smT) ⟨?_, hi'⟩)
      rw [eo]
      simp
  · intro H7 acc kp e r
    obtain ⟨rfl, _⟩ := r
    have hn : pg.2.take (ts.map V.ref).length = pg.2 := by
      rw [List.length_map, h3.len]
      exact List.take_length
    rw [hn] at e
    refine ⟨D, _, rfl, .inl ⟨.inl (.inl e), fun o ho => ?_⟩⟩
    have so : Same H (upd H7 o (.tup ((owns pg.2).map fun n => V.int (n : Nat)))) := kp.same.trans (same_new ho)
    have heo := upd_same (H := H7) (a := o) (o := .tup ((owns pg.2).map fun n => V.int (n : Nat)))
    revert so heo
    generalize eH8 : upd H7 o (.tup ((owns pg.2).map fun n => V.int (n : Nat))) = H8
    intro so heo
    refine ⟨_, rfl, a, _, 0, .str (S pg.1), rfl, rfl, .inl (.inl (so _ _ ha)), rfl, ⟨_, rfl⟩, _, rfl, a, _, 1, .ref ra, rfl, rfl, .inl (.inl (so _ _ ha)), rfl, ra, rfl, ⟨_, .inl (.inl (so _ _ hra))⟩, fun D2 hD2 => ?_⟩
    refine lc_acc1 (walk_tup (xs := ts.map V.ref)) PT1 (fun i acc _ => acc = (pg.2.take i).map (fun q => V.str (S [q.1])) ∧ i ≤ pg.2.length) hD2 ⟨by simp, Nat.zero_le _⟩ (fun i H' acc hi kp e r => .inl (.inl (kp _ _ (so _ _ hra) True.intro))) (fun _ _ _ _ => True.intro) (fun i acc H' ⟨e1, e2⟩ => ?_) (fun i acc H' a0 a1 e r => r) ?_ ?_
    · rw [e1, List.length_map, List.length_take, sizeLine_eq]
      omega
    · intro i x H6 H6' acc Post hi kp2 e r hp hy
      obtain ⟨rfl, hx⟩ := hy
      rw [List.getElem?_map] at hx
      obtain ⟨t, htt, rfl⟩ := Option.map_eq_some_iff.mp hx
      obtain ⟨q, hq, hqt⟩ := h3.get htt
      obtain ⟨rfl, e2⟩ := r
      refine ⟨t, prV q, rfl, .inl (.inl (kp2 _ _ (so _ _ hqt) True.intro)), rfl, _, _, rfl, _, [], rfl, rfl, rfl, _, rfl, hp _ _ (Kp.refl _) ⟨?_, (List.getElem?_eq_some_iff.mp hq).1⟩⟩
      rw [List.take_add_one, hq, List.map_append]
      rfl
    · intro H9 acc kp2 e r
      obtain ⟨rfl, _⟩ := r
      have hn : pg.2.take (ts.map V.ref).length = pg.2 := by
        rw [List.length_map, h3.len]
        exact List.take_length
      rw [hn] at e
      have e' : (pg.2.map fun q => V.str (S [q.1])) = ((sgs pg.2).map fun c => S [c]).map V.str := by simp
      refine ⟨_, D2, (sgs pg.2).map fun c => S [c], rfl, rfl, .inl (.inl (.inl (by rw [← e']; exact e))), ?_, ?_⟩
      · rw [sum_ones]
        show (sgs pg.2).length + _ * 0 ≤ _
        rw [List.length_map]
        omega
      · rw [show Txt.join "" ((sgs pg.2).map fun c => S [c]) = _ from join_sg _]
        refine ⟨_, rfl, (show 3 ≤ sizeLine by decide), fun t ht => ?_⟩
        have s9 := same_new (o := .tup [.str (S pg.1), .str (S (sgs pg.2)), .ref o]) ht
        refine k _ _ ((so.trans kp2.same).trans s9) (DT.mk upd_same (DTs.cons (DT.str_.mpr rfl) (DTs.cons (DT.str_.mpr rfl) (DTs.cons (DT.mk ((kp2.same.trans s9) _ _ heo) ?_) DTs.nil))))
        have := DTs.ints (H := upd H9 t (.tup [.str (S pg.1), .str (S (sgs pg.2)), .ref o])) ((owns pg.2).map fun n => ((n : Nat) : Int))
        rw [List.map_map, List.map_map] at this
        exact this
end
end Ob
/-! The law's own page: a key pressed. -/
namespace Ob
open PySem PySem.Spec PyProof.Rows L2 L2H
def RAt (H : Hp) (ra : Addr) (r : List (Nat × Bool)) : Prop := ∃ ts, H ra = some (.tup (ts.map V.ref)) ∧ Prs H ts r
theorem RAt.same {H H' : Hp} {ra : Addr} {r : List (Nat × Bool)} (h : RAt H ra r) (s : Same H H') : RAt H' ra r := by
  obtain ⟨ts, h1, h2⟩ := h
  exact ⟨ts, s _ _ h1, h2.mono fun b xs e => s _ _ e⟩
theorem Prs.drop {H : Hp} : ∀ (j : Nat) {ts : List Addr} {qs : List (Nat × Bool)}, Prs H ts qs → Prs H (ts.drop j) (qs.drop j)
  | 0, _, _, h => h
  | _ + 1, _, _, .nil => .nil
  | j + 1, _, _, .cons _ t => Prs.drop j t
theorem drop_dt {K : PySem.W.Frag} {H : Hp} {ra : Addr} {r : List (Nat × Bool)} {j : Nat} {Q : VK} (h : RAt H ra r) (q : ∀ H' rb, Same H H' → RAt H' rb (r.drop j) → Q (.ref rb) H') : rSlA K (.ref ra) (some (j : Int)) none H Q := by
  obtain ⟨ts, h1, h2⟩ := h
  have e1 : HT.sIx (ts.map V.ref).length 0 (some (j : Int)) = min j (ts.map V.ref).length := HT.sIx_nat _ _ _
  have e2 : HT.sIx (ts.map V.ref).length (ts.map V.ref).length none = (ts.map V.ref).length := HT.sIx_none _ _
  refine ⟨ra, _, rfl, .inl (.inl h1), fun ⟨h, _⟩ => ?_, fun _ p hp => ?_⟩
  · rw [e1, List.length_map] at h
    have : ts.drop j = ts := by
      rcases Nat.eq_zero_or_pos j with z | z
      · rw [z]; rfl
      · have : ts = [] := List.eq_nil_of_length_eq_zero (by omega)
        rw [this]; simp
    refine q H ra (Same.refl H) ⟨ts, h1, ?_⟩
    have := h2.drop j
    rw [‹ts.drop j = ts›] at this
    exact this
  · have e : cutV (ts.map V.ref) (some (j : Int)) none = (ts.drop j).map V.ref := by
      unfold cutV
      rw [e1, e2]
      rcases Nat.le_total j (ts.map V.ref).length with z | z
      · rw [Nat.min_eq_left z, List.take_of_length_le (by rw [List.length_drop]; omega), List.map_drop]
      · rw [Nat.min_eq_right z, List.drop_length, List.map_drop, List.drop_of_length_le z]
        simp
    rw [e]
    exact q _ p (same_new hp) ⟨ts.drop j, upd_same, (h2.drop j).mono fun b xs z => same_new hp _ _ z⟩
/-- xs != () of a row of pairs -/
theorem ne_nilT {K : PySem.W.Frag} {H : Hp} {ra l : Addr} {r : List (Nat × Bool)} {Q : VK} (h : RAt H ra r) (ho : ∀ q ∈ r, q.1 ∈ sigs) (hl : H l = some (.tup [])) (q : Q (.bl (!r.isEmpty)) H) : rNeD K (.ref ra) (.ref l) H Q := by
  obtain ⟨ts, h1, h2⟩ := h
  have fs : FineA 1 (r.length * 4) (r.map prD') := by
    have := FineA.all (k := 1) (n := 3) (ds := r.map prD') fun d hd => by
      obtain ⟨x, hx, rfl⟩ := List.mem_map.mp hd
      exact ((FineA.cons (Fine.sg (l := [x.1]) fun c hc => by rw [List.mem_singleton.mp hc]; exact ho x hx) (FineA.cons (Fine.bl x.2) (FineA.nil (n := 0)))).tup).mono (Nat.le_refl _) (by show 1 + 1 + (0 + 1 + 0) ≤ 3; decide)
    rw [List.length_map] at this
    exact this
  refine ⟨.tuple (r.map prD'), .tuple [], .tup (.inl (.inl h1)) (DTs.dp _ _ h2.dts), .tup (.inl (.inl hl)) .nil, fs.tup.shaped, shaped_nil, ?_⟩
  rw [eqv_nil, List.isEmpty_map]
  exact q
theorem RAt.head {H : Hp} {ra : Addr} {q : Nat × Bool} {r : List (Nat × Bool)} (h : RAt H ra (q :: r)) : ∃ (xs : List V) (t : Addr), H ra = some (.tup xs) ∧ atI xs 0 = some (.ref t) ∧ H t = some (.tup (prV q)) := by
  obtain ⟨ts, h1, h2⟩ := h
  cases h2 with
  | cons e t => exact ⟨_, _, h1, atI_nat (j := 0) (by rfl), e⟩
theorem o1_ne {z : Str} {o : Option Nat} (h : 2 ≤ z.length) : decide (V.str z = V.str (O1 o)) = false := by
  refine decide_eq_false fun e => ?_
  have := V.str.inj e
  rw [this] at h
  cases o with
  | none => exact absurd h (by decide)
  | some c => rw [show (O1 (some c)).length = 1 from S_len [c]] at h; omega
theorem go_ok {p : Pg} (h : SgOk p) : SgOk (goOver p) := by
  obtain ⟨l, r⟩ := p
  cases r with
  | nil => exact h
  | cons x r =>
    refine ⟨fun c hc => ?_, fun y hy => h.r y (List.mem_cons_of_mem _ hy)⟩
    rcases List.mem_append.mp hc with z | z
    · exact h.l c z
    · rw [List.mem_singleton.mp z]; exact h.r x List.mem_cons_self
theorem closing_in (c : Nat) : inV (.str (S [c])) [.str (S [41]), .str (S [93]), .str (S [39])] = isClosing c := by
  unfold inV isClosing
  simp only [List.any_cons, List.any_nil, eqV, Bool.or_false]
  rw [Bool.eq_iff_iff]
  simp only [Bool.or_eq_true, beq_iff_eq, decide_eq_true_iff, List.mem_cons, List.not_mem_nil, or_false]
  constructor
  · rintro (h | h | h)
    · have := S_inj h; simp at this; exact .inl this.symm
    · have := S_inj h; simp at this; exact .inr (.inl this.symm)
    · have := S_inj h; simp at this; exact .inr (.inr this.symm)
  · rintro (h | h | h) <;> subst h <;> simp
theorem o1_S (o : Option Nat) : O1 o = S o.toList := by cases o <;> rfl
section
variable {P : Program} {w : World} {K : PySem.W.Frag} {mg : Str → Option Value} {base : Heap}
abbrev spPressed : Sp := fun vs H Q _ => ∃ (ba : Addr) (b : Bk) (v : V) (pg : Pg) (q : Ky), vs = [.ref ba, v, .str q.str] ∧ H ba = some (.tup b.V) ∧ b.ok ∧ DT H (lpD pg) v ∧ SgOk pg ∧ pgLen pg ≤ 900 ∧ q.ok ∧ ∀ H' v', Same H H' → DT H' (lpD (press b pg q)) v' → Q v' H'
theorem ok_pressed (T : TxL P K mg) : FOk P w K mg base CX0 3 ("_law_pressed", none) p_law_pressed spPressed := by
  refine T.d_pressed.f.ok sc_law_pressed (fun vs H Q E h => ?_) (fun cdv A outer s0 H vs Q E hr h => ?_)
  · obtain ⟨_, _, _, _, _, rfl, _⟩ := h
    rfl
  obtain ⟨ba, b, v, pg, q, rfl, hb, ob, hv, hs, hlen, hq, k⟩ := h
  have nd := sc_law_pressed.nd
  have U := T.X.U.E.G.S
  refine ⟨_, PSs.nox (pss_cons (ps_asg (pv 1) (pg_tup rfl (pgs_cons (pg_nm 3 nd) (pgs_cons (pg_nm 4 nd) pgs_nil))))
    (C8.pss_cut (ps_asg (pe_ifExp (pt_cmpR (op_neD hr.units) (pv 4) (pe_tup pa_nil) (nomark _)) (pe_ix ix_tup (pv 4) pe_int (fun _ _ => rfl)) (pe_tup (pa_cons pe_str (pa_cons pe_bl pa_nil)))) (pg_tup rfl (pgs_cons (pg_nm 5 nd) (pgs_cons (pg_nm 6 nd) pgs_nil))))
    (pss_cons (ps_if (pt_cmpR op_eq (pv 2) pe_str (nomark _))
      (pss_cons (ps_st 7 nd (pe_f T.d_closer (ok_closer T) hr (by decide) (pa_cons (pe_slice sl_str (pv 3) (po_some (pe_un un_neg pe_int)) po_none) pa_nil)))
      (C8.pss_cut (ps_st 8 nd (pe_and (pe_cmpR op_ne (pv 7) pe_str (nomark _)) (pe_and (pe_cmpR op_eq (pv 7) (pv 5) (nomark _)) (pe_one (pe_or (pe_cmpR op_eq (pe_ix ix_tup (pv 0) pe_int (fun _ _ => rfl)) pe_str (nomark _)) (pe_one (pe_and (pe_cmpR op_eq (pe_ix ix_tup (pv 0) pe_int (fun _ _ => rfl)) pe_str (nomark _)) (pe_one (pv 6)))))))))
      (pss_one (ps_ret (pe_tup (pa_cons (pe_slice sl_str (pv 3) po_none (po_some (pe_un un_neg pe_int))) (pa_cons (pe_slice sl_tupA (pv 4) (po_some (pe_callTy call_int1 rfl T.X.U.E.n_int PyProof.Rows.Boot.«int» (pa_cons (pv 8) pa_nil))) po_none) pa_nil))))))) pss_nil)
    (pss_cons (ps_if (pt_cmpR op_eq (pv 2) pe_str (nomark _))
      (C8.pss_cut (ps_while PassesOwn.never (PW.pt (pw_and (pt_cmpR (op_neD hr.units) (pv 4) (pe_tup pa_nil) (nomark _)) (pw_and1 (pt_val (pe_ix ix_tup (pe_ix ix_tup (pv 4) pe_int (fun _ _ => rfl)) pe_int (fun _ _ => rfl)) (fun _ => rfl)))))
        (pss_one (ps_par2 3 4 nd (pa_cons (pe_op op_add_str (pv 3) (pe_ix ix_tup (pe_ix ix_tup (pv 4) pe_int (fun _ _ => rfl)) pe_int (fun _ _ => rfl))) (pa_cons (pe_slice sl_tupA (pv 4) (po_some pe_int) po_none) pa_nil)))))
      (pss_one (ps_ret (pe_tup (pa_cons (pv 3) (pa_cons (pv 4) pa_nil)))))) pss_nil)
    (C8.pss_cut (ps_st 9 nd (pe_and (pe_cmpR op_eq (pv 2) (pv 5) (nomark _)) (pe_and (pe_cmpR op_in_seq (pv 2) (pe_tup (pa_cons pe_str (pa_cons pe_str (pa_cons pe_str pa_nil)))) rfl) (pe_one (pe_or (pe_cmpR op_eq (pe_ix ix_tup (pv 0) pe_int (fun _ _ => rfl)) pe_str (nomark _)) (pe_one (pe_and (pe_cmpR op_eq (pe_ix ix_tup (pv 0) pe_int (fun _ _ => rfl)) pe_str (nomark _)) (pe_one (pv 6)))))))))
    (pss_cons (ps_if (PW.pt (pw_or (pt_cmpR op_eq (pv 2) pe_str (nomark _)) (pw_or1 (pt_val (pv 9) (fun _ => rfl))))) (pss_one (ps_ret (pe_tup (pa_cons (pe_op op_add_str (pv 3) (pv 5)) (pa_cons (pe_slice sl_tupA (pv 4) (po_some pe_int) po_none) pa_nil))))) pss_nil)
    (C8.pss_cut (ps_if (pt_val (pe_f T.d_puts (ok_puts T) hr (by decide) (pa_cons (pv 0) (pa_cons (pv 3) (pa_cons (pv 2) (pa_cons (pv 5) pa_nil))))) (fun _ => rfl)) (pss_one (ps_st 4 nd (pe_op op_catA (pe_tup (pa_cons (pe_tup (pa_cons (pe_f T.d_closer (ok_closer T) hr (by decide) (pa_cons (pv 2) pa_nil)) (pa_cons pe_bl pa_nil))) pa_nil)) (pv 4)))) pss_nil)
    (C8.pss_cut (ps_if (PW.pt (pw_and (pt_cmpR op_eq (pv 2) pe_str (nomark _)) (pw_and1 (pt_cmpR op_eq (pe_ix ix_tup (pv 0) pe_int (fun _ _ => rfl)) pe_str (nomark _))))) (pss_one (ps_st 4 nd (pe_callTy call_tuple_of rfl U.n_tuple PyProof.Rows.Boot.«tuple» (pa_cons (pe_lc (own := [("_law_sign", 10), ("_law_mine", 11)]) (g := gTup K 2 (gCons (gName 10) (gCons (gName 11) gNil))) (tt := tYes) rfl nd (pi_tup (pv 4)) (blkOk_by (own := [("_law_sign", 10), ("_law_mine", 11)]) (N := N_law_pressed) (sc := defScope s_law_pressed) (by decide +kernel))
      (fun _ _ _ _ _ => pg_tup rfl (pgs_cons (pg_name (i := 10) nd rfl (Or.inl rfl)) (pgs_cons (pg_name (i := 11) nd rfl (Or.inl rfl)) pgs_nil))) (fun _ _ _ _ _ => pts_nil) (fun _ _ _ _ _ => pe_tup (pa_cons (pv 10) (pa_cons pe_bl pa_nil)))) pa_nil)))) pss_nil)
    (pss_one (ps_ret (pe_tup (pa_cons (pe_op op_add_str (pv 3) (pv 2)) (pa_cons (pv 4) pa_nil))))))))))))), ?_⟩
  obtain ⟨a, ra, ts, rfl, ha, hra, hp⟩ := lp_inv hv
  have hR : RAt H ra pg.2 := ⟨ts, hra, hp⟩
  have hl1 : pg.1.length ≤ 1000 := by unfold pgLen at hlen; omega
  have hl2 : pg.2.length ≤ 900 := by unfold pgLen at hlen; omega
  have hsz : (S pg.1).length ≤ sizeLine := by rw [S_len]; exact Nat.le_of_lt (small1000 hl1)
  have fin : ∀ {H5 : Hp} {r' : List (Nat × Bool)} {l' : List Nat} {rb t : Addr}, Same H H5 → RAt H5 rb r' → press b pg q = (l', r') → H5 t = none → Q (.ref t) (upd H5 t (.tup [.str (S l'), .ref rb])) := fun {H5 r' l' rb t} sm hr' e ht => by
    obtain ⟨ts', h1, h2⟩ := hr'
    have s1 : Same H5 (upd H5 t (.tup [.str (S l'), .ref rb])) := same_new ht
    refine k _ _ (sm.trans s1) ?_
    rw [e]
    exact lp_mk (pg := (l', r')) upd_same (s1 _ _ h1) (h2.mono fun b xs z => s1 _ _ z)
  refine ⟨_, rfl, a, _, rfl, .inl (.inl ha), rfl, _, _, rfl, _, [], rfl, rfl, ?_⟩
  refine ⟨fun σ H' => Same H H' ∧ σ = [some (.ref ba), some (.ref a), some (.str q.str), some (.str (S pg.1)), some (.ref ra), some (.str (O1 (nxt pg))), some (.bl (nxtOwn pg)), none, none, none, none, none], ?_, ?_⟩
  · refine ⟨_, rfl, Nat.zero_le _, fun l0 hl0 => ?_⟩
    have sm : Same H (upd H l0 (.tup [])) := same_new hl0
    refine ne_nilT (hR.same sm) hs.r upd_same ⟨_, rfl, ?_⟩
    obtain ⟨l, r⟩ := pg
    cases r with
    | nil => exact iteF ⟨(show 2 ≤ sizeLine by decide), fun t ht => ⟨t, _, rfl, .inl (.inl upd_same), rfl, _, _, rfl, _, [], rfl, rfl, sm.trans (same_new ht), rfl⟩⟩
    | cons x r =>
      obtain ⟨xs, t, h1, h2, h3⟩ := (hR.same sm).head
      exact iteT ⟨_, rfl, ra, xs, 0, .ref t, rfl, rfl, .inl (.inl h1), h2, t, _, rfl, .inl (.inl h3), rfl, _, _, rfl, _, [], rfl, rfl, sm, rfl⟩
  rintro σ H1 ⟨sm1, rfl⟩
  have hb1 := sm1 _ _ hb
  have hR1 := hR.same sm1
  have last : ∀ {H5 : Hp}, atI pg.1 (-1) = atI pg.1 (-1) := rfl
  cases q with
  | back =>
    refine ⟨_, rfl, rfl, _, rfl, if_t (by decide) ?_⟩
    refine ⟨_, rfl, 1, rfl, -1, rfl, S pg.1, rfl, hsz, ?_⟩
    rw [last_cut]
    refine ⟨pg.1.getLast?, rfl, fun H2 sm2 => ?_⟩
    obtain ⟨m, hm⟩ : ∃ m, m = ((match pg.1.getLast?.bind closerOf with | none => false | some d => decide (nxt pg = some d)) && (decide (b.b4 = "any") || (decide (b.b4 = "own") && nxtOwn pg))) := ⟨_, rfl⟩
    have sm12 := sm1.trans sm2
    refine ⟨fun σ H' => H' = H2 ∧ σ = [some (.ref ba), some (.ref a), some (.str (Ky.str .back)), some (.str (S pg.1)), some (.ref ra), some (.str (O1 (nxt pg))), some (.bl (nxtOwn pg)), some (optS (pg.1.getLast?.bind closerOf)), some (.bl m), none, none, none], ?_, ?_⟩
    · refine ⟨_, rfl, rfl, _, rfl, ?_⟩
      have hb2 := sm12 _ _ hb
      cases ec : pg.1.getLast?.bind closerOf with
      | none =>
        rw [ec] at hm
        refine if_f ?_ ⟨rfl, by rw [hm]; rfl⟩
        show (!decide (V.str (S []) = V.str (S []))) = false
        simp
      | some d =>
        rw [ec] at hm
        refine if_t ?_ ⟨_, rfl, _, rfl, rfl, _, rfl, ?_⟩
        · show (!decide (V.str (S [d]) = V.str (S []))) = true
          rw [sg_eq]; simp
        have e2 : decide (optS (some d) = V.str (O1 (nxt pg))) = decide (nxt pg = some d) := by
          rw [show decide (optS (some d) = V.str (O1 (nxt pg))) = decide (V.str (O1 (nxt pg)) = optS (some d)) by rw [Bool.eq_iff_iff]; simp [eq_comm]]
          exact optS_dec
        rw [e2]
        cases e3 : decide (nxt pg = some d) with
        | false =>
          have hm : m = (decide (nxt pg = some d) && (decide (b.b4 = "any") || (decide (b.b4 = "own") && nxtOwn pg))) := hm
          rw [e3] at hm
          exact iteF ⟨rfl, by rw [hm]; rfl⟩
        | true =>
          have hm : m = (decide (nxt pg = some d) && (decide (b.b4 = "any") || (decide (b.b4 = "own") && nxtOwn pg))) := hm
          rw [e3] at hm
          refine iteT ⟨_, rfl, ba, b.V, 4, .str b.b4, rfl, rfl, .inl (.inl hb2), rfl, rfl, _, rfl, ?_⟩
          rw [str_dec]
          cases e4 : decide (b.b4 = "any") with
          | true =>
            rw [e4] at hm
            exact iteT ⟨rfl, by rw [hm]; rfl⟩
          | false =>
            rw [e4] at hm
            refine iteF ⟨_, rfl, ba, b.V, 4, .str b.b4, rfl, rfl, .inl (.inl hb2), rfl, rfl, _, rfl, ?_⟩
            rw [str_dec]
            cases e5 : decide (b.b4 = "own") with
            | false =>
              rw [e5] at hm
              exact iteF ⟨rfl, by rw [hm]; rfl⟩
            | true =>
              rw [e5] at hm
              exact iteT ⟨_, rfl, rfl, by rw [hm]; rfl⟩
    rintro σ H' ⟨rfl, rfl⟩
    refine ⟨_, rfl, 1, rfl, _, rfl, S pg.1, rfl, hsz, ?_⟩
    rw [most_cut]
    refine ⟨_, rfl, _, rfl, .inr ⟨m, rfl, (if m = true then 1 else 0), rfl, ?_⟩⟩
    have ej : (if m = true then (1 : Int) else 0) = ((if m = true then 1 else 0 : Nat) : Int) := by cases m <;> rfl
    dsimp only [tNoPart]
    rw [ej]
    refine drop_dt (hR.same sm12) fun H3 rb sm3 hR3 => ⟨(show 2 ≤ sizeLine by decide), fun t ht => fin (sm12.trans sm3) hR3 ?_ ht⟩
    show goBack b pg = _
    unfold goBack
    cases el : pg.1.getLast? with
    | none =>
      have h0 : pg.1 = [] := List.getLast?_eq_none_iff.mp el
      rw [el] at hm
      have hm : m = false := by rw [hm]; rfl
      rw [hm, h0]
      obtain ⟨l, r⟩ := pg
      have h0 : l = [] := h0
      subst h0
      rfl
    | some c =>
      rw [el] at hm
      have hm : m = takesBoth b pg c := hm
      show (pg.1.dropLast, if takesBoth b pg c = true then pg.2.tail else pg.2) = _
      rw [← hm]
      cases m with
      | false => rfl
      | true =>
        show _ = (_, pg.2.drop 1)
        rw [List.drop_one]
        rfl
  | right =>
    refine ⟨_, rfl, rfl, _, rfl, if_f (by decide) ⟨_, rfl, rfl, _, rfl, if_f (by decide) ?_⟩⟩
    refine ⟨fun σ H' => H' = H1 ∧ σ = [some (.ref ba), some (.ref a), some (.str (Ky.str .right)), some (.str (S pg.1)), some (.ref ra), some (.str (O1 (nxt pg))), some (.bl (nxtOwn pg)), none, none, some (.bl false), none, none], ?_, ?_⟩
    · exact ⟨_, rfl, _, rfl, rfl, _, rfl, if_f (o1_ne (by decide)) ⟨rfl, rfl⟩⟩
    rintro σ H' ⟨rfl, rfl⟩
    refine ⟨_, rfl, rfl, _, rfl, if_t (by decide) ?_⟩
    refine ⟨_, rfl, _, rfl, S pg.1, O1 (nxt pg), rfl, rfl, ?_, _, rfl, _, rfl, ?_⟩
    · rw [o1_S, S_len, S_len, sizeLine_eq]
      have : (nxt pg).toList.length ≤ 1 := by cases nxt pg <;> simp
      omega
    dsimp only [tNoPart]
    refine drop_dt (j := 1) hR1 fun H3 rb sm3 hR3 => ⟨(show 2 ≤ sizeLine by decide), fun t ht => ?_⟩
    rw [o1_S, S_app]
    refine fin (sm1.trans sm3) hR3 ?_ ht
    show goOver pg = _
    obtain ⟨l, r⟩ := pg
    cases r with
    | nil => simp [goOver, nxt]
    | cons x r => simp [goOver, nxt]
  | fin =>
    refine ⟨_, rfl, rfl, _, rfl, if_f (by decide) ⟨_, rfl, rfl, _, rfl, if_t (by decide) ?_⟩⟩
    refine ⟨fun σ H' => Same H H' ∧ ∃ rb, RAt H' rb (goEnd pg).2 ∧ σ = [some (.ref ba), some (.ref a), some (.str (Ky.str .fin)), some (.str (S (goEnd pg).1)), some (.ref rb), some (.str (O1 (nxt pg))), some (.bl (nxtOwn pg)), none, none, none, none, none], ?_, ?_⟩
    · refine ⟨fun n σ H' => Same H H' ∧ ∃ (pg' : Pg) (rb : Addr), RAt H' rb pg'.2 ∧ SgOk pg' ∧ pgLen pg' = pgLen pg ∧ goEnd pg' = goEnd pg ∧ pg'.2.length = n ∧ σ = [some (.ref ba), some (.ref a), some (.str (Ky.str .fin)), some (.str (S pg'.1)), some (.ref rb), some (.str (O1 (nxt pg))), some (.bl (nxtOwn pg)), none, none, none, none, none], ⟨_, sm1, pg, ra, hR1, hs, rfl, rfl, rfl, rfl⟩, ?_⟩
      rintro n σ H2 ⟨sm2, pg', rb, hR2, hs2, hlen', hge, rfl, rfl⟩
      refine ⟨_, rfl, Nat.zero_le _, fun l0 hl0 => ?_⟩
      have sm : Same H2 (upd H2 l0 (.tup [])) := same_new hl0
      refine ne_nilT (hR2.same sm) hs2.r upd_same ⟨_, rfl, ?_⟩
      have hR3 := hR2.same sm
      obtain ⟨l, r⟩ := pg'
      cases r with
      | nil =>
        refine iteF (iteF ⟨sm2.trans sm, rb, ?_, ?_⟩)
        · rw [← hge]
          exact hR3
        · rw [← hge]
          simp [goEnd]
      | cons x r =>
        obtain ⟨xs, t, h1, h2, h3⟩ := hR3.head
        refine iteT ⟨_, rfl, rb, xs, 0, .ref t, rfl, rfl, .inl (.inl h1), h2, t, _, 1, .bl x.2, rfl, rfl, .inl (.inl h3), rfl, _, rfl, ?_⟩
        cases ex : x.2 with
        | false =>
          have en : nxtOwn (l, x :: r) = false := ex
          rw [goEnd_stop en] at hge
          refine iteF ⟨sm2.trans sm, rb, ?_, ?_⟩
          · rw [← hge]
            exact hR3
          · rw [← hge]
        | true =>
          have en : nxtOwn (l, x :: r) = true := ex
          obtain ⟨g1, g2⟩ := goEnd_step en
          have e1 : goOver (l, x :: r) = (l ++ [x.1], r) := rfl
          have e2 : pgLen (goOver (l, x :: r)) = pgLen (l, x :: r) := goOver_len _
          have hll : l.length ≤ 1000 := by
            have : l.length + (x :: r).length = pgLen pg := hlen'
            omega
          refine iteT ⟨fun σ' H' => Same H H' ∧ ∃ rb', RAt H' rb' r ∧ σ' = [some (.ref ba), some (.ref a), some (.str (Ky.str .fin)), some (.str (S (l ++ [x.1]))), some (.ref rb'), some (.str (O1 (nxt pg))), some (.bl (nxtOwn pg)), none, none, none, none, none], ?_, ?_⟩
          · rintro σ' H' ⟨q1, rb', q2, q3⟩
            exact ⟨r.length, Nat.lt_succ_self _, q1, (l ++ [x.1], r), rb', q2, by rw [← e1]; exact go_ok hs2, by rw [← e1, e2]; exact hlen', by rw [← e1, g1]; exact hge, rfl, q3⟩
          · refine ⟨_, rfl, _, rfl, rb, xs, 0, .ref t, rfl, rfl, .inl (.inl h1), h2, t, _, 0, .str (S [x.1]), rfl, rfl, .inl (.inl h3), rfl, S l, S [x.1], rfl, rfl, by rw [S_len, S_len, sizeLine_eq]; simp; omega, _, rfl, _, rfl, ?_⟩
            dsimp only [tNoPart]
            refine drop_dt (j := 1) hR3 fun H4 rb' sm4 hR4 => ⟨_, _, rfl, (sm2.trans sm).trans sm4, rb', hR4, ?_⟩
            rw [S_app]
            rfl
    · rintro σ H' ⟨sm2, rb, hR2, rfl⟩
      exact ⟨_, rfl, _, rfl, (show 2 ≤ sizeLine by decide), fun t ht => fin sm2 hR2 rfl ht⟩
  | sg c =>
    have hc : c ∈ sigs := hq
    have kn : decide (V.str (S [c]) = V.str (O1 (nxt pg))) = decide (nxt pg = some c) := by
      rw [show decide (V.str (S [c]) = V.str (O1 (nxt pg))) = decide (optS (nxt pg) = V.str (S [c])) by rw [Bool.eq_iff_iff]; simp [optS, eq_comm]]
      exact optS_dec
    refine ⟨_, rfl, rfl, _, rfl, if_f (sg_ne (by decide)) ⟨_, rfl, rfl, _, rfl, if_f (sg_ne (by decide)) ?_⟩⟩
    refine ⟨fun σ H' => Same H H' ∧ σ = [some (.ref ba), some (.ref a), some (.str (S [c])), some (.str (S pg.1)), some (.ref ra), some (.str (O1 (nxt pg))), some (.bl (nxtOwn pg)), none, none, some (.bl (goesOver b pg c)), none, none], ?_, ?_⟩
    · refine ⟨_, rfl, _, rfl, rfl, _, rfl, ?_⟩
      rw [show decide (V.str (Ky.sg c).str = V.str (O1 (nxt pg))) = _ from kn]
      have go : goesOver b pg c = (isClosing c && decide (nxt pg = some c) && (decide (b.b3 = "any") || (decide (b.b3 = "own") && nxtOwn pg))) := rfl
      cases e1 : decide (nxt pg = some c) with
      | false =>
        rw [e1] at go
        exact iteF ⟨sm1, by rw [go]; simp; rfl⟩
      | true =>
        rw [e1] at go
        refine iteT ⟨_, rfl, (show 3 ≤ sizeLine by decide), fun t ht => ?_⟩
        have st : Same H1 (upd H1 t (.tup [.str ")", .str "]", .str "'"])) := same_new ht
        refine ⟨t, [.str ")", .str "]", .str "'"], rfl, .inr (.inl (.inl upd_same)), rfl, rfl, isClosing c, ?_, ?_⟩
        · rw [← closing_in c]
          rfl
        have hb2 := st _ _ hb1
        have sm2 := sm1.trans st
        cases e2 : isClosing c with
        | false =>
          rw [e2] at go
          exact iteF ⟨sm2, by rw [go]; rfl⟩
        | true =>
          rw [e2] at go
          refine iteT ⟨_, rfl, ba, b.V, 3, .str b.b3, rfl, rfl, .inl (.inl hb2), rfl, rfl, _, rfl, ?_⟩
          rw [str_dec]
          cases e4 : decide (b.b3 = "any") with
          | true =>
            rw [e4] at go
            exact iteT ⟨sm2, by rw [go]; rfl⟩
          | false =>
            rw [e4] at go
            refine iteF ⟨_, rfl, ba, b.V, 3, .str b.b3, rfl, rfl, .inl (.inl hb2), rfl, rfl, _, rfl, ?_⟩
            rw [str_dec]
            cases e5 : decide (b.b3 = "own") with
            | false =>
              rw [e5] at go
              exact iteF ⟨sm2, by rw [go]; rfl⟩
            | true =>
              rw [e5] at go
              exact iteT ⟨_, rfl, sm2, by rw [go]; rfl⟩
    rintro σ H2 ⟨sm2, rfl⟩
    have hb2 := sm2 _ _ hb
    have hR2 := hR.same sm2
    refine ⟨_, rfl, rfl, _, rfl, if_f (sg_ne (by decide)) ⟨_, rfl, _, rfl, ?_⟩⟩
    cases eg : goesOver b pg c with
    | true =>
      have ep : press b pg (.sg c) = goOver pg := by
        show typeSign b pg c = _
        unfold typeSign
        rw [if_pos eg]
      refine iteT ⟨_, rfl, _, rfl, S pg.1, O1 (nxt pg), rfl, rfl, ?_, _, rfl, _, rfl, ?_⟩
      · rw [o1_S, S_len, S_len, sizeLine_eq]
        have : (nxt pg).toList.length ≤ 1 := by cases nxt pg <;> simp
        omega
      dsimp only [tNoPart]
      refine drop_dt (j := 1) hR2 fun H3 rb sm3 hR3 => ⟨(show 2 ≤ sizeLine by decide), fun t ht => ?_⟩
      rw [o1_S, S_app]
      refine fin (sm2.trans sm3) hR3 ?_ ht
      rw [ep]
      obtain ⟨l, r⟩ := pg
      cases r with
      | nil => simp [goOver, nxt]
      | cons x r => simp [goOver, nxt]
    | false =>
      refine iteF ?_
      have ep : press b pg (.sg c) = (pg.1 ++ [c], forget b c (put b pg c)) := by
        show typeSign b pg c = _
        unfold typeSign
        rw [if_neg (by rw [eg]; decide)]
      refine ⟨fun σ H' => Same H H' ∧ ∃ rb, RAt H' rb (put b pg c) ∧ σ = [some (.ref ba), some (.ref a), some (.str (S [c])), some (.str (S pg.1)), some (.ref rb), some (.str (O1 (nxt pg))), some (.bl (nxtOwn pg)), none, none, some (.bl false), none, none], ?_, ?_⟩
      · refine ⟨_, rfl, _, rfl, _, rfl, _, rfl, ba, b, pg, c, rfl, hb2, ob, hs.l, hl1, fun H3 sm3 => ⟨_, rfl, ?_⟩⟩
        have hR3 := hR2.same sm3
        have smA := sm2.trans sm3
        cases hco : closerOf c with
        | none =>
          refine if_f rfl ⟨smA, ra, ?_, rfl⟩
          have : put b pg c = pg.2 := by unfold put; rw [hco]
          rw [this]; exact hR3
        | some d =>
          cases e1 : doesPut b pg c with
          | false =>
            refine if_f rfl ⟨smA, ra, ?_, rfl⟩
            have : put b pg c = pg.2 := by unfold put; rw [hco]; simp [e1]
            rw [this]; exact hR3
          | true =>
            have hput : put b pg c = (d, true) :: pg.2 := by unfold put; rw [hco]; simp [e1]
            refine if_t rfl ⟨_, rfl, some c, rfl, fun H4 sm4 => ⟨(show 2 ≤ sizeLine by decide), fun t1 h1 => ⟨(show 1 ≤ sizeLine by decide), fun t2 h2 => ⟨_, rfl, ?_⟩⟩⟩⟩
            have es : optS ((some c).bind closerOf) = V.str (S [d]) := by show optS (closerOf c) = _; rw [hco]; rfl
            have s1 : Same H4 (upd H4 t1 (.tup [optS ((some c).bind closerOf), .bl true])) := same_new h1
            have s2 : Same (upd H4 t1 (.tup [optS ((some c).bind closerOf), .bl true])) (upd (upd H4 t1 (.tup [optS ((some c).bind closerOf), .bl true])) t2 (.tup [.ref t1])) := same_new h2
            obtain ⟨ts3, g1, g2⟩ := hR3.same (sm4.trans (s1.trans s2))
            refine cat_dt (ds := [prD' (d, true)]) (es := pg.2.map prD') upd_same g1 (DTs.cons (DT.mk (s2 _ _ upd_same) (DTs.cons (DT.str_.mpr es) (DTs.cons (DT.bl_.mpr rfl) DTs.nil))) DTs.nil) g2.dts (by simp only [List.length_map, List.length_singleton]; rw [sizeLine_eq]; omega) fun H5 v5 sm5 hv5 => ?_
            obtain ⟨rb, ys, rfl, hrb, hys⟩ := DT.tup.mp hv5
            obtain ⟨ts5, rfl, hp5⟩ := prs_of (qs := (d, true) :: pg.2) hys
            refine ⟨smA.trans (sm4.trans ((s1.trans s2).trans sm5)), rb, ⟨ts5, hrb, ?_⟩, rfl⟩
            rw [hput]
            exact hp5
      rintro σ H3 ⟨sm3, rb, hR3, rfl⟩
      have hb3 := sm3 _ _ hb
      have oput : ∀ x ∈ put b pg c, x.1 ∈ sigs := fun y hy => by
        have := (press_ok (b := ⟨b.b0, b.b1, b.b2, b.b3, b.b4, ""⟩) hs (q := .sg c) hq)
        unfold put at hy
        split at hy
        · exact hs.r y hy
        · rename_i d hd
          split at hy
          · rcases List.mem_cons.mp hy with z | z
            · rw [z]
              show d ∈ sigs
              unfold closerOf at hd
              split at hd
              · cases hd; decide
              · split at hd
                · cases hd; decide
                · split at hd
                  · cases hd; decide
                  · cases hd
            · exact hs.r y z
          · exact hs.r y hy
      have hpl := put_len b pg c
      refine ⟨fun σ H' => Same H H' ∧ ∃ rb, RAt H' rb (forget b c (put b pg c)) ∧ σ = [some (.ref ba), some (.ref a), some (.str (S [c])), some (.str (S pg.1)), some (.ref rb), some (.str (O1 (nxt pg))), some (.bl (nxtOwn pg)), none, none, some (.bl false), none, none], ?_, ?_⟩
      · refine ⟨_, rfl, rfl, _, rfl, ?_⟩
        have e47 : decide (V.str (S [c]) = V.str "/") = decide (c = 47) := by
          show decide (V.str (S [c]) = V.str (S [47])) = _
          rw [sg_eq]; simp
        rw [e47]
        by_cases hc47 : c = 47
        · refine if_t (decide_eq_true hc47) ⟨_, rfl, ba, b.V, 5, .str b.b5, rfl, rfl, .inl (.inl hb3), rfl, rfl, _, rfl, ?_⟩
          rw [str_dec]
          by_cases hb5 : b.b5 = "line"
          · have hfg : forget b c (put b pg c) = (put b pg c).map (fun q => (q.1, false)) := by unfold forget; rw [if_pos ⟨hc47, hb5⟩]
            rw [hfg]
            obtain ⟨ts5, h51, h53⟩ := hR3
            refine if_t (decide_eq_true hb5) ⟨_, rfl, rb, rfl, ⟨_, .inl (.inl h51)⟩, fun D hD => ?_⟩
            refine lc_acc1 (walk_tup (xs := ts5.map V.ref)) PT1 (fun i acc H' => ∃ us, acc = us.map V.ref ∧ Prs H' us (((put b pg c).take i).map fun q => (q.1, false)) ∧ i ≤ ts5.length) hD ⟨[], rfl, .nil, Nat.zero_le _⟩ (fun i H' acc hi kp e r => .inl (.inl (kp _ _ h51 True.intro))) (fun _ _ _ _ => True.intro) (fun i acc H' ⟨us, e1, e2, e3⟩ => ?_) (fun i acc H' a0 a1 e ⟨us, e1, e2, e3⟩ => ⟨us, e1, e2.mono fun b' xs z => ?_, e3⟩) ?_ ?_
            · rw [e1, List.length_map, e2.len, List.length_map, List.length_take, sizeLine_eq]
              omega
            · exact (upd_ne (fun y => by rw [y, e] at z; cases z)).trans z
            · intro i x H6 H6' acc Post hi kp e r hp hy
              obtain ⟨rfl, hx⟩ := hy
              rw [List.getElem?_map] at hx
              obtain ⟨t, htt, rfl⟩ := Option.map_eq_some_iff.mp hx
              obtain ⟨q, hq, hqt⟩ := h53.get htt
              obtain ⟨us, rfl, e2, e3⟩ := r
              have hit : i < ts5.length := (List.getElem?_eq_some_iff.mp htt).1
              refine ⟨t, prV q, rfl, .inl (.inl (kp _ _ hqt True.intro)), rfl, _, _, rfl, _, [], rfl, rfl, rfl, _, rfl, (show 2 ≤ sizeLine by decide), fun t' ht' => hp _ _ (Kp.of (same_new ht')) ⟨us ++ [t'], by rw [List.map_append]; rfl, ?_, hit⟩⟩
              rw [List.take_add_one, hq, List.map_append]
              exact (e2.mono fun b' xs z => same_new ht' _ _ z).app (.cons upd_same .nil)
            · intro H7 acc kp e r
              obtain ⟨us, rfl, e2, _⟩ := r
              have hn : (put b pg c).take (ts5.map V.ref).length = put b pg c := by
                rw [List.length_map, h53.len]
                exact List.take_length
              rw [hn] at e2
              refine ⟨D, _, rfl, .inl ⟨.inl (.inl e), fun o ho => ?_⟩⟩
              have s8 : Same H7 (upd H7 o (.tup (us.map V.ref))) := same_new ho
              exact ⟨sm3.trans (kp.same.trans s8), o, ⟨us, upd_same, e2.mono fun b xs z => s8 _ _ z⟩, rfl⟩
          · have hfg : forget b c (put b pg c) = put b pg c := by unfold forget; rw [if_neg fun z => hb5 z.2]
            rw [hfg]
            exact if_f (decide_eq_false hb5) ⟨sm3, rb, hR3, rfl⟩
        · have hfg : forget b c (put b pg c) = put b pg c := by unfold forget; rw [if_neg fun z => hc47 z.1]
          rw [hfg]
          exact if_f (decide_eq_false hc47) (iteF ⟨sm3, rb, hR3, rfl⟩)
      rintro σ H4 ⟨sm4, rb4, hR4, rfl⟩
      refine ⟨_, rfl, _, rfl, S pg.1, S [c], rfl, rfl, by rw [S_len, S_len, sizeLine_eq]; simp; omega, _, rfl, (show 2 ≤ sizeLine by decide), fun t ht => ?_⟩
      rw [S_app]
      exact fin sm4 hR4 ep ht
end
end Ob
/-! The law's own record. -/
namespace Ob
open PySem PySem.Spec PyProof.Rows L2 L2H
/-- all stays but what stands at these addresses and is no tuple -/
abbrev PL (L : List Addr) : Addr → HO → Prop := fun b o => b ∉ L ∨ ∃ xs, o = .tup xs
abbrev KL (L : List Addr) : Hp → Hp → Prop := Kp (PL L)
theorem KL.mono {L M : List Addr} {H H' : Hp} (k : KL L H H') (s : ∀ a ∈ L, a ∈ M) : KL M H H' := fun b o e p => k b o e (p.elim (fun z => .inl fun y => z (s b y)) .inr)
theorem KL.of {L : List Addr} {H H' : Hp} (k : Kp (PBut L) H H') (n : ∀ a ∈ L, ∀ xs, H a ≠ some (.tup xs)) : KL L H H' := fun b o e p => k b o e (p.elim id fun ⟨xs, z⟩ y => by subst z; exact n b y xs e)
theorem KL.tup {L : List Addr} {H H' : Hp} (k : KL L H H') {b : Addr} {xs : List V} (e : H b = some (.tup xs)) : H' b = some (.tup xs) := k _ _ e (.inr ⟨xs, rfl⟩)
theorem KL.tups {L : List Addr} {H H' : Hp} (k : KL L H H') : ∀ b xs, H b = some (.tup xs) → H' b = some (.tup xs) := fun _ _ e => k.tup e
theorem KL.get {L : List Addr} {H H' : Hp} (k : KL L H H') {b : Addr} {o : HO} (e : H b = some o) (n : b ∉ L) : H' b = some o := k _ _ e (.inl n)
theorem ne_ho {H : Hp} {a b : Addr} {u v : HO} (ha : H a = some u) (hb : H b = some v) (h : u ≠ v) : a ≠ b := fun z => by rw [z, hb] at ha; exact h (Option.some.inj ha).symm
theorem n1 {a b : Addr} (h : a ≠ b) : a ∉ [b] := fun z => h (List.mem_singleton.mp z)
theorem n2 {a b c : Addr} (h : a ≠ b) (h' : a ≠ c) : a ∉ [b, c] := fun z => (List.mem_cons.mp z).elim h fun z => h' (List.mem_singleton.mp z)
theorem n4 {a b c d e : Addr} (h : a ≠ b) (h' : a ≠ c) (h2 : a ≠ d) (h3 : a ≠ e) : a ∉ [b, c, d, e] := fun z => by
  simp only [List.mem_cons, List.not_mem_nil, or_false] at z
  rcases z with z | z | z | z
  · exact h z
  · exact h' z
  · exact h2 z
  · exact h3 z
theorem KM.kl {H H' : Hp} {m cl G : Addr} {k : Nat} (h : MAt H m cl G k) (t : KM m G H H') : KL [m, G] H H' := KL.of t fun a ha xs e => by
  obtain ⟨⟨n, a0, a1, a2⟩, ⟨is, c1, c2, c3⟩, ⟨js, g1, g2⟩, ne⟩ := h
  rcases List.mem_cons.mp ha with z | z
  · rw [z, a2] at e; cases e
  · rw [List.mem_singleton.mp z, g2] at e; cases e
theorem MAt.kl {H H' : Hp} {m cl G : Addr} {k : Nat} {L : List Addr} (h : MAt H m cl G k) (t : KL L H H') (a : m ∉ L) (b : cl ∉ L) (c : G ∉ L) : MAt H' m cl G k := by
  obtain ⟨⟨n, a0, a1, a2⟩, ⟨is, c1, c2, c3⟩, ⟨js, g1, g2⟩, ne⟩ := h
  exact ⟨⟨n, a0, a1, t.get a2 a⟩, ⟨is, c1, c2, t.get c3 b⟩, ⟨js, g1, t.get g2 c⟩, ne⟩
theorem EdAt.kl {C : Addr} {T : Nat} {H H' : Hp} {e : Addr} {ed : Ed} {dx ba : Addr} {dv lv : V} {L : List Addr} (h : EdAt C T H e ed dx ba dv lv) (k : KL L H H') (n : e ∉ L) : EdAt C T H' e ed dx ba dv lv := ⟨h.ok, k.get h.at_ n, h.v.mono k.tups⟩
abbrev ownD (x : En) : PyData := .tuple [.str x.1.str, lpD x.2]
abbrev oD (ba : Addr) (fv : V) (tail : List Nat) (dl ll : Addr) : List (Key × V) := [(Ks "book", .ref ba), (Ks "first", fv), (Ks "behind", .str (S tail)), (Ks "done", .ref dl), (Ks "later", .ref ll)]
def LAt (H : Hp) (l : Addr) (xs : List En) : Prop := ∃ vs, H l = some (.lst vs) ∧ DTs H (xs.map ownD) vs
theorem LAt.kl {H H' : Hp} {l : Addr} {xs : List En} {L : List Addr} (h : LAt H l xs) (k : KL L H H') (n : l ∉ L) : LAt H' l xs := by
  obtain ⟨vs, h1, h2⟩ := h
  exact ⟨vs, k.get h1 n, DTs.mono k.tups _ _ h2⟩
theorem LAt.same {H H' : Hp} {l : Addr} {xs : List En} (h : LAt H l xs) (k : Same H H') : LAt H' l xs := by
  obtain ⟨vs, h1, h2⟩ := h
  exact ⟨vs, k _ _ h1, h2.same k⟩
/-- the record at o; its lists are none of the bag's -/
structure OwAt (m G : Addr) (T : Nat) (H : Hp) (o : Addr) (ed : Ed) (ba : Addr) (fv : V) (dl ll : Addr) : Prop where
  ok : EdOk T ed
  at_ : H o = some (.dK (oD ba fv ed.tail dl ll))
  b : H ba = some (.tup ed.b.V)
  f : DT H (lpD (first ed.tail)) fv
  d : LAt H dl ed.done
  l : LAt H ll ed.later
  nm : o ≠ m
  nd : dl ≠ G
  nl : ll ≠ G
def OwI (m G : Addr) (T : Nat) (H : Hp) (o : Addr) (ed : Ed) : Prop := ∃ ba fv dl ll, OwAt m G T H o ed ba fv dl ll
section
variable {m G : Addr} {T T' : Nat} {H H' : Hp} {o : Addr} {ed : Ed} {ba : Addr} {fv : V} {dl ll : Addr} {L : List Addr}
theorem OwAt.same (h : OwAt m G T H o ed ba fv dl ll) (k : Same H H') : OwAt m G T H' o ed ba fv dl ll := ⟨h.ok, k _ _ h.at_, k _ _ h.b, h.f.same k, h.d.same k, h.l.same k, h.nm, h.nd, h.nl⟩
theorem OwAt.kl (h : OwAt m G T H o ed ba fv dl ll) (k : KL L H H') (n1 : o ∉ L) (n2 : dl ∉ L) (n3 : ll ∉ L) : OwAt m G T H' o ed ba fv dl ll := ⟨h.ok, k.get h.at_ n1, k.tup h.b, DT.mono k.tups _ _ h.f, h.d.kl k n2, h.l.kl k n3, h.nm, h.nd, h.nl⟩
theorem OwAt.mono (h : OwAt m G T H o ed ba fv dl ll) (k : T ≤ T') : OwAt m G T' H o ed ba fv dl ll := ⟨h.ok.mono k, h.at_, h.b, h.f, h.d, h.l, h.nm, h.nd, h.nl⟩
theorem OwI.same (h : OwI m G T H o ed) (k : Same H H') : OwI m G T H' o ed := by
  obtain ⟨ba, fv, dl, ll, h⟩ := h
  exact ⟨_, _, _, _, h.same k⟩
theorem OwI.mono (h : OwI m G T H o ed) (k : T ≤ T') : OwI m G T' H o ed := by
  obtain ⟨ba, fv, dl, ll, h⟩ := h
  exact ⟨_, _, _, _, h.mono k⟩
theorem EdI.mono {C e : Addr} (h : EdI C T H e ed) (k : T ≤ T') : EdI C T' H e ed := by
  obtain ⟨a, b, c, d, h⟩ := h
  exact ⟨a, b, c, d, h.ok.mono k, h.at_, h.v⟩
/-- what changes elsewhere: another dict, another instance, the bag -/
theorem OwI.kl (h : OwI m G T H o ed) (k : KL L H H') (n : o ∉ L) (hl : ∀ a ∈ L, a = G ∨ ∀ vs, H a ≠ some (.lst vs)) : OwI m G T H' o ed := by
  obtain ⟨ba, fv, dl, ll, h⟩ := h
  have key : ∀ {a : Addr} {xs : List En}, LAt H a xs → a ≠ G → a ∉ L := fun {a xs} ⟨vs, e, _⟩ ne z => (hl a z).elim ne fun q => q vs e
  exact ⟨_, _, _, _, h.kl k n (key h.d h.nd) (key h.l h.nl)⟩
theorem EdI.kl {C e : Addr} (h : EdI C T H e ed) (k : KL L H H') (n : e ∉ L) : EdI C T H' e ed := by
  obtain ⟨a, b, c, d, h⟩ := h
  exact ⟨a, b, c, d, h.kl k n⟩
end
theorem own_inv {H : Hp} {x : En} {v : V} (h : DT H (ownD x) v) : ∃ a pv, v = .ref a ∧ H a = some (.tup [.str x.1.str, pv]) ∧ DT H (lpD x.2) pv := by
  obtain ⟨a, xs, rfl, ha, hs⟩ := DT.tup.mp h
  obtain ⟨v1, r1, rfl, h1, hs⟩ := DTs.cons_.mp hs
  obtain ⟨v2, r2, rfl, h2, hs⟩ := DTs.cons_.mp hs
  rw [DTs.nil_.mp hs, DT.str_.mp h1] at ha
  exact ⟨a, v2, rfl, ha, h2⟩
theorem fine_lpD {pg : Pg} (h : SgOk pg) (hl : pgLen pg ≤ 900) : Fine 3 5000 (lpD pg) := by
  unfold pgLen at hl
  have fs : FineA 1 (pg.2.length * 4) (pg.2.map prD') := by
    have := FineA.all (k := 1) (n := 3) (ds := pg.2.map prD') fun d hd => by
      obtain ⟨x, hx, rfl⟩ := List.mem_map.mp hd
      exact ((FineA.cons (Fine.sg (l := [x.1]) fun c hc => by rw [List.mem_singleton.mp hc]; exact h.r x hx) (FineA.cons (Fine.bl x.2) (FineA.nil (n := 0)))).tup).mono (Nat.le_refl _) (by show 1 + 1 + (0 + 1 + 0) ≤ 3; decide)
    rw [List.length_map] at this
    exact this
  refine ((FineA.cons ((Fine.sg h.l).mono (Nat.zero_le 2) (Nat.le_refl _)) (FineA.cons fs.tup (FineA.nil (n := 0)))).tup).mono (Nat.le_refl _) ?_
  omega
theorem fine_own {T : Nat} {x : En} (h : EnOk T x) (hT : T ≤ 400) : Fine 4 5010 (ownD x) :=
  ((FineA.cons ((Ky.fine h.k).mono (Nat.zero_le 3) (Nat.le_refl _)) (FineA.cons (fine_lpD h.s (Nat.le_trans h.l (by omega))) (FineA.nil (n := 0)))).tup).mono (Nat.le_refl _) (by omega)
theorem fine_owns {T : Nat} {l : List En} (h : ∀ x ∈ l, EnOk T x) (hT : T ≤ 400) : FineA 4 (l.length * 5011) (l.map ownD) := by
  have := FineA.all (k := 4) (n := 5010) (ds := l.map ownD) fun d hd => by
    obtain ⟨x, hx, rfl⟩ := List.mem_map.mp hd
    exact fine_own (h x hx) hT
  rw [List.length_map] at this
  exact this
/-- xs != [], xs == [] -/
theorem neL {K : PySem.W.Frag} {T : Nat} {H : Hp} {a l : Addr} {xs : List En} {Q : VK} (h : LAt H a xs) (ho : ∀ x ∈ xs, EnOk T x) (hT : T ≤ 400) (hl : H l = some (.lst [])) (q : Q (.bl (!xs.isEmpty)) H) : rNeD K (.ref a) (.ref l) H Q := by
  obtain ⟨vs, h1, h2⟩ := h
  refine ⟨.list (xs.map ownD), .list [], .lst (.inl (.inl h1)) (DTs.dp _ _ h2), .lst (.inl (.inl hl)) .nil, (fine_owns ho hT).lst.shaped, by decide +kernel, ?_⟩
  rw [eqv_nilL, List.isEmpty_map]
  exact q
theorem eqL {K : PySem.W.Frag} {T : Nat} {H : Hp} {a l : Addr} {xs : List En} {Q : VK} (h : LAt H a xs) (ho : ∀ x ∈ xs, EnOk T x) (hT : T ≤ 400) (hl : H l = some (.lst [])) (q : Q (.bl xs.isEmpty) H) : rEqD K (.ref a) (.ref l) H Q := by
  obtain ⟨vs, h1, h2⟩ := h
  refine ⟨.list (xs.map ownD), .list [], .lst (.inl (.inl h1)) (DTs.dp _ _ h2), .lst (.inl (.inl hl)) .nil, (fine_owns ho hT).lst.shaped, by decide +kernel, ?_⟩
  rw [eqv_nilL, List.isEmpty_map]
  exact q
/-- the last of a row -/
theorem LAt.last {H : Hp} {a : Addr} {l : List En} {x : En} (h : LAt H a l) (hx : l.getLast? = some x) : ∃ xs y, H a = some (.lst xs) ∧ DTs H (l.map ownD) xs ∧ atI xs (-1) = some y ∧ DT H (ownD x) y := by
  obtain ⟨xs, ha, hs⟩ := h
  have hl := hs.length
  rw [List.length_map] at hl
  obtain ⟨l', rfl⟩ : ∃ l', l = l' ++ [x] := by
    rcases List.eq_nil_or_concat l with rfl | ⟨l', y, e⟩
    · cases hx
    · rw [List.concat_eq_append] at e
      rw [e, List.getLast?_concat] at hx
      cases hx
      exact ⟨l', e⟩
  have e1 : ((l' ++ [x]).map ownD)[l'.length]? = some (ownD x) := by simp
  obtain ⟨y, hy, hd⟩ := hs.get e1
  refine ⟨xs, y, ha, hs, ?_, hd⟩
  have hl2 : xs.length = l'.length + 1 := by rw [hl]; simp
  obtain ⟨hi, he⟩ := List.getElem?_eq_some_iff.mp hy
  have : xs = xs.take l'.length ++ [y] := by
    have := List.take_append_drop l'.length xs
    rw [List.drop_eq_getElem_cons hi, he, List.drop_of_length_le (by omega)] at this
    exact this.symm
  rw [this]
  exact atI_last _ _
section
variable {P : Program} {w : World} {K : PySem.W.Frag} {mg : Str → Option Value} {base : Heap}
theorem ok_own (T : TxL P K mg) : FOk P w K mg base CX0 2 ("_law_own", none) p_law_own (fun vs H Q _ => ∃ (m G ba : Addr) (b : Bk) (tail : List Nat), vs = [.ref ba, .str (S tail)] ∧ H ba = some (.tup b.V) ∧ b.ok ∧ (∀ c ∈ tail, c ∈ sigs) ∧ tail.length ≤ 6 ∧ (∃ u, H m = some u) ∧ (∃ u, H G = some u) ∧
    ∀ H' o, OwI m G 0 H' o (fresh b tail) → H o = none → Same H H' → Q (.ref o) H') := by
  refine T.d_own.f.ok sc_law_own (fun vs H Q E h => ?_) (fun cdv A outer s0 H vs Q E hr h => ?_)
  · obtain ⟨_, _, _, _, _, rfl, _⟩ := h
    rfl
  obtain ⟨m, G, ba, b, tail, rfl, hb, ob, ht, hn, ⟨um, hm⟩, ⟨uG, hG⟩, k⟩ := h
  refine ⟨_, PSs.nox (pss_one (ps_ret (pe_disp (pps_cons pe_str (pv 0) (pps_cons pe_str (pe_f T.d_on (ok_on T) hr (by decide) (pa_cons (pv 1) pa_nil)) (pps_cons pe_str (pv 1) (pps_cons pe_str (pe_lst pa_nil) (pps_cons pe_str (pe_lst pa_nil) pps_nil))))) (by rfl) (by rfl) (fun z => by cases z) (by decide)))), ?_⟩
  refine fun o ho => ?_
  have s0 : Same H (upd H o (.dK [])) := same_new ho
  refine ⟨_, rfl, _, rfl, tail, rfl, by omega, fun H1 fv s1 hf => ⟨_, rfl, Nat.zero_le _, fun dl hdl => ⟨Nat.zero_le _, fun ll hll => ?_⟩⟩⟩
  have s2 : Same H1 (upd H1 dl (.lst [])) := same_new hdl
  have s3 : Same (upd H1 dl (.lst [])) (upd (upd H1 dl (.lst [])) ll (.lst [])) := same_new hll
  have s123 := s1.trans (s2.trans s3)
  have hdk := s123 _ _ (upd_same (H := H) (a := o) (o := .dK []))
  refine ⟨hdk, oD ba fv tail dl ll, rfl, (show 5 ≤ 15 by decide), ?_⟩
  have smA := s0.trans s123
  have e1 := s3 _ _ (upd_same (H := H1) (a := dl) (o := .lst []))
  have e2 := upd_same (H := upd H1 dl (.lst [])) (a := ll) (o := .lst [])
  have hf3 := hf.same (s2.trans s3)
  have gone : ∀ {x : Addr} {u : HO}, H x = some u → ∀ {y : Addr} {H9 : Hp}, Same H H9 → H9 y = none → y ≠ x := fun {x u} hx {y H9} s hy z => by
    rw [z, s _ _ hx] at hy; cases hy
  have ndG := gone hG (s0.trans s1) hdl
  have nlG := gone hG (s0.trans (s1.trans s2)) hll
  have nom : o ≠ m := fun z => by rw [z, hm] at ho; cases ho
  revert e1 e2 hf3 smA hdk
  generalize upd (upd H1 dl (.lst [])) ll (.lst []) = H4
  intro hdk smA e1 e2 hf3
  show Q (.ref o) (upd H4 o (.dK (oD ba fv tail dl ll)))
  have kp : ∀ {b : Addr} {u : HO}, H4 b = some u → (∀ kvs, u ≠ .dK kvs) → upd H4 o (.dK (oD ba fv tail dl ll)) b = some u := fun {b u} h n => (upd_ne (fun z => by rw [z, hdk] at h; exact n _ (Option.some.inj h).symm)).trans h
  refine k _ o ⟨ba, fv, dl, ll, fresh_ok ob ht hn, upd_same, kp (smA _ _ hb) (fun _ z => by cases z), DT.mono (fun b xs z => kp z (fun _ y => by cases y)) _ _ hf3, ⟨[], kp e1 (fun _ z => by cases z), DTs.nil⟩, ⟨[], kp e2 (fun _ z => by cases z), DTs.nil⟩, nom, ndG, nlG⟩ ho fun b u hb => (upd_ne (fun z => by rw [z, ho] at hb; cases hb)).trans (smA _ _ hb)
theorem ok_now (T : TxL P K mg) : FOk P w K mg base CX0 1 ("_law_now", none) p_law_now (fun vs H Q _ => ∃ (m G o : Addr) (n : Nat) (ed : Ed), vs = [.ref o] ∧ OwI m G n H o ed ∧ n ≤ 400 ∧ ∀ H' v, Same H H' → DT H' (lpD ed.now) v → Q v H') := by
  refine T.d_now.f.ok sc_law_now (fun vs H Q E h => ?_) (fun cdv A outer s0 H vs Q E hr h => ?_)
  · obtain ⟨_, _, _, _, _, rfl, _⟩ := h
    rfl
  obtain ⟨m, G, o, n, ed, rfl, ⟨ba, fv, dl, ll, h⟩, hn, k⟩ := h
  have hu := hu_of hr
  refine ⟨_, PSs.nox (pss_one (ps_ret (pe_ifExp (pt_cmpR (op_neD hr.units) (pe_dget hu (pv 0) pe_str (fun _ _ => rfl)) (pe_lst pa_nil) (nomark _)) (pe_ix ix_tup (pe_ix ix_list (pe_dget hu (pv 0) pe_str (fun _ _ => rfl)) (pe_un un_neg pe_int) (fun _ _ => rfl)) pe_int (fun _ _ => rfl)) (pe_dget hu (pv 0) pe_str (fun _ _ => rfl))))), ?_⟩
  refine ⟨_, rfl, o, .ref dl, rfl, DGet.k (k := Ks "done") h.at_, Nat.zero_le _, fun l hl => ?_⟩
  have sm : Same H (upd H l (.lst [])) := same_new hl
  have h1 := h.same sm
  refine neL h1.d h.ok.d hn upd_same ⟨_, rfl, ?_⟩
  have e0 : ed.now = ((ed.done.getLast?.map (·.2)).getD (first ed.tail)) := rfl
  cases el : ed.done.getLast? with
  | none =>
    have hd0 : ed.done = [] := List.getLast?_eq_none_iff.mp el
    rw [el] at e0
    refine if_f (by rw [hd0]; rfl) ⟨_, rfl, o, fv, rfl, DGet.k (k := Ks "first") h1.at_, k _ _ sm ?_⟩
    rw [e0]
    exact h1.f
  | some x =>
    have hne : (!ed.done.isEmpty) = true := by
      cases hd : ed.done with
      | nil => rw [hd] at el; cases el
      | cons a b => rfl
    rw [el] at e0
    obtain ⟨xs, y, ha, hs, hy, hd⟩ := h1.d.last el
    obtain ⟨b, pv_, rfl, hb, hp⟩ := own_inv hd
    refine if_t hne ⟨_, rfl, o, .ref dl, rfl, DGet.k (k := Ks "done") h1.at_, 1, rfl, dl, xs, -1, .ref b, rfl, rfl, .inl (.inl ha), hy, b, _, 1, pv_, rfl, rfl, .inl (.inl hb), rfl, k _ _ sm ?_⟩
    rw [e0]
    exact hp
end
end Ob
/-! The law's own record: keys pressed, undone, redone. -/
namespace Ob
open PySem PySem.Spec PyProof.Rows L2 L2H
theorem now_after (b : Bk) (tail : List Nat) (done : List En) (p : Pg) (hp : p = nowOf tail done) (ks : List Ky) : nowOf tail (done ++ runK b p ks) = after b p ks := by
  rcases List.eq_nil_or_concat ks with rfl | ⟨ks', q, e⟩
  · show nowOf tail (done ++ []) = p
    rw [List.append_nil, hp]
  · rw [List.concat_eq_append] at e
    subst e
    rw [runK_snoc, ← List.append_assoc]
    unfold nowOf
    rw [List.getLast?_concat, after_snoc]
    rfl
def midK (ed : Ed) (ks : List Ky) : Ed := { ed with done := ed.done ++ runK ed.b ed.now ks }
theorem midK_ok {T : Nat} {ed : Ed} {ks : List Ky} (h : EdOk T ed) (hk : ∀ q ∈ ks, q.ok) : EdOk (T + ks.length) (midK ed ks) := by
  have hn := h.n
  refine ⟨h.b, h.tl, h.tn, ?_, fun x hx => ?_, fun x hx => (h.r x hx).mono (by omega)⟩
  · show (ed.done ++ runK ed.b ed.now ks).length + ed.later.length ≤ _
    rw [List.length_append, runK_len]
    omega
  · rcases List.mem_append.mp hx with z | z
    · exact (h.d x z).mono (by omega)
    · exact runK_ok h.now.1 hk (by have := h.now.2; omega) x z
theorem gone {H9 : Hp} {x y : Addr} {u : HO} (hx : H9 x = some u) (hy : H9 y = none) : y ≠ x := fun z => by rw [z, hx] at hy; cases hy
section
variable {P : Program} {w : World} {K : PySem.W.Frag} {mg : Str → Option Value} {base : Heap}
theorem ok_keyed (T : TxL P K mg) : FOk P w K mg base CX0 4 ("_law_keyed", none) p_law_keyed (fun vs H Q _ => ∃ (m G o ka : Addr) (n : Nat) (ed : Ed) (ks : List Ky), vs = [.ref o, .ref ka] ∧ OwI m G n H o ed ∧ (∃ u, H G = some (.lst u)) ∧ H ka = some (.tup (kyV ks)) ∧ (∀ q ∈ ks, q.ok) ∧ n + ks.length ≤ 96 ∧
    ∀ H', OwI m G (n + ks.length) H' o (keyed ed ks) → KL [o] H H' → Q .non H') := by
  refine T.d_keyed.f.ok sc_law_keyed (fun vs H Q E h => ?_) (fun cdv A outer s0 H vs Q E hr h => ?_)
  · obtain ⟨_, _, _, _, _, _, _, rfl, _⟩ := h
    rfl
  obtain ⟨m, G, o, ka, n, ed, ks, rfl, ⟨ba, fv, dl, ll, h⟩, ⟨uG, hG⟩, hka, hks, hn, k⟩ := h
  have nd := sc_law_keyed.nd
  have hu := hu_of hr
  refine ⟨_, PSs.nox (pss_cons (ps_for PassesOwn.never rfl (pi_tup (pv 1)) (pg_nm 2 nd)
      (pss_one (ps_dput hu (pv 0) pe_str (pe_op op_cat (pe_dget hu (pv 0) pe_str (fun _ _ => rfl)) (pe_lst (pa_cons (pe_tup (pa_cons (pv 2) (pa_cons (pe_f T.d_pressed (ok_pressed T) hr (by decide) (pa_cons (pe_dget hu (pv 0) pe_str (fun _ _ => rfl)) (pa_cons (pe_f T.d_now (ok_now T) hr (by decide) (pa_cons (pv 0) pa_nil)) (pa_cons (pv 2) pa_nil)))) pa_nil))) pa_nil))) rfl)))
    (pss_one (ps_dput hu (pv 0) pe_str (pe_ifExp (pt_cmpR (op_eqD hr.units) (pv 1) (pe_tup pa_nil) (nomark _)) (pe_dget hu (pv 0) pe_str (fun _ _ => rfl)) (pe_lst pa_nil)) rfl))), ?_⟩
  have hoG : o ≠ G := ne_ho h.at_ hG (fun z => by cases z)
  refine ⟨_, rfl, ka, rfl, ⟨_, .inl (.inl hka)⟩, ?_⟩
  refine for_it walk_tup (fun i σ H' => KL [o] H H' ∧ i ≤ ks.length ∧ ∃ dl' x2, OwAt m G (n + i) H' o (midK ed (ks.take i)) ba fv dl' ll ∧ σ = [some (.ref o), some (.ref ka), x2]) ⟨Kp.refl H, Nat.zero_le _, dl, _, ?_, rfl⟩ (fun i σ H' hi p => .inl (.inl (p.1.tup hka))) (fun i x σ H1 H2 hi ⟨k1, hil, dl1, x2, h1, e1⟩ hy => ?_) (fun σ H1 ⟨k1, hil, dl1, x2, h1, e1⟩ => ?_)
  · have e : midK ed (ks.take 0) = ed := by
      unfold midK
      show { ed with done := ed.done ++ [] } = ed
      rw [List.append_nil]
    rw [e]
    exact h
  · obtain ⟨rfl, hx⟩ := hy
    subst e1
    rw [List.getElem?_map] at hx
    obtain ⟨q, hq, rfl⟩ := Option.map_eq_some_iff.mp hx
    have hqk : q ∈ ks := List.mem_of_getElem? hq
    have hi' := (List.getElem?_eq_some_iff.mp hq).1
    have htk : ks.take (i + 1) = ks.take i ++ [q] := by rw [List.take_add_one, hq]; rfl
    have htl : (ks.take i).length = i := by rw [List.length_take]; omega
    obtain ⟨ds, hd1, hd2⟩ := h1.d
    have hdl := hd2.length
    rw [List.length_map] at hdl
    have hnn := h1.ok.n
    have okn := h1.ok.now
    have hG1 := k1.get hG (n1 hoG.symm)
    refine ⟨_, rfl, o, .ref dl1, rfl, DGet.k (k := Ks "done") h1.at_, _, rfl, _, rfl, o, .ref ba, rfl, DGet.k (k := Ks "book") h1.at_, _, rfl, m, G, o, n + i, _, rfl, ⟨ba, fv, dl1, ll, h1⟩, by omega, fun H3 v3 s3 hv3 => ?_⟩
    have h3 := h1.same s3
    refine ⟨_, rfl, ba, ed.b, v3, (midK ed (ks.take i)).now, q, rfl, h3.b, h3.ok.b, hv3, okn.1, by omega, hks q hqk, fun H4 v4 s4 hv4 => ⟨(show 2 ≤ sizeLine by decide), fun t ht => ⟨(show 1 ≤ sizeLine by decide), fun l1 hl1 => ?_⟩⟩⟩
    have s5 : Same H4 (upd H4 t (.tup [.str q.str, v4])) := same_new ht
    have s6 : Same (upd H4 t (.tup [.str q.str, v4])) (upd (upd H4 t (.tup [.str q.str, v4])) l1 (.lst [.ref t])) := same_new hl1
    have s36 := s3.trans (s4.trans (s5.trans s6))
    have ent : DT (upd (upd H4 t (.tup [.str q.str, v4])) l1 (.lst [.ref t])) (ownD (q, press ed.b (midK ed (ks.take i)).now q)) (.ref t) := DT.mk (s6 _ _ upd_same) (DTs.cons (DT.str_.mpr rfl) (DTs.cons (hv4.same (s5.trans s6)) DTs.nil))
    have hl1s := upd_same (H := upd H4 t (.tup [.str q.str, v4])) (a := l1) (o := .lst [.ref t])
    revert s36 ent hl1s
    generalize upd (upd H4 t _) l1 _ = H7
    intro s36 ent hl1s
    have h7 := h1.same s36
    refine ⟨dl1, l1, ds, [.ref t], rfl, rfl, s36 _ _ hd1, hl1s, by rw [hdl, sizeLine_eq]; simp; omega, fun l2 hl2 => ?_⟩
    have s8 : Same H7 (upd H7 l2 (.lst (ds ++ [.ref t]))) := same_new hl2
    have h8 := h7.same s8
    have hl2s := upd_same (H := H7) (a := l2) (o := .lst (ds ++ [.ref t]))
    have nl2 : l2 ≠ G := gone (s36 _ _ hG1) hl2
    have ds8 := (hd2.same (s36.trans s8)).app (DTs.cons (ent.same s8) DTs.nil)
    have s18 := s36.trans s8
    revert s18 h8 hl2s ds8
    generalize upd H7 l2 _ = H8
    intro h8 hl2s ds8 s18
    refine ⟨_, rfl, o, _, rfl, DPut.k (k := Ks "done") h8.at_ (show 5 < sizeLine by decide), ?_⟩
    show KL [o] H (upd H8 o (.dK (oD ba fv ed.tail l2 ll))) ∧ _
    have kp : ∀ {b : Addr} {u : HO}, H8 b = some u → (∀ kvs, u ≠ .dK kvs) → upd H8 o (.dK (oD ba fv ed.tail l2 ll)) b = some u := fun {b u} z n => (upd_ne (fun y => by rw [y, h8.at_] at z; exact n _ (Option.some.inj z).symm)).trans z
    have kt : ∀ b xs, H8 b = some (.tup xs) → upd H8 o (.dK (oD ba fv ed.tail l2 ll)) b = some (.tup xs) := fun b xs z => kp z (fun _ y => by cases y)
    have okm := midK_ok (ks := ks.take (i + 1)) h.ok (fun x hx => hks x (List.mem_of_mem_take hx))
    rw [show (ks.take (i + 1)).length = i + 1 by rw [List.length_take]; omega] at okm
    refine ⟨fun b u z p => ?_, hi', l2, _, ⟨okm, upd_same, kt _ _ h8.b, DT.mono kt _ _ h8.f, ⟨_, kp hl2s (fun _ y => by cases y), ?_⟩, ?_, h.nm, nl2, h.nl⟩, rfl⟩
    · by_cases hbo : b = o
      · rcases p with p | ⟨xs, p⟩
        · exact absurd hbo fun y => p (by rw [y]; exact List.mem_cons_self)
        · rw [hbo, h.at_, p] at z; cases z
      · exact (upd_ne hbo).trans (s18 _ _ (k1 _ _ z p))
    · have e9 : (midK ed (ks.take (i + 1))).done = (midK ed (ks.take i)).done ++ [(q, press ed.b (midK ed (ks.take i)).now q)] := by
        show ed.done ++ runK ed.b ed.now (ks.take (i + 1)) = (ed.done ++ runK ed.b ed.now (ks.take i)) ++ [(q, press ed.b (nowOf ed.tail (ed.done ++ runK ed.b ed.now (ks.take i))) q)]
        rw [htk, runK_snoc, now_after _ _ _ _ rfl, List.append_assoc]
      rw [e9, List.map_append]
      exact DTs.mono kt _ _ ds8
    · obtain ⟨ys, y1, y2⟩ := h8.l
      exact ⟨ys, kp y1 (fun _ y => by cases y), DTs.mono kt _ _ y2⟩
  · subst e1
    have hn9 : ks.take (kyV ks).length = ks := by rw [List.length_map]; exact List.take_length
    rw [hn9] at h1
    have hlk : (kyV ks).length = ks.length := List.length_map ..
    rw [hlk] at h1
    have hka1 := k1.tup hka
    have hG1 := k1.get hG (n1 hoG.symm)
    have fk : FineA 0 (ks.length * 6) ((ks.map fun q => q.str).map .str) := by
      have := FineA.all (k := 0) (n := 5) (ds := (ks.map fun q => q.str).map .str) fun d hd => by
        obtain ⟨z, hz, rfl⟩ := List.mem_map.mp hd
        obtain ⟨q, hq, rfl⟩ := List.mem_map.mp hz
        exact Ky.fine (hks q hq)
      rw [List.length_map, List.length_map] at this
      exact this
    refine ⟨_, rfl, Nat.zero_le _, fun l hl => ?_⟩
    have sm : Same H1 (upd H1 l (.tup [])) := same_new hl
    have dk : DTs (upd H1 l (.tup [])) ((ks.map fun q => q.str).map .str) (kyV ks) := by
      have := DTs.strs (H := upd H1 l (.tup [])) (ks.map fun q => q.str)
      rw [List.map_map (g := V.str)] at this
      exact this
    refine ⟨.tuple ((ks.map fun q => q.str).map .str), .tuple [], .tup (.inl (.inl (sm _ _ hka1))) (DTs.dp _ _ dk), .tup (.inl (.inl upd_same)) .nil, fk.tup.shaped, shaped_nil, _, rfl, ?_⟩
    rw [eqv_nil, List.isEmpty_map, List.isEmpty_map]
    have h2 := h1.same sm
    have hG2 := sm _ _ hG1
    revert h2 sm hG2
    generalize upd H1 l _ = H2
    intro sm h2 hG2
    have fin : ∀ (H3 : Hp) (l' : Addr), Same H2 H3 → l' ≠ G → LAt H3 l' (keyed ed ks).later → Q .non (upd H3 o (.dK (oD ba fv ed.tail dl1 l'))) := fun H3 l' s3 nl' hl' => by
      have h3 := h2.same s3
      have kp : ∀ {b : Addr} {u : HO}, H3 b = some u → (∀ kvs, u ≠ .dK kvs) → upd H3 o (.dK (oD ba fv ed.tail dl1 l')) b = some u := fun {b u} z n => (upd_ne (fun y => by rw [y, h3.at_] at z; exact n _ (Option.some.inj z).symm)).trans z
      have kt : ∀ b xs, H3 b = some (.tup xs) → upd H3 o (.dK (oD ba fv ed.tail dl1 l')) b = some (.tup xs) := fun b xs z => kp z (fun _ y => by cases y)
      refine k _ ⟨ba, fv, dl1, l', keyed_ok h.ok hks, upd_same, kt _ _ h3.b, DT.mono kt _ _ h3.f, ?_, ?_, h.nm, h1.nd, nl'⟩ fun b u z p => ?_
      · obtain ⟨ys, y1, y2⟩ := h3.d
        exact ⟨ys, kp y1 (fun _ y => by cases y), DTs.mono kt _ _ y2⟩
      · obtain ⟨ys, y1, y2⟩ := hl'
        exact ⟨ys, kp y1 (fun _ y => by cases y), DTs.mono kt _ _ y2⟩
      · by_cases hbo : b = o
        · rcases p with p | ⟨xs, p⟩
          · exact absurd hbo fun y => p (by rw [y]; exact List.mem_cons_self)
          · rw [hbo, h.at_, p] at z; cases z
        · exact (upd_ne hbo).trans ((sm.trans s3) _ _ (k1 _ _ z p))
    cases ks with
    | nil =>
      refine if_t rfl ⟨_, rfl, o, .ref ll, rfl, DGet.k (k := Ks "later") h2.at_, _, rfl, o, _, rfl, DPut.k (k := Ks "later") h2.at_ (show 5 < sizeLine by decide), ?_⟩
      exact fin H2 ll (Same.refl H2) h.nl h2.l
    | cons q0 kr =>
      refine if_f rfl ⟨Nat.zero_le _, fun l9 hl9 => ?_⟩
      have s9 : Same H2 (upd H2 l9 (.lst [])) := same_new hl9
      refine ⟨_, rfl, o, _, rfl, DPut.k (k := Ks "later") (s9 _ _ h2.at_) (show 5 < sizeLine by decide), ?_⟩
      exact fin _ l9 s9 (gone hG2 hl9) ⟨[], upd_same, DTs.nil⟩
end
end Ob
/-! The law's own record: undone, redone. -/
namespace Ob
open PySem PySem.Spec PyProof.Rows L2 L2H
section
variable {P : Program} {w : World} {K : PySem.W.Frag} {mg : Str → Option Value} {base : Heap}
theorem ok_shift_undo (T : TxL P K mg) : FOk P w K mg base CX0 1 ("_law_shift", none) p_law_shift (fun vs H Q _ => ∃ (m G o : Addr) (n : Nat) (ed : Ed), vs = [.ref o, .str "done", .str "later"] ∧ OwI m G n H o ed ∧ (∃ u, H G = some (.lst u)) ∧ n ≤ 400 ∧
    ∀ H', OwI m G n H' o (undo ed) → KL [o] H H' → Q (.bl (!ed.done.isEmpty)) H') := by
  refine T.d_shift.f.ok sc_law_shift (fun vs H Q E h => ?_) (fun cdv A outer s0 H vs Q E hr h => ?_)
  · obtain ⟨_, _, _, _, _, rfl, _⟩ := h
    rfl
  obtain ⟨m, G, o, n, ed, rfl, ⟨ba, fv, dl, ll, h⟩, ⟨uG, hG⟩, hn, k⟩ := h
  have hu := hu_of hr
  refine ⟨_, PSs.nox (pss_cons (ps_if (pt_cmpR (op_eqD hr.units) (pe_dget hu (pv 0) (pv 1) (fun _ _ => rfl)) (pe_lst pa_nil) (nomark _)) (pss_one (ps_ret pe_bl)) pss_nil)
    (pss_cons (ps_dput hu (pv 0) (pv 2) (pe_op op_cat (pe_dget hu (pv 0) (pv 2) (fun _ _ => rfl)) (pe_lst (pa_cons (pe_ix ix_list (pe_dget hu (pv 0) (pv 1) (fun _ _ => rfl)) (pe_un un_neg pe_int) (fun _ _ => rfl)) pa_nil))) rfl)
    (pss_cons (ps_dput hu (pv 0) (pv 1) (pe_slice sl_list (pe_dget hu (pv 0) (pv 1) (fun _ _ => rfl)) po_none (po_some (pe_un un_neg pe_int))) rfl)
    (pss_one (ps_ret pe_bl))))), ?_⟩
  refine ⟨_, rfl, _, rfl, o, .ref dl, rfl, DGet.k (k := Ks "done") h.at_, Nat.zero_le _, fun l hl => ?_⟩
  have sm : Same H (upd H l (.lst [])) := same_new hl
  have h1 := h.same sm
  refine eqL h1.d h.ok.d hn upd_same ⟨_, rfl, ?_⟩
  have hG1 := sm _ _ hG
  revert sm h1 hG1
  generalize upd H l _ = H1
  intro sm h1 hG1
  cases el : ed.done.getLast? with
  | none =>
    have h0 : ed.done = [] := List.getLast?_eq_none_iff.mp el
    have e1 : undo ed = ed := by unfold undo; rw [el]
    have := k H1 (by rw [e1]; exact ⟨ba, fv, dl, ll, h1⟩) (Kp.of sm)
    rw [h0] at this
    exact if_t (by rw [h0]; rfl) this
  | some x =>
    have hne : ed.done.isEmpty = false := by
      cases hd : ed.done with
      | nil => rw [hd] at el; cases el
      | cons a b => rfl
    have e1 : undo ed = { ed with done := ed.done.dropLast, later := ed.later ++ [x] } := by unfold undo; rw [el]
    have ok1 := undo_ok h.ok
    rw [e1] at ok1
    rw [hne, e1] at k
    refine if_f hne ?_
    obtain ⟨xs, y, ha, hs, hy, hd⟩ := h1.d.last el
    obtain ⟨ls, hla, hls⟩ := h1.l
    have hll := hls.length
    rw [List.length_map] at hll
    have hnn := h.ok.n
    refine ⟨_, rfl, _, rfl, o, .ref ll, rfl, DGet.k (k := Ks "later") h1.at_, _, rfl, _, rfl, o, .ref dl, rfl, DGet.k (k := Ks "done") h1.at_, 1, rfl, dl, xs, -1, y, rfl, rfl, .inl (.inl ha), hy, (show 1 ≤ sizeLine by decide), fun l1 hl1 => ?_⟩
    have s2 : Same H1 (upd H1 l1 (.lst [y])) := same_new hl1
    refine ⟨ll, l1, ls, [y], rfl, rfl, s2 _ _ hla, upd_same, by rw [hll, sizeLine_eq]; simp; omega, fun l2 hl2 => ?_⟩
    have s3 : Same (upd H1 l1 (.lst [y])) (upd (upd H1 l1 (.lst [y])) l2 (.lst (ls ++ [y]))) := same_new hl2
    have s23 := s2.trans s3
    have hl2s := upd_same (H := upd H1 l1 (.lst [y])) (a := l2) (o := .lst (ls ++ [y]))
    have nl2 : l2 ≠ G := gone (s2 _ _ hG1) hl2
    have dd := (hls.same s23).app (DTs.cons (hd.same s23) DTs.nil)
    have smA := sm.trans s23
    have h3 := h1.same s23
    have ha3 := s23 _ _ ha
    have hs3 := hs.same s23
    have hG3 := s23 _ _ hG1
    revert hl2s dd smA h3 ha3 hs3 hG3
    generalize upd (upd H1 l1 _) l2 _ = H3
    intro hl2s dd smA h3 ha3 hs3 hG3
    refine ⟨_, rfl, _, rfl, o, _, rfl, DPut.k (k := Ks "later") h3.at_ (show 5 < sizeLine by decide), ?_⟩
    have kp : ∀ {b : Addr} {u : HO}, H3 b = some u → (∀ kvs, u ≠ .dK kvs) → upd H3 o (.dK (oD ba fv ed.tail dl l2)) b = some u := fun {b u} z n => (upd_ne (fun y => by rw [y, h3.at_] at z; exact n _ (Option.some.inj z).symm)).trans z
    have kt : ∀ b xs, H3 b = some (.tup xs) → upd H3 o (.dK (oD ba fv ed.tail dl l2)) b = some (.tup xs) := fun b xs z => kp z (fun _ y => by cases y)
    have ho4 : upd H3 o (.dK (oD ba fv ed.tail dl l2)) o = some (.dK (oD ba fv ed.tail dl l2)) := upd_same
    have hb4 := kt _ _ h3.b
    have hf4 := DT.mono kt _ _ h3.f
    have hd4 := kp ha3 (fun _ y => by cases y)
    have hds4 := DTs.mono kt _ _ hs3
    have hl4 := kp hl2s (fun _ y => by cases y)
    have dd4 := DTs.mono kt _ _ dd
    have hG4 := kp hG3 (fun _ y => by cases y)
    have k4 : KL [o] H (upd H3 o (.dK (oD ba fv ed.tail dl l2))) := fun b u z p => by
      by_cases hbo : b = o
      · rcases p with p | ⟨xs, p⟩
        · exact absurd hbo fun y => p (by rw [y]; exact List.mem_cons_self)
        · rw [hbo, h.at_, p] at z; cases z
      · exact (upd_ne hbo).trans (smA _ _ z)
    show (fun σ H4 => _) _ (upd H3 o (.dK (oD ba fv ed.tail dl l2)))
    revert ho4 hb4 hf4 hd4 hds4 hl4 dd4 k4 hG4
    generalize upd H3 o _ = H4
    intro ho4 hb4 hf4 hd4 hds4 hl4 dd4 hG4 k4
    refine ⟨_, rfl, _, rfl, o, .ref dl, rfl, DGet.k (k := Ks "done") ho4, 1, rfl, _, rfl, dl, xs, rfl, .inl (.inl hd4), fun l5 hl5 => ?_⟩
    rw [cutV_last]
    have s5 : Same H4 (upd H4 l5 (.lst xs.dropLast)) := same_new hl5
    have nl5 : l5 ≠ G := gone hG4 hl5
    have hl5s := upd_same (H := H4) (a := l5) (o := .lst xs.dropLast)
    have ho5 := s5 _ _ ho4
    have hb5 := s5 _ _ hb4
    have hf5 := hf4.same s5
    have hl5' := s5 _ _ hl4
    have dd5 := dd4.same s5
    have hds5 := hds4.dropLast.same s5
    have k5 := k4.trans (Kp.of s5)
    revert hl5s ho5 hb5 hf5 hl5' dd5 hds5 k5
    generalize upd H4 l5 _ = H5
    intro hl5s ho5 hb5 hf5 hl5' dd5 hds5 k5
    refine ⟨_, rfl, _, rfl, o, _, rfl, DPut.k (k := Ks "done") ho5 (show 5 < sizeLine by decide), ?_⟩
    have kp6 : ∀ {b : Addr} {u : HO}, H5 b = some u → (∀ kvs, u ≠ .dK kvs) → upd H5 o (.dK (oD ba fv ed.tail l5 l2)) b = some u := fun {b u} z n => (upd_ne (fun y => by rw [y, ho5] at z; exact n _ (Option.some.inj z).symm)).trans z
    have kt6 : ∀ b xs, H5 b = some (.tup xs) → upd H5 o (.dK (oD ba fv ed.tail l5 l2)) b = some (.tup xs) := fun b xs z => kp6 z (fun _ y => by cases y)
    refine k (upd H5 o (.dK (oD ba fv ed.tail l5 l2))) ⟨ba, fv, l5, l2, ok1, upd_same, kt6 _ _ hb5, DT.mono kt6 _ _ hf5, ⟨_, kp6 hl5s (fun _ y => by cases y), ?_⟩, ⟨_, kp6 hl5' (fun _ y => by cases y), ?_⟩, h.nm, nl5, nl2⟩ fun b u z p => ?_
    · show DTs _ (ed.done.dropLast.map ownD) _
      rw [List.map_dropLast]
      exact DTs.mono kt6 _ _ hds5
    · show DTs _ ((ed.later ++ [x]).map ownD) _
      rw [List.map_append]
      exact DTs.mono kt6 _ _ dd5
    · by_cases hbo : b = o
      · rcases p with p | ⟨xs, p⟩
        · exact absurd hbo fun y => p (by rw [y]; exact List.mem_cons_self)
        · rw [hbo, h.at_, p] at z; cases z
      · exact (upd_ne hbo).trans (k5 _ _ z (.inl fun y => hbo (List.mem_singleton.mp y)))
theorem ok_shift_redo (T : TxL P K mg) : FOk P w K mg base CX0 1 ("_law_shift", none) p_law_shift (fun vs H Q _ => ∃ (m G o : Addr) (n : Nat) (ed : Ed), vs = [.ref o, .str "later", .str "done"] ∧ OwI m G n H o ed ∧ (∃ u, H G = some (.lst u)) ∧ n ≤ 400 ∧
    ∀ H', OwI m G n H' o (redo ed) → KL [o] H H' → Q (.bl (!ed.later.isEmpty)) H') := by
  refine T.d_shift.f.ok sc_law_shift (fun vs H Q E h => ?_) (fun cdv A outer s0 H vs Q E hr h => ?_)
  · obtain ⟨_, _, _, _, _, rfl, _⟩ := h
    rfl
  obtain ⟨m, G, o, n, ed, rfl, ⟨ba, fv, dl, ll, h⟩, ⟨uG, hG⟩, hn, k⟩ := h
  have hu := hu_of hr
  refine ⟨_, PSs.nox (pss_cons (ps_if (pt_cmpR (op_eqD hr.units) (pe_dget hu (pv 0) (pv 1) (fun _ _ => rfl)) (pe_lst pa_nil) (nomark _)) (pss_one (ps_ret pe_bl)) pss_nil)
    (pss_cons (ps_dput hu (pv 0) (pv 2) (pe_op op_cat (pe_dget hu (pv 0) (pv 2) (fun _ _ => rfl)) (pe_lst (pa_cons (pe_ix ix_list (pe_dget hu (pv 0) (pv 1) (fun _ _ => rfl)) (pe_un un_neg pe_int) (fun _ _ => rfl)) pa_nil))) rfl)
    (pss_cons (ps_dput hu (pv 0) (pv 1) (pe_slice sl_list (pe_dget hu (pv 0) (pv 1) (fun _ _ => rfl)) po_none (po_some (pe_un un_neg pe_int))) rfl)
    (pss_one (ps_ret pe_bl))))), ?_⟩
  refine ⟨_, rfl, _, rfl, o, .ref ll, rfl, DGet.k (k := Ks "later") h.at_, Nat.zero_le _, fun l hl => ?_⟩
  have sm : Same H (upd H l (.lst [])) := same_new hl
  have h1 := h.same sm
  refine eqL h1.l h.ok.r hn upd_same ⟨_, rfl, ?_⟩
  have hG1 := sm _ _ hG
  revert sm h1 hG1
  generalize upd H l _ = H1
  intro sm h1 hG1
  cases el : ed.later.getLast? with
  | none =>
    have h0 : ed.later = [] := List.getLast?_eq_none_iff.mp el
    have e1 : redo ed = ed := by unfold redo; rw [el]
    have := k H1 (by rw [e1]; exact ⟨ba, fv, dl, ll, h1⟩) (Kp.of sm)
    rw [h0] at this
    exact if_t (by rw [h0]; rfl) this
  | some x =>
    have hne : ed.later.isEmpty = false := by
      cases hd : ed.later with
      | nil => rw [hd] at el; cases el
      | cons a b => rfl
    have e1 : redo ed = { ed with done := ed.done ++ [x], later := ed.later.dropLast } := by unfold redo; rw [el]
    have ok1 := redo_ok h.ok
    rw [e1] at ok1
    rw [hne, e1] at k
    refine if_f hne ?_
    obtain ⟨xs, y, ha, hs, hy, hd⟩ := h1.l.last el
    obtain ⟨ls, hla, hls⟩ := h1.d
    have hll := hls.length
    rw [List.length_map] at hll
    have hnn := h.ok.n
    refine ⟨_, rfl, _, rfl, o, .ref dl, rfl, DGet.k (k := Ks "done") h1.at_, _, rfl, _, rfl, o, .ref ll, rfl, DGet.k (k := Ks "later") h1.at_, 1, rfl, ll, xs, -1, y, rfl, rfl, .inl (.inl ha), hy, (show 1 ≤ sizeLine by decide), fun l1 hl1 => ?_⟩
    have s2 : Same H1 (upd H1 l1 (.lst [y])) := same_new hl1
    refine ⟨dl, l1, ls, [y], rfl, rfl, s2 _ _ hla, upd_same, by rw [hll, sizeLine_eq]; simp; omega, fun l2 hl2 => ?_⟩
    have s3 : Same (upd H1 l1 (.lst [y])) (upd (upd H1 l1 (.lst [y])) l2 (.lst (ls ++ [y]))) := same_new hl2
    have s23 := s2.trans s3
    have hl2s := upd_same (H := upd H1 l1 (.lst [y])) (a := l2) (o := .lst (ls ++ [y]))
    have nl2 : l2 ≠ G := gone (s2 _ _ hG1) hl2
    have dd := (hls.same s23).app (DTs.cons (hd.same s23) DTs.nil)
    have smA := sm.trans s23
    have h3 := h1.same s23
    have ha3 := s23 _ _ ha
    have hs3 := hs.same s23
    have hG3 := s23 _ _ hG1
    revert hl2s dd smA h3 ha3 hs3 hG3
    generalize upd (upd H1 l1 _) l2 _ = H3
    intro hl2s dd smA h3 ha3 hs3 hG3
    refine ⟨_, rfl, _, rfl, o, _, rfl, DPut.k (k := Ks "done") h3.at_ (show 5 < sizeLine by decide), ?_⟩
    have kp : ∀ {b : Addr} {u : HO}, H3 b = some u → (∀ kvs, u ≠ .dK kvs) → upd H3 o (.dK (oD ba fv ed.tail l2 ll)) b = some u := fun {b u} z n => (upd_ne (fun y => by rw [y, h3.at_] at z; exact n _ (Option.some.inj z).symm)).trans z
    have kt : ∀ b xs, H3 b = some (.tup xs) → upd H3 o (.dK (oD ba fv ed.tail l2 ll)) b = some (.tup xs) := fun b xs z => kp z (fun _ y => by cases y)
    have ho4 : upd H3 o (.dK (oD ba fv ed.tail l2 ll)) o = some (.dK (oD ba fv ed.tail l2 ll)) := upd_same
    have hb4 := kt _ _ h3.b
    have hf4 := DT.mono kt _ _ h3.f
    have hd4 := kp ha3 (fun _ y => by cases y)
    have hds4 := DTs.mono kt _ _ hs3
    have hl4 := kp hl2s (fun _ y => by cases y)
    have dd4 := DTs.mono kt _ _ dd
    have hG4 := kp hG3 (fun _ y => by cases y)
    have k4 : KL [o] H (upd H3 o (.dK (oD ba fv ed.tail l2 ll))) := fun b u z p => by
      by_cases hbo : b = o
      · rcases p with p | ⟨xs, p⟩
        · exact absurd hbo fun y => p (by rw [y]; exact List.mem_cons_self)
        · rw [hbo, h.at_, p] at z; cases z
      · exact (upd_ne hbo).trans (smA _ _ z)
    show (fun σ H4 => _) _ (upd H3 o (.dK (oD ba fv ed.tail l2 ll)))
    revert ho4 hb4 hf4 hd4 hds4 hl4 dd4 k4 hG4
    generalize upd H3 o _ = H4
    intro ho4 hb4 hf4 hd4 hds4 hl4 dd4 hG4 k4
    refine ⟨_, rfl, _, rfl, o, .ref ll, rfl, DGet.k (k := Ks "later") ho4, 1, rfl, _, rfl, ll, xs, rfl, .inl (.inl hd4), fun l5 hl5 => ?_⟩
    rw [cutV_last]
    have s5 : Same H4 (upd H4 l5 (.lst xs.dropLast)) := same_new hl5
    have nl5 : l5 ≠ G := gone hG4 hl5
    have hl5s := upd_same (H := H4) (a := l5) (o := .lst xs.dropLast)
    have ho5 := s5 _ _ ho4
    have hb5 := s5 _ _ hb4
    have hf5 := hf4.same s5
    have hl5' := s5 _ _ hl4
    have dd5 := dd4.same s5
    have hds5 := hds4.dropLast.same s5
    have k5 := k4.trans (Kp.of s5)
    revert hl5s ho5 hb5 hf5 hl5' dd5 hds5 k5
    generalize upd H4 l5 _ = H5
    intro hl5s ho5 hb5 hf5 hl5' dd5 hds5 k5
    refine ⟨_, rfl, _, rfl, o, _, rfl, DPut.k (k := Ks "later") ho5 (show 5 < sizeLine by decide), ?_⟩
    have kp6 : ∀ {b : Addr} {u : HO}, H5 b = some u → (∀ kvs, u ≠ .dK kvs) → upd H5 o (.dK (oD ba fv ed.tail l2 l5)) b = some u := fun {b u} z n => (upd_ne (fun y => by rw [y, ho5] at z; exact n _ (Option.some.inj z).symm)).trans z
    have kt6 : ∀ b xs, H5 b = some (.tup xs) → upd H5 o (.dK (oD ba fv ed.tail l2 l5)) b = some (.tup xs) := fun b xs z => kp6 z (fun _ y => by cases y)
    refine k (upd H5 o (.dK (oD ba fv ed.tail l2 l5))) ⟨ba, fv, l2, l5, ok1, upd_same, kt6 _ _ hb5, DT.mono kt6 _ _ hf5, ⟨_, kp6 hl5' (fun _ y => by cases y), ?_⟩, ⟨_, kp6 hl5s (fun _ y => by cases y), ?_⟩, h.nm, nl2, nl5⟩ fun b u z p => ?_
    · show DTs _ ((ed.done ++ [x]).map ownD) _
      rw [List.map_append]
      exact DTs.mono kt6 _ _ dd5
    · show DTs _ (ed.later.dropLast.map ownD) _
      rw [List.map_dropLast]
      exact DTs.mono kt6 _ _ hds5
    · by_cases hbo : b = o
      · rcases p with p | ⟨xs, p⟩
        · exact absurd hbo fun y => p (by rw [y]; exact List.mem_cons_self)
        · rw [hbo, h.at_, p] at z; cases z
      · exact (upd_ne hbo).trans (k5 _ _ z (.inl fun y => hbo (List.mem_singleton.mp y)))
end
end Ob
/-! The editor stands as the record says. -/
namespace Ob
open PySem PySem.Spec PyProof.Rows L2 L2H
section
variable {P : Program} {w : World} {K : PySem.W.Frag} {mg : Str → Option Value} {base : Heap}
theorem ok_like (T : TxL P K mg) : FWk P w K mg base CX0 1 ("_law_like", none) p_law_like (fun vs H Q _ => ∃ (x y : V) (d : PyData), vs = [x, y] ∧ Dp K H x d ∧ Dp K H y d ∧ DOk d ∧ Q (.bl true) H) := by
  refine okW T.d_like.f sc_law_like (fun vs H Q E h => ?_) (fun cdv A outer s0 H vs Q E hr hgd h => ?_)
  · obtain ⟨_, _, _, rfl, _⟩ := h
    rfl
  obtain ⟨x, y, d, rfl, hx, hy, ok, k⟩ := h
  refine ⟨_, pss_one (ps_ret (pe_cmpR op_eq (pe_callB (call_reprD hgd hr.units) rfl T.n_repr PyProof.Rows.Boot.«repr» (pa_cons (pv 0) pa_nil)) (pe_callB (call_reprD hgd hr.units) rfl T.n_repr PyProof.Rows.Boot.«repr» (pa_cons (pv 1) pa_nil)) (nomark _))), ?_⟩
  refine ⟨_, rfl, x, d, rfl, hx, ok, _, rfl, y, d, rfl, hy, ok, rfl, ?_⟩
  rw [decide_eq_true (rfl : V.str d.shown = V.str d.shown)]
  exact k
abbrev stD (ed : Ed) : List PyData := [.tuple (ed.b.vs.map .str), .str (S ed.tail), pgD ed.now, .tuple ((ed.done.map fun x => x.1.str).map .str), .int (ed.done.length : Int), .bool (!decide (sgs ed.now.2 = ed.tail)), .int ((ed.now.1.length : Int) - (ed.done.length : Int))]
theorem st_ok {T : Nat} {ed : Ed} (h : EdOk T ed) (hT : T ≤ 400) : DOk (.list (stD ed)) := by
  have hn := h.n
  have now := h.now
  have hl := now.2
  unfold pgLen at hl
  have a1 := bk_fine h.b
  have a2 := Fine.sg h.tl
  have a3 := fine_pgD now.1 (Nat.le_trans now.2 (by omega))
  have a4 : FineA 0 (ed.done.length * 6) ((ed.done.map fun x => x.1.str).map .str) := by
    have := FineA.all (k := 0) (n := 5) (ds := (ed.done.map fun x => x.1.str).map .str) fun d hd => by
      obtain ⟨z, hz, rfl⟩ := List.mem_map.mp hd
      obtain ⟨x, hx, rfl⟩ := List.mem_map.mp hz
      exact Ky.fine (h.d x hx).k
    rw [List.length_map, List.length_map] at this
    exact this
  have a5 : Fine 0 21 (.int (ed.done.length : Int)) := Fine.int (by show ed.done.length < _; omega)
  have a6 := Fine.bl (!decide (sgs ed.now.2 = ed.tail))
  have a7 : Fine 0 21 (.int ((ed.now.1.length : Int) - (ed.done.length : Int))) := Fine.int (by omega)
  have htn := h.tn
  have := FineA.cons (a1.mono (k' := 2) (by decide) (Nat.le_refl _)) (FineA.cons (a2.mono (k' := 2) (by decide) (Nat.le_refl _)) (FineA.cons a3 (FineA.cons (a4.tup.mono (k' := 2) (by decide) (Nat.le_refl _)) (FineA.cons (a5.mono (k' := 2) (by decide) (Nat.le_refl _)) (FineA.cons (a6.mono (k' := 2) (by decide) (Nat.le_refl _)) (FineA.cons (a7.mono (k' := 2) (by decide) (Nat.le_refl _)) (FineA.nil (n := 0))))))))
  exact (this.lst.mono (k' := 3) (n' := 40000) (by decide) (by omega)).ok
theorem ok_stands (T : TxL P K mg) : FWk P w K mg base CX0 5 ("_law_stands", none) p_law_stands (fun vs H Q _ => ∃ (m G e o : Addr) (n : Nat) (ed : Ed), vs = [.ref e, .ref o] ∧ EdI (He.ga K "Editor") n H e ed ∧ OwI m G n H o ed ∧ n ≤ 400 ∧ ∀ H', Same H H' → Q (.bl true) H') := by
  refine okW T.d_stands.f sc_law_stands (fun vs H Q E h => ?_) (fun cdv A outer s0 H vs Q E hr hgd h => ?_)
  · obtain ⟨_, _, _, _, _, _, rfl, _⟩ := h
    rfl
  obtain ⟨m, G, e, o, n, ed, rfl, ⟨dx, ba, dv, lv, he⟩, ⟨ba2, fv, dl, ll, ho⟩, hn, k⟩ := h
  have nd := sc_law_stands.nd
  have hu := hu_of hr
  have U := T.X.U.E.G.S
  have TE := T.X.U.E
  refine ⟨_, pss_cons (ps_st 2 nd (pe_f T.d_page (ok_page T) hr (by decide) (pa_cons (pe_f T.d_now (ok_now T) hr (by decide) (pa_cons (pv 1) pa_nil)) pa_nil)))
    (pss_cons (ps_st 3 nd (pe_callTy call_tuple_of rfl U.n_tuple PyProof.Rows.Boot.«tuple» (pa_cons (pe_lc (own := [("_law_key", 6), ("_law_far", 7)]) (g := gTup K 2 (gCons (gName 6) (gCons (gName 7) gNil))) (tt := tYes) rfl nd (pi_list (pe_dget hu (pv 1) pe_str (fun _ _ => rfl))) (blkOk_by (own := [("_law_key", 6), ("_law_far", 7)]) (N := N_law_stands) (sc := defScope s_law_stands) (by decide +kernel))
      (fun _ _ _ _ _ => pg_tup rfl (pgs_cons (pg_name (i := 6) nd rfl (Or.inl rfl)) (pgs_cons (pg_name (i := 7) nd rfl (Or.inl rfl)) pgs_nil))) (fun _ _ _ _ _ => pts_nil) (fun _ _ _ _ _ => pv 6)) pa_nil)))
    (pss_cons (ps_st 4 nd (pe_lst (pa_cons (pe_pr TE.p_book TE.cE (ok_ed_book TE) hr (by decide) (pv 0)) (pa_cons (pe_pr TE.p_behind TE.cE (ok_ed_behind TE) hr (by decide) (pv 0)) (pa_cons (pe_pr TE.p_page TE.cE (ok_ed_page TE) hr (by decide) (pv 0)) (pa_cons (pe_pr TE.p_row TE.cE (ok_ed_row TE) hr (by decide) (pv 0))
      (pa_cons (pe_callB (call_lenI (ok_ed_len TE) TE.m_len.m.at_ TE.m_len.m.fn TE.m_len.b (hr.mono (by decide)) pass0) rfl U.n_len boot_len (pa_cons (pv 0) pa_nil)) (pa_cons (pe_m0' TE.m_harms TE.cE (ok_ed_harms TE) hr (by decide) (pv 0)) pa_nil))))))))
    (pss_cons (ps_st 5 nd (pe_lst (pa_cons (pe_dget hu (pv 1) pe_str (fun _ _ => rfl)) (pa_cons (pe_dget hu (pv 1) pe_str (fun _ _ => rfl)) (pa_cons (pv 2) (pa_cons (pv 3) (pa_cons (pe_callB call_len rfl U.n_len boot_len (pa_cons (pv 3) pa_nil)) (pa_cons (pe_cmpR op_ne (pe_ix ix_tup (pv 2) pe_int (fun _ _ => rfl)) (pe_dget hu (pv 1) pe_str (fun _ _ => rfl)) (nomark _)) pa_nil))))))))
    (pss_one (ps_ret (pe_w0 T.d_like (ok_like T) hr (by decide) hgd (pa_cons (pe_op op_cat (pv 4) (pe_lst (pa_cons (pe_m0' TE.m_saved TE.cE (ok_ed_saved TE) hr (by decide) (pv 0)) pa_nil))) (pa_cons (pe_op op_cat (pv 5) (pe_lst (pa_cons (pe_op op_sub (pe_callB call_len rfl U.n_len boot_len (pa_cons (pe_ix ix_tup (pv 2) pe_int (fun _ _ => rfl)) pa_nil)) (pe_callB call_len rfl U.n_len boot_len (pa_cons (pv 3) pa_nil))) pa_nil))) pa_nil)))))))), ?_⟩
  have now := he.ok.now
  have hnow := now.2
  unfold pgLen at hnow
  have hnn := he.ok.n
  refine ⟨_, rfl, m, G, o, n, ed, rfl, ⟨ba2, fv, dl, ll, ho⟩, hn, fun H1 v1 s1 hv1 => ⟨v1, ed.now, rfl, hv1, by have := now.2; omega, fun H2 pv2 s2 hpv2 => ?_⟩⟩
  have s12 := s1.trans s2
  have ho2 := ho.same s12
  obtain ⟨ds, hd1, hd2⟩ := ho2.d
  have hdl := hd2.length
  rw [List.length_map] at hdl
  refine ⟨_, rfl, o, .ref dl, rfl, DGet.k (k := Ks "done") ho2.at_, dl, rfl, ⟨ds, .inl (.inl hd1)⟩, fun D hD => ?_⟩
  refine lc_acc1 (walk_list (xs := ds)) PT1 (fun i acc _ => acc = (ed.done.take i).map (fun x => V.str x.1.str) ∧ i ≤ ed.done.length) hD ⟨by simp, Nat.zero_le _⟩ (fun i H' acc hi kp e r => .inl (.inl (kp _ _ hd1 True.intro))) (fun _ _ _ _ => True.intro) (fun i acc H' ⟨e1, e2⟩ => ?_) (fun i acc H' a0 a1 e r => r) ?_ ?_
  · rw [e1, List.length_map, List.length_take, sizeLine_eq]
    omega
  · intro i x H6 H6' acc Post hi kp e r hp hy
    obtain ⟨rfl, hx⟩ := hy
    obtain ⟨d, hd, hdt⟩ := hd2.getv hx
    rw [List.getElem?_map] at hd
    obtain ⟨y, hy, rfl⟩ := Option.map_eq_some_iff.mp hd
    obtain ⟨b, pv_, rfl, hb, hpg⟩ := own_inv hdt
    obtain ⟨rfl, e2⟩ := r
    refine ⟨b, _, rfl, .inl (.inl (kp _ _ hb True.intro)), rfl, _, _, rfl, _, [], rfl, rfl, rfl, _, rfl, hp _ _ (Kp.refl _) ⟨?_, (List.getElem?_eq_some_iff.mp hy).1⟩⟩
    rw [List.take_add_one, hy, List.map_append]
    rfl
  · intro H7 acc kp eD r
    obtain ⟨rfl, _⟩ := r
    have hn9 : ed.done.take ds.length = ed.done := by
      rw [hdl]
      exact List.take_length
    rw [hn9] at eD
    refine ⟨D, _, rfl, .inl ⟨.inl (.inl eD), fun kk hkk => ?_⟩⟩
    have s8 : Same H2 (upd H7 kk (.tup (ed.done.map fun x => V.str x.1.str))) := kp.same.trans (same_new hkk)
    have hkk8 := upd_same (H := H7) (a := kk) (o := .tup (ed.done.map fun x => V.str x.1.str))
    have s08 := s12.trans s8
    have hp8 := hpv2.same s8
    revert hkk8 s08 hp8
    generalize eH8 : upd H7 kk (.tup (ed.done.map fun x => V.str x.1.str)) = H8
    intro hkk8 s08 hp8
    have he8 := he.same s08
    have ho8 := ho.same s08
    have at_ := fun {H9 : Hp} (s : Same H8 H9) => he8.same s
    have hnd : ed.done.length < 2 ^ 63 := by omega
    refine ⟨_, rfl, e, dx, _, rfl, he8.at_, e, n, ed, dx, ba, dv, lv, rfl, he8, _, rfl, e, dx, _, rfl, he8.at_, e, n, ed, dx, ba, dv, lv, rfl, he8, _, rfl, e, dx, _, rfl, he8.at_, e, n, ed, dx, ba, dv, lv, rfl, he8, hn, fun H9 v9 s9 hv9 => ?_⟩
    refine ⟨_, rfl, e, dx, _, rfl, (at_ s9).at_, e, n, ed, dx, ba, dv, lv, rfl, at_ s9, hn, fun H10 v10 s10 hv10 => ?_⟩
    have s910 := s9.trans s10
    refine ⟨_, rfl, e, dx, _, rfl, (at_ s910).at_, e, n, ed, dx, ba, dv, lv, rfl, at_ s910, hn, fun H11 v11 s11 hv11 => ⟨ed.done.length, hv11, hnd, ?_⟩⟩
    have s911 := s910.trans s11
    refine ⟨_, rfl, e, dx, _, rfl, (at_ s911).at_, rfl, e, n, ed, dx, ba, dv, lv, rfl, at_ s911, hn, fun H12 v12 s12 hv12 => ⟨(show 6 ≤ sizeLine by decide), fun l4 hl4 => ?_⟩⟩
    have s912 := s911.trans s12
    have hv12' : v12 = .bl (!decide (sgs ed.now.2 = ed.tail)) := hv12
    subst hv12'
    have s4 : Same H12 (upd H12 l4 (.lst [.ref ba, .str (S ed.tail), v9, v10, .int (ed.done.length : Int), .bl (!decide (sgs ed.now.2 = ed.tail))])) := same_new hl4
    have hl4s := upd_same (H := H12) (a := l4) (o := .lst [.ref ba, .str (S ed.tail), v9, v10, .int (ed.done.length : Int), .bl (!decide (sgs ed.now.2 = ed.tail))])
    have t9 := DT.same ((s10.trans (s11.trans s12)).trans s4) hv9
    have t10 := DT.same ((s11.trans s12).trans s4) hv10
    have s913 := s912.trans s4
    revert hl4s t9 t10 s913
    generalize upd H12 l4 _ = H13
    intro hl4s t9 t10 s913
    have he13 := he8.same s913
    have ho13 := ho8.same s913
    obtain ⟨pa, po, rfl, hpa, hpo⟩ := pgD_inv hp8
    have hpa13 := s913 _ _ hpa
    have hkk13 := s913 _ _ hkk8
    have hkl : (ed.done.map fun x => V.str x.1.str).length = ed.done.length := List.length_map ..
    refine ⟨_, rfl, o, .ref ba2, rfl, DGet.k (k := Ks "book") ho13.at_, _, rfl, o, .str (S ed.tail), rfl, DGet.k (k := Ks "behind") ho13.at_, _, rfl, _, rfl, _, rfl, _, ed.done.length, rfl, .inr ⟨_, .inl (.inl hkk13), hkl.symm⟩, _, rfl, pa, _, 1, .str (S (sgs ed.now.2)), rfl, rfl, .inl (.inl hpa13), rfl, _, rfl, o, .str (S ed.tail), rfl, DGet.k (k := Ks "behind") ho13.at_, rfl, (show 6 ≤ sizeLine by decide), fun l5 hl5 => ?_⟩
    rw [sg_eq]
    have s5 : Same H13 (upd H13 l5 (.lst [.ref ba2, .str (S ed.tail), .ref pa, .ref kk, .int (ed.done.length : Int), .bl (!decide (sgs ed.now.2 = ed.tail))])) := same_new hl5
    have hl5s := upd_same (H := H13) (a := l5) (o := .lst [.ref ba2, .str (S ed.tail), .ref pa, .ref kk, .int (ed.done.length : Int), .bl (!decide (sgs ed.now.2 = ed.tail))])
    have s814 := s913.trans s5
    have t9' := t9.same s5
    have t10' := t10.same s5
    have hl4' := s5 _ _ hl4s
    revert hl5s t9' t10' hl4' s814
    generalize upd H13 l5 _ = H14
    intro hl5s s814 t9' t10' hl4'
    have he14 := he8.same s814
    refine ⟨_, rfl, _, rfl, e, dx, _, rfl, he14.at_, rfl, e, n, ed, dx, ba, dv, lv, rfl, he14, hn, fun H15 v15 s15 hv15 => ⟨(show 1 ≤ sizeLine by decide), fun l6 hl6 => ?_⟩⟩
    have hv15' : v15 = .int ((ed.now.1.length : Int) - (ed.done.length : Int)) := hv15
    subst hv15'
    have s6 : Same H15 (upd H15 l6 (.lst [.int ((ed.now.1.length : Int) - (ed.done.length : Int))])) := same_new hl6
    have s146 := s15.trans s6
    refine ⟨l4, l6, _, _, rfl, rfl, s146 _ _ hl4', upd_same, (show 7 ≤ sizeLine by decide), fun l7 hl7 => ?_⟩
    have s7 : Same (upd H15 l6 (.lst [.int ((ed.now.1.length : Int) - (ed.done.length : Int))])) (upd (upd H15 l6 (.lst [.int ((ed.now.1.length : Int) - (ed.done.length : Int))])) l7 (.lst ([.ref ba, .str (S ed.tail), v9, v10, .int (ed.done.length : Int), .bl (!decide (sgs ed.now.2 = ed.tail))] ++ [.int ((ed.now.1.length : Int) - (ed.done.length : Int))]))) := same_new hl7
    have hl7s := upd_same (H := upd H15 l6 (.lst [.int ((ed.now.1.length : Int) - (ed.done.length : Int))])) (a := l7) (o := .lst ([.ref ba, .str (S ed.tail), v9, v10, .int (ed.done.length : Int), .bl (!decide (sgs ed.now.2 = ed.tail))] ++ [.int ((ed.now.1.length : Int) - (ed.done.length : Int))]))
    have s147 := s146.trans s7
    have hl5' := s147 _ _ hl5s
    have t9'' := t9'.same s147
    have t10'' := t10'.same s147
    have s817 := s814.trans s147
    revert hl7s hl5' t9'' t10'' s817
    generalize upd (upd H15 l6 _) l7 _ = H17
    intro hl7s hl5' t9'' t10'' s817
    refine ⟨_, rfl, _, rfl, pa, _, 0, .str (S ed.now.1), rfl, rfl, .inl (.inl (s817 _ _ hpa)), rfl, _, ed.now.1.length, rfl, ⟨by rw [S_len, sizeLine_eq]; omega, (S_len _).symm⟩, _, rfl, _, ed.done.length, rfl, .inr ⟨_, .inl (.inl (s817 _ _ hkk8)), hkl.symm⟩, _, _, rfl, rfl, (show 1 ≤ sizeLine by decide), fun l8 hl8 => ?_⟩
    have s8' : Same H17 (upd H17 l8 (.lst [.int ((ed.now.1.length : Int) - (ed.done.length : Int))])) := same_new hl8
    refine ⟨l5, l8, _, _, rfl, rfl, s8' _ _ hl5', upd_same, (show 7 ≤ sizeLine by decide), fun l9 hl9 => ?_⟩
    have s9' : Same (upd H17 l8 (.lst [.int ((ed.now.1.length : Int) - (ed.done.length : Int))])) (upd (upd H17 l8 (.lst [.int ((ed.now.1.length : Int) - (ed.done.length : Int))])) l9 (.lst ([.ref ba2, .str (S ed.tail), .ref pa, .ref kk, .int (ed.done.length : Int), .bl (!decide (sgs ed.now.2 = ed.tail))] ++ [.int ((ed.now.1.length : Int) - (ed.done.length : Int))]))) := same_new hl9
    have hl9s := upd_same (H := upd H17 l8 (.lst [.int ((ed.now.1.length : Int) - (ed.done.length : Int))])) (a := l9) (o := .lst ([.ref ba2, .str (S ed.tail), .ref pa, .ref kk, .int (ed.done.length : Int), .bl (!decide (sgs ed.now.2 = ed.tail))] ++ [.int ((ed.now.1.length : Int) - (ed.done.length : Int))]))
    have s89 := s8'.trans s9'
    have u9 := t9''.same s89
    have u10 := t10''.same s89
    have hl7' := s89 _ _ hl7s
    have s819 := s817.trans s89
    revert hl9s u9 u10 hl7' s819
    generalize upd (upd H17 l8 _) l9 _ = H19
    intro hl9s u9 u10 hl7' s819
    have he19 := he8.same s819
    have ho19 := ho8.same s819
    have hbk : DTs H19 (ed.b.vs.map .str) ed.b.V := DTs.strs ed.b.vs
    have dk : DTs H19 ((ed.done.map fun x => x.1.str).map .str) (ed.done.map fun x => V.str x.1.str) := by
      have := DTs.strs (H := H19) (ed.done.map fun x => x.1.str)
      rw [List.map_map (g := V.str)] at this
      exact this
    have hp19 := hp8.same s819
    refine ⟨_, _, .list (stD ed), rfl, .lst (.inl (.inl hl7')) ?_, .lst (.inl (.inl hl9s)) ?_, st_ok he.ok hn, k _ (s08.trans s819)⟩
    · exact .cons (.tup (.inl (.inl he19.v.b)) (DTs.dp _ _ hbk)) (.cons (.str _) (.cons (DT.dp _ _ u9) (.cons (DT.dp _ _ u10) (.cons (.int _) (.cons (.bl _) (.cons (.int _) .nil))))))
    · exact .cons (.tup (.inl (.inl ho19.b)) (DTs.dp _ _ hbk)) (.cons (.str _) (.cons (DT.dp _ _ hp19) (.cons (.tup (.inl (.inl (s819 _ _ hkk8))) (DTs.dp _ _ dk)) (.cons (.int _) (.cons (.bl _) (.cons (.int _) .nil))))))
end
end Ob
/-! One step of both. -/
namespace Ob
open PySem PySem.Spec PyProof.Rows L2 L2H
/-- the bag, the editor, the record of it -/
structure WAt (C m cl G e o : Addr) (n k : Nat) (H : Hp) (ed : Ed) (dx ba : Addr) (dv lv : V) : Prop where
  mat : MAt H m cl G k
  edt : EdAt C n H e ed dx ba dv lv
  ow : OwI m G n H o ed
section
variable {C m cl G e o : Addr} {n n' k k' : Nat} {H H' : Hp} {ed ed' : Ed} {dx ba : Addr} {dv lv : V}
theorem MAt.hm (h : MAt H m cl G k) : ∃ d, H m = some (.dK d) := let ⟨_, _, _, z⟩ := h.spot; ⟨_, z⟩
theorem MAt.hG (h : MAt H m cl G k) : ∃ d, H G = some (.lst d) := let ⟨_, _, z⟩ := h.great; ⟨_, z⟩
theorem MAt.hcl (h : MAt H m cl G k) : ∃ d, H cl = some (.lst d) := let ⟨_, _, _, z⟩ := h.cells; ⟨_, z⟩
theorem OwI.ho (h : OwI m G n H o ed) : ∃ d, H o = some (.dK d) := let ⟨_, _, _, _, z⟩ := h; ⟨_, z.at_⟩
theorem OwI.nm (h : OwI m G n H o ed) : o ≠ m := let ⟨_, _, _, _, z⟩ := h; z.nm
theorem MAt.ins {b : Addr} {C' d : Addr} {fs : List (Str × V)} (h : MAt H m cl G k) (hb : H b = some (.ins C' d fs)) : b ≠ m ∧ b ≠ cl ∧ b ≠ G := by
  obtain ⟨_, h1⟩ := h.hm
  obtain ⟨_, h2⟩ := h.hcl
  obtain ⟨_, h3⟩ := h.hG
  exact ⟨ne_ho hb h1 (fun z => by cases z), ne_ho hb h2 (fun z => by cases z), ne_ho hb h3 (fun z => by cases z)⟩
theorem MAt.dk {b : Addr} {d : List (Key × V)} (h : MAt H m cl G k) (hb : H b = some (.dK d)) : b ≠ cl ∧ b ≠ G := by
  obtain ⟨_, h2⟩ := h.hcl
  obtain ⟨_, h3⟩ := h.hG
  exact ⟨ne_ho hb h2 (fun z => by cases z), ne_ho hb h3 (fun z => by cases z)⟩
theorem EdAt.bag (h : EdAt C n H e ed dx ba dv lv) (a : MAt H m cl G k) (t : KM m G H H') : EdAt C n H' e ed dx ba dv lv := by
  obtain ⟨x, _, y⟩ := a.ins h.at_
  exact h.kl (KM.kl a t) (n2 x y)
theorem OwI.bag (h : OwI m G n H o ed) (a : MAt H m cl G k) (t : KM m G H H') : OwI m G n H' o ed := by
  obtain ⟨d, hd⟩ := h.ho
  obtain ⟨d2, hd2⟩ := a.hm
  refine h.kl (KM.kl a t) (n2 h.nm (a.dk hd).2) fun x hx => ?_
  rcases List.mem_cons.mp hx with z | z
  · exact .inr fun vs y => by rw [z, hd2] at y; cases y
  · exact .inl (List.mem_singleton.mp z)
theorem WAt.bag (h : WAt C m cl G e o n k H ed dx ba dv lv) (a : MAt H' m cl G k') (t : KM m G H H') : WAt C m cl G e o n k' H' ed dx ba dv lv := ⟨a, h.edt.bag h.mat t, h.ow.bag h.mat t⟩
theorem WAt.same (h : WAt C m cl G e o n k H ed dx ba dv lv) (s : Same H H') : WAt C m cl G e o n k H' ed dx ba dv lv := ⟨h.mat.same s, h.edt.same s, h.ow.same s⟩
theorem WAt.mono (h : WAt C m cl G e o n k H ed dx ba dv lv) (a : n ≤ n') (b : k ≤ k') : WAt C m cl G e o n' k' H ed dx ba dv lv := ⟨h.mat.mono b, ⟨h.edt.ok.mono a, h.edt.at_, h.edt.v⟩, h.ow.mono a⟩
theorem WAt.eo (h : WAt C m cl G e o n k H ed dx ba dv lv) : e ≠ o := by
  obtain ⟨d, hd⟩ := h.ow.ho
  exact ne_ho h.edt.at_ hd (fun z => by cases z)
theorem KL.sub {L M : List Addr} (k : KL L H H') (s : ∀ a, a ∈ L → a ∈ M) : KL M H H' := k.mono s
theorem PBut.kl {C' d : Addr} {fs : List (Str × V)} (he : H e = some (.ins C' d fs)) (k : Kp (PBut [e]) H H') : KL [e] H H' := KL.of k fun a ha xs z => by
  rw [List.mem_singleton.mp ha, he] at z; cases z
abbrev L4 (m G e o : Addr) : List Addr := [m, G, e, o]
theorem l4_bag {m G e o : Addr} : ∀ a, a ∈ [m, G] → a ∈ L4 m G e o := fun a h => by
  rcases List.mem_cons.mp h with h | h
  · rw [h]; simp
  · rw [List.mem_singleton.mp h]; simp
theorem l4_e {m G e o : Addr} : ∀ a, a ∈ [e] → a ∈ L4 m G e o := fun a h => by rw [List.mem_singleton.mp h]; simp
theorem l4_o {m G e o : Addr} : ∀ a, a ∈ [o] → a ∈ L4 m G e o := fun a h => by rw [List.mem_singleton.mp h]; simp
/-- the record was changed to ed', then the editor -/
theorem WAt.both {H1 H2 : Hp} {dv' lv' : V} (h : WAt C m cl G e o n k H ed dx ba dv lv) (k1 : KL [o] H H1) (o1 : OwI m G n' H1 o ed') (k2 : Kp (PBut [e]) H1 H2) (e2 : EdAt C n' H2 e ed' dx ba dv' lv') : WAt C m cl G e o n' k H2 ed' dx ba dv' lv' ∧ KL (L4 m G e o) H H2 := by
  obtain ⟨d, hd⟩ := h.ow.ho
  have hdk := h.mat.dk hd
  have m1 := h.mat.kl k1 (n1 h.ow.nm.symm) (n1 hdk.1.symm) (n1 hdk.2.symm)
  have e1 := h.edt.kl k1 (n1 h.eo)
  have kk := PBut.kl e1.at_ k2
  obtain ⟨x, y, z⟩ := m1.ins e1.at_
  refine ⟨⟨m1.kl kk (n1 x.symm) (n1 y.symm) (n1 z.symm), e2, o1.kl kk (n1 h.eo.symm) fun a ha => .inr fun vs q => ?_⟩, (k1.sub l4_o).trans (kk.sub l4_e)⟩
  rw [List.mem_singleton.mp ha, e1.at_] at q; cases q
end
section
variable {C m cl G e o : Addr} {n n' k k' : Nat} {H H' : Hp} {ed ed' : Ed} {dx ba : Addr} {dv lv : V}
/-- the editor was changed: the record stands -/
theorem WAt.after {H1 : Hp} (h : WAt C m cl G e o n k H ed dx ba dv lv) (k1 : Kp (PBut [e]) H H1) : OwI m G n H1 o ed ∧ KL [e] H H1 := by
  have kk := PBut.kl h.edt.at_ k1
  refine ⟨h.ow.kl kk (n1 h.eo.symm) fun a ha => .inr fun vs q => ?_, kk⟩
  rw [List.mem_singleton.mp ha, h.edt.at_] at q; cases q
/-- the editor was changed, then the record -/
theorem WAt.both2 {H1 H2 : Hp} {dv' lv' : V} (h : WAt C m cl G e o n k H ed dx ba dv lv) (k1 : Kp (PBut [e]) H H1) (e1 : EdAt C n' H1 e ed' dx ba dv' lv') (k2 : KL [o] H1 H2) (o2 : OwI m G n' H2 o ed') : WAt C m cl G e o n' k H2 ed' dx ba dv' lv' ∧ KL (L4 m G e o) H H2 := by
  obtain ⟨o1, kk⟩ := h.after k1
  obtain ⟨x, y, z⟩ := h.mat.ins h.edt.at_
  have m1 := h.mat.kl kk (n1 x.symm) (n1 y.symm) (n1 z.symm)
  obtain ⟨d, hd⟩ := o1.ho
  have hdk := m1.dk hd
  exact ⟨⟨m1.kl k2 (n1 h.ow.nm.symm) (n1 hdk.1.symm) (n1 hdk.2.symm), e1.kl k2 (n1 h.eo), o2⟩, (kk.sub l4_e).trans (k2.sub l4_o)⟩
end
theorem undo_b (ed : Ed) : (undo ed).b = ed.b ∧ (undo ed).tail = ed.tail := by unfold undo; cases ed.done.getLast? <;> exact ⟨rfl, rfl⟩
theorem redo_b (ed : Ed) : (redo ed).b = ed.b ∧ (redo ed).tail = ed.tail := by unfold redo; cases ed.later.getLast? <;> exact ⟨rfl, rfl⟩
theorem bl_ok (b : Bool) : DOk (.bool b) := (Fine.bl b).ok
section
variable {P : Program} {w : World} {K : PySem.W.Frag} {mg : Str → Option Value} {base : Heap}
abbrev spStep (K : PySem.W.Frag) : Sp := fun vs H Q _ => ∃ (m cl G e o : Addr) (n k : Nat) (ed : Ed) (dx ba : Addr) (dv lv : V), vs = [.ref m, .ref e, .ref o] ∧ WAt (He.ga K "Editor") m cl G e o n k H ed dx ba dv lv ∧ n + 4 ≤ 96 ∧ k ≤ 2 ^ 19 ∧
  ∀ H' ed' dv' lv', WAt (He.ga K "Editor") m cl G e o (n + 4) (k + 7) H' ed' dx ba dv' lv' → ed'.tail = ed.tail → KL (L4 m G e o) H H' → Q (.bl true) H'
theorem ok_step (T : TxL P K mg) : FWk P w K mg base CX0 9 ("_law_step", none) p_law_step (spStep K) := by
  refine okW T.d_step.f sc_law_step (fun vs H Q E h => ?_) (fun cdv A outer s0 H vs Q E hr hgd h => ?_)
  · obtain ⟨_, _, _, _, _, _, _, _, _, _, _, _, rfl, _⟩ := h
    rfl
  obtain ⟨m, cl, G, e, o, n, k, ed, dx, ba, dv, lv, rfl, wt, hn, hk, kq⟩ := h
  have nd := sc_law_step.nd
  have TE := T.X.U.E
  refine ⟨_, pss_cons (ps_st 3 nd (pe_f T.d_draw (ok_draw T) hr (by decide) (pa_cons (pv 0) (pa_cons pe_int pa_nil))))
    (pss_cons (ps_if (pt_cmpR op_lt (pv 3) pe_int (nomark _))
      (pss_cons (ps_st 4 nd (pe_ix ix_tup (pe_op op_catA (pe_f T.d_keys (ok_keys T) hr (by decide) (pa_cons (pv 0) (pa_cons pe_int pa_nil))) (pe_tup (pa_cons pe_str pa_nil))) pe_int (fun _ _ => rfl)))
      (pss_cons (ps_expr (pe_f T.d_keyed (ok_keyed T) hr (by decide) (pa_cons (pv 2) (pa_cons (pe_tup (pa_cons (pv 4) pa_nil)) pa_nil))))
      (pss_one (ps_ret (pe_cmpR op_isN (pe_m TE.m_press TE.cE (ok_ed_press TE) hr (by decide) (pv 1) (pa_cons (pv 4) pa_nil)) pe_non (nomark _)))))) pss_nil)
    (pss_cons (ps_if (pt_cmpR op_lt (pv 3) pe_int (nomark _))
      (pss_cons (ps_st 5 nd (pe_f T.d_keys (ok_keys T) hr (by decide) (pa_cons (pv 0) (pa_cons pe_int pa_nil))))
      (pss_cons (ps_expr (pe_f T.d_keyed (ok_keyed T) hr (by decide) (pa_cons (pv 2) (pa_cons (pv 5) pa_nil))))
      (pss_one (ps_ret (pe_cmpR op_isN (pe_m TE.m_press_all TE.cE (ok_ed_press_all TE) hr (by decide) (pv 1) (pa_cons (pv 5) pa_nil)) pe_non (nomark _)))))) pss_nil)
    (pss_cons (ps_if (pt_cmpR op_lt (pv 3) pe_int (nomark _))
      (pss_one (ps_ret (pe_w0 T.d_like (ok_like T) hr (by decide) hgd (pa_cons (pe_m0' TE.m_undo TE.cE (ok_ed_undo TE) hr (by decide) (pv 1)) (pa_cons (pe_f T.d_shift (ok_shift_undo T) hr (by decide) (pa_cons (pv 2) (pa_cons pe_str (pa_cons pe_str pa_nil)))) pa_nil))))) pss_nil)
    (pss_one (ps_ret (pe_w0 T.d_like (ok_like T) hr (by decide) hgd (pa_cons (pe_m0' TE.m_redo TE.cE (ok_ed_redo TE) hr (by decide) (pv 1)) (pa_cons (pe_f T.d_shift (ok_shift_redo T) hr (by decide) (pa_cons (pv 2) (pa_cons pe_str (pa_cons pe_str pa_nil)))) pa_nil)))))))), ?_⟩
  refine ⟨_, rfl, m, cl, G, k, 8, rfl, wt.mat, by omega, by decide, by decide, fun H1 r m1 k1 r0 r1 => ?_⟩
  have w1 := wt.bag m1 k1
  have kl1 : KL (L4 m G e o) H H1 := (KM.kl wt.mat k1).sub l4_bag
  refine ⟨_, rfl, _, _, rfl, rfl, _, rfl, ?_⟩
  by_cases h3 : r < 3
  · refine if_t (decide_eq_true h3) ?_
    refine ⟨_, rfl, m, cl, G, k + 1, 1, rfl, m1, by omega, by decide, fun H2 ka ks hka hks hkl m2 k2 => ⟨(show 1 ≤ sizeLine by decide), fun t ht => ?_⟩⟩
    have w2 := w1.bag m2 k2
    have kl2 : KL (L4 m G e o) H1 H2 := (KM.kl m1 k2).sub l4_bag
    have st := same_new (o := .tup [.str "a"]) ht
    have dk : DTs (upd H2 t (.tup [.str "a"])) ((ks.map fun q => q.str).map .str) (kyV ks) := by
      have := DTs.strs (H := upd H2 t (.tup [.str "a"])) (ks.map fun q => q.str)
      rw [List.map_map (g := V.str)] at this
      exact this
    refine cat_dt (ds := (ks.map fun q => q.str).map .str) (es := ([Ky.str (.sg 97)] : List Str).map .str) (st _ _ hka) upd_same dk (DTs.strs [Ky.str (.sg 97)]) (by simp only [List.length_map, List.length_singleton]; rw [sizeLine_eq]; omega) fun H4 v4 s4 hv4 => ?_
    rw [← List.map_append, show (ks.map fun q => q.str) ++ [Ky.str (.sg 97)] = (ks ++ [Ky.sg 97]).map (fun (q : Ky) => q.str) by simp] at hv4
    obtain ⟨q0, hq0, hqo⟩ : ∃ q0, (ks ++ [Ky.sg 97])[0]? = some q0 ∧ q0.ok := by
      cases ks with
      | nil => exact ⟨.sg 97, rfl, (by show 97 ∈ sigs; decide)⟩
      | cons a b => exact ⟨a, rfl, hks a List.mem_cons_self⟩
    obtain ⟨ta, xs, rfl, hta, hxs⟩ := DT.tup.mp hv4
    have exs := DTs.of_strs hxs
    have hat : atI xs 0 = some (.str q0.str) := by
      refine atI_nat (j := 0) ?_
      rw [exs, List.getElem?_map, List.getElem?_map, hq0]
      rfl
    refine ⟨ta, xs, 0, .str q0.str, rfl, rfl, .inl (.inl hta), hat, ?_⟩
    have s24 := st.trans s4
    refine ⟨_, rfl, _, rfl, (show 1 ≤ sizeLine by decide), fun t5 ht5 => ?_⟩
    have s5 := same_new (o := .tup [.str q0.str]) ht5
    have s25 := s24.trans s5
    have w5 := w2.same s25
    obtain ⟨gs, hG5⟩ := w5.mat.hG
    refine ⟨m, G, o, t5, n, ed, [q0], rfl, w5.ow, ⟨_, hG5⟩, upd_same, fun x hx => by rw [List.mem_singleton.mp hx]; exact hqo, (by show n + 1 ≤ 96; omega), fun H6 ow6 k6 => ?_⟩
    have e6 := w5.edt.kl k6 (n1 w5.eo)
    refine ⟨_, rfl, e, dx, _, rfl, e6.at_, rfl, _, rfl, e, n, ed, q0, dx, ba, dv, lv, rfl, e6, hqo, by omega, fun H7 dv' lv' e7 k7 => ⟨rfl, ?_⟩⟩
    obtain ⟨w7, kl7⟩ := w5.both k6 ow6 k7 e7
    have := kq H7 _ dv' lv' (w7.mono (n' := n + 4) (k' := k + 7) (by show n + 1 ≤ n + 4; omega) (by omega)) rfl (((kl1.trans kl2).trans (Kp.of s25)).trans kl7)
    simpa using this
  · refine if_f (decide_eq_false h3) ⟨_, rfl, _, _, rfl, rfl, _, rfl, ?_⟩
    by_cases h5 : r < 5
    · refine if_t (decide_eq_true h5) ?_
      refine ⟨_, rfl, m, cl, G, k + 1, 4, rfl, m1, by omega, by decide, fun H2 ka ks hka hks hkl m2 k2 => ?_⟩
      have w2 := w1.bag m2 k2
      have kl2 : KL (L4 m G e o) H1 H2 := (KM.kl m1 k2).sub l4_bag
      obtain ⟨gs, hG2⟩ := w2.mat.hG
      refine ⟨_, rfl, _, rfl, m, G, o, ka, n, ed, ks, rfl, w2.ow, ⟨_, hG2⟩, hka, hks, by omega, fun H6 ow6 k6 => ?_⟩
      have e6 := w2.edt.kl k6 (n1 w2.eo)
      refine ⟨_, rfl, e, dx, _, rfl, e6.at_, rfl, _, rfl, e, ka, n, ed, ks, dx, ba, dv, lv, rfl, e6, k6.tup hka, hks, by omega, fun H7 dv' lv' e7 k7 => ⟨rfl, ?_⟩⟩
      obtain ⟨w7, kl7⟩ := w2.both k6 ow6 k7 e7
      have := kq H7 _ dv' lv' (w7.mono (n' := n + 4) (k' := k + 7) (by omega) (by omega)) rfl ((kl1.trans kl2).trans kl7)
      simpa using this
    · refine if_f (decide_eq_false h5) ⟨_, rfl, _, _, rfl, rfl, _, rfl, ?_⟩
      obtain ⟨gs, hG1⟩ := w1.mat.hG
      by_cases h7 : r < 7
      · refine if_t (decide_eq_true h7) ?_
        refine ⟨_, rfl, e, dx, _, rfl, w1.edt.at_, rfl, e, n, ed, dx, ba, dv, lv, rfl, w1.edt, by omega, fun H3 dv' lv' e3 k3 => ?_⟩
        obtain ⟨o3, kk3⟩ := w1.after k3
        refine ⟨_, rfl, m, G, o, n, ed, rfl, o3, ⟨_, kk3.get hG1 (n1 (w1.mat.ins w1.edt.at_).2.2.symm)⟩, by omega, fun H4 ow4 k4 => ?_⟩
        obtain ⟨w4, kl4⟩ := w1.both2 k3 e3 k4 ow4
        exact ⟨_, _, .bool _, rfl, .bl _, .bl _, bl_ok _, kq H4 _ dv' lv' (w4.mono (n' := n + 4) (k' := k + 7) (by omega) (by omega)) (undo_b ed).2 (kl1.trans kl4)⟩
      · refine if_f (decide_eq_false h7) ?_
        refine ⟨_, rfl, e, dx, _, rfl, w1.edt.at_, rfl, e, n, ed, dx, ba, dv, lv, rfl, w1.edt, by omega, fun H3 dv' lv' e3 k3 => ?_⟩
        obtain ⟨o3, kk3⟩ := w1.after k3
        refine ⟨_, rfl, m, G, o, n, ed, rfl, o3, ⟨_, kk3.get hG1 (n1 (w1.mat.ins w1.edt.at_).2.2.symm)⟩, by omega, fun H4 ow4 k4 => ?_⟩
        obtain ⟨w4, kl4⟩ := w1.both2 k3 e3 k4 ow4
        exact ⟨_, _, .bool _, rfl, .bl _, .bl _, bl_ok _, kq H4 _ dv' lv' (w4.mono (n' := n + 4) (k' := k + 7) (by omega) (by omega)) (redo_b ed).2 (kl1.trans kl4)⟩
end
end Ob
/-! Within a trial. -/
namespace Ob
open PySem PySem.Spec PyProof.Rows L2 L2H LamX
/-- all stays but what stands at these addresses, tables, and is no tuple -/
abbrev PN (L : List Addr) : Addr → HO → Prop := fun b o => (b ∉ L ∧ ∀ ps, o ≠ .tbl ps) ∨ ∃ xs, o = .tup xs
abbrev KN (L : List Addr) : Hp → Hp → Prop := Kp (PN L)
section
variable {L M : List Addr} {H H' H2 : Hp}
theorem KL.kn (k : KL L H H') : KN L H H' := fun b o e p => k b o e (p.elim (fun z => .inl z.1) .inr)
theorem KN.mono (k : KN L H H') (s : ∀ a ∈ L, a ∈ M) : KN M H H' := fun b o e p => k b o e (p.elim (fun z => .inl ⟨fun y => z.1 (s b y), z.2⟩) .inr)
theorem KN.of {L : List Addr} (k : ExtN H H') : KN L H H' := fun b o e p => k b o e (fun ps z => p.elim (fun y => y.2 ps z) fun ⟨xs, y⟩ => by rw [y] at z; cases z)
theorem KN.tup (k : KN L H H') {b : Addr} {xs : List V} (e : H b = some (.tup xs)) : H' b = some (.tup xs) := k _ _ e (.inr ⟨xs, rfl⟩)
theorem KN.tups (k : KN L H H') : ∀ b xs, H b = some (.tup xs) → H' b = some (.tup xs) := fun _ _ e => k.tup e
theorem KN.get (k : KN L H H') {b : Addr} {o : HO} (e : H b = some o) (n : b ∉ L) (t : ∀ ps, o ≠ .tbl ps) : H' b = some o := k _ _ e (.inl ⟨n, t⟩)
theorem MAt.kn {m cl G : Addr} {k : Nat} (h : MAt H m cl G k) (t : KN L H H') (a : m ∉ L) (b : cl ∉ L) (c : G ∉ L) : MAt H' m cl G k := by
  obtain ⟨⟨n, a0, a1, a2⟩, ⟨is, c1, c2, c3⟩, ⟨js, g1, g2⟩, ne⟩ := h
  exact ⟨⟨n, a0, a1, t.get a2 a (fun _ z => by cases z)⟩, ⟨is, c1, c2, t.get c3 b (fun _ z => by cases z)⟩, ⟨js, g1, t.get g2 c (fun _ z => by cases z)⟩, ne⟩
theorem EdAt.kn {C : Addr} {T : Nat} {e : Addr} {ed : Ed} {dx ba : Addr} {dv lv : V} (h : EdAt C T H e ed dx ba dv lv) (k : KN L H H') (n : e ∉ L) : EdAt C T H' e ed dx ba dv lv := ⟨h.ok, k.get h.at_ n (fun _ z => by cases z), h.v.mono k.tups⟩
theorem LAt.kn {l : Addr} {xs : List En} (h : LAt H l xs) (k : KN L H H') (n : l ∉ L) : LAt H' l xs := by
  obtain ⟨vs, h1, h2⟩ := h
  exact ⟨vs, k.get h1 n (fun _ z => by cases z), DTs.mono k.tups _ _ h2⟩
theorem OwI.kn {m G : Addr} {T : Nat} {o : Addr} {ed : Ed} (h : OwI m G T H o ed) (k : KN L H H') (n : o ∉ L) (hl : ∀ a ∈ L, a = G ∨ ∀ vs, H a ≠ some (.lst vs)) : OwI m G T H' o ed := by
  obtain ⟨ba, fv, dl, ll, h⟩ := h
  have key : ∀ {a : Addr} {xs : List En}, LAt H a xs → a ≠ G → a ∉ L := fun {a xs} ⟨vs, e, _⟩ ne z => (hl a z).elim ne fun q => q vs e
  exact ⟨ba, fv, dl, ll, h.ok, k.get h.at_ n (fun _ z => by cases z), k.tup h.b, DT.mono k.tups _ _ h.f, h.d.kn k (key h.d h.nd), h.l.kn k (key h.l h.nl), h.nm, h.nd, h.nl⟩
theorem TTb.kl {Rt : List (Addr × Str)} (t : TTb Rt H) (k : KL L H H') (hl : ∀ a ∈ L, (∃ d, H a = some (.dK d)) ∨ (∃ d, H a = some (.lst d)) ∨ ∃ C d fs, H a = some (.ins C d fs)) : TTb Rt H' := t.keeps fun b o e p => k _ _ e (.inl fun z => by
  rcases hl b z with ⟨d, y⟩ | ⟨d, y⟩ | ⟨C, d, fs, y⟩ <;> rw [e] at y <;> cases y <;> rcases p with ⟨_, p⟩ | ⟨_, p⟩ <;> cases p)
theorem TTb.same {Rt : List (Addr × Str)} (t : TTb Rt H) (k : Same H H') : TTb Rt H' := t.keeps fun b o e _ => k _ _ e
end
/-- what left the block -/
def Left (K : PySem.W.Frag) (c : Value) (x : Option Addr) (H : Hp) : Prop :=
  (c = .ref (He.ga K "BadKeys") ∧ ∃ dd, x = some dd ∧ H dd = some (.xd [("place", .int 0)])) ∨ (c = .ref (He.ga K "BadNumber") ∧ ∃ dd, x = some dd ∧ H dd = some (.xd [("value", .int (-1))])) ∨ c = .type "ZeroDivisionError" ∨ c = .type "KeyError"
structure Aft (C m cl G e : Addr) (k : Nat) (Rt : List (Addr × Str)) (H H' : Hp) (dx ba : Addr) (tail : List Nat) : Prop where
  mat : MAt H' m cl G k
  ed : ∃ d1 l1, H' e = some (.ins C dx (edF ba tail d1 l1))
  fr : KN [m, G, e] H H'
  tt : TTb Rt H'
abbrev spTried (K : PySem.W.Frag) (Rt : List (Addr × Str)) (d : Nat) : Sp := fun vs H Q _ => ∃ (m cl G e o : Addr) (n k : Nat) (ed : Ed) (dx ba : Addr) (dv lv : V), vs = [.ref m, .ref e, .ref o, .int (d : Nat)] ∧ WAt (He.ga K "Editor") m cl G e o n k H ed dx ba dv lv ∧ n + 16 * (d + 1) ≤ 96 ∧ k + 80 * (d + 1) ≤ 2 ^ 18 ∧ TTb Rt H ∧
  ∀ H', MAt H' m cl G (k + 40 * (d + 1)) → KN [m, G] H H' → TTb Rt H' → Q (.bl true) H'
abbrev spWithin (K : PySem.W.Frag) (Rt : List (Addr × Str)) (d : Nat) : Sp := fun vs H Q E => ∃ (m cl G e o : Addr) (n k : Nat) (ed : Ed) (dx ba : Addr) (dv lv : V), vs = [.ref m, .ref e, .ref e, .ref o, .int (d : Nat)] ∧ WAt (He.ga K "Editor") m cl G e o n k H ed dx ba dv lv ∧ n + 16 * (d + 1) ≤ 96 ∧ k + 80 * (d + 1) ≤ 2 ^ 18 ∧ TTb Rt H ∧
  (∀ H', Aft (He.ga K "Editor") m cl G e (k + 40 * (d + 1)) Rt H H' dx ba ed.tail → Q (.bl true) H') ∧ (∀ c x H', Aft (He.ga K "Editor") m cl G e (k + 40 * (d + 1)) Rt H H' dx ba ed.tail → Left K c x H' → E c x H')
/-- what within may say to tried at the depth d: nothing at the depth 0 -/
abbrev spDown (K : PySem.W.Frag) (Rt : List (Addr × Str)) : Nat → Sp
  | 0 => fun _ _ _ _ => False
  | d + 1 => spTried K Rt d
section
variable {P : Program} {w : World} {K : PySem.W.Frag} {mg : Str → Option Value} {base : Heap} {Rt : List (Addr × Str)}
theorem ok_within (T : TxL P K mg) (d j : Nat) (hj : 9 ≤ j) (hd : d ≤ 2) (F : FWk P w K mg base CX0 j ("_law_tried", none) p_law_tried (spDown K Rt d)) : FWk P w K mg base (L2.CX P w) (j + 1) ("_law_within", none) p_law_within (spWithin K Rt d) := by
  refine okW T.d_within.f sc_law_within (fun vs H Q E h => ?_) (fun cdv A outer s0 H vs Q E hr hgd h => ?_)
  · obtain ⟨_, _, _, _, _, _, _, _, _, _, _, _, rfl, _⟩ := h
    rfl
  obtain ⟨m, cl, G, e, o, n, k, ed, dx, ba, dv, lv, rfl, wt, hn, hk, tt, kq, kx⟩ := h
  have nd := sc_law_within.nd
  have TE := T.X.U.E
  have hu := hu_of hr
  have tk : Takes (cxOf (L2.CX P w) P w K mg base N_law_within "_law_within" (defScope s_law_within) (He.fAd K ("_law_within", none)) cdv A outer s0 H E) (fun c d _ H => E c d H) := takes_of rfl rfl rfl rfl
  have px : Passes (L2.CX P w) (cxOf (L2.CX P w) P w K mg base N_law_within "_law_within" (defScope s_law_within) (He.fAd K ("_law_within", none)) cdv A outer s0 H E) E := passes_call tk fun _ _ _ _ z => z
  have po : PassesOwn (model P w) (cxOf (L2.CX P w) P w K mg base N_law_within "_law_within" (defScope s_law_within) (He.fAd K ("_law_within", none)) cdv A outer s0 H E).A (cxOf (L2.CX P w) P w K mg base N_law_within "_law_within" (defScope s_law_within) (He.fAd K ("_law_within", none)) cdv A outer s0 H E).env (cxOf (L2.CX P w) P w K mg base N_law_within "_law_within" (defScope s_law_within) (He.fAd K ("_law_within", none)) cdv A outer s0 H E).xe := passes_of (X := cxOf (L2.CX P w) P w K mg base N_law_within "_law_within" (defScope s_law_within) (He.fAd K ("_law_within", none)) cdv A outer s0 H E) rfl
  have rj := fun {i : Nat} (h : i ≤ 9) => hr.mono (Nat.le_trans h hj)
  refine ⟨_, pss_cons (ps_st 5 nd (pe_callTy call_dcopy rfl T.n_dict PyProof.Rows.Boot.«dict» (pa_cons (pv 3) pa_nil)))
    (pss_cons (ps_if (pt_not (pt_val (pe_w0 T.d_stands (ok_stands T) hr (by omega) hgd (pa_cons (pv 2) (pa_cons (pv 5) pa_nil))) (fun _ => rfl))) (pss_one (ps_ret pe_bl)) pss_nil)
    (C8.pss_cut (ps_for po rfl (pi_range1 rfl T.n_range (pa_cons (pe_op op_add pe_int (pe_f T.d_draw (ok_draw T) hr (by omega) (pa_cons (pv 0) (pa_cons pe_int pa_nil)))) pa_nil)) (pg_nm 6 nd)
      (pss_one (ps_if (PW.pt (pw_or (pt_not (pt_val (pe_w0 T.d_step (ok_step T) hr (by omega) hgd (pa_cons (pv 0) (pa_cons (pv 2) (pa_cons (pv 5) pa_nil)))) (fun _ => rfl))) (pw_or1 (pt_not (pt_val (pe_w0 T.d_stands (ok_stands T) hr (by omega) hgd (pa_cons (pv 1) (pa_cons (pv 5) pa_nil))) (fun _ => rfl)))))) (pss_one (ps_ret pe_bl)) pss_nil)))
    (C8.pss_cut (ps_if (pt_cmpR op_eq (pe_f T.d_draw (ok_draw T) hr (by omega) (pa_cons (pv 0) (pa_cons pe_int pa_nil))) pe_int (nomark _))
      (pss_one (ps_while po (pt_val (pe_f T.d_shift (ok_shift_undo T) hr (by omega) (pa_cons (pv 5) (pa_cons pe_str (pa_cons pe_str pa_nil)))) (fun _ => rfl)) (pss_one (ps_expr (pe_m0' TE.m_undo TE.cE (ok_ed_undo TE) hr (by omega) (pv 2)))))) pss_nil)
    (C8.pss_cut (ps_if (PW.pt (pw_and (pt_cmpR op_gt (pv 4) pe_int (nomark _)) (pw_and1 (pt_not (pt_val (pe_w0 T.d_tried F hr (Nat.le_refl _) hgd (pa_cons (pv 0) (pa_cons (pv 1) (pa_cons (pv 5) (pa_cons (pe_op op_sub (pv 4) pe_int) pa_nil))))) (fun _ => rfl)))))) (pss_one (ps_ret pe_bl)) pss_nil)
    (pss_cons (ps_st 7 nd (pe_f T.d_draw (ok_draw T) hr (by omega) (pa_cons (pv 0) (pa_cons pe_int pa_nil))))
    (pss_cons (ps_if (pt_cmpR op_eq (pv 7) pe_int (nomark _)) (pss_one (ps_expr (pe_mX TE.m_press TE.cE (ok_ed_pressN TE) hr (by omega) px (pv 2) (pa_cons pe_non pa_nil)))) pss_nil)
    (pss_cons (ps_if (pt_cmpR op_eq (pv 7) pe_int (nomark _)) (pss_one (ps_expr (pe_mX TE.m_page_at TE.cE (ok_ed_page_atN TE) hr (by omega) px (pv 2) (pa_cons (pe_un un_neg pe_int) pa_nil)))) pss_nil)
    (pss_cons (ps_if (pt_cmpR op_eq (pv 7) pe_int (nomark _)) (pss_one (ps_ret (pe_callTy call_int1 rfl TE.n_int PyProof.Rows.Boot.«int» (pa_cons (pe_div0 rfl tk pe_int (pe_callTy call_int1 rfl TE.n_int PyProof.Rows.Boot.«int» (pa_cons (pe_op op_sub (pv 4) (pv 4)) pa_nil))) pa_nil)))) pss_nil)
    (pss_cons (ps_if (pt_cmpR op_eq (pv 7) pe_int (nomark _)) (pss_one (ps_ret (pe_dgetX rfl hu tk (pe_callTy (call_dictP rfl) rfl T.n_dict PyProof.Rows.Boot.«dict» (pa_cons (pe_lst pa_nil) pa_nil)) pe_str (fun _ _ => rfl)))) pss_nil)
    (pss_one (ps_ret (pe_w0 T.d_stands (ok_stands T) hr (by omega) hgd (pa_cons (pv 2) (pa_cons (pv 5) pa_nil)))))))))))))), ?_⟩
  obtain ⟨ba2, fv, dl, ll, ho⟩ := wt.ow
  obtain ⟨dm, hm⟩ := wt.mat.hm
  obtain ⟨dG, hG⟩ := wt.mat.hG
  refine ⟨_, rfl, o, _, rfl, .inl ho.at_, fun far hfar => ?_⟩
  have s1 : Same H (upd H far (.dK (oD ba2 fv ed.tail dl ll))) := same_new hfar
  have nfm : far ≠ m := gone hm hfar
  have ow1 : OwI m G n (upd H far (.dK (oD ba2 fv ed.tail dl ll))) far ed := ⟨ba2, fv, dl, ll, ho.ok, upd_same, s1 _ _ ho.b, ho.f.same s1, ho.d.same s1, ho.l.same s1, nfm, ho.nd, ho.nl⟩
  have w1 : WAt (He.ga K "Editor") m cl G e far n k (upd H far (.dK (oD ba2 fv ed.tail dl ll))) ed dx ba dv lv := ⟨wt.mat.same s1, wt.edt.same s1, ow1⟩
  revert s1 w1
  generalize upd H far _ = H1
  intro s1 w1
  clear ow1
  refine ⟨_, rfl, _, rfl, m, G, e, far, n, ed, rfl, ⟨dx, ba, dv, lv, w1.edt⟩, w1.ow, by omega, fun H2 s2 => ⟨true, rfl, iteF ?_⟩⟩
  have w2 := w1.same s2
  have s12 := s1.trans s2
  let Good : Nat → Nat → Hp → Prop := fun N Kk H' => ∃ ed' dv' lv', WAt (He.ga K "Editor") m cl G e far N Kk H' ed' dx ba dv' lv' ∧ ed'.tail = ed.tail ∧ KN [m, G, e] H H' ∧ TTb Rt H'
  have g2 : Good n k H2 := ⟨ed, dv, lv, w2, rfl, Kp.of s12, tt.same s12⟩
  have kinds : ∀ {N Kk : Nat} {H' : Hp} {ed' : Ed} {dv' lv' : V}, WAt (He.ga K "Editor") m cl G e far N Kk H' ed' dx ba dv' lv' → ∀ a ∈ L4 m G e far, (∃ d, H' a = some (.dK d)) ∨ (∃ d, H' a = some (.lst d)) ∨ ∃ C d fs, H' a = some (.ins C d fs) := fun {N Kk H' ed' dv' lv'} w a ha => by
    simp only [L4, List.mem_cons, List.not_mem_nil, or_false] at ha
    rcases ha with z | z | z | z
    · rw [z]; exact .inl w.mat.hm
    · rw [z]; exact .inr (.inl w.mat.hG)
    · rw [z]; exact .inr (.inr ⟨_, _, _, w.edt.at_⟩)
    · rw [z]; exact .inl w.ow.ho
  have move : ∀ {N Kk N' Kk' : Nat} {H' H'' : Hp} {ed' ed'' : Ed} {dv' lv' dv'' lv'' : V}, WAt (He.ga K "Editor") m cl G e far N Kk H' ed' dx ba dv' lv' → KN [m, G, e] H H' → TTb Rt H' → KL (L4 m G e far) H' H'' → WAt (He.ga K "Editor") m cl G e far N' Kk' H'' ed'' dx ba dv'' lv'' → ed''.tail = ed.tail → Good N' Kk' H'' :=
    fun {N Kk N' Kk' H' H'' ed' ed'' dv' lv' dv'' lv''} w kn tt' kl w' et => ⟨ed'', dv'', lv'', w', et, fun b u hb p => kl b u (kn b u hb p) (p.elim (fun z => .inl fun y => by
      have nb : b ≠ far := fun q => by rw [q, hfar] at hb; cases hb
      simp only [L4, List.mem_cons, List.not_mem_nil, or_false] at y
      rcases y with y | y | y | y
      · exact z.1 (by rw [y]; simp)
      · exact z.1 (by rw [y]; simp)
      · exact z.1 (by rw [y]; simp)
      · exact nb y) .inr), tt'.kl kl (kinds w)⟩
  have bag : ∀ {N Kk Kk' : Nat} {H' H'' : Hp}, Good N Kk H' → MAt H'' m cl G Kk' → KM m G H' H'' → Good N Kk' H'' := fun {N Kk Kk' H' H''} ⟨ed', dv', lv', w, et, kn, tt'⟩ m' k' => move w kn tt' ((KM.kl w.mat k').sub l4_bag) (w.bag m' k') et
  have sameG : ∀ {N Kk : Nat} {H' H'' : Hp}, Good N Kk H' → Same H' H'' → Good N Kk H'' := fun {N Kk H' H''} ⟨ed', dv', lv', w, et, kn, tt'⟩ s => ⟨ed', dv', lv', w.same s, et, kn.trans (Kp.of s), tt'.same s⟩
  refine ⟨fun σ H' => (∃ x6, σ = [some (.ref m), some (.ref e), some (.ref e), some (.ref o), some (.int (d : Nat)), some (.ref far), x6, none]) ∧ Good (n + 16) (k + 30) H', ?_, ?_⟩
  · refine ⟨_, rfl, m, cl, G, k, 4, rfl, w2.mat, by omega, by decide, by decide, fun H3 r m3 k3 r0 r1 => ?_⟩
    obtain ⟨rn, rfl⟩ : ∃ rn : Nat, r = (rn : Int) := ⟨r.toNat, by omega⟩
    have g3 := bag g2 m3 k3
    refine ⟨_, _, rfl, rfl, _, rfl, by omega, by omega, ?_⟩
    refine for_it (walk_range (lo := 0) (n := (1 + (rn : Int)).toNat)) (fun i σ H' => (∃ x6, σ = [some (.ref m), some (.ref e), some (.ref e), some (.ref o), some (.int (d : Nat)), some (.ref far), x6, none]) ∧ i ≤ 4 ∧ Good (n + 4 * i) (k + 1 + 7 * i) H') ⟨⟨_, rfl⟩, by decide, g3⟩ (fun _ _ _ _ _ => True.intro) (fun i x σ H4 H4' hi ⟨⟨x6, e6⟩, hi4, g4⟩ hy => ?_) (fun σ H4 ⟨⟨x6, e6⟩, hi4, ⟨ed4, dv4, lv4, w4, t4, kn4, tt4⟩⟩ => ⟨⟨x6, e6⟩, ed4, dv4, lv4, w4.mono (by omega) (by omega), t4, kn4, tt4⟩)
    obtain ⟨rfl, rfl⟩ := hy
    subst e6
    have hi' : i < 4 := by have : i < (1 + (rn : Int)).toNat := hi; omega
    obtain ⟨ed4, dv4, lv4, w4, t4, kn4, tt4⟩ := g4
    refine ⟨_, rfl, _, rfl, _, rfl, m, cl, G, e, far, n + 4 * i, k + 1 + 7 * i, ed4, dx, ba, dv4, lv4, rfl, w4, by omega, by omega, fun H5 ed5 dv5 lv5 w5 t5 kl5 => ⟨true, rfl, iteF ?_⟩⟩
    have g5 : Good (n + 4 * i + 4) (k + 1 + 7 * i + 7) H5 := move w4 kn4 tt4 kl5 w5 (t5.trans t4)
    refine ⟨_, rfl, _, rfl, m, G, e, far, _, ed5, rfl, ⟨dx, ba, dv5, lv5, w5.edt⟩, w5.ow, by omega, fun H6 s6 => ⟨true, rfl, iteF ⟨⟨_, rfl⟩, hi', ?_⟩⟩⟩
    have := sameG g5 s6
    have e1 : n + 4 * (i + 1) = n + 4 * i + 4 := by omega
    have e2 : k + 1 + 7 * (i + 1) = k + 1 + 7 * i + 7 := by omega
    rw [e1, e2]
    exact this
  rintro σ H3 ⟨⟨x6, rfl⟩, g3⟩
  refine ⟨fun σ H' => σ = [some (.ref m), some (.ref e), some (.ref e), some (.ref o), some (.int (d : Nat)), some (.ref far), x6, none] ∧ Good (n + 16) (k + 31) H', ?_, ?_⟩
  · obtain ⟨_, _, _, w3, _⟩ := id g3
    refine ⟨_, rfl, m, cl, G, k + 30, 3, rfl, w3.mat, by omega, by decide, by decide, fun H4 r m4 k4 r0 r1 => ⟨rfl, _, rfl, ?_⟩⟩
    have g4 := bag g3 m4 k4
    by_cases hr0 : r = 0
    · refine if_t (by simp [hr0]) ?_
      refine ⟨fun q σ H' => σ = [some (.ref m), some (.ref e), some (.ref e), some (.ref o), some (.int (d : Nat)), some (.ref far), x6, none] ∧ ∃ ed' dv' lv', WAt (He.ga K "Editor") m cl G e far (n + 16) (k + 31) H' ed' dx ba dv' lv' ∧ ed'.tail = ed.tail ∧ KN [m, G, e] H H' ∧ TTb Rt H' ∧ ed'.done.length = q, ?_, ?_⟩
      · obtain ⟨ed', dv', lv', a1, a2, a3, a4⟩ := g4
        exact ⟨_, rfl, ed', dv', lv', a1, a2, a3, a4, rfl⟩
      rintro q σ H5 ⟨rfl, ed5, dv5, lv5, w5, t5, kn5, tt5, rfl⟩
      obtain ⟨gs5, hG5⟩ := w5.mat.hG
      refine ⟨_, rfl, m, G, far, n + 16, ed5, rfl, w5.ow, ⟨_, hG5⟩, by omega, fun H6 ow6 k6 => ⟨_, rfl, ?_⟩⟩
      have e6 := w5.edt.kl k6 (n1 w5.eo)
      cases hde : ed5.done.isEmpty with
      | true =>
        have hu0 : undo ed5 = ed5 := by
          have : ed5.done = [] := by simpa using hde
          unfold undo
          rw [this]
          rfl
        rw [hu0] at ow6
        obtain ⟨dk, hdk⟩ := w5.ow.ho
        have hdk2 := w5.mat.dk hdk
        refine iteF ⟨rfl, move w5 kn5 tt5 (k6.sub l4_o) ⟨w5.mat.kl k6 (n1 w5.ow.nm.symm) (n1 hdk2.1.symm) (n1 hdk2.2.symm), e6, ow6⟩ t5⟩
      | false =>
        refine iteT ⟨fun σ H' => σ = [some (.ref m), some (.ref e), some (.ref e), some (.ref o), some (.int (d : Nat)), some (.ref far), x6, none] ∧ ∃ dv' lv', WAt (He.ga K "Editor") m cl G e far (n + 16) (k + 31) H' (undo ed5) dx ba dv' lv' ∧ KL (L4 m G e far) H5 H', ?_, ?_⟩
        · rintro σ H' ⟨e0, dv', lv', w', kl'⟩
          obtain ⟨_, _, _, a1, a2, a3, a4⟩ := move w5 kn5 tt5 kl' w' ((undo_b ed5).2.trans t5)
          refine ⟨(undo ed5).done.length, ?_, e0, undo ed5, dv', lv', w', (undo_b ed5).2.trans t5, a3, a4, rfl⟩
          unfold undo
          cases el : ed5.done.getLast? with
          | none =>
            have : ed5.done = [] := List.getLast?_eq_none_iff.mp el
            rw [this] at hde; cases hde
          | some x =>
            show ed5.done.dropLast.length < _
            have : ed5.done ≠ [] := fun z => by rw [z] at el; cases el
            have := List.length_pos_iff.mpr this
            rw [List.length_dropLast]
            omega
        · refine ⟨_, rfl, e, dx, _, rfl, e6.at_, rfl, e, n + 16, ed5, dx, ba, dv5, lv5, rfl, e6, by omega, fun H7 dv7 lv7 e7 k7 => ⟨rfl, dv7, lv7, ?_⟩⟩
          exact w5.both k6 ow6 k7 e7
    · refine if_f (by simp [hr0]) ⟨rfl, g4⟩
  rintro σ H4 ⟨rfl, g4⟩
  refine ⟨fun σ H' => σ = [some (.ref m), some (.ref e), some (.ref e), some (.ref o), some (.int (d : Nat)), some (.ref far), x6, none] ∧ Good (n + 16) (k + 31 + 40 * d) H', ?_, ?_⟩
  · refine ⟨_, rfl, _, _, rfl, rfl, _, rfl, ?_⟩
    cases d with
    | zero => exact if_f (by simp) (iteF ⟨rfl, g4⟩)
    | succ d' =>
      obtain ⟨ed4, dv4, lv4, w4, t4, kn4, tt4⟩ := g4
      refine if_t (by simp) ⟨_, rfl, _, rfl, _, rfl, _, rfl, _, _, rfl, rfl, ?_⟩
      have ev : ((d' + 1 : Nat) : Int) - 1 = (d' : Nat) := by omega
      refine ⟨m, cl, G, e, far, n + 16, k + 31, ed4, dx, ba, dv4, lv4, (show ([.ref m, .ref e, .ref far, .int (((d' + 1 : Nat) : Int) - 1)] : List V) = _ by rw [ev]), w4, by omega, by omega, tt4, fun H5 m5 k5 tt5 => ⟨true, rfl, iteF ⟨rfl, ed4, dv4, lv4, ?_, t4, kn4.trans (k5.mono fun a ha => ?_), tt5⟩⟩⟩
      · obtain ⟨x, _, y⟩ := w4.mat.ins w4.edt.at_
        obtain ⟨d2, hd2⟩ := w4.ow.ho
        obtain ⟨d3, hd3⟩ := w4.mat.hm
        refine ⟨m5.mono (by omega), w4.edt.kn k5 (n2 x y), w4.ow.kn k5 (n2 w4.ow.nm (w4.mat.dk hd2).2) fun a ha => ?_⟩
        rcases List.mem_cons.mp ha with z | z
        · exact .inr fun vs y => by rw [z, hd3] at y; cases y
        · exact .inl (List.mem_singleton.mp z)
      · rcases List.mem_cons.mp ha with z | z
        · rw [z]; simp
        · rw [List.mem_singleton.mp z]; simp
  rintro σ H5 ⟨rfl, g5⟩
  obtain ⟨_, _, _, w5, _⟩ := id g5
  refine ⟨_, rfl, m, cl, G, k + 31 + 40 * d, 6, rfl, w5.mat, by omega, by decide, by decide, fun H6 r m6 k6 r0 r1 => ?_⟩
  have g6 := bag g5 m6 k6
  have aft : ∀ H', Same H6 H' → Aft (He.ga K "Editor") m cl G e (k + 40 * (d + 1)) Rt H H' dx ba ed.tail := fun H' s => by
    obtain ⟨ed', dv', lv', w', et, kn, tt'⟩ := sameG g6 s
    have h := w'.edt.at_
    rw [et] at h
    exact ⟨w'.mat.mono (by omega), ⟨_, _, h⟩, kn, tt'⟩
  obtain ⟨ed6, dv6, lv6, w6, t6, kn6, tt6⟩ := id g6
  refine ⟨_, rfl, rfl, _, rfl, ?_⟩
  by_cases h0 : r = 0
  · subst h0
    exact if_t (by simp) ⟨_, rfl, e, dx, _, rfl, w6.edt.at_, rfl, e, rfl, fun dd H' _ s h => kx _ _ _ (aft H' s) (.inl ⟨rfl, dd, rfl, h⟩)⟩
  refine if_f (by simp [h0]) ⟨_, rfl, rfl, _, rfl, ?_⟩
  by_cases h1 : r = 1
  · subst h1
    exact if_t (by simp) ⟨_, rfl, e, dx, _, rfl, w6.edt.at_, rfl, 1, rfl, e, rfl, fun dd H' _ s h => kx _ _ _ (aft H' s) (.inr (.inl ⟨rfl, dd, rfl, h⟩))⟩
  refine if_f (by simp [h1]) ⟨_, rfl, rfl, _, rfl, ?_⟩
  by_cases h2 : r = 2
  · subst h2
    refine if_t (by simp) ⟨_, rfl, _, rfl, _, _, rfl, rfl, .inl ⟨_, rfl, ⟨1, rfl⟩, ?_, fun dd => kx _ _ _ (aft _ (Same.refl _)) (.inr (.inr (.inl rfl)))⟩⟩
    rw [Int.sub_self]
  refine if_f (by simp [h2]) ⟨_, rfl, rfl, _, rfl, ?_⟩
  by_cases h3 : r = 3
  · subst h3
    refine if_t (by simp) ⟨Nat.zero_le _, fun l hl => ⟨l, [], [], rfl, .inl (.inl upd_same), .nil, fun p hp => ⟨p, none, rfl, DGet.k (k := Ks "so") upd_same, fun v z => (by cases z), fun _ dd => kx _ _ _ (aft _ ((same_new hl).trans (same_new hp))) (.inr (.inr (.inr rfl)))⟩⟩⟩
  refine if_f (by simp [h3]) ⟨_, rfl, _, rfl, m, G, e, far, _, ed6, rfl, ⟨dx, ba, dv6, lv6, w6.edt⟩, w6.ow, by omega, fun H' s => kq H' (aft H' s)⟩
end
end Ob
/-! A trial. -/
namespace Ob
open PySem PySem.Spec PyProof.Rows L2 L2H LamX NdefX
/-- okW with the code object named -/
theorem okWc {P : Program} {w : World} {K : PySem.W.Frag} {mg : Str → Option Value} {base : Heap} {x qual : Str} {params : Arguments} {body : List Stmt} {scope : Scope} {dvs : List V} {kws : List (Str × V)} {f : Addr} {fd : FuncData} {CX : CXT} {N ps : List Str} {k : Nat} {sp : Sp} (F : FunD K x qual params body scope dvs kws f fd) (S : FnScope N ps scope) (len : ∀ vs H Q E, sp vs H Q E → vs.length = ps.length)
    (hbody : ∀ (A : Around) (outer : List Env) (s : Shared) (H : Hp) (vs : List V) (Q : VK) (E : XK), Room k (A.deeper (envOfC qual scope s.heap.objs.size f fd.code)) → A.guards = some [] → sp vs H Q E →
      ∃ t, PSs (cxOf CX P w K mg base N qual scope f fd.code A outer s H E) body t ∧ t { nx := fun _ H' => Q .non H', rt := Q } (L2.start N vs) H) : FnW P w K mg base CX (k + 1) f fd ps sp := by
  obtain ⟨_, _, _, _, _, _, _, cdv, _, _, rfl, lk, hcd, _⟩ := F.ex
  refine ⟨len, fun A outer s H args us vs Q E hr hgd e0 bt r hsp => ?_⟩
  obtain ⟨t, tb, go⟩ := hbody A outer s H vs Q E (hr.deeper _) hgd hsp
  exact def_run true lk hcd S hr.depth e0 bt (fun s1 x => inv_start S hr.hd e0 (len _ _ _ _ hsp) r x) tb go
section
variable {X : Cx} {CXg CXf : CXT} {k j n : Nat} {g c : Addr} {spG : Addr → Sp → Sp} {spL : Addr → Addr → L2.St → Sp} {E : L2.St → XK} {x : Str} {p pos lpos : Pos} {e : Expr} {te : TE} {params : Arguments} {body : Expr} {scope : Scope} {Rt : List (Addr × Str)} {b : Heap}
theorem pe_glam0q (q : Str) (hq : X.env.qual ++ "<lambda>" = q) (hb9 : X.base = b) (G : FnG X.prog X.w X.K X.mg X.base CXg CXf k j g n spG) (hr : Room k X.A) (hgd : X.A.guards = some []) (hg : Gl X x) (hm : X.mg x = some (.ref g)) (hk : PySem.W.keepIn X.K (.ref g) = true) (hx : ∀ σ, PassesAt CXg X σ (E σ)) (hbm : ∃ P0, X.base.BuiltinsAt X.mg P0) (hcode : X.env.code = .ref c)
    (hcb : LamCb X CXf j n params body scope spL) (hfree : ∀ y ∈ scope.names, y.2 = .free → X.env.scope.names.lookup y.1 = some .cell ∨ X.env.scope.names.lookup y.1 = some .free) (hdef : defaultsOf params X.env = ([], []) := by rfl) (hdb : (x == ("__debug__" : Str)) = false := by decide) :
    PE X (.Call (.Name x p) [.Lambda params body scope lpos] [] pos) (tGlam Rt q b c spL spG E tNil) := by
  subst hq hb9
  exact pe_glam0 G hr hgd hg hm hk hx hbm hcode hcb hfree hdef hdb
theorem pe_glam1q (q : Str) (hq : X.env.qual ++ "<lambda>" = q) (hb9 : X.base = b) (G : FnG X.prog X.w X.K X.mg X.base CXg CXf k j g n spG) (hr : Room k X.A) (hgd : X.A.guards = some []) (hg : Gl X x) (hm : X.mg x = some (.ref g)) (hk : PySem.W.keepIn X.K (.ref g) = true) (hx : ∀ σ, PassesAt CXg X σ (E σ)) (he : PE X e te) (hbm : ∃ P0, X.base.BuiltinsAt X.mg P0) (hcode : X.env.code = .ref c)
    (hcb : LamCb X CXf j n params body scope spL) (hfree : ∀ y ∈ scope.names, y.2 = .free → X.env.scope.names.lookup y.1 = some .cell ∨ X.env.scope.names.lookup y.1 = some .free) (hdef : defaultsOf params X.env = ([], []) := by rfl) (hdb : (x == ("__debug__" : Str)) = false := by decide)
    (hst : starEach (e :: [.Lambda params body scope lpos]) X.env = (false, eval e X.env) :: starEach [.Lambda params body scope lpos] X.env := by rfl) (hpl : (backTo pos (starEach [.Lambda params body scope lpos] X.env)).any (·.1) = false := by rfl) :
    PE X (.Call (.Name x p) [e, .Lambda params body scope lpos] [] pos) (tGlam Rt q b c spL spG E (tCons te tNil)) := by
  subst hq hb9
  exact pe_glam1 G hr hgd hg hm hk hx he hbm hcode hcb hfree hdef hdb hst hpl
theorem lamCb_ofq (q : Str) (hq : X.env.qual ++ "<lambda>" = q) {N ps fr : List Str} {js : List Nat} {t : Addr → Addr → XK → TE} (S : LScope N ps fr scope) (hnc : ∀ y ∈ scope.names, y.2 ≠ .cell) (hfree : ∀ y ∈ scope.names, y.2 = .free → X.env.scope.names.lookup y.1 = some .cell ∨ X.env.scope.names.lookup y.1 = some .free)
    (hfr : ∀ y ∈ fr, (y, NameKind.free) ∈ scope.names) (hjs : js.map (fun j => X.N[j]?) = fr.map some)
    (hb : ∀ (q : Str) (cl : List (Str × Addr)) (pm cv ctv : Value) (us : List Value), us.length = ps.length → bindArgs (PySem.W.kla_fn "<lambda>" q params body scope cl pm cv ctv) ⟨us, []⟩ = pure (ps.zip us))
    (hbody : ∀ (c' P' f : Addr) (A : Around) (outer : List Env) (s : Shared) (H : Hp) (E : XK), Room k (A.deeper (envL ⟨X.env.qual ++ "<lambda>", params, body, scope, cloFrom X.env.cells scope.names [], c'⟩ f s.heap.objs.size (cloFrom X.env.cells scope.names []))) → A.guards = some [] →
      PE (lcx CXf X.prog X.w X.K X.mg X.base N ⟨X.env.qual ++ "<lambda>", params, body, scope, cloFrom X.env.cells scope.names [], c'⟩ (cloFrom X.env.cells scope.names []) f A outer s H E) body (t c' P' E)) :
    LamCb X CXf (k + 1) ps.length params body scope (fun c' P' σ vs H Q E => H c' = some (CodeP c' (q) P') ∧ t c' P' E (startF N vs (js.map (slotAt σ))) H Q) := by
  subst hq
  exact lamCb_of S hnc hfree hfr hjs hb hbody
end
/-- the lambdas of an expression, the outermost first -/
def lamE : Nat → Expr → List (Arguments × Expr × Scope)
  | 0, _ => []
  | n + 1, .Lambda p b s _ => (p, b, s) :: lamE n b
  | n + 1, .Call f as _ _ => lamE n f ++ as.flatMap (lamE n)
  | n + 1, .Compare a _ cs _ => lamE n a ++ cs.flatMap (lamE n)
  | n + 1, .BoolOp _ cs _ => cs.flatMap (lamE n)
  | n + 1, .UnaryOp _ c _ => lamE n c
  | _, _ => []
def lamS : Nat → Stmt → List (Arguments × Expr × Scope)
  | 0, _ => []
  | n + 1, .Assign _ v _ => lamE n v
  | n + 1, .Return (some v) _ => lamE n v
  | n + 1, .If t b e _ => lamE n t ++ b.flatMap (lamS n) ++ e.flatMap (lamS n)
  | n + 1, .Try b _ _ _ _ => b.flatMap (lamS n)
  | _, _ => []
abbrev lamsT : List (Arguments × Expr × Scope) := (defBody s_law_tried).flatMap (lamS 20)
abbrev N_tl0 : List Str := ["_law_m", "_law_editor_so", "_law_own_here", "_law_deep"]
abbrev N_tl1 : List Str := ["_law_held", "_law_m", "_law_editor_so", "_law_own_here", "_law_deep"]
abbrev lamAt (l : List (Arguments × Expr × Scope)) (i : Nat) : Arguments × Expr × Scope := l.getD i (default, .Constant .none 0 ⟨0, 0, 0, 0⟩, default)
theorem ls_tl0 : LScope N_tl0 [] N_tl0 (lamAt lamsT 0).2.2 := lscope_by (by decide +kernel)
theorem ls_tl1 : LScope N_tl1 ["_law_held"] N_tl0 (lamAt lamsT 1).2.2 := lscope_by (by decide +kernel)
def frB (sc sc' : Scope) : Bool := sc.names.all fun y => !decide (y.2 = .free) || (decide (sc'.names.lookup y.1 = some .cell) || decide (sc'.names.lookup y.1 = some .free))
theorem free_by {sc sc' : Scope} (h : frB sc sc' = true) : ∀ y ∈ sc.names, y.2 = .free → sc'.names.lookup y.1 = some .cell ∨ sc'.names.lookup y.1 = some .free := by
  unfold frB at h
  simp only [Bool.or_eq_true, Bool.not_eq_true', decide_eq_true_eq, List.all_eq_true, decide_eq_false_iff_not] at h
  intro y hy e
  exact (h y hy).elim (fun z => absurd e z) id
structure TrF (K : PySem.W.Frag) (mg : Str → Option Value) (base : Heap) (Rt : List (Addr × Str)) : Prop where
  bm : ∃ P0, base.BuiltinsAt mg P0
  code : ∃ c Pt, (fdAt K (He.fAd K ("_law_tried", none))).code = .ref c ∧ PySem.W.CodeHd base c Pt ∧ (Pt, lamIn "_law_tried") ∈ Rt
  n_z : mg "ZeroDivisionError" = none
  n_k : mg "KeyError" = none
  zz : PySem.W.exmAny K (.type "ZeroDivisionError") [.type "ZeroDivisionError", .type "KeyError"] = some true
  kk : PySem.W.exmAny K (.type "KeyError") [.type "ZeroDivisionError", .type "KeyError"] = some true
abbrev spTrialE (K : PySem.W.Frag) : Sp := fun vs H Q _ => ∃ (e dx : Addr) (fs : List (Str × V)) (dv lv : V), vs = [.ref e] ∧ H e = some (.ins (He.ga K "Editor") dx fs) ∧ fs.lookup ("done" : Str) = some dv ∧ fs.lookup ("later" : Str) = some lv ∧
    ∀ H' t dxt, H' t = some (.ins (He.ga K "Trial") dxt (trF e dv lv)) → H t = none → Same H H' → Q (.ref t) H'
def t2T (K : PySem.W.Frag) (Rt : List (Addr × Str)) (d : Nat) (E : XK) : TE := tCallS (spWithin K Rt d) (fun _ => E) (tCons (tVar 1) (tCons (tVar 2) (tCons (tVar 0) (tCons (tVar 3) (tCons (tVar 4) tNil)))))
def t1T (K : PySem.W.Frag) (Rt : List (Addr × Str)) (base : Heap) (d : Nat) (c' : Addr) (E : XK) : TE := tGlam Rt (lamIn (lamIn "_law_tried")) base c' (fun c2 P2 σ vs H Q E => H c2 = some (CodeP c2 (lamIn (lamIn "_law_tried")) P2) ∧ t2T K Rt d E (startF N_tl1 vs ([0, 1, 2, 3].map (slotAt σ))) H Q) (spUnder K) (fun _ => E) (tCons (tMeth (He.ga K "Editor") "trial" (spTrialE K) [] E0 (tVar 1) tNil) tNil)
abbrev spStands (K : PySem.W.Frag) : Sp := fun vs H Q _ => ∃ (m G e o : Addr) (n : Nat) (ed : Ed), vs = [.ref e, .ref o] ∧ EdI (He.ga K "Editor") n H e ed ∧ OwI m G n H o ed ∧ n ≤ 400 ∧ ∀ H', Same H H' → Q (.bl true) H'
abbrev dsT : List PyData := [.list [.bool true], .tuple [.str "keys", .int 0], .tuple [.str "number", .int (-1)], .tuple [.str "nought"]]
abbrev lstT : TE := tLst (tCons (tLst (tCons (tC (V.bl true)) tNil)) (tCons (tTup (tCons (tC (V.str "keys")) (tCons (tC (V.int 0)) tNil))) (tCons (tTup (tCons (tC (V.str "number")) (tCons (tUn (rU fun i => V.int (-i)) (tC (V.int 1))) tNil))) (tCons (tTup (tCons (tC (V.str "nought")) tNil)) tNil))))
theorem inT_ok {d : PyData} (h : d ∈ dsT) : SeqAt.shaped d = true ∧ (dsT.any fun z => PyData.eqv z d) = true := by
  simp only [dsT, List.mem_cons, List.not_mem_nil, or_false] at h
  rcases h with rfl | rfl | rfl | rfl <;> exact ⟨by decide +kernel, by decide +kernel⟩
/-- told in [[True], ("keys", 0), ("number", -1), ("nought",)] -/
theorem tried_in {K : PySem.W.Frag} {σ : L2.St} {H : Hp} {Q : VK} {v : V} {d : PyData} (hs : σ[4]? = some (some v)) (hm : d ∈ dsT) (hd : ∀ H', Same H H' → Dp K H' v d) (q : ∀ H', Same H H' → Q (.bl true) H') : tOp (rInD K) (tVar 4) lstT σ H Q := by
  obtain ⟨h1, h2⟩ := inT_ok hm
  refine ⟨v, hs, (show 1 ≤ sizeLine by decide), fun a1 n1 => ⟨(show 2 ≤ sizeLine by decide), fun a2 n2 => ⟨_, rfl, (show 2 ≤ sizeLine by decide), fun a3 n3 => ⟨(show 1 ≤ sizeLine by decide), fun a4 n4 => ⟨(show 4 ≤ sizeLine by decide), fun a5 n5 => ?_⟩⟩⟩⟩⟩
  have s1 := same_new (o := .lst [.bl true]) n1
  have s2 := same_new (o := .tup [.str "keys", .int 0]) n2
  have s3 := same_new (o := .tup [.str "number", .int (-1)]) n3
  have s4 := same_new (o := .tup [.str "nought"]) n4
  have s5 := same_new (o := .lst [.ref a1, .ref a2, .ref a3, .ref a4]) n5
  have e1 := s5 _ _ (s4 _ _ (s3 _ _ (s2 _ _ (upd_same (H := H) (a := a1) (o := .lst [.bl true])))))
  have e2 := s5 _ _ (s4 _ _ (s3 _ _ (upd_same (a := a2) (o := .tup [.str "keys", .int 0]))))
  have e3 := s5 _ _ (s4 _ _ (upd_same (a := a3) (o := .tup [.str "number", .int (-1)])))
  have e4 := s5 _ _ (upd_same (a := a4) (o := .tup [.str "nought"]))
  have s := s1.trans (s2.trans (s3.trans (s4.trans s5)))
  refine ⟨d, dsT, hd _ s, ?_, h1, by decide +kernel, ?_⟩
  · exact .lst (.inl (.inl upd_same)) (.cons (.lst (.inl (.inl e1)) (.cons (.bl true) .nil)) (.cons (.tup (.inl (.inl e2)) (.cons (.str _) (.cons (.int _) .nil))) (.cons (.tup (.inl (.inl e3)) (.cons (.str _) (.cons (.int _) .nil))) (.cons (.tup (.inl (.inl e4)) (.cons (.str _) .nil)) .nil))))
  · rw [h2]
    exact q _ s
section
variable {L : List Addr} {H H' H6 H7 H8 : Hp}
theorem KN.drop {t : Addr} (k : KN [t] H H') (n : H t = none) : KN [] H H' := fun b o e p => k b o e (p.elim (fun z => .inl ⟨fun y => (by rw [List.mem_singleton.mp y, n] at e; cases e), z.2⟩) .inr)
theorem KN.same (s : Same H H') : KN [] H H' := Kp.of s
theorem TTy.kl {Rt Ty : List (Addr × Str)} {a C d : Addr} {fs : List (Str × V)} (t : TTy Rt Ty H) (k : KL [a] H H') (ha : H a = some (.ins C d fs)) : TTy Rt Ty H' := t.keeps fun b o e p => k _ _ e (.inl fun z => by
  rw [List.mem_singleton.mp z, ha] at e
  cases e
  rcases p with ⟨_, p⟩ | ⟨_, p⟩ <;> cases p)
theorem TTy.same {Rt Ty : List (Addr × Str)} (t : TTy Rt Ty H) (k : Same H H') : TTy Rt Ty H' := t.keeps fun b o e _ => k _ _ e
/-- behind a trial -/
theorem tried_back {C m cl G e o : Addr} {n k k' : Nat} {Rt : List (Addr × Str)} {ed : Ed} {dx ba : Addr} {dv lv : V} (wt : WAt C m cl G e o n k H ed dx ba dv lv) (k6 : KN [] H H6) (af : Aft C m cl G e k' Rt H6 H7 dx ba ed.tail) (h8 : H8 e = some (.ins C dx (edF ba ed.tail dv lv))) (k8 : Kp (PBut [e]) H7 H8) :
    MAt H8 m cl G k' ∧ EdI C n H8 e ed ∧ OwI m G n H8 o ed ∧ KN [m, G] H H8 ∧ TTb Rt H8 := by
  obtain ⟨d1, l1, he7⟩ := af.ed
  have kl8 : KL [e] H7 H8 := PBut.kl he7 k8
  obtain ⟨x, y, z⟩ := af.mat.ins he7
  have kn : KN [m, G] H H8 := fun b u hb p => by
    by_cases q : b = e
    · subst q
      have := wt.edt.at_
      rw [hb] at this
      cases this
      exact h8
    · refine kl8 b u (af.fr b u (k6 b u hb (p.elim (fun w => .inl ⟨by simp, w.2⟩) .inr)) (p.elim (fun w => .inl ⟨fun v => ?_, w.2⟩) .inr)) (.inl (n1 q))
      simp only [List.mem_cons, List.not_mem_nil, or_false] at v
      rcases v with v | v | v
      · exact w.1 (by rw [v]; simp)
      · exact w.1 (by rw [v]; simp)
      · exact q v
  obtain ⟨d, hd⟩ := wt.ow.ho
  obtain ⟨d3, hd3⟩ := wt.mat.hm
  refine ⟨af.mat.kl kl8 (n1 x.symm) (n1 y.symm) (n1 z.symm), ⟨dx, ba, dv, lv, wt.edt.ok, h8, wt.edt.v.mono kn.tups⟩, wt.ow.kn kn (n2 wt.ow.nm (wt.mat.dk hd).2) fun a ha => ?_, kn, ?_⟩
  · rcases List.mem_cons.mp ha with z | z
    · exact .inr fun vs y => by rw [z, hd3] at y; cases y
    · exact .inl (List.mem_singleton.mp z)
  · obtain ⟨Ty, ty⟩ := af.tt
    exact ⟨Ty, ty.kl kl8 he7⟩
end
section
variable {P : Program} {w : World} {K : PySem.W.Frag} {mg : Str → Option Value} {base : Heap} {Rt : List (Addr × Str)}
theorem ok_tried (T : TxL P K mg) (R : TrF K mg base Rt) (d j : Nat) (hj : 10 ≤ j) (hd : d ≤ 2) (F : FWk P w K mg base (L2.CX P w) j ("_law_within", none) p_law_within (spWithin K Rt d)) : FWk P w K mg base CX0 (j + 7) ("_law_tried", none) p_law_tried (spTried K Rt d) := by
  have U := T.X.U
  have TE := U.E
  obtain ⟨c, Pt, hc, hC, hP⟩ := R.code
  refine okWc T.d_tried.f sc_law_tried (fun vs H Q E h => ?_) (fun A outer s0 H vs Q E hr hgd h => ?_)
  · obtain ⟨_, _, _, _, _, _, _, _, _, _, _, _, rfl, _⟩ := h
    rfl
  have nd := sc_law_tried.nd
  rw [hc] at hr ⊢
  have hu := hr.un
  have hu' : (A.deeper (envOfC "_law_tried" (defScope s_law_tried) s0.heap.objs.size (He.fAd K ("_law_tried", none)) (.ref c))).units + 65 < cLine := by omega
  have hf0 : ∀ y ∈ (lamAt lamsT 0).2.2.names, y.2 = .free → (defScope s_law_tried).names.lookup y.1 = some .cell ∨ (defScope s_law_tried).names.lookup y.1 = some .free := by decide +kernel
  have tk0 : Takes (cxOf CX0 P w K mg base N_law_tried "_law_tried" (defScope s_law_tried) (He.fAd K ("_law_tried", none)) (.ref c) A outer s0 H E) (fun _ _ _ _ => False) := fun _ _ ⟨_, _, _, _, _, _, _, _, _, _, _, _, _, _, _, _, f⟩ => f.elim
  refine ⟨_, pss_cons (ps_st 4 nd (pe_tup (pa_cons pe_str pa_nil)))
    (pss_cons (ps_try2_only rfl rfl (n1 := ⟨rfl, by decide, .inr ⟨R.n_z, rfl, by decide⟩⟩) (n2 := ⟨rfl, by decide, .inr ⟨R.n_k, rfl, by decide⟩⟩) (Wout := fun _ _ _ _ => False) tk0
      (fun W pn xe tk _ => pss_one (ps_st 4 nd (pe_glam0q (q := (lamIn "_law_tried")) (b := base) (hq := ?hq) (hb9 := rfl) (Rt := Rt) (E := WE W) (ok_said T.X (j + 4)) (hr.mono (by omega)) hgd (by rfl) T.X.d_said.g T.X.d_said.f.kp (fun σ => passAt tk σ) R.bm (by rfl)
        (lamCb_ofq (q := (lamIn "_law_tried")) (hq := ?hq2) (t := fun c' _ E => t1T K Rt base d c' E) (N := N_tl0) (ps := []) (fr := N_tl0) (js := [0, 1, 2, 3]) (lscope_by ?sc) ?nc (free_by ?fb) ?frk rfl ?hb ?hbody) (free_by ?fb2) (hdef := ?hdef))))
      (fun a pn => pss_one (ps_st 4 nd (pe_tup (pa_cons pe_str pa_nil)))))
    (pss_one (ps_ret (pe_and (pe_cmpR (op_inD hu') (pv 4) (pe_lst (pa_cons (pe_lst (pa_cons pe_bl pa_nil)) (pa_cons (pe_tup (pa_cons pe_str (pa_cons pe_int pa_nil))) (pa_cons (pe_tup (pa_cons pe_str (pa_cons (pe_un un_neg pe_int) pa_nil))) (pa_cons (pe_tup (pa_cons pe_str pa_nil)) pa_nil))))) rfl) (pe_one (pe_w0 T.d_stands (ok_stands T) hr (by omega) hgd (pa_cons (pv 1) (pa_cons (pv 2) pa_nil)))))))), ?_⟩
  case hbody =>
    intro c' P' f A1 outer1 s1 H1 E1 hr1 hgd1
    refine pe_glam1q (q := (lamIn (lamIn "_law_tried"))) (b := base) (hq := by unfold lamIn; exact rfl) (hb9 := rfl) (Rt := Rt) (E := fun _ => E1) (ok_under U (j + 1)) (hr1.mono (Nat.le_refl _)) hgd1 (by rfl) U.d_under.g U.d_under.f.kp (fun σ => passAt (takes_of rfl rfl rfl rfl) σ)
          (pe_m0' TE.m_trial TE.cE (ok_ed_trial TE) hr1 (by omega) (pv 1)) R.bm (by rfl)
          (lamCb_ofq (q := (lamIn (lamIn "_law_tried"))) (hq := by unfold lamIn; exact rfl) (t := fun _ _ E => t2T K Rt d E) (N := N_tl1) (ps := ["_law_held"]) (fr := N_tl0) (js := [0, 1, 2, 3]) (lscope_by ?sc3) ?nc3 (free_by ?fb3) ?frk3 rfl ?hb3
            ?hbody3)
          (free_by ?fb4) (hdef := ?hdef3)
    case hbody3 =>
      intro c2 P2 f2 A2 outer2 s2 H2 E2 hr2 hgd2
      exact pe_w (E := fun _ => E2) T.d_within F hr2 (Nat.le_refl _) hgd2 (fun σ => passAt (takes_of rfl rfl rfl rfl) σ) (pa_cons (pv 1) (pa_cons (pv 2) (pa_cons (pv 0) (pa_cons (pv 3) (pa_cons (pv 4) pa_nil)))))
    case hdef3 => rfl
    case sc3 => decide +kernel
    case nc3 => decide +kernel
    case frk3 => decide +kernel
    case fb3 => rfl
    case fb4 => rfl
    case hb3 =>
      intro q cl pm cv ctv us hl
      match us, hl with
      | [u], _ => rfl
  case hq => unfold lamIn; exact rfl
  case hq2 => unfold lamIn; exact rfl
  case hdef => rfl
  case sc => decide +kernel
  case nc => decide +kernel
  case frk => decide +kernel
  case fb => rfl
  case fb2 => rfl
  case hb =>
    intro q cl pm cv ctv us hl
    match us, hl with
    | [], _ => rfl
  obtain ⟨m, cl, G, e, o, n, k, ed, dx, ba, dv, lv, rfl, wt, hn, hk, tt, kq⟩ := h
  dsimp only [tSeq, tAsg]
  refine ⟨(show 1 ≤ sizeLine by decide), fun t0 ht0 => ?_⟩
  have s1 := same_new (o := .tup [.str "nought"]) ht0
  have e1 := upd_same (H := H) (a := t0) (o := .tup [.str "nought"])
  revert s1 e1
  generalize upd H t0 _ = H1
  intro s1 e1
  obtain ⟨Ty, T0⟩ := tt
  have T1 := T0.same s1
  -- what is left to do, by what is told
  have tail : ∀ (v : V) (dd : PyData) (σ : L2.St) (H8 : Hp), σ = [some (.ref m), some (.ref e), some (.ref o), some (.int (d : Nat)), some v] → dd ∈ dsT → (∀ H', Same H8 H' → Dp K H' v dd) →
      (MAt H8 m cl G (k + 40 * (d + 1)) ∧ EdI (He.ga K "Editor") n H8 e ed ∧ OwI m G n H8 o ed ∧ KN [m, G] H H8 ∧ TTb Rt H8) →
      tAndV (tOp (rInD K) (tVar 4) lstT) (tCallS (spStands K) (fun _ => E0) (tCons (tVar 1) (tCons (tVar 2) tNil))) σ H8 Q := by
    rintro v dd σ H8 rfl hm hd ⟨a1, a2, a3, a4, a5⟩
    refine tried_in (K := K) rfl hm hd fun H9 s9 => ⟨true, rfl, iteT ⟨_, rfl, _, rfl, m, G, e, o, n, ed, rfl, a2.same s9, a3.same s9, by omega, fun H10 s10 => ?_⟩⟩
    have s := s9.trans s10
    exact kq H10 (a1.same s) (a4.trans (Kp.of s)) (a5.same s)
  refine ⟨Ty, Pt, .inl hC, T1.roots _ hP, T1, fun f c' P' H2 Ty2 en2 T2 hin2 hc2 => ⟨rfl, fun H3 Q1 E1 s3 q1 x1 => ⟨s3 _ _ hc2, ?_⟩⟩⟩
  have K2 : KN [] H H2 := (KN.same s1).trans (KN.of en2)
  have K3 : KN [] H H3 := K2.trans (KN.same s3)
  have he := wt.edt.at_
  have nt : ∀ {b : Addr} {o : HO}, H b = some o → (∀ ps, o ≠ .tbl ps) → H3 b = some o := fun h n => K3.get h (by simp) n
  have he3 := nt he (fun _ z => by cases z)
  refine ⟨_, rfl, e, dx, _, rfl, he3, rfl, e, dx, _, dv, lv, rfl, he3, rfl, rfl, fun H4 t dxt ht4 ht3 s4 => ?_⟩
  have T4 := (T2.same s3).same s4
  have hne : t ≠ e := fun z => by rw [z, he3] at ht3; cases ht3
  refine ⟨Ty2, P', .inr ⟨_, s4 _ _ (s3 _ _ hc2)⟩, hin2, T4, fun f2 c2 P2 H5 Ty5 en5 T5 hin5 hc5 => ?_⟩
  have ht5 : H5 t = some (.ins (He.ga K "Trial") dxt (trF e dv lv)) := en5 _ _ ht4 (fun _ z => by cases z)
  have he5 : H5 e = some (.ins (He.ga K "Editor") dx (edF ba ed.tail dv lv)) := en5 _ _ (s4 _ _ he3) (fun _ z => by cases z)
  refine ⟨t, dxt, e, dx, ba, ed.tail, dv, lv, dv, lv, rfl, ht5, he5, hne, fun H6 ht6 k6 => ⟨?_, ?_⟩⟩
  · exact k6 _ _ hc5 fun z => by
      rw [List.mem_singleton.mp z, ht5] at hc5
      cases hc5
  have kl6 := PBut.kl ht5 k6
  have K6 : KN [] H H6 := fun b u hb p => by
    have h3 := K3 b u hb p
    have hbt : b ≠ t := fun z => by rw [z, ht3] at h3; cases h3
    have h5 := KN.of (L := []) en5 b u (s4 _ _ h3) p
    exact kl6 b u h5 (.inl (n1 hbt))
  have T6 := T5.kl kl6 ht5
  have w6 : WAt (He.ga K "Editor") m cl G e o n k H6 ed dx ba dv lv := by
    obtain ⟨d2, hd2⟩ := wt.ow.ho
    exact ⟨wt.mat.kn K6 (by simp) (by simp) (by simp), wt.edt.kn K6 (by simp), wt.ow.kn K6 (by simp) fun a ha => (by cases ha)⟩
  have tmG : t ∉ [m, G, e] := by
    obtain ⟨x, _, z⟩ := w6.mat.ins ht6
    simp only [List.mem_cons, List.not_mem_nil, or_false]
    rintro (q | q | q)
    · exact x q
    · exact z q
    · exact hne q
  refine ⟨_, rfl, _, rfl, _, rfl, _, rfl, _, rfl, m, cl, G, e, o, n, k, ed, dx, ba, dv, lv, rfl, w6, hn, hk, ⟨Ty5, T6⟩, fun H7 af => ?_, fun c9 x9 H7 af lf => ?_⟩
  · refine leave_n hne ⟨af.fr.get ht6 tmG (fun _ z => by cases z), af.ed, fun H8 h8 k8 => q1 _ _ fun l H9 s9 hl9 => ?_⟩
    obtain ⟨a1, a2, a3, a4, a5⟩ := tried_back wt K6 af h8 k8
    refine tail (.ref l) (.list [.bool true]) _ H9 rfl (by simp) (fun H' s' => .lst (.inl (.inl (s' _ _ hl9))) (.cons (.bl true) .nil)) ⟨a1.same s9, a2.same s9, a3.same s9, a4.trans (Kp.of s9), a5.same s9⟩
  · have xd8 : ∀ {H8 : Hp} {dd : Addr} {fs : List (Str × V)}, H7 dd = some (.xd fs) → Kp (PBut [e]) H7 H8 → H8 dd = some (.xd fs) := fun {H8 dd fs} hdd k8 => by
      obtain ⟨_, _, he7⟩ := af.ed
      exact k8 _ _ hdd fun z => by rw [List.mem_singleton.mp z, he7] at hdd; cases hdd
    have go : ∀ {kv : V}, RelV kv c9 → (∀ H8, H8 e = some (.ins (He.ga K "Editor") dx (edF ba ed.tail dv lv)) → Kp (PBut [e]) H7 H8 → E1 c9 x9 H8) → wOutE (spExit K) t c9 H7 fun H8 => E1 c9 x9 H8 := fun {kv} r h => leave_x hne r ⟨af.fr.get ht6 tmG (fun _ z => by cases z), af.ed, h⟩
    have nought : ∀ {H8 : Hp} (tc : Value), (tc = .type "ZeroDivisionError" ∨ tc = .type "KeyError") → H8 e = some (.ins (He.ga K "Editor") dx (edF ba ed.tail dv lv)) → Kp (PBut [e]) H7 H8 → ∀ x, E1 tc x H8 := fun {H8} tc htc h8 k8 x => by
      refine x1 _ _ _ (.inr (.inr ⟨htc, true, ?_, fun _ => ⟨(show 1 ≤ sizeLine by decide), fun t9 ht9 => ?_⟩, fun z => by cases z⟩))
      · rcases htc with rfl | rfl
        · exact R.zz
        · exact R.kk
      · have s9 := same_new (o := .tup [.str "nought"]) ht9
        obtain ⟨a1, a2, a3, a4, a5⟩ := tried_back wt K6 af h8 k8
        exact tail (.ref t9) (.tuple [.str "nought"]) _ _ rfl (by simp) (fun H' s' => .tup (.inl (.inl (s' _ _ upd_same))) (.cons (.str _) .nil)) ⟨a1.same s9, a2.same s9, a3.same s9, a4.trans (Kp.of s9), a5.same s9⟩
    rcases lf with ⟨rfl, dd, rfl, hdd⟩ | ⟨rfl, dd, rfl, hdd⟩ | rfl | rfl
    · refine go (kv := .ref (He.ga K "BadKeys")) rfl fun H8 h8 k8 => x1 _ _ _ (.inl ⟨rfl, ⟨dd, rfl, xd8 hdd k8⟩, fun H9 t9 s9 ht9 => ?_⟩)
      obtain ⟨a1, a2, a3, a4, a5⟩ := tried_back wt K6 af h8 k8
      exact tail (.ref t9) (.tuple [.str "keys", .int 0]) _ H9 rfl (by simp) (fun H' s' => .tup (.inl (.inl (s' _ _ ht9))) (.cons (.str _) (.cons (.int _) .nil))) ⟨a1.same s9, a2.same s9, a3.same s9, a4.trans (Kp.of s9), a5.same s9⟩
    · refine go (kv := .ref (He.ga K "BadNumber")) rfl fun H8 h8 k8 => x1 _ _ _ (.inr (.inl ⟨rfl, ⟨dd, rfl, xd8 hdd k8⟩, fun H9 t9 s9 ht9 => ?_⟩))
      obtain ⟨a1, a2, a3, a4, a5⟩ := tried_back wt K6 af h8 k8
      exact tail (.ref t9) (.tuple [.str "number", .int (-1)]) _ H9 rfl (by simp) (fun H' s' => .tup (.inl (.inl (s' _ _ ht9))) (.cons (.str _) (.cons (.int _) .nil))) ⟨a1.same s9, a2.same s9, a3.same s9, a4.trans (Kp.of s9), a5.same s9⟩
    · exact go (kv := .ty "ZeroDivisionError") rfl fun H8 h8 k8 => nought _ (.inl rfl) h8 k8 _
    · exact go (kv := .ty "KeyError") rfl fun H8 h8 k8 => nought _ (.inr rfl) h8 k8 _
end
end Ob
/-! What was taken back can be pressed again. -/
namespace Ob
open PySem PySem.Spec PyProof.Rows L2 L2H LamX NdefX
section
variable {P : Program} {w : World} {K : PySem.W.Frag} {mg : Str → Option Value} {base : Heap} {Rt : List (Addr × Str)}
/-- tried, at each depth -/
theorem ok_tried0 (T : TxL P K mg) (R : TrF K mg base Rt) : FWk P w K mg base CX0 17 ("_law_tried", none) p_law_tried (spTried K Rt 0) :=
  ok_tried T R 0 10 (by decide) (by decide) (ok_within T 0 9 (by decide) (by decide) ⟨fun _ _ _ _ h => h.elim, fun _ _ _ _ _ _ _ _ _ _ _ _ _ _ h => h.elim⟩)
theorem ok_tried1 (T : TxL P K mg) (R : TrF K mg base Rt) : FWk P w K mg base CX0 25 ("_law_tried", none) p_law_tried (spTried K Rt 1) :=
  ok_tried T R 1 18 (by decide) (by decide) (ok_within T 1 17 (by decide) (by decide) (ok_tried0 T R))
theorem ok_tried2 (T : TxL P K mg) (R : TrF K mg base Rt) : FWk P w K mg base CX0 33 ("_law_tried", none) p_law_tried (spTried K Rt 2) :=
  ok_tried T R 2 26 (by decide) (by decide) (ok_within T 2 25 (by decide) (by decide) (ok_tried1 T R))
/-- at a depth that was drawn -/
abbrev spTriedA (K : PySem.W.Frag) (Rt : List (Addr × Str)) : Sp := fun vs H Q E => ∃ d, d ≤ 2 ∧ spTried K Rt d vs H Q E
theorem ok_triedA (T : TxL P K mg) (R : TrF K mg base Rt) : FWk P w K mg base CX0 33 ("_law_tried", none) p_law_tried (spTriedA K Rt) := by
  have key : ∀ d, d ≤ 2 → FWk P w K mg base CX0 33 ("_law_tried", none) p_law_tried (spTried K Rt d) := fun d hd => by
    match d, hd with
    | 0, _ => exact (ok_tried0 T R).mono (by decide)
    | 1, _ => exact (ok_tried1 T R).mono (by decide)
    | 2, _ => exact ok_tried2 T R
  constructor
  · intro vs H Q E h
    obtain ⟨d, hd, h⟩ := h
    exact (key d hd).len vs H Q E h
  · intro A outer s H args us vs Q E hr hg e0 b r h
    obtain ⟨d, hd, h⟩ := h
    exact (key d hd).run A outer s H args us vs Q E hr hg e0 b r h
end
section
variable {X : Cx} {CXg CXf : CXT} {k j n : Nat} {g c : Addr} {spG : Addr → Sp → Sp} {spL : Addr → Addr → L2.St → Sp} {E : L2.St → XK} {x : Str} {p pos lpos : Pos} {e : Expr} {te : TE} {params : Arguments} {body : Expr} {scope : Scope} {Rt : List (Addr × Str)} {b : Heap}
theorem lamCb_ofCq (q : Str) (hq : X.env.qual ++ "<lambda>" = q) {N fr : List Str} {js : List Nat} {t : Addr → Addr → XK → TE} {y0 : Str} {rest : List (Str × NameKind)} (S : LScope N [] (y0 :: fr) scope) (hn : scope.names = (y0, .cell) :: rest) (hnc : ∀ y ∈ rest, y.2 ≠ .cell) (hy0 : X.env.scope.names.lookup y0 ≠ some .cell ∧ X.env.scope.names.lookup y0 ≠ some .free) (hr0 : ∀ y ∈ rest, y.1 ≠ y0) (hxf : y0 ∉ fr)
    (hfree : ∀ y ∈ scope.names, y.2 = .free → X.env.scope.names.lookup y.1 = some .cell ∨ X.env.scope.names.lookup y.1 = some .free)
    (hfr : ∀ y ∈ fr, (y, NameKind.free) ∈ scope.names) (hjs : js.map (fun j => X.N[j]?) = fr.map some)
    (hb : ∀ (q : Str) (cl : List (Str × Addr)) (pm cv ctv : Value) (u : Value), bindArgs (PySem.W.kla_fn "<lambda>" q params body scope cl pm cv ctv) ⟨[u], []⟩ = pure [(y0, u)])
    (hbody : ∀ (c' P' f : Addr) (A : Around) (outer : List Env) (s : Shared) (H : Hp) (E : XK), Room k (A.deeper (envL ⟨X.env.qual ++ "<lambda>", params, body, scope, cloFrom X.env.cells scope.names [], c'⟩ f s.heap.objs.size ((y0, s.heap.objs.size + 1) :: cloFrom X.env.cells scope.names []))) → A.guards = some [] →
      PE (lcx CXf X.prog X.w X.K X.mg X.base N ⟨X.env.qual ++ "<lambda>", params, body, scope, cloFrom X.env.cells scope.names [], c'⟩ ((y0, s.heap.objs.size + 1) :: cloFrom X.env.cells scope.names []) f A outer s H E) body (t c' P' E)) :
    LamCb X CXf (k + 1) 1 params body scope (fun c' P' σ vs H Q E => H c' = some (CodeP c' q P') ∧ ∃ v, vs = [v] ∧ t c' P' E (startF N [] (some v :: js.map (slotAt σ))) H Q) := by
  subst hq
  exact lamCb_ofC S hn hnc hy0 hr0 hxf hfree hfr hjs hb hbody
end
/-- a def that makes lambdas: its code object's table is among the roots -/
def CodF (K : PySem.W.Frag) (base : Heap) (Rt : List (Addr × Str)) (x : Str) : Prop := ∃ c Pt, (fdAt K (He.fAd K (x, none))).code = .ref c ∧ PySem.W.CodeHd base c Pt ∧ (Pt, lamIn x) ∈ Rt
abbrev lamsR : List (Arguments × Expr × Scope) := (defBody s_law_later_right).flatMap (lamS 20)
abbrev N_lr : List Str := ["_law_held", "_law_due", "_law_k"]
abbrev spRedo (K : PySem.W.Frag) : Sp := spMove K redo fun ed => !ed.later.isEmpty
def tLR (K : PySem.W.Frag) : TE := tLc (iRng1 (tCons (tOp (rI0 fun i j => .int (i + j)) (tVar 1) (tC (.int 1))) tNil)) (gName 2) tYes (tMeth (He.ga K "Editor") "redo" (spRedo K) [] E0 (tVar 0) tNil) [2]
theorem redo_len (ed : Ed) : (redo ed).later.length = ed.later.length - 1 := by
  unfold redo
  cases e : ed.later.getLast? with
  | none =>
    have : ed.later = [] := List.getLast?_eq_none_iff.mp e
    show ed.later.length = _
    rw [this]; rfl
  | some x =>
    show ed.later.dropLast.length = _
    rw [List.length_dropLast]
theorem redo_all {K : PySem.W.Frag} {n : Nat} {H : Hp} {e : Addr} {ed : Ed} {dx ba : Addr} {dv lv : V} {Q : VK} {x2 : Option V} (he : EdAt (He.ga K "Editor") n H e ed dx ba dv lv) (hn : n ≤ 400)
    (q : ∀ H' l dv' lv' ed', H' l = some (.lst (List.replicate ed.later.length (.bl true) ++ [.bl false])) → EdAt (He.ga K "Editor") n H' e ed' dx ba dv' lv' → ed'.tail = ed.tail → Kp (PBut [e]) H H' → H l = none → Q (.ref l) H') :
    tLR K [some (.ref e), some (.int (ed.later.length : Nat)), x2] H Q := by
  have hl := he.ok.n
  unfold tLR tLc iRng1
  refine ⟨_, rfl, ?_⟩
  refine ⟨_, _, rfl, rfl, ?_⟩
  refine ⟨_, rfl, ?_⟩
  refine ⟨by omega, by omega, ?_⟩
  refine fun D hD => ?_
  have hDe : D ≠ e := fun z => by rw [z, he.at_] at hD; cases hD
  refine lc_acc1 (walk_range (lo := 0) (n := ((ed.later.length : Int) + 1).toNat)) (PBut [e]) (fun i acc H' => acc = (List.range i).map (fun j => V.bl (decide (j < ed.later.length))) ∧ i ≤ ed.later.length + 1 ∧ ∃ ed' dv' lv', EdAt (He.ga K "Editor") n H' e ed' dx ba dv' lv' ∧ ed'.later.length = ed.later.length - i ∧ ed'.tail = ed.tail) hD
    ⟨by simp, by omega, ed, dv, lv, he.same (same_new hD), by omega, rfl⟩ (fun _ _ _ _ _ _ _ => True.intro) (fun i acc H' r => n1 hDe) (fun i acc H' ⟨e1, e2, _⟩ => ?_) (fun i acc H' a0 a1 hDl ⟨e1, e2, ed', dv', lv', e3, e4, e5⟩ => ⟨e1, e2, ed', dv', lv', ?_, e4, e5⟩) ?_ ?_
  · rw [e1, List.length_map, List.length_range, sizeLine_eq]
    omega
  · refine e3.kl (L := [D]) (fun b o hb p => (upd_ne fun z => ?_).trans hb) (n1 hDe.symm)
    rcases p with p | ⟨xs, p⟩
    · exact p (by rw [z]; simp)
    · rw [z, hDl, p] at hb
      cases hb
  · intro i x H6 H6' acc Post hi kp eD ⟨e1, e2, ed', dv', lv', e3, e4, e5⟩ hp hy
    obtain ⟨rfl, rfl⟩ := hy
    refine ⟨rfl, ?_⟩
    refine ⟨_, rfl, e, dx, _, rfl, e3.at_, rfl, e, n, ed', dx, ba, dv', lv', rfl, e3, hn, fun H7 dv7 lv7 e7 k7 => hp _ _ k7 ⟨?_, by omega, redo ed', dv7, lv7, e7, ?_, (redo_b ed').2.trans e5⟩⟩
    · rw [e1, List.range_succ, List.map_append]
      congr 1
      show [V.bl (!ed'.later.isEmpty)] = [V.bl (decide (i < ed.later.length))]
      congr 2
      cases z : ed'.later with
      | nil =>
        rw [z] at e4
        simp at e4 ⊢
        omega
      | cons a r =>
        rw [z] at e4
        simp at e4 ⊢
        omega
    · rw [redo_len]; omega
  · intro H7 acc kp eD ⟨e1, e2, ed', dv', lv', e3, e4, e5⟩
    refine q H7 D dv' lv' ed' ?_ e3 e5 kp hD
    have en : ((ed.later.length : Int) + 1).toNat = ed.later.length + 1 := by omega
    rw [eD, e1, en, List.range_succ, List.map_append]
    congr 3
    · rw [← List.length_range (n := ed.later.length), ← List.map_const, List.length_range]
      refine List.map_congr_left fun j hj => ?_
      rw [decide_eq_true (List.mem_range.mp hj)]
      rfl
    · simp
end Ob
/-! _law_later_right -/
namespace Ob
open PySem PySem.Spec PyProof.Rows L2 L2H LamX NdefX
theorem dp_bools {K : PySem.W.Frag} {H : Hp} : ∀ bs : List Bool, DpAll K H (bs.map V.bl) (bs.map PyData.bool)
  | [] => .nil
  | b :: r => .cons (.bl b) (dp_bools r)
theorem fine_bools (bs : List Bool) (h : bs.length ≤ 1000) : SeqAt.shaped (.list (bs.map PyData.bool)) = true := by
  have := FineA.all (k := 0) (n := 5) (ds := bs.map PyData.bool) fun d hd => by
    obtain ⟨b, hb, rfl⟩ := List.mem_map.mp hd
    exact (Fine.bl b).mono (Nat.le_refl _) (by decide)
  exact this.lst.shaped
/-- [b, ..] == [b, ..] -/
theorem eqBs {K : PySem.W.Frag} {H : Hp} {a b : Addr} {bs : List Bool} {Q : VK} (ha : H a = some (.lst (bs.map V.bl))) (hb : H b = some (.lst (bs.map V.bl))) (hl : bs.length ≤ 1000) (q : Q (.bl true) H) : rEqD K (.ref a) (.ref b) H Q := by
  have sh := fine_bools bs hl
  refine ⟨_, _, .lst (.inl (.inl ha)) (dp_bools bs), .lst (.inl (.inl hb)) (dp_bools bs), sh, sh, ?_⟩
  rw [SeqAt.eqv_refl _ (SeqAt.canLay_of_shaped sh)]
  exact q
abbrev spLater (K : PySem.W.Frag) (Rt : List (Addr × Str)) : Sp := fun vs H Q _ => ∃ (m G e o : Addr) (n : Nat) (ed : Ed) (dx ba : Addr) (dv lv : V), vs = [.ref e, .ref o] ∧ EdAt (He.ga K "Editor") n H e ed dx ba dv lv ∧ OwI m G n H o ed ∧ n ≤ 400 ∧ TTb Rt H ∧
  ∀ H', KN [] H H' → TTb Rt H' → Q (.bl true) H'
section
variable {P : Program} {w : World} {K : PySem.W.Frag} {mg : Str → Option Value} {base : Heap} {Rt : List (Addr × Str)}
theorem ok_later_right (T : TxL P K mg) (hbm : ∃ P0, base.BuiltinsAt mg P0) (hcod : CodF K base Rt "_law_later_right") : FWk P w K mg base CX0 5 ("_law_later_right", none) p_law_later_right (spLater K Rt) := by
  have U := T.X.U
  have TE := U.E
  obtain ⟨c, Pt, hc, hC, hP⟩ := hcod
  refine okWc T.d_later_right.f sc_law_later_right (fun vs H Q E h => ?_) (fun A outer s0 H vs Q E hr hgd h => ?_)
  · obtain ⟨_, _, _, _, _, _, _, _, _, _, rfl, _⟩ := h
    rfl
  have nd := sc_law_later_right.nd
  have nl : N_lr.Nodup := by decide +kernel
  rw [hc] at hr ⊢
  have hu := hu_of hr
  have hf0 : ∀ y ∈ (lamAt lamsR 0).2.2.names, y.2 = .free → (defScope s_law_later_right).names.lookup y.1 = some .cell ∨ (defScope s_law_later_right).names.lookup y.1 = some .free := by decide +kernel
  have tk0 : Takes (cxOf CX0 P w K mg base N_law_later_right "_law_later_right" (defScope s_law_later_right) (He.fAd K ("_law_later_right", none)) (.ref c) A outer s0 H E) (fun _ _ _ _ => False) := fun _ _ ⟨_, _, _, _, _, _, _, _, _, _, _, _, _, _, _, _, f⟩ => f.elim
  refine ⟨_, pss_cons (ps_set (i := 2) nd rfl (Or.inr rfl) (pe_callB call_len rfl U.E.G.S.n_len boot_len (pa_cons (pe_dget hu (pv 1) pe_str (fun _ _ => rfl)) pa_nil)))
    (pss_one (ps_ret (pe_cmpR (op_eqD hr.units) (pe_glam1q (q := lamIn "_law_later_right") (b := base) (hq := ?hq) (hb9 := rfl) (Rt := Rt) (E := WE fun _ _ _ _ => False) (ok_under U 2) (hr.mono (by decide)) hgd (by rfl) U.d_under.g U.d_under.f.kp (fun σ => passAt tk0 σ)
        (pe_m0' TE.m_trial TE.cE (ok_ed_trial TE) hr (by decide) (pv 0)) hbm (by rfl)
        (lamCb_ofCq (k := 1) (q := lamIn "_law_later_right") (hq := ?hq2) (t := fun _ _ _ => tLR K) (N := N_lr) (fr := ["_law_due"]) (js := [2]) (y0 := "_law_held") (rest := (lamAt lamsR 0).2.2.names.tail) (lscope_by ?sc) ?hn ?hnc ?hy0 ?hr0 ?hxf (free_by ?fb) ?frk rfl ?hb ?hbody) (free_by ?fb2) (hdef := ?hdef))
      (pe_op op_cat (pe_op op_rep (pe_lst (pa_cons pe_bl pa_nil)) (pv 2)) (pe_lst (pa_cons pe_bl pa_nil))) (nomark _)))), ?_⟩
  case hbody =>
    intro c' P' f A1 outer1 s1 H1 E1 hr1 hgd1
    exact pe_lc (own := [("_law_k", 2)]) (g := gName 2) (tt := tYes) rfl nl (pi_range1 rfl T.n_range (pa_cons (pe_op op_add (pv 1) pe_int) pa_nil)) (blkOk_by (own := [("_law_k", 2)]) (N := N_lr) (sc := (lamAt lamsR 0).2.2) (by decide +kernel))
      (fun _ _ _ _ _ => pg_name (i := 2) nl rfl (Or.inl rfl)) (fun _ _ _ _ _ => pts_nil) (fun _ _ _ _ _ => pe_m0' TE.m_redo TE.cE (ok_ed_redo TE) hr1 (by decide) (pv 0))
  case hq => unfold lamIn; exact rfl
  case hq2 => unfold lamIn; exact rfl
  case hdef => rfl
  case sc => decide +kernel
  case hn => rfl
  case hnc => decide +kernel
  case hy0 => exact (show List.lookup ("_law_held" : Str) (defScope s_law_later_right).names ≠ some NameKind.cell ∧ List.lookup ("_law_held" : Str) (defScope s_law_later_right).names ≠ some NameKind.free by decide +kernel)
  case hr0 => decide +kernel
  case hxf => decide +kernel
  case frk => decide +kernel
  case fb => rfl
  case fb2 => rfl
  case hb =>
    intro q cl pm cv ctv u
    rfl
  obtain ⟨m, G, e, o, n, ed, dx, ba, dv, lv, rfl, he, ho, hn, tt, kq⟩ := h
  obtain ⟨ba2, fv, dl, ll, ho'⟩ := ho
  obtain ⟨ls, hls, hds⟩ := ho'.l
  have hll := hds.length
  rw [List.length_map] at hll
  have hnn := he.ok.n
  refine ⟨_, rfl, o, .ref ll, rfl, DGet.k (k := Ks "later") ho'.at_, _, ed.later.length, rfl, .inl ⟨ls, .inl (.inl hls), hll.symm⟩, ?_⟩
  refine ⟨_, rfl, e, dx, _, rfl, he.at_, rfl, e, dx, _, dv, lv, rfl, he.at_, rfl, rfl, fun H4 t dxt ht4 ht3 s4 => ?_⟩
  have hne : t ≠ e := fun z => by rw [z, he.at_] at ht3; cases ht3
  obtain ⟨Ty, T0⟩ := tt
  have T4 := T0.same s4
  refine ⟨Ty, Pt, .inl hC, T4.roots _ hP, T4, fun f2 c2 P2 H5 Ty5 en5 T5 hin5 hc5 => ?_⟩
  have ht5 : H5 t = some (.ins (He.ga K "Trial") dxt (trF e dv lv)) := en5 _ _ ht4 (fun _ z => by cases z)
  have K5 : KN [] H H5 := (KN.same s4).trans (KN.of en5)
  have he5 := he.kn K5 (by simp)
  refine ⟨t, dxt, e, dx, ba, ed.tail, dv, lv, dv, lv, rfl, ht5, he5.at_, hne, fun H6 ht6 k6 => ⟨?_, .ref e, rfl, ?_⟩⟩
  · exact k6 _ _ hc5 fun z => by
      rw [List.mem_singleton.mp z, ht5] at hc5
      cases hc5
  have kl6 := PBut.kl ht5 k6
  have he6 := he5.kl kl6 (n1 hne.symm)
  refine redo_all he6 hn fun H7 l dv7 lv7 ed7 hl7 he7 et7 k7 hln => ?_
  have ht7 : H7 t = some (.ins (He.ga K "Trial") dxt (trF e dv lv)) := k7 _ _ ht6 (n1 hne)
  refine leave_n hne ⟨ht7, ⟨dv7, lv7, by have := he7.at_; rw [et7] at this; exact this⟩, fun H8 h8 k8 => ?_⟩
  have e8 : H8 l = some (.lst ((List.replicate ed.later.length true ++ [false]).map V.bl)) := by
    refine (k8 _ _ hl7 (n1 fun z => ?_)).trans ?_
    · rw [z, he6.at_] at hln
      cases hln
    · rw [List.map_append, List.map_replicate]
      rfl
  have K8 : KN [] H H8 := fun b u hb p => by
    by_cases q : b = e
    · subst q
      have := he.at_
      rw [hb] at this
      cases this
      exact h8
    · have hbt : b ≠ t := fun z => by rw [z, ht3] at hb; cases hb
      exact k8 b u (k7 b u (kl6 b u (K5 b u hb p) (.inl (n1 hbt))) (n1 q)) (n1 q)
  have T8 : TTb Rt H8 := by
    refine ⟨Ty5, ((T5.kl kl6 ht5).kl (PBut.kl he6.at_ k7) he6.at_).kl (PBut.kl he7.at_ k8) he7.at_⟩
  refine ⟨(show 1 ≤ sizeLine by decide), fun a1 n1' => ?_⟩
  refine ⟨_, rfl, a1, ed.later.length, _, rfl, rfl, upd_same, by omega, by omega, ?_, fun p hp => ?_⟩
  · rw [sizeLine_eq]
    show 1 * _ ≤ _
    omega
  refine ⟨(show 1 ≤ sizeLine by decide), fun a2 n2' => ?_⟩
  have sA := same_new (o := .lst [.bl true]) n1'
  have sB := same_new (o := .lst (List.replicate (ed.later.length : Int).toNat [V.bl true]).flatten) hp
  have sC := same_new (o := .lst [.bl false]) n2'
  refine ⟨p, a2, _, _, rfl, rfl, sC _ _ upd_same, upd_same, ?_, fun p2 hp2 => ?_⟩
  · rw [List.flatten_replicate_singleton, List.length_replicate, sizeLine_eq]
    show _ + 1 ≤ _
    omega
  have sD := same_new (o := .lst ((List.replicate (ed.later.length : Int).toNat [V.bl true]).flatten ++ [V.bl false])) hp2
  have s := sA.trans (sB.trans (sC.trans sD))
  refine eqBs (bs := List.replicate ed.later.length true ++ [false]) (s _ _ e8) (upd_same.trans ?_) (by rw [List.length_append, List.length_replicate]; show _ + 1 ≤ _; omega) (kq _ (K8.trans (Kp.of s)) (T8.same s))
  rw [List.flatten_replicate_singleton, List.map_append, List.map_replicate]
  rfl
end
end Ob
/-! An editor and its copy, side by side. -/
namespace Ob
open PySem PySem.Spec PyProof.Rows L2 L2H LamX NdefX
section
variable {C m cl G e o f q : Addr} {n n' k k' : Nat} {H H' : Hp} {ed ed' ed2 : Ed} {dx ba dx2 ba2 : Addr} {dv lv dv2 lv2 : V} {Rt : List (Addr × Str)}
/-- a pair that stands beside -/
structure Aside (C m G f q : Addr) (n : Nat) (H : Hp) (ed : Ed) (dx ba : Addr) (dv lv : V) : Prop where
  edt : EdAt C n H f ed dx ba dv lv
  ow : OwI m G n H q ed
theorem Aside.mono (a : Aside C m G f q n H ed dx ba dv lv) (h : n ≤ n') : Aside C m G f q n' H ed dx ba dv lv := ⟨⟨a.edt.ok.mono h, a.edt.at_, a.edt.v⟩, a.ow.mono h⟩
theorem Aside.same (a : Aside C m G f q n H ed dx ba dv lv) (s : Same H H') : Aside C m G f q n H' ed dx ba dv lv := ⟨a.edt.same s, a.ow.same s⟩
theorem Aside.edi (a : Aside C m G f q n H ed dx ba dv lv) : EdI C n H f ed := ⟨_, _, _, _, a.edt⟩
theorem WAt.aside (w : WAt C m cl G e o n k H ed dx ba dv lv) : Aside C m G e o n H ed dx ba dv lv := ⟨w.edt, w.ow⟩
theorem WAt.edi (w : WAt C m cl G e o n k H ed dx ba dv lv) : EdI C n H e ed := ⟨_, _, _, _, w.edt⟩
theorem Aside.w (a : Aside C m G f q n H ed dx ba dv lv) (h : MAt H m cl G k) : WAt C m cl G f q n k H ed dx ba dv lv := ⟨h, a.edt, a.ow⟩
/-- a step of the one leaves the other -/
theorem Aside.step (a : Aside C m G f q n' H ed2 dx2 ba2 dv2 lv2) (w : WAt C m cl G e o n k H ed dx ba dv lv) (t : KL (L4 m G e o) H H') (hf : f ≠ e) (hq : q ≠ o) : Aside C m G f q n' H' ed2 dx2 ba2 dv2 lv2 := by
  obtain ⟨d, hd⟩ := a.ow.ho
  obtain ⟨d1, hd1⟩ := w.ow.ho
  obtain ⟨d2, hd2⟩ := w.mat.hm
  obtain ⟨x, _, y⟩ := w.mat.ins a.edt.at_
  refine ⟨a.edt.kl t (n4 x y hf (ne_ho a.edt.at_ hd1 (fun z => by cases z))), a.ow.kl t (n4 a.ow.nm (w.mat.dk hd).2 (ne_ho hd w.edt.at_ (fun z => by cases z)) hq) fun b hb => ?_⟩
  simp only [L4, List.mem_cons, List.not_mem_nil, or_false] at hb
  rcases hb with z | z | z | z
  · exact .inr fun vs y => by rw [z, hd2] at y; cases y
  · exact .inl z
  · exact .inr fun vs y => by rw [z, w.edt.at_] at y; cases y
  · exact .inr fun vs y => by rw [z, hd1] at y; cases y
/-- a trial leaves all but the bag -/
theorem Aside.kn (a : Aside C m G f q n H ed dx ba dv lv) (h : MAt H m cl G k) (t : KN [m, G] H H') : Aside C m G f q n H' ed dx ba dv lv := by
  obtain ⟨d, hd⟩ := a.ow.ho
  obtain ⟨d2, hd2⟩ := h.hm
  obtain ⟨x, _, y⟩ := h.ins a.edt.at_
  refine ⟨a.edt.kn t (n2 x y), a.ow.kn t (n2 a.ow.nm (h.dk hd).2) fun b hb => ?_⟩
  rcases List.mem_cons.mp hb with z | z
  · exact .inr fun vs y => by rw [z, hd2] at y; cases y
  · exact .inl (List.mem_singleton.mp z)
theorem Aside.kn0 (a : Aside C m G f q n H ed dx ba dv lv) (t : KN [] H H') : Aside C m G f q n H' ed dx ba dv lv := ⟨a.edt.kn t (by simp), a.ow.kn t (by simp) fun b hb => (by cases hb)⟩
theorem MAt.kn0 (h : MAt H m cl G k) (t : KN [] H H') : MAt H' m cl G k := h.kn t (by simp) (by simp) (by simp)
/-- what a step does to the tables -/
theorem WAt.tt (w : WAt C m cl G e o n k H ed dx ba dv lv) (t : TTb Rt H) (kl : KL (L4 m G e o) H H') : TTb Rt H' := t.kl kl fun b hb => by
  simp only [L4, List.mem_cons, List.not_mem_nil, or_false] at hb
  rcases hb with z | z | z | z
  · rw [z]; exact .inl w.mat.hm
  · rw [z]; exact .inr (.inl w.mat.hG)
  · rw [z]; exact .inr (.inr ⟨_, _, _, w.edt.at_⟩)
  · rw [z]; exact .inl w.ow.ho
theorem MAt.tt (h : MAt H m cl G k) (t : TTb Rt H) (km : KM m G H H') : TTb Rt H' := t.kl (KM.kl h km) fun b hb => by
  rcases List.mem_cons.mp hb with z | z
  · rw [z]; exact .inl h.hm
  · rw [List.mem_singleton.mp z]; exact .inr (.inl h.hG)
end
/-- the bag, the editor and its record, the tables -/
def Sa (C : Addr) (Rt : List (Addr × Str)) (m cl G e o : Addr) (n k : Nat) (H : Hp) : Prop := ∃ ed dx ba dv lv, WAt C m cl G e o n k H ed dx ba dv lv ∧ TTb Rt H
/-- .. and another -/
def Sb (C : Addr) (Rt : List (Addr × Str)) (m cl G e o f q : Addr) (n k : Nat) (H : Hp) : Prop := ∃ ed dx ba dv lv ed2 dx2 ba2 dv2 lv2, WAt C m cl G e o n k H ed dx ba dv lv ∧ Aside C m G f q n H ed2 dx2 ba2 dv2 lv2 ∧ TTb Rt H
section
variable {C m cl G e o f q : Addr} {n n' k k' : Nat} {H H' : Hp} {Rt : List (Addr × Str)}
theorem Sb.swap (s : Sb C Rt m cl G e o f q n k H) : Sb C Rt m cl G f q e o n k H := by
  obtain ⟨_, _, _, _, _, _, _, _, _, _, w, a, t⟩ := s
  exact ⟨_, _, _, _, _, _, _, _, _, _, a.w w.mat, w.aside, t⟩
theorem Sb.same (s : Sb C Rt m cl G e o f q n k H) (x : Same H H') : Sb C Rt m cl G e o f q n k H' := by
  obtain ⟨_, _, _, _, _, _, _, _, _, _, w, a, t⟩ := s
  exact ⟨_, _, _, _, _, _, _, _, _, _, w.same x, a.same x, t.same x⟩
theorem Sb.mono (s : Sb C Rt m cl G e o f q n k H) (a : n ≤ n') (b : k ≤ k') : Sb C Rt m cl G e o f q n' k' H := by
  obtain ⟨_, _, _, _, _, _, _, _, _, _, w, x, t⟩ := s
  exact ⟨_, _, _, _, _, _, _, _, _, _, w.mono a b, x.mono a, t⟩
theorem Sb.kn0 (s : Sb C Rt m cl G e o f q n k H) (x : KN [] H H') (t : TTb Rt H') : Sb C Rt m cl G e o f q n k H' := by
  obtain ⟨_, _, _, _, _, _, _, _, _, _, w, a, _⟩ := s
  exact ⟨_, _, _, _, _, _, _, _, _, _, (w.aside.kn0 x).w (w.mat.kn0 x), a.kn0 x, t⟩
theorem Sa.same (s : Sa C Rt m cl G e o n k H) (x : Same H H') : Sa C Rt m cl G e o n k H' := by
  obtain ⟨_, _, _, _, _, w, t⟩ := s
  exact ⟨_, _, _, _, _, w.same x, t.same x⟩
theorem Sa.mono (s : Sa C Rt m cl G e o n k H) (a : n ≤ n') (b : k ≤ k') : Sa C Rt m cl G e o n' k' H := by
  obtain ⟨_, _, _, _, _, w, t⟩ := s
  exact ⟨_, _, _, _, _, w.mono a b, t⟩
theorem Sa.bag (s : Sa C Rt m cl G e o n k H) (a : MAt H' m cl G k') (t : KM m G H H') : Sa C Rt m cl G e o n k' H' := by
  obtain ⟨_, _, _, _, _, w, tt⟩ := s
  exact ⟨_, _, _, _, _, w.bag a t, w.mat.tt tt t⟩
end
end Ob
/-! The law: its loop. -/
namespace Ob
open PySem PySem.Spec PyProof.Rows L2 L2H LamX NdefX
section
variable {P : Program} {w : World} {K : PySem.W.Frag} {mg : Str → Option Value} {base : Heap} {Rt : List (Addr × Str)}
abbrev forBody : Stmt → List Stmt
  | .For _ _ b _ _ => b
  | _ => []
abbrev bodyT : List Stmt := forBody ((defBody s_law).getD 1 (.Pass ⟨0, 0, 0, 0⟩))
theorem law_turn (T : TxL P K mg) (R : TrF K mg base Rt) (hbm : ∃ P0, base.BuiltinsAt mg P0) (hcl : CodF K base Rt "_law_later_right") {A : Around} {outer : List Env} {s0 : Shared} {H0 : Hp} {E : XK} {c : Value}
    (hr : Room 33 (A.deeper (envOfC "law" (defScope s_law) s0.heap.objs.size (He.fAd K ("law", none)) c))) (hgd : A.guards = some []) :
    ∃ t, PSs (cxOf CX0 P w K mg base N_law "law" (defScope s_law) (He.fAd K ("law", none)) c A outer s0 H0 E) bodyT t ∧ ∀ (m cl G : Addr) (k : Nat) (H : Hp) (D : Ends) (sv : V) (x2 x3 x4 x5 x6 x7 x8 x9 x10 x11 x12 : Option V), MAt H m cl G k → k ≤ 2 ^ 14 → TTb Rt H →
      (∀ H' y3 y4 y5 y6 y7 y8 y9, MAt H' m cl G (k + 600) → TTb Rt H' → D.nx [some sv, some (.ref m), x2, y3, y4, y5, y6, y7, y8, y9, x10, x11, x12] H') → t D [some sv, some (.ref m), x2, x3, x4, x5, x6, x7, x8, x9, x10, x11, x12] H := by
  have nd := sc_law.nd
  have hu := hu_of hr
  have U := T.X.U
  have TE := U.E
  have po : PassesOwn (model P w) (cxOf CX0 P w K mg base N_law "law" (defScope s_law) (He.fAd K ("law", none)) c A outer s0 H0 E).A (cxOf CX0 P w K mg base N_law "law" (defScope s_law) (He.fAd K ("law", none)) c A outer s0 H0 E).env (cxOf CX0 P w K mg base N_law "law" (defScope s_law) (He.fAd K ("law", none)) c A outer s0 H0 E).xe := passes_of (X := cxOf CX0 P w K mg base N_law "law" (defScope s_law) (He.fAd K ("law", none)) c A outer s0 H0 E) rfl
  obtain ⟨g, hg⟩ := TE.bE1
  refine ⟨_, pss_cons (ps_par2 3 4 nd (pa_cons (pe_f T.d_book (ok_book T) hr (by decide) (pa_cons (pv 1) pa_nil)) (pa_cons (pe_f T.d_signs (ok_signs T) hr (by decide) (pa_cons (pv 1) (pa_cons pe_int pa_nil))) pa_nil)))
    (pss_cons (ps_asg (pe_tup (pa_cons (pe_f T.d_own (ok_own T) hr (by decide) (pa_cons (pv 3) (pa_cons (pv 4) pa_nil))) (pa_cons (pe_makeK TE.mkE (ok_ed_init TE) (hr.mono (by decide)) rfl TE.gE hg pass0 (pa_cons (pv 3) pa_nil) (pk_cons (pv 4) pk_nil)) pa_nil))) (pg_tup rfl (pgs_cons (pg_nm 5 nd) (pgs_cons (pg_name (i := 6) nd rfl (.inr rfl)) pgs_nil))))
    (C8.pss_cut (ps_for po rfl (pi_range1 rfl T.n_range (pa_cons (pe_op op_add pe_int (pe_f T.d_draw (ok_draw T) hr (by decide) (pa_cons (pv 1) (pa_cons pe_int pa_nil)))) pa_nil)) (pg_nm 7 nd)
      (pss_one (ps_if (pt_not (pt_val (pe_w0 T.d_step (ok_step T) hr (by decide) hgd (pa_cons (pv 1) (pa_cons (pv 6) (pa_cons (pv 5) pa_nil)))) (fun _ => rfl))) (pss_one (ps_ret pe_bl)) pss_nil)))
    (C8.pss_cut (ps_for po rfl (pi_range1 rfl T.n_range (pa_cons pe_int pa_nil)) (pg_nm 7 nd)
      (pss_one (ps_if (PW.pt (pw_or (pt_not (pt_val (pe_w0 T.d_tried (ok_triedA T R) hr (by decide) hgd (pa_cons (pv 1) (pa_cons (pv 6) (pa_cons (pv 5) (pa_cons (pe_f T.d_draw (ok_draw T) hr (by decide) (pa_cons (pv 1) (pa_cons pe_int pa_nil))) pa_nil))))) (fun _ => rfl))) (pw_or1 (pt_not (pt_val (pe_w0 T.d_later_right (ok_later_right T hbm hcl) hr (by decide) hgd (pa_cons (pv 6) (pa_cons (pv 5) pa_nil))) (fun _ => rfl)))))) (pss_one (ps_ret pe_bl)) pss_nil)))
    (pss_cons (ps_par2 8 9 nd (pa_cons (pe_m0' TE.m_copy TE.cE (ok_ed_copy TE) hr (by decide) (pv 6)) (pa_cons (pe_callTy call_dcopy rfl T.n_dict PyProof.Rows.Boot.«dict» (pa_cons (pv 5) pa_nil)) pa_nil)))
    (pss_cons (ps_if (PW.pt (pw_or (pt_not (pt_cmpR (op_eqG (rcG_ins (ok_ed_eq TE) TE.m_eq.m.at_ TE.m_eq.m.fn TE.m_eq.b pass0) (hr.mono (by decide))) (pv 8) (pv 6) (nomark _))) (pw_or (pt_not (pt_val (pe_w0 T.d_stands (ok_stands T) hr (by decide) hgd (pa_cons (pv 8) (pa_cons (pv 9) pa_nil))) (fun _ => rfl))) (pw_or1 (pt_not (pt_val (pe_w0 T.d_later_right (ok_later_right T hbm hcl) hr (by decide) hgd (pa_cons (pv 8) (pa_cons (pv 9) pa_nil))) (fun _ => rfl))))))) (pss_one (ps_ret pe_bl)) pss_nil)
    (pss_one (ps_for po rfl (pi_range1 rfl T.n_range (pa_cons pe_int pa_nil)) (pg_nm 7 nd)
      (pss_cons (ps_if (PW.pt (pw_or (pt_not (pt_val (pe_w0 T.d_step (ok_step T) hr (by decide) hgd (pa_cons (pv 1) (pa_cons (pv 8) (pa_cons (pv 9) pa_nil)))) (fun _ => rfl))) (pw_or (pt_not (pt_val (pe_w0 T.d_stands (ok_stands T) hr (by decide) hgd (pa_cons (pv 6) (pa_cons (pv 5) pa_nil))) (fun _ => rfl))) (pw_or1 (pt_not (pt_val (pe_w0 T.d_stands (ok_stands T) hr (by decide) hgd (pa_cons (pv 8) (pa_cons (pv 9) pa_nil))) (fun _ => rfl))))))) (pss_one (ps_ret pe_bl)) pss_nil)
      (pss_one (ps_if (PW.pt (pw_or (pt_not (pt_val (pe_w0 T.d_step (ok_step T) hr (by decide) hgd (pa_cons (pv 1) (pa_cons (pv 6) (pa_cons (pv 5) pa_nil)))) (fun _ => rfl))) (pw_or (pt_not (pt_val (pe_w0 T.d_stands (ok_stands T) hr (by decide) hgd (pa_cons (pv 8) (pa_cons (pv 9) pa_nil))) (fun _ => rfl))) (pw_or1 (pt_not (pt_val (pe_w0 T.d_later_right (ok_later_right T hbm hcl) hr (by decide) hgd (pa_cons (pv 8) (pa_cons (pv 9) pa_nil))) (fun _ => rfl))))))) (pss_one (ps_ret pe_bl)) pss_nil)))))))))), ?_⟩
  intro m cl G k H D sv x2 x3 x4 x5 x6 x7 x8 x9 x10 x11 x12 mat hk tt kq
  refine ⟨_, rfl, m, cl, G, k, rfl, mat, by omega, fun H1 ba b hb1 bok m1 k1 => ?_⟩
  refine ⟨_, rfl, m, cl, G, k + 6, 6, rfl, m1, by omega, by decide, fun H2 tl htl hln m2 k2 => ?_⟩
  refine ⟨_, _, rfl, ?_⟩
  have tt2 := m1.tt (mat.tt tt k1) k2
  have hb2 := (KM.kl m1 k2).tup hb1
  clear k1 k2 m1 hb1 mat tt
  obtain ⟨um, hum⟩ := m2.hm
  obtain ⟨uG, huG⟩ := m2.hG
  refine ⟨_, rfl, _, rfl, m, G, ba, b, tl, rfl, hb2, bok, htl, hln, ⟨_, hum⟩, ⟨_, huG⟩, fun H3 o ow3 ho3 s3 => ?_⟩
  refine ⟨_, rfl, _, rfl, rfl, rfl, fun e dx hx hdx hne => ?_⟩
  have s4 := same_made (C := He.ga K "Editor") hx hdx hne
  refine ⟨e, dx, ba, b, tl, rfl, upd_same, (s3.trans s4) _ _ hb2, bok, htl, hln, fun H4 dv lv at4 k4 => ⟨rfl, ?_⟩⟩
  have s34 : Same H3 H4 := Kp.fresh s4 hx k4
  have w4 : WAt (He.ga K "Editor") m cl G e o 0 (k + 13) H4 (fresh b tl) dx ba dv lv := ⟨(m2.same (s3.trans s34)).mono (by omega), at4, ow3.same s34⟩
  have a4 : Sa (He.ga K "Editor") Rt m cl G e o 0 (k + 13) H4 := ⟨_, _, _, _, _, w4, tt2.same (s3.trans s34)⟩
  clear s34 k4 s4 at4 ow3 ho3 s3 hx hdx hne w4 hum huG m2 tt2 hb2
  refine ⟨(show 2 ≤ sizeLine by decide), fun t ht => ⟨t, _, rfl, .inl (.inl upd_same), rfl, _, _, rfl, _, [], rfl, rfl, ?_⟩⟩
  have a5 := a4.same (same_new (o := .tup [.ref o, .ref e]) ht)
  revert a5
  generalize upd H4 t _ = H5
  intro a5
  clear a4 ht
  refine ⟨fun σ H' => (∃ y7, σ = [some sv, some (.ref m), x2, some (.ref ba), some (.str (S tl)), some (.ref o), some (.ref e), y7, x8, x9, x10, x11, x12]) ∧ Sa (He.ga K "Editor") Rt m cl G e o 40 (k + 90) H', ?_, ?_⟩
  · obtain ⟨ed5, dx5, ba5, dv5, lv5, w5, tt5⟩ := id a5
    refine ⟨_, rfl, m, cl, G, k + 13, 8, rfl, w5.mat, by omega, by decide, by decide, fun H6 r m6 k6 r0 r1 => ?_⟩
    obtain ⟨rn, rfl⟩ : ∃ rn : Nat, r = (rn : Int) := ⟨r.toNat, by omega⟩
    have a6 := a5.bag m6 k6
    refine ⟨_, _, rfl, rfl, ?_⟩
    refine ⟨_, rfl, by omega, by omega, ?_⟩
    refine for_it (walk_range (lo := 0) (n := (3 + (rn : Int)).toNat)) (fun i σ H' => (∃ y7, σ = [some sv, some (.ref m), x2, some (.ref ba), some (.str (S tl)), some (.ref o), some (.ref e), y7, x8, x9, x10, x11, x12]) ∧ i ≤ 10 ∧ Sa (He.ga K "Editor") Rt m cl G e o (4 * i) (k + 14 + 7 * i) H') ⟨⟨_, rfl⟩, by decide, a6⟩ (fun _ _ _ _ _ => True.intro) (fun i x σ H7 H7' hi h7 hy => ?_) (fun σ H7 h7 => ?_)
    · obtain ⟨⟨y7, e7⟩, hi10, a7⟩ := h7
      obtain ⟨rfl, rfl⟩ := hy
      subst e7
      have hi' : i < 10 := by have : i < (3 + (rn : Int)).toNat := hi; omega
      obtain ⟨ed7, dx7, ba7, dv7, lv7, w7, tt7⟩ := a7
      refine ⟨_, rfl, _, rfl, _, rfl, m, cl, G, e, o, 4 * i, k + 14 + 7 * i, ed7, dx7, ba7, dv7, lv7, rfl, w7, by omega, by omega, fun H8 ed8 dv8 lv8 w8 t8 kl8 => ⟨true, rfl, iteF ⟨⟨_, rfl⟩, hi', ?_⟩⟩⟩
      have e1 : 4 * (i + 1) = 4 * i + 4 := by omega
      have e2 : k + 14 + 7 * (i + 1) = k + 14 + 7 * i + 7 := by omega
      rw [e1, e2]
      exact ⟨_, _, _, _, _, w8, w7.tt tt7 kl8⟩
    · obtain ⟨e7, hi10, a7⟩ := h7
      exact ⟨e7, a7.mono (by omega) (by omega)⟩
  rintro σ H6 ⟨⟨y7, rfl⟩, a6⟩
  clear a5
  refine ⟨fun σ H' => (∃ y7, σ = [some sv, some (.ref m), x2, some (.ref ba), some (.str (S tl)), some (.ref o), some (.ref e), y7, x8, x9, x10, x11, x12]) ∧ Sa (He.ga K "Editor") Rt m cl G e o 40 (k + 460) H', ?_, ?_⟩
  · refine ⟨_, rfl, by decide, by decide, ?_⟩
    refine for_it (walk_range (lo := 0) (n := 3)) (fun i σ H' => (∃ y7, σ = [some sv, some (.ref m), x2, some (.ref ba), some (.str (S tl)), some (.ref o), some (.ref e), y7, x8, x9, x10, x11, x12]) ∧ i ≤ 3 ∧ Sa (He.ga K "Editor") Rt m cl G e o 40 (k + 90 + 121 * i) H') ⟨⟨_, rfl⟩, by decide, a6⟩ (fun _ _ _ _ _ => True.intro) (fun i x σ H7 H7' hi h7 hy => ?_) (fun σ H7 h7 => ?_)
    · obtain ⟨⟨y7, e7⟩, _, a7⟩ := h7
      obtain ⟨rfl, rfl⟩ := hy
      subst e7
      obtain ⟨_, _, _, _, _, w7', _⟩ := id a7
      refine ⟨_, rfl, _, rfl, _, rfl, _, rfl, m, cl, G, k + 90 + 121 * i, 3, rfl, w7'.mat, by omega, by decide, by decide, fun H8 r m8 k8 r0 r1 => ?_⟩
      obtain ⟨d, rfl⟩ : ∃ d : Nat, r = (d : Int) := ⟨r.toNat, by omega⟩
      obtain ⟨ed8, dx8, ba8, dv8, lv8, w8, tt8⟩ := a7.bag m8 k8
      have hd : d ≤ 2 := by omega
      refine ⟨d, hd, m, cl, G, e, o, 40, k + 90 + 121 * i + 1, ed8, dx8, ba8, dv8, lv8, rfl, w8, by omega, by omega, tt8, fun H9 m9 kn9 tt9 => ⟨true, rfl, iteF ?_⟩⟩
      have z9 := w8.aside.kn w8.mat kn9
      refine ⟨_, rfl, _, rfl, m, G, e, o, 40, ed8, dx8, ba8, dv8, lv8, rfl, z9.edt, z9.ow, by omega, tt9, fun H10 kn10 tt10 => ⟨true, rfl, iteF ⟨⟨_, rfl⟩, hi, ?_⟩⟩⟩
      exact ⟨_, _, _, _, _, ((z9.kn0 kn10).w (m9.kn0 kn10)).mono (Nat.le_refl _) (by omega), tt10⟩
    · obtain ⟨e7, _, a7⟩ := h7
      exact ⟨e7, a7.mono (by omega) (by omega)⟩
  rintro σ H7 ⟨⟨y7, rfl⟩, a7⟩
  clear a6
  obtain ⟨ed7, dx7, ba7, dv7, lv7, w7, tt7⟩ := a7
  refine ⟨_, rfl, e, dx7, _, rfl, w7.edt.at_, rfl, e, 40, ed7, dx7, ba7, dv7, lv7, rfl, w7.edt, fun H8 f dxf atf hf s8 => ?_⟩
  have w8 := w7.same s8
  have tt8 := tt7.same s8
  have hfe : f ≠ e := fun z => by have := w7.edt.at_; rw [← z, hf] at this; cases this
  clear s8 hf
  obtain ⟨ba2, fv, dl, ll, ho⟩ := id w8.ow
  refine ⟨_, rfl, o, _, rfl, .inl ho.at_, fun q hq => ⟨_, _, rfl, ?_⟩⟩
  have s9 : Same H8 (upd H8 q (.dK (oD ba2 fv ed7.tail dl ll))) := same_new hq
  have hqo : q ≠ o := fun z => by have := ho.at_; rw [← z, hq] at this; cases this
  obtain ⟨dm, hdm⟩ := w8.mat.hm
  have hqm : q ≠ m := fun z => by rw [← z, hq] at hdm; cases hdm
  have z9 : Aside (He.ga K "Editor") m G f q 40 (upd H8 q (.dK (oD ba2 fv ed7.tail dl ll))) ed7 dxf ba7 dv7 lv7 := ⟨atf.same s9, ba2, fv, dl, ll, ho.ok, upd_same, s9 _ _ ho.b, ho.f.same s9, ho.d.same s9, ho.l.same s9, hqm, ho.nd, ho.nl⟩
  have w9 := w8.same s9
  have tt9 := tt8.same s9
  revert w9 z9 tt9
  generalize upd H8 q _ = H9
  intro z9 w9 tt9
  clear s9 hdm hqm hq ho w8 tt8 atf w7 tt7
  refine ⟨_, rfl, _, rfl, ⟨f, e, dxf, dx7, _, _, rfl, rfl, z9.edt.at_, w9.edt.at_, 40, ed7, ed7, by decide, z9.edi, w9.edi, rfl, rfl, rfl⟩, fun H10 ext => ⟨_, rfl, iteF ?_⟩⟩
  have s10 : Same H9 H10 := ext
  have z10 := z9.same s10
  have w10 := w9.same s10
  have tt10 := tt9.same s10
  clear ext s10 z9 w9 tt9
  refine ⟨_, rfl, _, rfl, m, G, f, q, 40, ed7, rfl, z10.edi, z10.ow, by decide, fun H11 s11 => ⟨true, rfl, iteF ?_⟩⟩
  have z11 := z10.same s11
  have w11 := w10.same s11
  refine ⟨_, rfl, _, rfl, m, G, f, q, 40, ed7, dxf, ba7, dv7, lv7, rfl, z11.edt, z11.ow, by decide, tt10.same s11, fun H12 k12 tt12 => ⟨true, rfl, iteF ?_⟩⟩
  have b12 : Sb (He.ga K "Editor") Rt m cl G e o f q 40 (k + 460) H12 := ⟨_, _, _, _, _, _, _, _, _, _, (w11.aside.kn0 k12).w (w11.mat.kn0 k12), z11.kn0 k12, tt12⟩
  clear tt12 k12 z11 w11 s11 z10 w10 tt10
  refine ⟨_, rfl, by decide, by decide, ?_⟩
  refine for_it (walk_range (lo := 0) (n := 4)) (fun i σ H' => (∃ y7, σ = [some sv, some (.ref m), x2, some (.ref ba), some (.str (S tl)), some (.ref o), some (.ref e), y7, some (.ref f), some (.ref q), x10, x11, x12]) ∧ i ≤ 4 ∧ Sb (He.ga K "Editor") Rt m cl G e o f q (40 + 8 * i) (k + 460 + 14 * i) H') ⟨⟨_, rfl⟩, by decide, b12⟩ (fun _ _ _ _ _ => True.intro) (fun i x σ H7 H7' hi h7 hy => ?_) (fun σ H7 h7 => ?_)
  · obtain ⟨⟨y7, e7⟩, _, b7⟩ := h7
    obtain ⟨rfl, rfl⟩ := hy
    subst e7
    obtain ⟨ed1, dx1, ba1, dv1, lv1, ed2, dx2, ba2, dv2, lv2, w1, a1, t1⟩ := b7.swap
    refine ⟨_, rfl, _, rfl, _, rfl, m, cl, G, f, q, 40 + 8 * i, k + 460 + 14 * i, ed1, dx1, ba1, dv1, lv1, rfl, w1, by omega, by omega, fun H8 ed8 dv8 lv8 w8 et8 kl8 => ⟨true, rfl, iteF ?_⟩⟩
    have a8 := (a1.step w1 kl8 hfe.symm hqo.symm).mono (n' := 40 + 8 * i + 4) (by omega)
    have t8 := w1.tt t1 kl8
    refine ⟨_, rfl, _, rfl, m, G, e, o, 40 + 8 * i + 4, ed2, rfl, a8.edi, a8.ow, by omega, fun H9 s9 => ⟨true, rfl, iteF ?_⟩⟩
    have w9 := w8.same s9
    refine ⟨_, rfl, _, rfl, m, G, f, q, 40 + 8 * i + 4, ed8, rfl, w9.edi, w9.ow, by omega, fun H10 s10 => ⟨true, rfl, iteF ?_⟩⟩
    have w10 := (a8.same (s9.trans s10)).w (w9.mat.same s10)
    have a10 := w9.aside.same s10
    have t10 := t8.same (s9.trans s10)
    refine ⟨_, rfl, _, rfl, _, rfl, m, cl, G, e, o, 40 + 8 * i + 4, k + 460 + 14 * i + 7, ed2, dx2, ba2, dv2, lv2, rfl, w10, by omega, by omega, fun H11 ed11 dv11 lv11 w11 et11 kl11 => ⟨true, rfl, iteF ?_⟩⟩
    have a11 := (a10.step w10 kl11 hfe hqo).mono (n' := 40 + 8 * i + 4 + 4) (by omega)
    have t11 := w10.tt t10 kl11
    refine ⟨_, rfl, _, rfl, m, G, f, q, 40 + 8 * i + 4 + 4, ed8, rfl, a11.edi, a11.ow, by omega, fun H12 s12 => ⟨true, rfl, iteF ?_⟩⟩
    have a12 := a11.same s12
    have w12 := w11.same s12
    refine ⟨_, rfl, _, rfl, m, G, f, q, 40 + 8 * i + 4 + 4, ed8, _, _, _, _, rfl, a12.edt, a12.ow, by omega, t11.same s12, fun H13 k13 t13 => ⟨true, rfl, iteF ⟨⟨_, rfl⟩, hi, ?_⟩⟩⟩
    have e1 : 40 + 8 * (i + 1) = 40 + 8 * i + 4 + 4 := by omega
    have e2 : k + 460 + 14 * (i + 1) = k + 460 + 14 * i + 7 + 7 := by omega
    rw [e1, e2]
    exact ⟨_, _, _, _, _, _, _, _, _, _, (w12.aside.kn0 k13).w (w12.mat.kn0 k13), a12.kn0 k13, t13⟩
  · obtain ⟨⟨y7, rfl⟩, _, b7⟩ := h7
    obtain ⟨_, _, _, _, _, _, _, _, _, _, w1, _, t1⟩ := b7
    exact kq H7 _ _ _ _ _ _ _ (w1.mat.mono (by omega)) t1
end
end Ob
/-! The law: its end. -/
namespace Ob
open PySem PySem.Spec PyProof.Rows L2 L2H LamX NdefX
abbrev lamsL : List (Arguments × Expr × Scope) := (defBody s_law).flatMap (lamS 20)
abbrev spPrE (K : PySem.W.Frag) : Sp := fun vs H Q _ => ∃ (e : Addr) (n : Nat) (ed : Ed) (q : Ky) (dx ba : Addr) (dv lv : V), vs = [.ref e, .str q.str] ∧ EdAt (He.ga K "Editor") n H e ed dx ba dv lv ∧ q.ok ∧ n + 1 ≤ 96 ∧
    ∀ H' dv' lv', EdAt (He.ga K "Editor") (n + 1) H' e (keyed ed [q]) dx ba dv' lv' → Kp (PBut [e]) H H' → Q .non H'
abbrev spUndo (K : PySem.W.Frag) : Sp := spMove K undo fun ed => !ed.done.isEmpty
def rLenE (K : PySem.W.Frag) : List V → Hp → VK → Prop := fun xs H Q => ∃ a dx fs, xs = [.ref a] ∧ H a = some (.ins (He.ga K "Editor") dx fs) ∧ spEd K (fun ed H' v => v = .int (ed.done.length : Int)) [.ref a] H (fun v H' => ∃ n : Nat, v = .int n ∧ n < 2 ^ 63 ∧ Q (.int n) H') E0
def tPr (K : PySem.W.Frag) (i : Nat) (z : Str) : TE := tMeth (He.ga K "Editor") "press" (spPrE K) [] E0 (tVar i) (tCons (tC (.str z)) tNil)
def tM1 (K : PySem.W.Frag) : TE := tLst (tCons (tPr K 0 "b") (tCons (tCB (rLenE K) (tCons (tVar 1) tNil)) tNil))
def tM2 (K : PySem.W.Frag) : TE := tMeth (He.ga K "Editor") "redo" (spRedo K) [] E0 (tVar 0) tNil
def tM3 (K : PySem.W.Frag) : TE := tBM K "list" rAppend (tVar 1) (tCons (tPr K 0 "(") tNil)
def tM4 (K : PySem.W.Frag) : TE := tLst (tCons (tPr K 0 "(") (tCons (tProp (He.ga K "Editor") (spEd K fun ed H' v => DT H' (pgD ed.now) v) [] E0 (tVar 0)) (tCons (tMeth (He.ga K "Editor") "undo" (spUndo K) [] E0 (tVar 0) tNil) tNil)))
theorem KL.thenS {L : List Addr} {H H' H2 : Hp} (k : KL L H H') (s : Same H' H2) : KL L H H2 := k.trans (Kp.of s)
theorem neD_same {K : PySem.W.Frag} {H : Hp} {v u : V} {d : PyData} {Q : VK} (hv : Dp K H v d) (hu : Dp K H u d) (sh : SeqAt.shaped d = true) (q : Q (.bl false) H) : rNeD K v u H Q := by
  refine ⟨d, d, hv, hu, sh, sh, ?_⟩
  rw [SeqAt.eqv_refl _ (SeqAt.canLay_of_shaped sh)]
  exact q
theorem eqD_same {K : PySem.W.Frag} {H : Hp} {v u : V} {d : PyData} {Q : VK} (hv : Dp K H v d) (hu : Dp K H u d) (sh : SeqAt.shaped d = true) (q : Q (.bl true) H) : rEqD K v u H Q := by
  refine ⟨d, d, hv, hu, sh, sh, ?_⟩
  rw [SeqAt.eqv_refl _ (SeqAt.canLay_of_shaped sh)]
  exact q
/-- a lambda of the law, called under a trial: the body starts at an editor that stands as it did, and so it stands behind it -/
theorem under_go {K : PySem.W.Frag} {base : Heap} {Rt : List (Addr × Str)} {H : Hp} {c Pt t dxt e dx ba : Addr} {d0 l0 dv lv : V} {n : Nat} {ed : Ed} {tm : TE} {σb : L2.St} {E : XK} {Q : VK} {spL : Addr → Addr → Sp} (L : List Addr) (hs : ∀ c' P' H Q E, H c' = some (CodeP c' (lamIn "law") P') → tm σb H Q → spL c' P' [.ref e] H Q E) (hC : PySem.W.CodeHd base c Pt) (hP : (Pt, lamIn "law") ∈ Rt) (T : TTb Rt H) (ht : H t = some (.ins (He.ga K "Trial") dxt (trF e d0 l0))) (hne : t ≠ e)
    (he : EdAt (He.ga K "Editor") n H e ed dx ba dv lv) (hL : ∀ a ∈ L, a = e ∨ ∃ d, H a = some (.lst d))
    (body : ∀ H7 (Qb : VK), EdAt (He.ga K "Editor") n H7 e ed dx ba dv lv → KN [t] H H7 →
      (∀ v H8, KL L H7 H8 → (∃ d1 l1, H8 e = some (.ins (He.ga K "Editor") dx (edF ba ed.tail d1 l1))) → (∀ H9, KL [e] H8 H9 → EdAt (He.ga K "Editor") n H9 e ed dx ba dv lv → TTb Rt H9 → H9 t = some (.ins (He.ga K "Trial") dxt (trF e dv lv)) → Q v H9) → Qb v H8) → tm σb H7 Qb) :
    ∃ Ty P, (PySem.W.CodeHd base c P ∨ ∃ q', H c = some (CodeP c q' P)) ∧ (P, lamIn "law") ∈ Ty ∧ TTy Rt Ty H ∧
      ∀ f c' P' H2 Ty2, ExtN H H2 → TTy Rt Ty2 H2 → (P', lamIn (lamIn "law")) ∈ Ty2 → H2 c' = some (CodeP c' (lamIn "law") P') → spUnder K f (spL c' P') ([.ref t] ++ [.ref f]) H2 Q E := by
  obtain ⟨Ty, T0⟩ := T
  refine ⟨Ty, Pt, .inl hC, T0.roots _ hP, T0, fun f c' P' H2 Ty2 en T2 hin hc => ?_⟩
  have ht2 : H2 t = some (.ins (He.ga K "Trial") dxt (trF e d0 l0)) := en _ _ ht (fun _ z => by cases z)
  have he2 := he.kn (KN.of (L := []) en) (by simp)
  refine ⟨t, dxt, e, dx, ba, ed.tail, dv, lv, d0, l0, rfl, ht2, he2.at_, hne, fun H7 ht7 k7 => hs _ _ _ _ _ ?_ ?_⟩
  · exact k7 _ _ hc fun z => by
      rw [List.mem_singleton.mp z, ht2] at hc
      cases hc
  have kl7 := PBut.kl ht2 k7
  have he7 := he2.kl kl7 (n1 hne.symm)
  have kn7 : KN [t] H H7 := ((KN.of (L := []) en).mono (by simp)).trans kl7.kn
  have T7 : TTb Rt H7 := ⟨Ty2, T2.kl kl7 ht2⟩
  have tL : t ∉ L := fun z => by
    rcases hL t z with q | ⟨d, q⟩
    · exact hne q
    · rw [ht] at q; cases q
  refine body H7 _ he7 kn7 fun v H8 k8 h8 fin => leave_n hne ⟨k8.get ht7 tL, h8, fun H9 h9 k9 => ?_⟩
  obtain ⟨d1, l1, h8⟩ := h8
  have kl9 := PBut.kl h8 k9
  have T8 : TTb Rt H8 := T7.kl k8 fun a ha => by
    rcases hL a ha with q | ⟨d, q⟩
    · rw [q]; exact .inr (.inr ⟨_, _, _, he7.at_⟩)
    · refine .inr (.inl ⟨d, kn7.get q (n1 fun z => ?_) (fun _ z => by cases z)⟩)
      rw [z, ht] at q; cases q
  refine fin H9 kl9 ⟨he7.ok, h9, (he7.v.mono k8.tups).mono kl9.tups⟩ (T8.kl kl9 fun a ha => by rw [List.mem_singleton.mp ha]; exact .inr (.inr ⟨_, _, _, h8⟩)) (kl9.get (k8.get ht7 tL) (n1 hne))
section
variable {P : Program} {w : World} {K : PySem.W.Frag} {mg : Str → Option Value} {base : Heap} {Rt : List (Addr × Str)}
theorem law_end (T : TxL P K mg) (hbm : ∃ P0, base.BuiltinsAt mg P0) {c Pt : Addr} (hC : PySem.W.CodeHd base c Pt) (hP : (Pt, lamIn "law") ∈ Rt) {A : Around} {outer : List Env} {s0 : Shared} {H0 : Hp} {E : XK}
    (hr : Room 33 (A.deeper (envOfC "law" (defScope s_law) s0.heap.objs.size (He.fAd K ("law", none)) (.ref c)))) (hgd : A.guards = some []) :
    ∃ t, PSs (cxOf CX0 P w K mg base N_law "law" (defScope s_law) (He.fAd K ("law", none)) (.ref c) A outer s0 H0 E) ((defBody s_law).drop 2) t ∧ ∀ (H : Hp) (Q : VK) (x0 x1 x2 x3 x4 x5 x6 x7 x8 x9 x10 x11 x12 : Option V), TTb Rt H → (∀ H', Q (.bl true) H') →
      t { nx := fun _ H' => Q .non H', rt := Q } [x0, x1, x2, x3, x4, x5, x6, x7, x8, x9, x10, x11, x12] H := by
  have nd := sc_law.nd
  have hu := hu_of hr
  have U := T.X.U
  have TE := U.E
  obtain ⟨ds0, v0, b0⟩ := TE.bE0
  have tk0 : Takes (cxOf CX0 P w K mg base N_law "law" (defScope s_law) (He.fAd K ("law", none)) (.ref c) A outer s0 H0 E) (fun _ _ _ _ => False) := fun _ _ ⟨_, _, _, _, _, _, _, _, _, _, _, _, _, _, _, _, f⟩ => f.elim
  refine ⟨_, pss_cons (ps_asg (pe_tup (pa_cons (pe_lst pa_nil) (pa_cons (pe_make TE.mkE (ok_ed_init TE) (hr.mono (by decide)) rfl TE.gE b0 v0 pass0 (pa_cons (pe_tup (pa_cons pe_str (pa_cons pe_str (pa_cons pe_str (pa_cons pe_str (pa_cons pe_str (pa_cons pe_str pa_nil))))))) pa_nil)) pa_nil))) (pg_tup rfl (pgs_cons (pg_name (i := 10) nd rfl (.inr rfl)) (pgs_cons (pg_name (i := 6) nd rfl (.inr rfl)) pgs_nil))))
    (pss_cons (ps_st 11 nd (pe_m0' TE.m_trial TE.cE (ok_ed_trial TE) hr (by decide) (pv 6)))
    (pss_cons (ps_expr (pe_m TE.m_press TE.cE (ok_ed_press TE) hr (by decide) (pv 6) (pa_cons pe_str pa_nil)))
    (pss_cons (ps_if (PW.pt (pw_or (pt_cmpR (op_neD hr.units) (pe_glam1q (q := lamIn "law") (b := base) (hq := ?hq1) (hb9 := rfl) (Rt := Rt) (E := WE fun _ _ _ _ => False) (ok_under U 8) (hr.mono (by decide)) hgd (by rfl) U.d_under.g U.d_under.f.kp (fun σ => passAt tk0 σ) (pv 11) hbm (by rfl)
        (lamCb_ofq (k := 7) (q := lamIn "law") (hq := ?hr1) (t := fun _ _ _ => tM1 K) (N := ["_law_held", "_law_editor_so"]) (ps := ["_law_held"]) (fr := ["_law_editor_so"]) (js := [6]) (lscope_by ?sc1) ?nc1 (free_by ?fb1) ?frk1 rfl ?hb1 ?body1) (free_by ?fc1) (hdef := ?hdef1)) (pe_lst (pa_cons pe_non (pa_cons pe_int pa_nil))) (nomark _)) (pw_or1 (pt_cmpR (op_neD hr.units) (pe_pr TE.p_row TE.cE (ok_ed_row TE) hr (by decide) (pv 6)) (pe_tup (pa_cons pe_str pa_nil)) (nomark _))))) (pss_one (ps_ret pe_bl)) pss_nil)
    (pss_cons (ps_if (PW.pt (pw_or (pt_cmpR op_isnot_bl (pe_m0' TE.m_undo TE.cE (ok_ed_undo TE) hr (by decide) (pv 6)) pe_bl (nomark _)) (pw_or (pt_cmpR op_isnot_bl (pe_glam1q (q := lamIn "law") (b := base) (hq := ?hq2) (hb9 := rfl) (Rt := Rt) (E := WE fun _ _ _ _ => False) (ok_under U 8) (hr.mono (by decide)) hgd (by rfl) U.d_under.g U.d_under.f.kp (fun σ => passAt tk0 σ) (pv 11) hbm (by rfl)
        (lamCb_ofq (k := 7) (q := lamIn "law") (hq := ?hr2) (t := fun _ _ _ => tM2 K) (N := ["_law_held"]) (ps := ["_law_held"]) (fr := []) (js := []) (lscope_by ?sc2) ?nc2 (free_by ?fb2) ?frk2 rfl ?hb2 ?body2) (free_by ?fc2) (hdef := ?hdef2)) pe_bl (nomark _)) (pw_or1 (pt_cmpR op_ne (pe_callB (call_lenI (ok_ed_len TE) TE.m_len.m.at_ TE.m_len.m.fn TE.m_len.b (hr.mono (by decide)) pass0) rfl U.E.G.S.n_len boot_len (pa_cons (pv 6) pa_nil)) pe_int (nomark _)))))) (pss_one (ps_ret pe_bl)) pss_nil)
    (pss_cons (ps_if (PW.pt (pw_or (pt_cmpR op_notN (pe_glam1q (q := lamIn "law") (b := base) (hq := ?hq3) (hb9 := rfl) (Rt := Rt) (E := WE fun _ _ _ _ => False) (ok_under U 8) (hr.mono (by decide)) hgd (by rfl) U.d_under.g U.d_under.f.kp (fun σ => passAt tk0 σ) (pe_m0' TE.m_trial TE.cE (ok_ed_trial TE) hr (by decide) (pv 6)) hbm (by rfl)
        (lamCb_ofq (k := 7) (q := lamIn "law") (hq := ?hr3) (t := fun _ _ _ => tM3 K) (N := ["_law_held", "_law_calls"]) (ps := ["_law_held"]) (fr := ["_law_calls"]) (js := [10]) (lscope_by ?sc3) ?nc3 (free_by ?fb3) ?frk3 rfl ?hb3 ?body3) (free_by ?fc3) (hdef := ?hdef3)) pe_non (nomark _)) (pw_or1 (pt_cmpR (op_neD hr.units) (pv 10) (pe_lst (pa_cons pe_non pa_nil)) (nomark _))))) (pss_one (ps_ret pe_bl)) pss_nil)
    (pss_cons (ps_st 12 nd (pe_glam1q (q := lamIn "law") (b := base) (hq := ?hq4) (hb9 := rfl) (Rt := Rt) (E := WE fun _ _ _ _ => False) (ok_under U 8) (hr.mono (by decide)) hgd (by rfl) U.d_under.g U.d_under.f.kp (fun σ => passAt tk0 σ) (pe_m0' TE.m_trial TE.cE (ok_ed_trial TE) hr (by decide) (pv 6)) hbm (by rfl)
        (lamCb_ofq (k := 7) (q := lamIn "law") (hq := ?hr4) (t := fun _ _ _ => tM4 K) (N := ["_law_held"]) (ps := ["_law_held"]) (fr := []) (js := []) (lscope_by ?sc4) ?nc4 (free_by ?fb4) ?frk4 rfl ?hb4 ?body4) (free_by ?fc4) (hdef := ?hdef4)))
    (pss_one (ps_ret (pe_cmpR (op_eqD hr.units) (pv 12) (pe_lst (pa_cons pe_non (pa_cons (pe_tup (pa_cons pe_str (pa_cons pe_str (pa_cons (pe_tup (pa_cons pe_int pa_nil)) pa_nil)))) (pa_cons pe_bl pa_nil)))) (nomark _)))))))))), ?_⟩
  case body1 =>
    intro c' P' f A1 outer1 s1 H1 E1 hr1 hgd1
    exact pe_lst (pa_cons (pe_m TE.m_press TE.cE (ok_ed_press TE) hr1 (by decide) (pv 0) (pa_cons pe_str pa_nil)) (pa_cons (pe_callB (call_lenI (ok_ed_len TE) TE.m_len.m.at_ TE.m_len.m.fn TE.m_len.b (hr1.mono (by decide)) pass0) rfl U.E.G.S.n_len boot_len (pa_cons (pv 1) pa_nil)) pa_nil))
  case hq1 => unfold lamIn; exact rfl
  case hr1 => unfold lamIn; exact rfl
  case hdef1 => rfl
  case sc1 => decide +kernel
  case nc1 => decide +kernel
  case frk1 => decide +kernel
  case fb1 => rfl
  case fc1 => rfl
  case hb1 =>
    intro q cl pm cv ctv us hl
    match us, hl with
    | [u], _ => rfl
  case body2 =>
    intro c' P' f A1 outer1 s1 H1 E1 hr1 hgd1
    exact pe_m0' TE.m_redo TE.cE (ok_ed_redo TE) hr1 (by decide) (pv 0)
  case hq2 => unfold lamIn; exact rfl
  case hr2 => unfold lamIn; exact rfl
  case hdef2 => rfl
  case sc2 => decide +kernel
  case nc2 => decide +kernel
  case frk2 => decide +kernel
  case fb2 => rfl
  case fc2 => rfl
  case hb2 =>
    intro q cl pm cv ctv us hl
    match us, hl with
    | [u], _ => rfl
  case body3 =>
    intro c' P' f A1 outer1 s1 H1 E1 hr1 hgd1
    exact pe_bm PySem.F.plainAttrs_list PySem.F.slot_list_append PySem.F.type_list_append mt_append (pv 1) (pa_cons (pe_m TE.m_press TE.cE (ok_ed_press TE) hr1 (by decide) (pv 0) (pa_cons pe_str pa_nil)) pa_nil)
  case hq3 => unfold lamIn; exact rfl
  case hr3 => unfold lamIn; exact rfl
  case hdef3 => rfl
  case sc3 => decide +kernel
  case nc3 => decide +kernel
  case frk3 => decide +kernel
  case fb3 => rfl
  case fc3 => rfl
  case hb3 =>
    intro q cl pm cv ctv us hl
    match us, hl with
    | [u], _ => rfl
  case body4 =>
    intro c' P' f A1 outer1 s1 H1 E1 hr1 hgd1
    exact pe_lst (pa_cons (pe_m TE.m_press TE.cE (ok_ed_press TE) hr1 (by decide) (pv 0) (pa_cons pe_str pa_nil)) (pa_cons (pe_pr TE.p_page TE.cE (ok_ed_page TE) hr1 (by decide) (pv 0)) (pa_cons (pe_m0' TE.m_undo TE.cE (ok_ed_undo TE) hr1 (by decide) (pv 0)) pa_nil)))
  case hq4 => unfold lamIn; exact rfl
  case hr4 => unfold lamIn; exact rfl
  case hdef4 => rfl
  case sc4 => decide +kernel
  case nc4 => decide +kernel
  case frk4 => decide +kernel
  case fb4 => rfl
  case fc4 => rfl
  case hb4 =>
    intro q cl pm cv ctv us hl
    match us, hl with
    | [u], _ => rfl
  intro H Q x0 x1 x2 x3 x4 x5 x6 x7 x8 x9 x10 x11 x12 tt kq
  let bk : Bk := ⟨"always", "always", "none", "own", "own", "never"⟩
  have bok : bk.ok := ⟨by decide, by decide, by decide, by decide, by decide, by decide⟩
  refine ⟨Nat.zero_le _, fun ca hca => ⟨(show 6 ≤ sizeLine by decide), fun ba hba => fun e dx he hdx hne => ?_⟩⟩
  have s1 := same_new (o := .lst []) hca
  have s2 := same_new (o := .tup [.str "always", .str "always", .str "none", .str "own", .str "own", .str "never"]) hba
  have s3 := same_made (C := He.ga K "Editor") he hdx hne
  refine ⟨e, dx, ba, bk, [], rfl, upd_same, s3 _ _ upd_same, bok, (fun c hc => by cases hc), by decide, fun H4 dv lv at4 k4 => ⟨rfl, ?_⟩⟩
  have s34 := Kp.fresh s3 he k4
  have hca4 := s34 _ _ (s2 _ _ (upd_same (H := H) (a := ca) (o := .lst [])))
  have tt4 := tt.same (s1.trans (s2.trans s34))
  clear s34 s1 s2 s3 k4 he hdx hne hba hca
  refine ⟨(show 2 ≤ sizeLine by decide), fun t0 ht0 => ⟨t0, _, rfl, .inl (.inl upd_same), rfl, _, _, rfl, _, [], rfl, rfl, ?_⟩⟩
  have s5 := same_new (o := .tup [.ref ca, .ref e]) ht0
  have at5 := at4.same s5
  have hca5 := s5 _ _ hca4
  have tt5 := tt4.same s5
  revert at5 hca5 tt5
  generalize upd H4 t0 _ = H5
  intro at5 hca5 tt5
  clear s5 ht0 at4 hca4 tt4 tt
  -- the manager
  refine ⟨_, rfl, e, dx, _, rfl, at5.at_, rfl, e, dx, _, dv, lv, rfl, at5.at_, rfl, rfl, fun H6 t dxt ht6 htn s6 => ?_⟩
  have at6 := at5.same s6
  have hca6 := s6 _ _ hca5
  have tt6 := tt5.same s6
  have hte : t ≠ e := fun z => by have := at5.at_; rw [← z, htn] at this; cases this
  clear s6 htn at5 hca5 tt5
  -- press("a")
  refine ⟨_, rfl, e, dx, _, rfl, at6.at_, rfl, e, 0, fresh bk [], Ky.sg 97, dx, ba, dv, lv, rfl, at6, (show 97 ∈ sigs by decide), by decide, fun H7 dv7 lv7 at7 k7 => ?_⟩
  have kl7 := PBut.kl at6.at_ k7
  have ht7 := kl7.get ht6 (n1 hte)
  have hca7 := kl7.get hca6 (n1 fun z => by rw [z, at6.at_] at hca6; cases hca6)
  have tt7 : TTb Rt H7 := tt6.kl kl7 fun a ha => by rw [List.mem_singleton.mp ha]; exact .inr (.inr ⟨_, _, _, at6.at_⟩)
  clear k7 kl7 at6 ht6 hca6 tt6
  -- under(manager, ..)
  refine ⟨_, rfl, under_go (tm := tM1 K) (σb := [some (.ref e), some (.ref e)]) [e] (fun _ _ _ _ _ a b => ⟨a, b⟩) hC hP tt7 ht7 hte at7 (fun a ha => .inl (List.mem_singleton.mp ha)) fun H8 Qb at8 kn8 fin => ?_⟩
  have hca8 := kn8.get hca7 (n1 fun z => by rw [z, ht7] at hca7; cases hca7) (fun _ z => by cases z)
  unfold tM1 tPr rLenE
  refine ⟨_, rfl, e, dx, _, rfl, at8.at_, rfl, e, 1, _, Ky.sg 98, dx, ba, dv7, lv7, rfl, at8, (show 98 ∈ sigs by decide), by decide, fun H9 dv9 lv9 at9 k9 => ?_⟩
  have kl9 := PBut.kl at8.at_ k9
  refine ⟨_, rfl, e, dx, _, rfl, at9.at_, e, 2, _, dx, ba, dv9, lv9, rfl, at9, by decide, fun H10 v10 s10 hv10 => ⟨2, hv10.trans rfl, by decide, (show 2 ≤ sizeLine by decide), fun l hl => ?_⟩⟩
  have at10 := at9.same s10
  have sl := same_new (o := .lst [.non, .int 2]) hl
  have hle : l ≠ e := fun z => by have := at10.at_; rw [← z, hl] at this; cases this
  have hca10 := (kl9.thenS (s10.trans sl)).get hca8 (n1 fun z => by rw [z, at8.at_] at hca8; cases hca8)
  refine fin _ _ (kl9.thenS (s10.trans sl)) ⟨dv9, lv9, (at10.same sl).at_⟩ fun H11 kl11 at11 tt11 ht11 => ?_
  have hl11 := kl11.get (upd_same (H := H10) (a := l) (o := .lst [.non, .int 2])) (n1 hle)
  have hca11 := kl11.get hca10 (n1 fun z => by rw [z, at8.at_] at hca8; cases hca8)
  clear kl11 hle sl at10 s10 hv10 kl9 k9 at9 fin at8 kn8 hca8 hca10 hl at7 ht7 hca7 tt7
  refine ⟨(show 2 ≤ sizeLine by decide), fun l2 hl2 => ?_⟩
  have s12 := same_new (o := .lst [.non, .int 2]) hl2
  refine neD_same (d := .list [.none, .int 2]) (.lst (.inl (.inl (s12 _ _ hl11))) (.cons .non (.cons (.int _) .nil))) (.lst (.inl (.inl upd_same)) (.cons .non (.cons (.int _) .nil))) (by decide +kernel) ⟨_, rfl, iteF ?_⟩
  have at12 := at11.same s12
  have hca12 := s12 _ _ hca11
  have ht12 := s12 _ _ ht11
  have tt12 := tt11.same s12
  revert at12 hca12 ht12 tt12
  generalize upd H11 l2 _ = H12
  intro at12 hca12 ht12 tt12
  clear s12 hl2 hl11 at11 hca11 ht11 tt11
  -- row
  refine ⟨_, rfl, e, dx, _, rfl, at12.at_, e, 1, _, dx, ba, dv7, lv7, rfl, at12, by decide, fun H13 v13 s13 hv13 => ⟨(show 1 ≤ sizeLine by decide), fun t14 ht14 => ?_⟩⟩
  have s14 := same_new (o := .tup [.str "a"]) ht14
  refine neD_same (d := .tuple [.str "a"]) (DT.dp _ _ (hv13.same s14)) (.tup (.inl (.inl upd_same)) (.cons (.str _) .nil)) (by decide +kernel) ⟨_, rfl, iteF ?_⟩
  have s12 := s13.trans s14
  have at14 := at12.same s12
  have hca14 := s12 _ _ hca12
  have ht14' := s12 _ _ ht12
  have tt14 := tt12.same s12
  revert at14 hca14 ht14' tt14
  generalize upd H13 t14 _ = H14
  intro at14 hca14 ht14' tt14
  clear s14 s12 s13 hv13 at12 hca12 ht12 tt12 ht14
  -- undo
  refine ⟨_, rfl, e, dx, _, rfl, at14.at_, rfl, e, 1, _, dx, ba, dv7, lv7, rfl, at14, by decide, fun H15 dv15 lv15 at15 k15 => ⟨_, _, rfl, rfl, _, rfl, ?_⟩⟩
  have kl15 := PBut.kl at14.at_ k15
  have ht15 := kl15.get ht14' (n1 hte)
  have hca15 := kl15.get hca14 (n1 fun z => by rw [z, at14.at_] at hca14; cases hca14)
  have tt15 : TTb Rt H15 := tt14.kl kl15 fun a ha => by rw [List.mem_singleton.mp ha]; exact .inr (.inr ⟨_, _, _, at14.at_⟩)
  clear k15 kl15 at14 ht14' hca14 tt14
  refine if_f rfl ?_
  -- under(manager, redo)
  refine ⟨_, rfl, under_go (tm := tM2 K) (σb := [some (.ref e)]) [e] (fun _ _ _ _ _ a b => ⟨a, b⟩) hC hP tt15 ht15 hte at15 (fun a ha => .inl (List.mem_singleton.mp ha)) fun H16 Qb at16 kn16 fin => ?_⟩
  have hca16 := kn16.get hca15 (n1 fun z => by rw [z, ht15] at hca15; cases hca15) (fun _ z => by cases z)
  unfold tM2
  refine ⟨_, rfl, e, dx, _, rfl, at16.at_, rfl, e, 1, _, dx, ba, dv15, lv15, rfl, at16, by decide, fun H17 dv17 lv17 at17 k17 => ?_⟩
  have kl17 := PBut.kl at16.at_ k17
  have hca17 := kl17.get hca16 (n1 fun z => by rw [z, at16.at_] at hca16; cases hca16)
  refine fin _ _ kl17 ⟨dv17, lv17, at17.at_⟩ fun H18 kl18 at18 tt18 ht18 => ⟨_, _, rfl, rfl, _, rfl, if_f rfl ?_⟩
  have hca18 := kl18.get hca17 (n1 fun z => by rw [z, at16.at_] at hca16; cases hca16)
  clear kl18 kl17 k17 at17 hca17 fin at16 kn16 hca16 at15 ht15 hca15 tt15
  -- len
  refine ⟨_, rfl, e, dx, _, rfl, at18.at_, e, 1, _, dx, ba, dv15, lv15, rfl, at18, by decide, fun H19 v19 s19 hv19 => ⟨0, hv19.trans rfl, by decide, rfl, _, rfl, iteF ?_⟩⟩
  have at19 := at18.same s19
  have hca19 := s19 _ _ hca18
  have tt19 := tt18.same s19
  clear s19 hv19 at18 hca18 tt18 ht18
  -- under(editor.trial(), append)
  refine ⟨_, rfl, e, dx, _, rfl, at19.at_, rfl, e, dx, _, dv15, lv15, rfl, at19.at_, rfl, rfl, fun H20 t2 dxt2 ht20 htn s20 => ?_⟩
  have ht2e : t2 ≠ e := fun z => by have := at19.at_; rw [← z, htn] at this; cases this
  have at20 := at19.same s20
  have hca20 := s20 _ _ hca19
  have tt20 := tt19.same s20
  have hce : ca ≠ e := fun z => by rw [z, at19.at_] at hca19; cases hca19
  clear s20 htn at19 hca19 tt19
  refine under_go (tm := tM3 K) (σb := [some (.ref e), some (.ref ca)]) [e, ca] (fun _ _ _ _ _ a b => ⟨a, b⟩) hC hP tt20 ht20 ht2e at20 (fun a ha => (List.mem_cons.mp ha).elim .inl fun z => .inr ⟨[], (congrArg H20 (List.mem_singleton.mp z)).trans hca20⟩) fun H21 Qb at21 kn21 fin => ?_
  have hca21 := kn21.get hca20 (n1 fun z => by rw [z, ht20] at hca20; cases hca20) (fun _ z => by cases z)
  unfold tM3 tPr
  refine ⟨_, rfl, .inl ⟨rfl, _, .inl (.inl hca21)⟩, _, rfl, e, dx, _, rfl, at21.at_, rfl, e, 1, _, Ky.sg 40, dx, ba, dv15, lv15, rfl, at21, (show 40 ∈ sigs by decide), by decide, fun H22 dv22 lv22 at22 k22 => ?_⟩
  have kl22 := PBut.kl at21.at_ k22
  have hca22 := kl22.get hca21 (n1 hce)
  refine ⟨ca, [], .non, rfl, rfl, hca22, (by decide), fin _ _ (fun b u hb p => ?_) ⟨dv22, lv22, (upd_ne hce.symm).trans at22.at_⟩ fun H23 kl23 at23 tt23 ht23 => ⟨rfl, _, rfl, if_f rfl ?_⟩⟩
  · have hbc : b ≠ ca := fun z => by
      rcases p with p | ⟨xs, p⟩
      · exact p (by rw [z]; simp)
      · rw [z, hca21, p] at hb; cases hb
    refine (upd_ne hbc).trans (kl22 b u hb (p.elim (fun p => .inl (n1 fun z => p (by rw [z]; simp))) .inr))
  have hca23 := kl23.get (upd_same (H := H22) (a := ca) (o := .lst ([] ++ [.non]))) (n1 hce)
  clear kl23 hca22 kl22 k22 at22 fin hca21 kn21 at21 at20 ht20 hca20 tt20 ht23
  refine ⟨_, rfl, (show 1 ≤ sizeLine by decide), fun l hl => ?_⟩
  have s24 := same_new (o := .lst [.non]) hl
  refine neD_same (d := .list [.none]) (.lst (.inl (.inl (s24 _ _ hca23))) (.cons .non .nil)) (.lst (.inl (.inl upd_same)) (.cons .non .nil)) (by decide +kernel) ⟨_, rfl, iteF ?_⟩
  have at24 := at23.same s24
  have tt24 := tt23.same s24
  revert at24 tt24
  generalize upd H23 l _ = H24
  intro at24 tt24
  clear s24 hl hca23 at23 tt23
  -- the last one
  refine ⟨_, rfl, e, dx, _, rfl, at24.at_, rfl, e, dx, _, dv15, lv15, rfl, at24.at_, rfl, rfl, fun H25 t3 dxt3 ht25 htn s25 => ?_⟩
  have ht3e : t3 ≠ e := fun z => by have := at24.at_; rw [← z, htn] at this; cases this
  have at25 := at24.same s25
  have tt25 := tt24.same s25
  clear s25 htn at24 tt24
  refine under_go (tm := tM4 K) (σb := [some (.ref e)]) [e] (fun _ _ _ _ _ a b => ⟨a, b⟩) hC hP tt25 ht25 ht3e at25 (fun a ha => .inl (List.mem_singleton.mp ha)) fun H26 Qb at26 kn26 fin => ?_
  unfold tM4 tPr
  refine ⟨_, rfl, e, dx, _, rfl, at26.at_, rfl, e, 1, _, Ky.sg 40, dx, ba, dv15, lv15, rfl, at26, (show 40 ∈ sigs by decide), by decide, fun H27 dv27 lv27 at27 k27 => ?_⟩
  have kl27 := PBut.kl at26.at_ k27
  refine ⟨_, rfl, e, dx, _, rfl, at27.at_, e, 2, _, dx, ba, dv27, lv27, rfl, at27, by decide, fun H28 v28 s28 hv28 => ?_⟩
  have at28 := at27.same s28
  refine ⟨_, rfl, e, dx, _, rfl, at28.at_, rfl, e, 2, _, dx, ba, dv27, lv27, rfl, at28, by decide, fun H29 dv29 lv29 at29 k29 => ⟨(show 3 ≤ sizeLine by decide), fun l hl => ?_⟩⟩
  have kl29 := PBut.kl at28.at_ k29
  have sl := same_new (o := .lst [.non, v28, .bl true]) hl
  have hle : l ≠ e := fun z => by have := at29.at_; rw [← z, hl] at this; cases this
  have v29 : DT (upd H29 l (.lst [.non, v28, .bl true])) _ v28 := DT.mono (kl29.thenS sl).tups _ _ hv28
  have klA : KL [e] H26 H29 := (kl27.thenS s28).trans kl29
  refine fin _ _ (klA.thenS sl) ⟨dv29, lv29, (at29.same sl).at_⟩ fun H30 kl30 at30 tt30 ht30 => ?_
  have hl30 := kl30.get (upd_same (H := H29) (a := l) (o := .lst [.non, v28, .bl true])) (n1 hle)
  have v30 := DT.mono kl30.tups _ _ v29
  clear klA kl30 at30 tt30 ht30 v29 hle sl kl29 k29 at29 at28 hv28 s28 kl27 k27 at27 fin kn26 at26 at25 ht25 tt25 hl
  have hnow : (keyed (undo (keyed (fresh bk []) [Ky.sg 97])) [Ky.sg 40]).now = ([40], [(41, true)]) := by decide +kernel
  rw [hnow] at v30
  refine ⟨_, rfl, (show 1 ≤ sizeLine by decide), fun a1 m1 => ⟨(show 3 ≤ sizeLine by decide), fun a2 m2 => ⟨(show 3 ≤ sizeLine by decide), fun a3 m3 => ?_⟩⟩⟩
  have s1 := same_new (o := .tup [.int 0]) m1
  have s2 := same_new (o := .tup [.str "(", .str ")", .ref a1]) m2
  have s3 := same_new (o := .lst [.non, .ref a2, .bl true]) m3
  have e1 := s3 _ _ (s2 _ _ (upd_same (H := H30) (a := a1) (o := .tup [.int 0])))
  have e2 := s3 _ _ (upd_same (a := a2) (o := .tup [.str "(", .str ")", .ref a1]))
  have s := s1.trans (s2.trans s3)
  refine eqD_same (d := .list [.none, .tuple [.str "(", .str ")", .tuple [.int 0]], .bool true]) (.lst (.inl (.inl (s _ _ hl30))) (.cons .non (.cons (DT.dp _ _ (v30.same s)) (.cons (.bl true) .nil)))) ?_ (by decide +kernel) (kq _)
  exact .lst (.inl (.inl upd_same)) (.cons .non (.cons (.tup (.inl (.inl e2)) (.cons (.str _) (.cons (.str _) (.cons (.tup (.inl (.inl e1)) (.cons (.int _) .nil)) .nil)))) (.cons (.bl true) .nil)))
end
end Ob
/-! The law. -/
namespace Ob
open PySem PySem.Spec PyProof.Rows L2 L2H LamX NdefX
abbrev spLaw (K : PySem.W.Frag) (Rt : List (Addr × Str)) : Sp := fun vs H Q _ => ∃ (a : Addr) (ns : List Int), vs = [.ref a] ∧ SqL K H a (ns.map V.int) ∧ ns.length ≤ 63 ∧ TTb Rt H ∧ ∀ H', Q (.bl true) H'
section
variable {P : Program} {w : World} {K : PySem.W.Frag} {mg : Str → Option Value} {base : Heap} {Rt : List (Addr × Str)}
theorem ok_law (T : TxL P K mg) (d_law : Df K mg "law" s_law p_law) (R : TrF K mg base Rt) (hcl : CodF K base Rt "_law_later_right") (hco : CodF K base Rt "law") : FWk P w K mg base CX0 34 ("law", none) p_law (spLaw K Rt) := by
  obtain ⟨c, Pt, hc, hC, hP⟩ := hco
  refine okWc d_law.f sc_law (fun vs H Q E h => ?_) (fun A outer s0 H vs Q E hr hgd h => ?_)
  · obtain ⟨_, _, rfl, _⟩ := h
    rfl
  rw [hc] at hr ⊢
  obtain ⟨a, ns, rfl, hs, hn, tt, kq⟩ := h
  have nd := sc_law.nd
  have U := T.X.U
  have po : PassesOwn (model P w) (cxOf CX0 P w K mg base N_law "law" (defScope s_law) (He.fAd K ("law", none)) (.ref c) A outer s0 H E).A (cxOf CX0 P w K mg base N_law "law" (defScope s_law) (He.fAd K ("law", none)) (.ref c) A outer s0 H E).env (cxOf CX0 P w K mg base N_law "law" (defScope s_law) (He.fAd K ("law", none)) (.ref c) A outer s0 H E).xe := passes_of (X := cxOf CX0 P w K mg base N_law "law" (defScope s_law) (He.fAd K ("law", none)) (.ref c) A outer s0 H E) rfl
  obtain ⟨t1, ht1, q1⟩ := law_turn (w := w) T R R.bm hcl (A := A) (outer := outer) (s0 := s0) (H0 := H) (E := E) (c := .ref c) hr hgd
  obtain ⟨t2, ht2, q2⟩ := law_end (w := w) T R.bm hC hP (A := A) (outer := outer) (s0 := s0) (H0 := H) (E := E) hr hgd
  refine ⟨_, pss_cons (ps_st 1 nd (pe_f T.d_begun (ok_begun T) hr (by decide) (pa_cons (pv 0) pa_nil)))
    (C8.pss_cut (ps_for po rfl (pi_range1 rfl T.n_range (pa_cons (pe_op op_add pe_int (pe_callB (call_min2 rfl) rfl T.n_min (by decide +kernel) (pa_cons pe_int (pa_cons (pe_callB call_len rfl U.E.G.S.n_len boot_len (pa_cons (pv 0) pa_nil)) pa_nil)))) pa_nil)) (pg_nm 2 nd) ht1) ht2), ?_⟩
  refine ⟨_, rfl, a, ns, rfl, hs, by omega, fun H1 m cl G m1 _ _ _ s1 => ?_⟩
  have tt1 := tt.same s1
  refine ⟨fun σ H' => (∃ x2 x3 x4 x5 x6 x7 x8 x9 x10 x11 x12, σ = [some (.ref a), some (.ref m), x2, x3, x4, x5, x6, x7, x8, x9, x10, x11, x12]) ∧ TTb Rt H', ?_, ?_⟩
  · refine ⟨_, rfl, _, ns.length, rfl, .inl ⟨_, s1.seq hs, (List.length_map ..).symm⟩, ?_⟩
    refine ⟨_, _, rfl, ?_⟩
    refine ⟨_, _, rfl, rfl, ?_⟩
    generalize hz : (if (ns.length : Int) < 3 then (ns.length : Int) else 3) = z
    have z0 : 0 ≤ z ∧ z ≤ 3 := by subst hz; split <;> omega
    refine ⟨_, rfl, by omega, by omega, ?_⟩
    refine for_it (walk_range (lo := 0) (n := (2 + z).toNat)) (fun i σ H' => (∃ x2 x3 x4 x5 x6 x7 x8 x9 x10 x11 x12, σ = [some (.ref a), some (.ref m), x2, x3, x4, x5, x6, x7, x8, x9, x10, x11, x12]) ∧ i ≤ 5 ∧ MAt H' m cl G (600 * i) ∧ TTb Rt H') ⟨⟨_, _, _, _, _, _, _, _, _, _, _, rfl⟩, by decide, m1, tt1⟩ (fun _ _ _ _ _ => True.intro) (fun i x σ H2 H2' hi h2 hy => ?_) (fun σ H2 h2 => ⟨h2.1, h2.2.2.2⟩)
    obtain ⟨⟨x2, x3, x4, x5, x6, x7, x8, x9, x10, x11, x12, e2⟩, _, m2, tt2⟩ := h2
    obtain ⟨rfl, rfl⟩ := hy
    subst e2
    have hi' : i < 5 := by have : i < (2 + z).toNat := hi; omega
    refine q1 m cl G (600 * i) H2' _ (.ref a) _ x3 x4 x5 x6 x7 x8 x9 x10 x11 x12 m2 (by omega) tt2 fun H3 y3 y4 y5 y6 y7 y8 y9 m3 tt3 => ⟨⟨_, _, _, _, _, _, _, _, _, _, _, rfl⟩, hi', ?_, tt3⟩
    rw [show 600 * (i + 1) = 600 * i + 600 by omega]
    exact m3
  · rintro σ H2 ⟨⟨x2, x3, x4, x5, x6, x7, x8, x9, x10, x11, x12, rfl⟩, tt2⟩
    exact q2 H2 Q _ _ _ _ _ _ _ _ _ _ _ _ _ tt2 kq
end
end Ob
/-! What the head must tell: defs, Bools of the written part, tables. -/
namespace Ob
open PySem PySem.Spec PyProof.Rows L2 L2H LamX NdefX
/-- a def: where it stands, what it is -/
structure Dx where
  ad : PySem.W.Frag → Addr
  name : Str
  qual : Str
  st : Stmt
  clo : List Str := []
  kwd : List (Str × He.Dv) := []
abbrev ObV : Type := Option (Str × Str × Arguments × FuncBody × Scope × Addr × List Str × Addr)
def seen (K : PySem.W.Frag) (a : Addr) : ObV := match K.lookup a with
  | some ⟨_, _, .func z, _⟩ => some (z.name, z.qualname, z.params, z.body, z.scope, z.globals, z.closure.map Prod.fst, z.builtins)
  | _ => none
def Dx.due (d : Dx) : ObV := some (d.name, d.qual, defArgs d.st, .stmts (defBody d.st), defScope d.st, mainGlobals, d.clo, builtinsNs)
def Dx.kws (K : PySem.W.Frag) (d : Dx) : List (Str × V) := d.kwd.map fun z => (z.1, z.2.v K)
def Dx.fine (K : PySem.W.Frag) (d : Dx) : Bool := (match K.lookup (d.ad K) with
  | some ⟨_, _, .func z, _⟩ => PySem.W.codeIn K z.code d.qual && (He.dflB K z.defaults [] && He.kwdB K z.kwdefaults (d.kws K))
  | _ => false) && PySem.W.keepIn K (.ref (d.ad K))
theorem and2 {a b : Bool} (h : (a && b) = true) : a = true ∧ b = true := by
  cases a <;> cases b <;> first | exact ⟨rfl, rfl⟩ | cases h
theorem Dx.parts {K : PySem.W.Frag} {d : Dx} (e : seen K (d.ad K) = d.due) (h : d.fine K = true) : ∃ oc od dV kV doc pm an cdv ct bs osl cl, cl.map Prod.fst = d.clo ∧ fdAt K (d.ad K) = ⟨d.name, d.qual, defArgs d.st, .stmts (defBody d.st), defScope d.st, mainGlobals, cl, dV, kV, doc, pm, an, cdv, ct, bs⟩ ∧ bs = builtinsNs ∧
    K.lookup (d.ad K) = some ⟨oc, od, .func (fdAt K (d.ad K)), osl⟩ ∧ PySem.W.codeIn K cdv d.qual = true ∧ DflV K dV [] ∧ KwdV K kV (d.kws K) ∧ PySem.W.keepIn K (.ref (d.ad K)) = true := by
  obtain ⟨h, kp⟩ := and2 h
  unfold seen at e
  unfold fdAt
  cases lk : K.lookup (d.ad K) with
  | none => rw [lk] at h; cases h
  | some o =>
    obtain ⟨oc, od, dt, osl⟩ := o
    rw [lk] at h e
    cases dt with
    | func z =>
      obtain ⟨a1, a2, a3, a4, a5, a6, a7, a8, a9, a10, a11, a12, a13, a14, a15⟩ := z
      have e' := Option.some.inj (show some (a1, a2, a3, a4, a5, a6, a7.map Prod.fst, a15) = some (d.name, d.qual, defArgs d.st, FuncBody.stmts (defBody d.st), defScope d.st, mainGlobals, d.clo, builtinsNs) from e)
      simp only [Prod.mk.injEq] at e'
      obtain ⟨rfl, rfl, rfl, rfl, rfl, rfl, e7, rfl⟩ := e'
      obtain ⟨h1, h2⟩ := and2 h
      obtain ⟨h2, h3⟩ := and2 h2
      exact ⟨oc, od, a8, a9, a10, a11, a12, a13, a14, _, osl, a7, e7, rfl, rfl, rfl, h1, He.dflB_ok h2, He.kwdB_ok h3, kp⟩
    | _ => cases h
theorem Dx.funD {K : PySem.W.Frag} {d : Dx} (e : seen K (d.ad K) = d.due) (h : d.fine K = true) (hc : d.clo = []) : FunD K d.name d.qual (defArgs d.st) (defBody d.st) (defScope d.st) [] (d.kws K) (d.ad K) (fdAt K (d.ad K)) := by
  obtain ⟨oc, od, dV, kV, doc, pm, an, cdv, ct, bs, osl, cl, e1, e2, rfl, lk, h1, h2, h3, kp⟩ := Dx.parts e h
  rw [hc] at e1
  have : cl = [] := List.map_eq_nil_iff.mp e1
  subst this
  exact ⟨⟨oc, od, dV, kV, doc, pm, an, cdv, ct, osl, e2, lk, h1, h2, h3⟩, kp⟩
end Ob
/-! The facts of the law, out of what the head tells. -/
namespace Ob
open PySem PySem.Spec PyProof.Rows L2 L2H LamX NdefX
abbrev Pr : Program := PySem.Challenge.pw_ownclosers_k90_whole_trials_and_copies
/-! ### Bools -/
def eqB (a b : Option (Option Value)) : Bool := decide (a = b)
theorem eqB_ok {a b : Option (Option Value)} (h : eqB a b = true) : a = b := of_decide_eq_true h
def tupB (K : PySem.W.Frag) (a : Addr) (xs : List V) : Bool := match K.lookup a with
  | some ⟨.type c, _, .seq its _, _⟩ => decide (c = "tuple") && (decide (its.size ≤ sizeLine) && He.relAll xs its.toList)
  | _ => false
theorem tupB_ok {K : PySem.W.Frag} {a : Addr} {xs : List V} (h : tupB K a xs = true) : KTup K a xs := by
  unfold tupB at h
  cases lk : K.lookup a with
  | none => rw [lk] at h; cases h
  | some o =>
    obtain ⟨oc, od, dt, sl⟩ := o
    rw [lk] at h
    cases oc with
    | type c =>
      cases dt with
      | seq its n =>
        obtain ⟨h1, h2⟩ := and2 h
        obtain ⟨h2, h3⟩ := and2 h2
        exact ⟨_, its, n, lk, congrArg Value.type (of_decide_eq_true h1), rfl, of_decide_eq_true h2, He.relAll_ok h3⟩
      | _ => cases h
    | _ => cases dt <;> cases h
/-- the tuple of the choices -/
def chAd (K : PySem.W.Frag) : List Addr := match K.lookup (He.ga K "CHOICES") with
  | some ⟨_, _, .seq its _, _⟩ => its.toList.map fun v => match v with
    | .ref a => a
    | _ => 0
  | _ => []
def chB (K : PySem.W.Frag) : Bool := tupB K (He.ga K "CHOICES") ((chAd K).map V.ref) && (decide ((chAd K).length = 6) && ((chAd K).zip chs).all fun q => tupB K q.1 (q.2.map V.str))
theorem chB_ok {K : PySem.W.Frag} {mg : Str → Option Value} (h : chB K = true) (hg : mg "CHOICES" = some (.ref (He.ga K "CHOICES"))) :
    ∃ (a : Addr) (cs : List Addr), Gv mg "CHOICES" (.ref a) ∧ KTup K a (cs.map V.ref) ∧ cs.length = 6 ∧ ∀ (i : Nat) (c : Addr), cs[i]? = some c → ∃ zs : List Str, chs[i]? = some zs ∧ KTup K c (zs.map V.str) := by
  obtain ⟨h1, h2⟩ := and2 h
  obtain ⟨h2, h3⟩ := and2 h2
  have hl : (chAd K).length = 6 := of_decide_eq_true h2
  refine ⟨_, chAd K, ⟨_, hg, rfl⟩, tupB_ok h1, hl, fun i c hc => ?_⟩
  have hi := (List.getElem?_eq_some_iff.mp hc).1
  obtain ⟨zs, hz⟩ : ∃ zs, chs[i]? = some zs := ⟨_, List.getElem?_eq_getElem (show i < chs.length by show i < 6; omega)⟩
  refine ⟨zs, hz, tupB_ok (List.all_eq_true.mp h3 (c, zs) (List.mem_of_getElem? (i := i) ?_))⟩
  rw [List.getElem?_zip_eq_some]
  exact ⟨hc, hz⟩
def tyB (K : PySem.W.Frag) (c : Str) : Bool := eqB (PySem.W.findIn K (.ref (He.ga K c)) "__class__") (some (some (.builtin "object.__class__"))) && (eqB (PySem.W.specialIn K (.builtin "object.__class__") "__get__") (some (some (.builtin "getset_descriptor.__get__"))) && (decide (PySem.W.takesIn K (.builtin "object.__class__") = some true) && decide (PySem.W.mroIn K (He.ga K c) (.type "object") = some true)))
theorem tyB_ok {K : PySem.W.Frag} {c : Str} {H : Hp} {a dx : Addr} {fs : List (Str × V)} (C : Cls K (He.ga K c)) (h : tyB K c = true) (e : H a = some (.ins (He.ga K c) dx fs)) : TyX K H (.ref a) (.ref (He.ga K c)) := by
  obtain ⟨h1, h2⟩ := and2 h
  obtain ⟨h2, h3⟩ := and2 h2
  obtain ⟨h3, h4⟩ := and2 h3
  exact .base (.ins e C (eqB_ok h1) (eqB_ok h2) (of_decide_eq_true h3) (of_decide_eq_true h4))
theorem kit_self {K : PySem.W.Frag} {v : Value} : PySem.W.kitOne K v v = some true := by
  unfold PySem.W.kitOne
  rw [if_pos (by simp)]
def prB (K : PySem.W.Frag) (c m : Str) : Bool := eqB (PySem.W.findIn K (.ref (He.ga K c)) m) (some (some (.ref (He.fAd K (c, some m))))) && (eqB (PySem.W.specialIn K (.ref (He.fAd K (c, some m))) "__get__") (some (some (.builtin "property.__get__"))) && (decide (PySem.W.takesIn K (.ref (He.fAd K (c, some m))) = some true) && (match PySem.W.recIn K (He.fAd K (c, some m)) "property" with
  | some (.ref _ :: _) => true
  | _ => false)))
theorem prB_ok {K : PySem.W.Frag} {c m : Str} (h : prB K c m = true) : PropOf K (He.ga K c) m (He.fAd K (c, some m)) (gtAd K c m) := by
  obtain ⟨h1, h2⟩ := and2 h
  obtain ⟨h2, h3⟩ := and2 h2
  obtain ⟨h3, h4⟩ := and2 h3
  refine ⟨eqB_ok h1, eqB_ok h2, of_decide_eq_true h3, ?_⟩
  unfold gtAd
  cases e : PySem.W.recIn K (He.fAd K (c, some m)) "property" with
  | none => rw [e] at h4; cases h4
  | some l =>
    rw [e] at h4
    cases l with
    | nil => cases h4
    | cons v r => cases v with
      | ref g => exact ⟨r, rfl⟩
      | _ => cases h4
def oexB (K : PySem.W.Frag) (C : Addr) : Bool := (match K.lookup C with
  | some ⟨.type "type", _, .cls z, sl⟩ => (match z.mro, sl.toList with
    | .ref D :: bm, [_, _, _, _, some (.builtin n), _] => decide (D = C) && (decide (n = "ValueError.__new__") && (!z.hasDel && (z.hasDict && PySem.HandSPX.refsVE bm)))
    | _, _ => false)
  | _ => false) && (eqB (PySem.W.findIn K (.ref C) "__setattr__") (some (some (.builtin "object.__setattr__"))) && (decide (PySem.W.subIn K (.ref C) (.type "BaseException") = some true) && (decide (PySem.W.typeIn K (.ref C) = some (.type "type")) && PySem.W.keepIn K (.ref C))))
theorem oexB_ok {K : PySem.W.Frag} {C : Addr} (h : oexB K C = true) : OexC K C := by
  obtain ⟨h1, h2⟩ := and2 h
  obtain ⟨h2, h3⟩ := and2 h2
  obtain ⟨h3, h4⟩ := and2 h3
  obtain ⟨h4, h5⟩ := and2 h4
  refine ⟨?_, eqB_ok h2, of_decide_eq_true h3, of_decide_eq_true h4, h5⟩
  split at h1
  · rename_i dd z sl lk
    split at h1
    · rename_i D bm k0 k1 k2 k3 n k5 hm hs
      obtain ⟨g1, h1⟩ := and2 h1
      obtain ⟨g2, h1⟩ := and2 h1
      obtain ⟨g3, h1⟩ := and2 h1
      obtain ⟨g4, g5⟩ := and2 h1
      have g1 := of_decide_eq_true g1
      have g2 := of_decide_eq_true g2
      subst g1 g2
      obtain ⟨b1, b2, b3, b4, b5, b6, b7, b8, b9, b10, b11⟩ := z
      dsimp only at hm g3 g4
      subst hm g4
      have g3 : b11 = false := by cases b11 <;> first | rfl | cases g3
      subst g3
      obtain ⟨sl⟩ := sl
      have hs : sl = _ := hs
      subst hs
      exact ⟨b1, b5, b4, b2, bm, b7, b8, b9, b10, dd, k0, k1, k2, k3, k5, lk, g5⟩
    · cases h1
  · cases h1
/-- what an own exception's class needs beside its __init__ as a def -/
def exB (K : PySem.W.Frag) (c fld : Str) : Bool := oexB K (He.ga K c) && (eqB (PySem.W.ks_superIn K (He.ga K c) (He.ga K c) "__init__") (some (some (.builtin "ValueError.__init__"))) && (eqB (PySem.W.nsIn K cStatics "thirdparty.any") (some none) && (decide (PySem.W.subIn K (.ref (He.ga K c)) (.type "ValueError") = some true) && (eqB (PySem.W.findIn K (.ref (He.ga K c)) fld) (some none) &&
  (eqB (PySem.W.findIn K (.ref (He.ga K c)) "__init__") (some (some (.ref (He.fAd K (c, some "__init__"))))) && (decide (PySem.W.typeIn K (.ref (He.fAd K (c, some "__init__"))) = some (.type "function")) &&
  ((match (fdAt K (He.fAd K (c, some "__init__"))).code with
  | .ref q => (match K.lookup q with
    | some ⟨_, _, .fields vs, _⟩ => (match (vs[2]? : Option Value) with
      | some (.str z _) => (Pr.main.file : Str) == z
      | _ => false)
    | _ => false)
  | _ => false) && (match (fdAt K (He.fAd K (c, some "__init__"))).closure with
  | [(_, q)] => (match K.lookup q with
    | some ⟨_, _, .cell (some (.ref D)), _⟩ => decide (D = He.ga K c)
    | _ => false)
  | _ => false))))))))
structure ExS (K : PySem.W.Frag) (c fld : Str) : Prop where
  oex : OexC K (He.ga K c)
  along : PySem.W.ks_superIn K (He.ga K c) (He.ga K c) "__init__" = some (some (.builtin "ValueError.__init__"))
  opq : PySem.W.nsIn K cStatics "thirdparty.any" = some none
  sub : PySem.W.subIn K (.ref (He.ga K c)) (.type "ValueError") = some true
  noF : PySem.W.findIn K (.ref (He.ga K c)) fld = some none
  ini : PySem.W.findIn K (.ref (He.ga K c)) "__init__" = some (some (.ref (He.fAd K (c, some "__init__"))))
  ty : PySem.W.typeIn K (.ref (He.fAd K (c, some "__init__"))) = some (.type "function")
  code : ∃ q ccl cdd vs ccs z t, (fdAt K (He.fAd K (c, some "__init__"))).code = .ref q ∧ K.lookup q = some ⟨ccl, cdd, .fields vs, ccs⟩ ∧ vs[2]? = some (.str z t) ∧ ((Pr.main.file : Str) == z) = true
  clo : ∃ y q cl cd cs, (fdAt K (He.fAd K (c, some "__init__"))).closure = [(y, q)] ∧ K.lookup q = some ⟨cl, cd, .cell (some (.ref (He.ga K c))), cs⟩
theorem exB_s {K : PySem.W.Frag} {c fld : Str} (h : exB K c fld = true) : ExS K c fld := by
  obtain ⟨h1, h⟩ := and2 h
  obtain ⟨h2, h⟩ := and2 h
  obtain ⟨h3, h⟩ := and2 h
  obtain ⟨h4, h⟩ := and2 h
  obtain ⟨h5, h⟩ := and2 h
  obtain ⟨h6, h⟩ := and2 h
  obtain ⟨h7, h⟩ := and2 h
  obtain ⟨h8, h9⟩ := and2 h
  refine ⟨oexB_ok h1, eqB_ok h2, eqB_ok h3, of_decide_eq_true h4, eqB_ok h5, eqB_ok h6, of_decide_eq_true h7, ?_, ?_⟩
  · split at h8
    · rename_i q e
      split at h8
      · rename_i vs _ lk
        split at h8
        · rename_i z t e2
          exact ⟨q, _, _, vs, _, z, t, e, lk, e2, h8⟩
        · cases h8
      · cases h8
    · cases h8
  · split at h9
    · rename_i y q e
      split at h9
      · rename_i D _ lk
        have hD := of_decide_eq_true h9
        subst hD
        exact ⟨y, q, _, _, _, e, lk⟩
      · cases h9
    · cases h9
def xcB (K : PySem.W.Frag) (c fld : Str) : Bool := xfB K (He.ga K c) && (eqB (PySem.W.findIn K (.ref (He.ga K c)) "__class__") (some (some (.builtin "object.__class__"))) && (eqB (PySem.W.specialIn K (.builtin "object.__class__") "__get__") (some (some (.builtin "getset_descriptor.__get__"))) && (decide (PySem.W.takesIn K (.builtin "object.__class__") = some true) && (decide (PySem.W.mroIn K (He.ga K c) (.type "object") = some true) &&
  (eqB (PySem.W.findIn K (.ref (He.ga K c)) fld) (some none) && decide (PySem.W.exmAny K (.ref (He.ga K c)) [.ref (He.ga K "CloserError"), .ref (He.ga K "TooMany")] = some true))))))
theorem xcB_ok {K : PySem.W.Frag} {c fld : Str} (h : xcB K c fld = true) : XcF K (He.ga K c) fld := by
  obtain ⟨h1, h⟩ := and2 h
  obtain ⟨h2, h⟩ := and2 h
  obtain ⟨h3, h⟩ := and2 h
  obtain ⟨h4, h⟩ := and2 h
  obtain ⟨h5, h⟩ := and2 h
  obtain ⟨h6, h7⟩ := and2 h
  have F := xfB_ok h1
  exact ⟨⟨F.ga, F.gg, F.exC, F.hdC, eqB_ok h2, eqB_ok h3, of_decide_eq_true h4, of_decide_eq_true h5⟩, F, eqB_ok h6, of_decide_eq_true h7⟩
abbrev kNs : List Str := ["TooMany", "BadText", "BadKeys", "BadBook", "NotMeant", "BadPage", "BadManner", "BadNumber"]
def kkB (K : PySem.W.Frag) (c : Str) : Bool := kNs.all fun x => decide (PySem.W.kitOne K (.ref (He.ga K c)) (.ref (He.ga K x)) = some (decide (x = c)))
theorem kkB_ok {K : PySem.W.Frag} {c : Str} (h : kkB K c = true) : ∀ x ∈ kNs, PySem.W.kitOne K (.ref (He.ga K c)) (.ref (He.ga K x)) = some (decide (x = c)) := fun x hx => of_decide_eq_true (List.all_eq_true.mp h x hx)
def zzB (K : PySem.W.Frag) : Bool := decide (PySem.W.exmAny K (.type "ZeroDivisionError") [.ref (He.ga K "CloserError"), .ref (He.ga K "TooMany")] = some false) && (decide (PySem.W.exmAny K (.type "KeyError") [.ref (He.ga K "CloserError"), .ref (He.ga K "TooMany")] = some false) &&
  (decide (PySem.W.exmAny K (.type "ZeroDivisionError") [.type "ZeroDivisionError", .type "KeyError"] = some true) && decide (PySem.W.exmAny K (.type "KeyError") [.type "ZeroDivisionError", .type "KeyError"] = some true)))
theorem zzB_ok {K : PySem.W.Frag} (h : zzB K = true) : PySem.W.exmAny K (.type "ZeroDivisionError") [.ref (He.ga K "CloserError"), .ref (He.ga K "TooMany")] = some false ∧ PySem.W.exmAny K (.type "KeyError") [.ref (He.ga K "CloserError"), .ref (He.ga K "TooMany")] = some false ∧
    PySem.W.exmAny K (.type "ZeroDivisionError") [.type "ZeroDivisionError", .type "KeyError"] = some true ∧ PySem.W.exmAny K (.type "KeyError") [.type "ZeroDivisionError", .type "KeyError"] = some true := by
  obtain ⟨h1, h⟩ := and2 h
  obtain ⟨h2, h⟩ := and2 h
  obtain ⟨h3, h4⟩ := and2 h
  exact ⟨of_decide_eq_true h1, of_decide_eq_true h2, of_decide_eq_true h3, of_decide_eq_true h4⟩
/-! ### the lists -/
def dsL0 : List Dx := [⟨fun K => He.fAd K ("need_book", none), "need_book", "need_book", s_need_book, [], []⟩,
  ⟨fun K => He.fAd K ("need_text", none), "need_text", "need_text", s_need_text, [], []⟩,
  ⟨fun K => He.fAd K ("is_sign", none), "is_sign", "is_sign", s_is_sign, [], []⟩,
  ⟨fun K => He.fAd K ("closer_of", none), "closer_of", "closer_of", s_closer_of, [], []⟩,
  ⟨fun K => He.fAd K ("is_letter", none), "is_letter", "is_letter", s_is_letter, [], []⟩,
  ⟨fun K => He.fAd K ("is_closing", none), "is_closing", "is_closing", s_is_closing, [], []⟩,
  ⟨fun K => He.fAd K ("is_free", none), "is_free", "is_free", s_is_free, [], []⟩,
  ⟨fun K => He.fAd K ("is_within", none), "is_within", "is_within", s_is_within, [], []⟩,
  ⟨fun K => He.fAd K ("is_key", none), "is_key", "is_key", s_is_key, [], []⟩,
  ⟨fun K => He.fAd K ("need_keys", none), "need_keys", "need_keys", s_need_keys, [], []⟩,
  ⟨fun K => He.fAd K ("under", none), "under", "under", s_under, [], []⟩,
  ⟨fun K => He.fAd K ("_law_mixed", none), "_law_mixed", "_law_mixed", s_law_mixed, [], []⟩,
  ⟨fun K => He.fAd K ("_law_folded", none), "_law_folded", "_law_folded", s_law_folded, [], []⟩,
  ⟨fun K => He.fAd K ("_law_draw", none), "_law_draw", "_law_draw", s_law_draw, [], []⟩,
  ⟨fun K => He.fAd K ("_law_begun", none), "_law_begun", "_law_begun", s_law_begun, [], []⟩,
  ⟨fun K => He.fAd K ("_law_like", none), "_law_like", "_law_like", s_law_like, [], []⟩,
  ⟨fun K => He.fAd K ("_law_book", none), "_law_book", "_law_book", s_law_book, [], []⟩,
  ⟨fun K => He.fAd K ("_law_signs", none), "_law_signs", "_law_signs", s_law_signs, [], []⟩,
  ⟨fun K => He.fAd K ("_law_closer", none), "_law_closer", "_law_closer", s_law_closer, [], []⟩,
  ⟨fun K => He.fAd K ("_law_puts", none), "_law_puts", "_law_puts", s_law_puts, [], []⟩]
def dsL1 : List Dx := [⟨fun K => He.fAd K ("_law_pressed", none), "_law_pressed", "_law_pressed", s_law_pressed, [], []⟩,
  ⟨fun K => He.fAd K ("_law_page", none), "_law_page", "_law_page", s_law_page, [], []⟩,
  ⟨fun K => He.fAd K ("_law_on", none), "_law_on", "_law_on", s_law_on, [], []⟩,
  ⟨fun K => He.fAd K ("_law_said", none), "_law_said", "_law_said", s_law_said, [], []⟩,
  ⟨fun K => He.fAd K ("_law_own", none), "_law_own", "_law_own", s_law_own, [], []⟩,
  ⟨fun K => He.fAd K ("_law_now", none), "_law_now", "_law_now", s_law_now, [], []⟩,
  ⟨fun K => He.fAd K ("_law_keyed", none), "_law_keyed", "_law_keyed", s_law_keyed, [], []⟩,
  ⟨fun K => He.fAd K ("_law_shift", none), "_law_shift", "_law_shift", s_law_shift, [], []⟩,
  ⟨fun K => He.fAd K ("_law_stands", none), "_law_stands", "_law_stands", s_law_stands, [], []⟩,
  ⟨fun K => He.fAd K ("_law_keys", none), "_law_keys", "_law_keys", s_law_keys, [], []⟩,
  ⟨fun K => He.fAd K ("_law_step", none), "_law_step", "_law_step", s_law_step, [], []⟩,
  ⟨fun K => He.fAd K ("_law_within", none), "_law_within", "_law_within", s_law_within, [], []⟩,
  ⟨fun K => He.fAd K ("_law_tried", none), "_law_tried", "_law_tried", s_law_tried, [], []⟩,
  ⟨fun K => He.fAd K ("_law_later_right", none), "_law_later_right", "_law_later_right", s_law_later_right, [], []⟩,
  ⟨fun K => He.fAd K ("law", none), "law", "law", s_law, [], []⟩,
  ⟨fun K => He.fAd K ("Page", some "__init__"), "__init__", "Page.__init__", s_Page_init, [], []⟩,
  ⟨fun K => He.fAd K ("Page", some "next_sign"), "next_sign", "Page.next_sign", s_Page_next_sign, [], []⟩,
  ⟨fun K => He.fAd K ("Page", some "is_next_own"), "is_next_own", "Page.is_next_own", s_Page_is_next_own, [], []⟩,
  ⟨fun K => He.fAd K ("Page", some "go_over"), "go_over", "Page.go_over", s_Page_go_over, [], []⟩,
  ⟨fun K => He.fAd K ("Page", some "does_put"), "does_put", "Page.does_put", s_Page_does_put, [], []⟩]
def dsL2 : List Dx := [⟨fun K => He.fAd K ("Page", some "type_sign"), "type_sign", "Page.type_sign", s_Page_type_sign, [], []⟩,
  ⟨fun K => He.fAd K ("Page", some "go_back"), "go_back", "Page.go_back", s_Page_go_back, [], []⟩,
  ⟨fun K => He.fAd K ("Page", some "press"), "press", "Page.press", s_Page_press, [], []⟩,
  ⟨fun K => He.fAd K ("Page", some "right_text"), "right_text", "Page.right_text", s_Page_right_text, [], []⟩,
  ⟨fun K => He.fAd K ("Page", some "told"), "told", "Page.told", s_Page_told, [], []⟩,
  ⟨fun K => He.fAd K ("Trial", some "__init__"), "__init__", "Trial.__init__", s_Trial_init, [], []⟩,
  ⟨fun K => He.fAd K ("Trial", some "__enter__"), "__enter__", "Trial.__enter__", s_Trial_enter, [], []⟩,
  ⟨fun K => He.fAd K ("Trial", some "__exit__"), "__exit__", "Trial.__exit__", s_Trial_exit, [], []⟩,
  ⟨fun K => He.fAd K ("Editor", some "__init__"), "__init__", "Editor.__init__", s_Editor_init, [], [("behind", .str "")]⟩,
  ⟨fun K => He.fAd K ("Editor", some "page_at"), "page_at", "Editor.page_at", s_Editor_page_at, [], []⟩,
  ⟨fun K => He.fAd K ("Editor", some "harms"), "harms", "Editor.harms", s_Editor_harms, [], []⟩,
  ⟨fun K => He.fAd K ("Editor", some "saved"), "saved", "Editor.saved", s_Editor_saved, [], []⟩,
  ⟨fun K => He.fAd K ("Editor", some "__len__"), "__len__", "Editor.__len__", s_Editor_len, [], []⟩,
  ⟨fun K => He.fAd K ("Editor", some "__eq__"), "__eq__", "Editor.__eq__", s_Editor_eq, [], []⟩,
  ⟨fun K => He.fAd K ("Editor", some "press"), "press", "Editor.press", s_Editor_press, [], []⟩,
  ⟨fun K => He.fAd K ("Editor", some "press_all"), "press_all", "Editor.press_all", s_Editor_press_all, [], []⟩,
  ⟨fun K => He.fAd K ("Editor", some "undo"), "undo", "Editor.undo", s_Editor_undo, [], []⟩,
  ⟨fun K => He.fAd K ("Editor", some "redo"), "redo", "Editor.redo", s_Editor_redo, [], []⟩,
  ⟨fun K => He.fAd K ("Editor", some "copy"), "copy", "Editor.copy", s_Editor_copy, [], []⟩,
  ⟨fun K => He.fAd K ("Editor", some "trial"), "trial", "Editor.trial", s_Editor_trial, [], []⟩]
def dsL3 : List Dx := [⟨fun K => gtAd K "Editor" "book", "book", "Editor.book", s_Editor_book, [], []⟩,
  ⟨fun K => gtAd K "Editor" "behind", "behind", "Editor.behind", s_Editor_behind, [], []⟩,
  ⟨fun K => gtAd K "Editor" "page", "page", "Editor.page", s_Editor_page, [], []⟩,
  ⟨fun K => gtAd K "Editor" "row", "row", "Editor.row", s_Editor_row, [], []⟩,
  ⟨fun K => He.fAd K ("BadKeys", some "__init__"), "__init__", "BadKeys.__init__", s_BadKeys_init, ["__class__"], []⟩,
  ⟨fun K => He.fAd K ("BadNumber", some "__init__"), "__init__", "BadNumber.__init__", s_BadNumber_init, ["__class__"], []⟩]
def dsL : List Dx := dsL0 ++ dsL1 ++ dsL2 ++ dsL3
def faL0 : List He.Fa := [.free "isinstance",
  .free "str",
  .free "tuple",
  .free "len",
  .free "enumerate",
  .free "bool",
  .free "int",
  .free "range",
  .free "repr",
  .free "dict",
  .free "min",
  .free "super",
  .free "ZeroDivisionError",
  .free "KeyError",
  .str "OPENERS" "([",
  .str "CLOSERS" ")]",
  .str "QUOTE" "'",
  .str "BLANK" " ",
  .str "LINE" "/",
  .str "LETTERS" "abcdefghijklmnopqrstuvwxyz"]
def faL1 : List He.Fa := [.str "SIGNS" "([)]' /abcdefghijklmnopqrstuvwxyz",
  .str "BACK" "back",
  .str "RIGHT" "right",
  .str "END" "end",
  .str "ALWAYS" "always",
  .str "FREE" "free",
  .str "SAME" "same",
  .str "APART" "apart",
  .str "ANY" "any",
  .str "OWN" "own",
  .str "AT_LINES" "line",
  .int "MOST_TEXT" 200,
  .int "MOST_KEYS" 400,
  .glo "need_book",
  .glo "need_text",
  .glo "is_sign",
  .glo "closer_of",
  .glo "is_letter",
  .glo "is_closing",
  .glo "is_free"]
def faL2 : List He.Fa := [.glo "is_within",
  .glo "is_key",
  .glo "need_keys",
  .glo "under",
  .glo "_law_mixed",
  .glo "_law_folded",
  .glo "_law_draw",
  .glo "_law_begun",
  .glo "_law_like",
  .glo "_law_book",
  .glo "_law_signs",
  .glo "_law_closer",
  .glo "_law_puts",
  .glo "_law_pressed",
  .glo "_law_page",
  .glo "_law_on",
  .glo "_law_said",
  .glo "_law_own",
  .glo "_law_now",
  .glo "_law_keyed"]
def faL3 : List He.Fa := [.glo "_law_shift",
  .glo "_law_stands",
  .glo "_law_keys",
  .glo "_law_step",
  .glo "_law_within",
  .glo "_law_tried",
  .glo "_law_later_right",
  .glo "law",
  .glo "CHOICES",
  .glo "Page",
  .glo "Trial",
  .glo "Editor",
  .glo "CloserError",
  .glo "TooMany",
  .glo "BadText",
  .glo "BadKeys",
  .glo "BadBook",
  .glo "NotMeant",
  .glo "BadPage",
  .glo "BadManner"]
def faL4 : List He.Fa := [.glo "BadNumber",
  .cls "Page",
  .mkr "Page",
  .cls "Trial",
  .mkr "Trial",
  .cls "Editor",
  .mkr "Editor",
  .noat "Page" "left",
  .noat "Page" "right",
  .noat "Editor" "own_book",
  .noat "Editor" "own_behind",
  .noat "Editor" "done",
  .noat "Editor" "later",
  .noat "Trial" "held_editor",
  .noat "Trial" "kept_done",
  .noat "Trial" "kept_later",
  .meth "Page" "__init__",
  .meth "Page" "next_sign",
  .meth "Page" "is_next_own",
  .meth "Page" "go_over"]
def faL5 : List He.Fa := [.meth "Page" "does_put",
  .meth "Page" "type_sign",
  .meth "Page" "go_back",
  .meth "Page" "press",
  .meth "Page" "right_text",
  .meth "Page" "told",
  .meth "Trial" "__init__",
  .meth "Trial" "__enter__",
  .meth "Trial" "__exit__",
  .meth "Editor" "__init__",
  .meth "Editor" "page_at",
  .meth "Editor" "harms",
  .meth "Editor" "saved",
  .meth "Editor" "__len__",
  .meth "Editor" "__eq__",
  .meth "Editor" "press",
  .meth "Editor" "press_all",
  .meth "Editor" "undo",
  .meth "Editor" "redo",
  .meth "Editor" "copy"]
def faL6 : List He.Fa := [.meth "Editor" "trial"]
def faL : List He.Fa := faL0 ++ faL1 ++ faL2 ++ faL3 ++ faL4 ++ faL5 ++ faL6
def exL0 : List (PySem.W.Frag → Bool) := [chB,
  fun K => tyB K "Editor",
  fun K => prB K "Editor" "book",
  fun K => prB K "Editor" "behind",
  fun K => prB K "Editor" "page",
  fun K => prB K "Editor" "row",
  fun K => exB K "BadKeys" "place",
  fun K => exB K "BadNumber" "value",
  fun K => xcB K "BadKeys" "place",
  fun K => xcB K "BadNumber" "value",
  fun K => kkB K "BadKeys",
  fun K => kkB K "BadNumber",
  zzB]
def exL : List (PySem.W.Frag → Bool) := exL0
/-- the defs that make lambdas, with their tables -/
def tfL : List Str := ["_law_tried", "_law_later_right", "law"]
abbrev cO (K : PySem.W.Frag) (x : Str) : Addr := He.codeOf K (x, none)
abbrev tO (K : PySem.W.Frag) (x : Str) : Addr := He.tabOf K (cO K x)
def tbB (g : Addr → Option Obj) (K : PySem.W.Frag) : Bool := tfL.all fun x => PySem.W.codeHdIn K (cO K x) (tO K x) && (match g (tO K x) with
  | some o => He.emptyTab o
  | none => false)
def apB (K : PySem.W.Frag) : Bool := decide (tO K "_law_tried" ≠ tO K "_law_later_right") && (decide (tO K "_law_tried" ≠ tO K "law") && decide (tO K "_law_later_right" ≠ tO K "law"))
/-- what is told of K -/
structure Heard (K : PySem.W.Frag) (h : Heap) : Prop where
  fa : (faL.all fun f => f.ok K) = true
  ex : (exL.all fun f => f K) = true
  ds : (dsL.map fun d => seen K (d.ad K)) = dsL.map Dx.due
  df : (dsL.all fun d => d.fine K) = true
  hd : ∀ x ∈ tfL, PySem.W.codeHdIn K (cO K x) (tO K x) = true
  out : ∀ x ∈ tfL, K.lookup (tO K x) = none
  empty : ∀ x ∈ tfL, h.get? (tO K x) = some { cls := .none, data := .fields #[] }
  ap : apB K = true
section
variable {K : PySem.W.Frag} {h9 : Heap}
theorem Heard.fact (h : Heard K h9) (i : Nat) {f : He.Fa} (e : faL[i]? = some f) : f.ok K = true := List.all_eq_true.mp h.fa f (List.mem_of_getElem? e)
theorem Heard.more (h : Heard K h9) (i : Nat) {f : PySem.W.Frag → Bool} (e : exL[i]? = some f) : f K = true := List.all_eq_true.mp h.ex f (List.mem_of_getElem? e)
theorem Heard.sees (h : Heard K h9) (i : Nat) {d : Dx} (e : dsL[i]? = some d) : seen K (d.ad K) = d.due := by
  have := congrArg (fun l : List ObV => l[i]?) h.ds
  simp only [List.getElem?_map, e, Option.map_some] at this
  exact Option.some.inj this
theorem Heard.good (h : Heard K h9) (i : Nat) {d : Dx} (e : dsL[i]? = some d) : d.fine K = true := List.all_eq_true.mp h.df d (List.mem_of_getElem? e)
theorem Heard.fn (h : Heard K h9) (i : Nat) {d : Dx} (e : dsL[i]? = some d) (hc : d.clo = []) : FunD K d.name d.qual (defArgs d.st) (defBody d.st) (defScope d.st) [] (d.kws K) (d.ad K) (fdAt K (d.ad K)) := Dx.funD (h.sees i e) (h.good i e) hc
end
theorem gv_str {mg : Str → Option Value} {x z : Str} (h : ∃ t, mg x = some (.str z t)) : Gv mg x (.str z) := by
  obtain ⟨t, e⟩ := h
  exact ⟨_, e, t, rfl⟩
theorem gv_int {mg : Str → Option Value} {x : Str} {i : Int} (h : ∃ t, mg x = some (.int i t)) : Gv mg x (.int i) := by
  obtain ⟨t, e⟩ := h
  exact ⟨_, e, t, rfl⟩
theorem code_at {K : PySem.W.Frag} {x : Str} {d : Dx} (e : seen K (d.ad K) = d.due) (h : d.fine K = true) (ha : d.ad K = He.fAd K (x, none) := by rfl) : ∃ c, (fdAt K (He.fAd K (x, none))).code = .ref c ∧ He.codeOf K (x, none) = c := by
  obtain ⟨oc, od, dV, kV, doc, pm, an, cdv, ct, bs, osl, cl, e1, e2, rfl, lk, h1, h2, h3, kp⟩ := Dx.parts e h
  obtain ⟨c, rfl⟩ := He.codeIn_ref h1
  rw [ha] at e2 lk
  refine ⟨c, by rw [e2], He.codeOf_eq lk (by rw [e2])⟩
theorem exB_init {K : PySem.W.Frag} {c fld : Str} (h : exB K c fld = true) : PySem.W.findIn K (.ref (He.ga K c)) "__init__" = some (some (.ref (He.fAd K (c, some "__init__")))) := (exB_s h).ini
theorem exB_ty {K : PySem.W.Frag} {c fld : Str} (h : exB K c fld = true) : PySem.W.typeIn K (.ref (He.fAd K (c, some "__init__"))) = some (.type "function") := (exB_s h).ty
theorem exB_binds {K : PySem.W.Frag} {d : Dx} {ps : List Str} (e : seen K (d.ad K) = d.due) (h : d.fine K = true)
    (hb : ∀ (cl : List (Str × Addr)) (dV kV doc pm : Value) (an : Option Addr) (cdv ct : Value) (us : List Value), us.length = ps.length → bindArgs ⟨d.name, d.qual, defArgs d.st, .stmts (defBody d.st), defScope d.st, mainGlobals, cl, .none, kV, doc, pm, an, cdv, ct, builtinsNs⟩ ⟨us, []⟩ = pure (ps.zip us)) : Binds K (fdAt K (d.ad K)) ps [] := by
  obtain ⟨oc, od, dV, kV, doc, pm, an, cdv, ct, bs, osl, cl, e1, e2, rfl, lk, h1, h2, h3, kp⟩ := Dx.parts e h
  rcases h2 with ⟨_, rfl⟩ | ⟨z, _⟩
  · rw [e2]
    exact .all fun us hl => hb cl .none kV doc pm an cdv ct us hl
  · exact absurd rfl z
theorem exB_ok {K : PySem.W.Frag} {mg : Str → Option Value} {c fld : Str} {d : Dx} (hx : exB K c fld = true) (e : seen K (d.ad K) = d.due) (h : d.fine K = true) (top : (Pr.main.scope.names.lookup ("super" : Str)).isSome = false) (sup : mg "super" = none) (scp : LScope ["self", fld, "__class__"] ["self", fld] ["__class__"] (defScope d.st))
    (nocell : ∀ y ∈ (defScope d.st).names, y.2 ≠ .cell) (ks : (defScope d.st).names.lookup ("super" : Str) = some .globalImplicit) (kc : (defScope d.st).names.lookup ("__class__" : Str) = some .free) (kself : (defScope d.st).names.lookup ("self" : Str) = some .local) (kf : (defScope d.st).names.lookup fld = some .local) (fne : fld ≠ "self")
    (har : ∃ ar, ((defArgs d.st).posonlyargs ++ (defArgs d.st).args).head? = some ar ∧ ar.arg = "self") (ha : d.ad K = He.fAd K (c, some "__init__") := by rfl) (hn : d.name = "__init__" := by rfl) (hcl : d.clo = (["__class__"] : List Str) := by rfl) : ExI Pr K mg (He.ga K c) (He.fAd K (c, some "__init__")) d.qual fld (defBody d.st) (defScope d.st) := by
  have S := exB_s hx
  obtain ⟨oc, od, dV, kV, doc, pm, an, cdv, ct, bs, osl, cl, e1, e2, rfl, lk, h1, h2, h3, kp⟩ := Dx.parts e h
  obtain ⟨ar, ha1, ha2⟩ := har
  obtain ⟨q, ccl, cdd, vs, ccs, z, t, c1, c2, c3, c4⟩ := S.code
  obtain ⟨y, q2, cl2, cd2, cs2, d1, d2⟩ := S.clo
  rw [ha] at e2 lk
  rw [e2] at c1 d1
  have c1 : cdv = .ref q := c1
  have d1 : cl = [(y, q2)] := d1
  subst c1 d1
  rw [hcl] at e1
  have ey : y = ("__class__" : Str) := (List.cons.inj (show [y] = ([("__class__" : Str)] : List Str) from e1)).1
  subst ey
  rw [hn] at e2
  rw [e2] at lk
  exact ⟨⟨oc, od, defArgs d.st, dV, kV, doc, pm, an, q, ct, q2, osl, ccl, cdd, vs, ccs, z, t, cl2, cd2, cs2, ar, lk, h1, c2, c3, c4, d2, ha1, ha2⟩, top, sup, S.oex, S.along, S.opq, S.sub, S.noF, scp, nocell, ks, kc, kself, kf, fne⟩
theorem bE1_ok {K : PySem.W.Frag} {f : Addr} {fd : FuncData} (F : FunD K "__init__" "Editor.__init__" (defArgs s_Editor_init) (defBody s_Editor_init) (defScope s_Editor_init) [] [("behind", .str "")] f fd) : ∃ g : List Value → List Value → List Value, KBn K fd p_Editor_init 2 ["behind"] g (fun vs zs => vs ++ zs) := by
  obtain ⟨mv, h⟩ := F.kbinds0 (ps := p_Editor_init) 2 ["behind"] [] (fun vs _ zs => vs ++ zs) (by simp) (fun q hq => by cases hq) (fun a _ b => a.append b) fun D doc pm an cdv ct us mv ws h1 h2 h3 => by
    match us, h1, mv, h2, ws, h3 with
    | [_, _], _, [], _, [_], _ => exact rfl
  exact ⟨_, h⟩
theorem bE0_ok {K : PySem.W.Frag} {f : Addr} {fd : FuncData} (F : FunD K "__init__" "Editor.__init__" (defArgs s_Editor_init) (defBody s_Editor_init) (defScope s_Editor_init) [] [("behind", .str "")] f fd) : ∃ ds, Vals [V.str ""] ds ∧ Binds K fd p_Editor_init ds :=
  F.binds0 (ps := p_Editor_init) 2 (by simp) rfl fun D doc pm an cdv ct us ks h1 h2 => by
    match us, h1, ks, h2 with
    | [_, _], _, [_], _ => exact ⟨_, _, _, _, _, _, rfl, rfl, rfl⟩
section
variable {w : World} {K : PySem.W.Frag} {h9 : Heap} {mg : Str → Option Value}
theorem txS (h : Heard K h9) (X : K.In h9) (G : h9.Ns mainGlobals mg) : TxS K mg where
  n_isinstance := He.free_ok X G (h.fact 0 (f := .free "isinstance") rfl)
  n_str := He.free_ok X G (h.fact 1 (f := .free "str") rfl)
  n_tuple := He.free_ok X G (h.fact 2 (f := .free "tuple") rfl)
  n_len := He.free_ok X G (h.fact 3 (f := .free "len") rfl)
  n_enumerate := He.free_ok X G (h.fact 4 (f := .free "enumerate") rfl)
  OPENERS := gv_str (He.str_ok X G (h.fact 14 (f := .str "OPENERS" "([") rfl))
  CLOSERS := gv_str (He.str_ok X G (h.fact 15 (f := .str "CLOSERS" ")]") rfl))
  QUOTE := gv_str (He.str_ok X G (h.fact 16 (f := .str "QUOTE" "'") rfl))
  BLANK := gv_str (He.str_ok X G (h.fact 17 (f := .str "BLANK" " ") rfl))
  LINE := gv_str (He.str_ok X G (h.fact 18 (f := .str "LINE" "/") rfl))
  LETTERS := gv_str (He.str_ok X G (h.fact 19 (f := .str "LETTERS" "abcdefghijklmnopqrstuvwxyz") rfl))
  SIGNS := gv_str (He.str_ok X G (h.fact 20 (f := .str "SIGNS" "([)]' /abcdefghijklmnopqrstuvwxyz") rfl))
  BACK := gv_str (He.str_ok X G (h.fact 21 (f := .str "BACK" "back") rfl))
  RIGHT := gv_str (He.str_ok X G (h.fact 22 (f := .str "RIGHT" "right") rfl))
  END := gv_str (He.str_ok X G (h.fact 23 (f := .str "END" "end") rfl))
  MOST_TEXT := gv_int (He.int_ok X G (h.fact 31 (f := .int "MOST_TEXT" 200) rfl))
  MOST_KEYS := gv_int (He.int_ok X G (h.fact 32 (f := .int "MOST_KEYS" 400) rfl))
  CHOICES := chB_ok (h.more 0 (f := chB) rfl) (He.glo_ok X G (h.fact 68 (f := .glo "CHOICES") rfl))
  d_need_book := ⟨h.fn 0 rfl rfl, He.glo_ok X G (h.fact 33 (f := .glo "need_book") rfl), (h.fn 0 rfl rfl).bindsN fun _ _ _ _ _ _ us hl => match us, hl with | [_], _ => rfl⟩
  d_need_text := ⟨h.fn 1 rfl rfl, He.glo_ok X G (h.fact 34 (f := .glo "need_text") rfl), (h.fn 1 rfl rfl).bindsN fun _ _ _ _ _ _ us hl => match us, hl with | [_], _ => rfl⟩
  d_is_sign := ⟨h.fn 2 rfl rfl, He.glo_ok X G (h.fact 35 (f := .glo "is_sign") rfl), (h.fn 2 rfl rfl).bindsN fun _ _ _ _ _ _ us hl => match us, hl with | [_], _ => rfl⟩
  d_closer_of := ⟨h.fn 3 rfl rfl, He.glo_ok X G (h.fact 36 (f := .glo "closer_of") rfl), (h.fn 3 rfl rfl).bindsN fun _ _ _ _ _ _ us hl => match us, hl with | [_], _ => rfl⟩
  d_is_letter := ⟨h.fn 4 rfl rfl, He.glo_ok X G (h.fact 37 (f := .glo "is_letter") rfl), (h.fn 4 rfl rfl).bindsN fun _ _ _ _ _ _ us hl => match us, hl with | [_], _ => rfl⟩
  d_is_closing := ⟨h.fn 5 rfl rfl, He.glo_ok X G (h.fact 38 (f := .glo "is_closing") rfl), (h.fn 5 rfl rfl).bindsN fun _ _ _ _ _ _ us hl => match us, hl with | [_], _ => rfl⟩
  d_is_free := ⟨h.fn 6 rfl rfl, He.glo_ok X G (h.fact 39 (f := .glo "is_free") rfl), (h.fn 6 rfl rfl).bindsN fun _ _ _ _ _ _ us hl => match us, hl with | [_], _ => rfl⟩
  d_is_within := ⟨h.fn 7 rfl rfl, He.glo_ok X G (h.fact 40 (f := .glo "is_within") rfl), (h.fn 7 rfl rfl).bindsN fun _ _ _ _ _ _ us hl => match us, hl with | [_], _ => rfl⟩
  d_is_key := ⟨h.fn 8 rfl rfl, He.glo_ok X G (h.fact 41 (f := .glo "is_key") rfl), (h.fn 8 rfl rfl).bindsN fun _ _ _ _ _ _ us hl => match us, hl with | [_], _ => rfl⟩
  d_need_keys := ⟨h.fn 9 rfl rfl, He.glo_ok X G (h.fact 42 (f := .glo "need_keys") rfl), (h.fn 9 rfl rfl).bindsN fun _ _ _ _ _ _ us hl => match us, hl with | [_], _ => rfl⟩
theorem txP (h : Heard K h9) (X : K.In h9) (G : h9.Ns mainGlobals mg) : TxP K mg where
  S := txS h X G
  ALWAYS := gv_str (He.str_ok X G (h.fact 24 (f := .str "ALWAYS" "always") rfl))
  FREE := gv_str (He.str_ok X G (h.fact 25 (f := .str "FREE" "free") rfl))
  SAME := gv_str (He.str_ok X G (h.fact 26 (f := .str "SAME" "same") rfl))
  APART := gv_str (He.str_ok X G (h.fact 27 (f := .str "APART" "apart") rfl))
  ANY := gv_str (He.str_ok X G (h.fact 28 (f := .str "ANY" "any") rfl))
  OWN := gv_str (He.str_ok X G (h.fact 29 (f := .str "OWN" "own") rfl))
  AT_LINES := gv_str (He.str_ok X G (h.fact 30 (f := .str "AT_LINES" "line") rfl))
  cP := He.cls_ok (h.fact 81 (f := .cls "Page") rfl)
  na_left := He.noat_ok (h.fact 87 (f := .noat "Page" "left") rfl)
  na_right := He.noat_ok (h.fact 88 (f := .noat "Page" "right") rfl)
  g := He.glo_ok X G (h.fact 69 (f := .glo "Page") rfl)
  mkr := He.mkr_ok (h.fact 82 (f := .mkr "Page") rfl)
  m_init := ⟨h.fn 35 rfl rfl, (h.fn 35 rfl rfl).bindsN fun _ _ _ _ _ _ us hl => match us, hl with | [_, _], _ => rfl, He.meth_ok (h.fact 96 (f := .meth "Page" "__init__") rfl)⟩
  m_next_sign := ⟨h.fn 36 rfl rfl, (h.fn 36 rfl rfl).bindsN fun _ _ _ _ _ _ us hl => match us, hl with | [_], _ => rfl, He.meth_ok (h.fact 97 (f := .meth "Page" "next_sign") rfl)⟩
  m_is_next_own := ⟨h.fn 37 rfl rfl, (h.fn 37 rfl rfl).bindsN fun _ _ _ _ _ _ us hl => match us, hl with | [_], _ => rfl, He.meth_ok (h.fact 98 (f := .meth "Page" "is_next_own") rfl)⟩
  m_go_over := ⟨h.fn 38 rfl rfl, (h.fn 38 rfl rfl).bindsN fun _ _ _ _ _ _ us hl => match us, hl with | [_], _ => rfl, He.meth_ok (h.fact 99 (f := .meth "Page" "go_over") rfl)⟩
  m_does_put := ⟨h.fn 39 rfl rfl, (h.fn 39 rfl rfl).bindsN fun _ _ _ _ _ _ us hl => match us, hl with | [_, _, _], _ => rfl, He.meth_ok (h.fact 100 (f := .meth "Page" "does_put") rfl)⟩
  m_type_sign := ⟨h.fn 40 rfl rfl, (h.fn 40 rfl rfl).bindsN fun _ _ _ _ _ _ us hl => match us, hl with | [_, _, _], _ => rfl, He.meth_ok (h.fact 101 (f := .meth "Page" "type_sign") rfl)⟩
  m_go_back := ⟨h.fn 41 rfl rfl, (h.fn 41 rfl rfl).bindsN fun _ _ _ _ _ _ us hl => match us, hl with | [_, _], _ => rfl, He.meth_ok (h.fact 102 (f := .meth "Page" "go_back") rfl)⟩
  m_press := ⟨h.fn 42 rfl rfl, (h.fn 42 rfl rfl).bindsN fun _ _ _ _ _ _ us hl => match us, hl with | [_, _, _], _ => rfl, He.meth_ok (h.fact 103 (f := .meth "Page" "press") rfl)⟩
  m_right_text := ⟨h.fn 43 rfl rfl, (h.fn 43 rfl rfl).bindsN fun _ _ _ _ _ _ us hl => match us, hl with | [_], _ => rfl, He.meth_ok (h.fact 104 (f := .meth "Page" "right_text") rfl)⟩
  m_told := ⟨h.fn 44 rfl rfl, (h.fn 44 rfl rfl).bindsN fun _ _ _ _ _ _ us hl => match us, hl with | [_], _ => rfl, He.meth_ok (h.fact 105 (f := .meth "Page" "told") rfl)⟩
theorem txE (h : Heard K h9) (X : K.In h9) (G : h9.Ns mainGlobals mg) : TxE Pr K mg where
  G := txP h X G
  n_bool := He.free_ok X G (h.fact 5 (f := .free "bool") rfl)
  n_int := He.free_ok X G (h.fact 6 (f := .free "int") rfl)
  tyE := fun _ _ _ _ e => tyB_ok (He.cls_ok (h.fact 85 (f := .cls "Editor") rfl)) (h.more 1 (f := fun K => tyB K "Editor") rfl) e
  kitE := kit_self
  cE := He.cls_ok (h.fact 85 (f := .cls "Editor") rfl)
  cT := He.cls_ok (h.fact 83 (f := .cls "Trial") rfl)
  na_own_book := He.noat_ok (h.fact 89 (f := .noat "Editor" "own_book") rfl)
  na_own_behind := He.noat_ok (h.fact 90 (f := .noat "Editor" "own_behind") rfl)
  na_done := He.noat_ok (h.fact 91 (f := .noat "Editor" "done") rfl)
  na_later := He.noat_ok (h.fact 92 (f := .noat "Editor" "later") rfl)
  na_held_editor := He.noat_ok (h.fact 93 (f := .noat "Trial" "held_editor") rfl)
  na_kept_done := He.noat_ok (h.fact 94 (f := .noat "Trial" "kept_done") rfl)
  na_kept_later := He.noat_ok (h.fact 95 (f := .noat "Trial" "kept_later") rfl)
  gE := He.glo_ok X G (h.fact 71 (f := .glo "Editor") rfl)
  gT := He.glo_ok X G (h.fact 70 (f := .glo "Trial") rfl)
  mkE := He.mkr_ok (h.fact 86 (f := .mkr "Editor") rfl)
  mkT := He.mkr_ok (h.fact 84 (f := .mkr "Trial") rfl)
  e_init := h.fn 48 rfl rfl
  bE1 := bE1_ok (h.fn 48 rfl rfl)
  bE0 := bE0_ok (h.fn 48 rfl rfl)
  p_book := ⟨h.fn 60 rfl rfl, (h.fn 60 rfl rfl).bindsN fun _ _ _ _ _ _ us hl => match us, hl with | [_], _ => rfl, prB_ok (h.more 2 (f := fun K => prB K "Editor" "book") rfl)⟩
  p_behind := ⟨h.fn 61 rfl rfl, (h.fn 61 rfl rfl).bindsN fun _ _ _ _ _ _ us hl => match us, hl with | [_], _ => rfl, prB_ok (h.more 3 (f := fun K => prB K "Editor" "behind") rfl)⟩
  p_page := ⟨h.fn 62 rfl rfl, (h.fn 62 rfl rfl).bindsN fun _ _ _ _ _ _ us hl => match us, hl with | [_], _ => rfl, prB_ok (h.more 4 (f := fun K => prB K "Editor" "page") rfl)⟩
  p_row := ⟨h.fn 63 rfl rfl, (h.fn 63 rfl rfl).bindsN fun _ _ _ _ _ _ us hl => match us, hl with | [_], _ => rfl, prB_ok (h.more 5 (f := fun K => prB K "Editor" "row") rfl)⟩
  t_init := ⟨h.fn 45 rfl rfl, (h.fn 45 rfl rfl).bindsN fun _ _ _ _ _ _ us hl => match us, hl with | [_, _], _ => rfl, He.meth_ok (h.fact 106 (f := .meth "Trial" "__init__") rfl)⟩
  t_enter := ⟨h.fn 46 rfl rfl, (h.fn 46 rfl rfl).bindsN fun _ _ _ _ _ _ us hl => match us, hl with | [_], _ => rfl, He.meth_ok (h.fact 107 (f := .meth "Trial" "__enter__") rfl)⟩
  t_exit := ⟨h.fn 47 rfl rfl, (h.fn 47 rfl rfl).bindsN fun _ _ _ _ _ _ us hl => match us, hl with | [_, _, _, _], _ => rfl, He.meth_ok (h.fact 108 (f := .meth "Trial" "__exit__") rfl)⟩
  m_page_at := ⟨h.fn 49 rfl rfl, (h.fn 49 rfl rfl).bindsN fun _ _ _ _ _ _ us hl => match us, hl with | [_, _], _ => rfl, He.meth_ok (h.fact 110 (f := .meth "Editor" "page_at") rfl)⟩
  m_harms := ⟨h.fn 50 rfl rfl, (h.fn 50 rfl rfl).bindsN fun _ _ _ _ _ _ us hl => match us, hl with | [_], _ => rfl, He.meth_ok (h.fact 111 (f := .meth "Editor" "harms") rfl)⟩
  m_saved := ⟨h.fn 51 rfl rfl, (h.fn 51 rfl rfl).bindsN fun _ _ _ _ _ _ us hl => match us, hl with | [_], _ => rfl, He.meth_ok (h.fact 112 (f := .meth "Editor" "saved") rfl)⟩
  m_len := ⟨h.fn 52 rfl rfl, (h.fn 52 rfl rfl).bindsN fun _ _ _ _ _ _ us hl => match us, hl with | [_], _ => rfl, He.meth_ok (h.fact 113 (f := .meth "Editor" "__len__") rfl)⟩
  m_eq := ⟨h.fn 53 rfl rfl, (h.fn 53 rfl rfl).bindsN fun _ _ _ _ _ _ us hl => match us, hl with | [_, _], _ => rfl, He.meth_ok (h.fact 114 (f := .meth "Editor" "__eq__") rfl)⟩
  m_press := ⟨h.fn 54 rfl rfl, (h.fn 54 rfl rfl).bindsN fun _ _ _ _ _ _ us hl => match us, hl with | [_, _], _ => rfl, He.meth_ok (h.fact 115 (f := .meth "Editor" "press") rfl)⟩
  m_press_all := ⟨h.fn 55 rfl rfl, (h.fn 55 rfl rfl).bindsN fun _ _ _ _ _ _ us hl => match us, hl with | [_, _], _ => rfl, He.meth_ok (h.fact 116 (f := .meth "Editor" "press_all") rfl)⟩
  m_undo := ⟨h.fn 56 rfl rfl, (h.fn 56 rfl rfl).bindsN fun _ _ _ _ _ _ us hl => match us, hl with | [_], _ => rfl, He.meth_ok (h.fact 117 (f := .meth "Editor" "undo") rfl)⟩
  m_redo := ⟨h.fn 57 rfl rfl, (h.fn 57 rfl rfl).bindsN fun _ _ _ _ _ _ us hl => match us, hl with | [_], _ => rfl, He.meth_ok (h.fact 118 (f := .meth "Editor" "redo") rfl)⟩
  m_copy := ⟨h.fn 58 rfl rfl, (h.fn 58 rfl rfl).bindsN fun _ _ _ _ _ _ us hl => match us, hl with | [_], _ => rfl, He.meth_ok (h.fact 119 (f := .meth "Editor" "copy") rfl)⟩
  m_trial := ⟨h.fn 59 rfl rfl, (h.fn 59 rfl rfl).bindsN fun _ _ _ _ _ _ us hl => match us, hl with | [_], _ => rfl, He.meth_ok (h.fact 120 (f := .meth "Editor" "trial") rfl)⟩
  xk := exB_ok (h.more 6 (f := fun K => exB K "BadKeys" "place") rfl) (h.sees 64 rfl) (h.good 64 rfl) (by decide +kernel) (He.free_ok X G (h.fact 11 (f := .free "super") rfl)) (lscope_by (by decide +kernel)) (by decide +kernel) (by decide +kernel) (by decide +kernel) (by decide +kernel) (by decide +kernel) (by decide) ⟨_, rfl, rfl⟩
  xkg := He.glo_ok X G (h.fact 75 (f := .glo "BadKeys") rfl)
  xki := exB_init (h.more 6 (f := fun K => exB K "BadKeys" "place") rfl)
  xkt := exB_ty (h.more 6 (f := fun K => exB K "BadKeys" "place") rfl)
  xkb := exB_binds (h.sees 64 rfl) (h.good 64 rfl) fun _ _ _ _ _ _ _ _ us hl => match us, hl with | [_, _], _ => rfl
  xn := exB_ok (h.more 7 (f := fun K => exB K "BadNumber" "value") rfl) (h.sees 65 rfl) (h.good 65 rfl) (by decide +kernel) (He.free_ok X G (h.fact 11 (f := .free "super") rfl)) (lscope_by (by decide +kernel)) (by decide +kernel) (by decide +kernel) (by decide +kernel) (by decide +kernel) (by decide +kernel) (by decide) ⟨_, rfl, rfl⟩
  xng := He.glo_ok X G (h.fact 80 (f := .glo "BadNumber") rfl)
  xni := exB_init (h.more 7 (f := fun K => exB K "BadNumber" "value") rfl)
  xnt := exB_ty (h.more 7 (f := fun K => exB K "BadNumber" "value") rfl)
  xnb := exB_binds (h.sees 65 rfl) (h.good 65 rfl) fun _ _ _ _ _ _ _ _ us hl => match us, hl with | [_, _], _ => rfl
theorem txU (h : Heard K h9) (X : K.In h9) (G : h9.Ns mainGlobals mg) : TxU Pr K mg where
  E := txE h X G
  d_under := ⟨h.fn 10 rfl rfl, He.glo_ok X G (h.fact 43 (f := .glo "under") rfl), (h.fn 10 rfl rfl).bindsN fun _ _ _ _ _ _ us hl => match us, hl with | [_, _], _ => rfl⟩
  wc := ⟨(txE h X G).t_enter.m.at_, (txE h X G).t_enter.m.fn, (txE h X G).t_exit.m.at_, (txE h X G).t_exit.m.fn⟩
theorem txX (h : Heard K h9) (X : K.In h9) (G : h9.Ns mainGlobals mg) : TxX Pr K mg where
  U := txU h X G
  d_said := ⟨h.fn 23 rfl rfl, He.glo_ok X G (h.fact 56 (f := .glo "_law_said") rfl), (h.fn 23 rfl rfl).bindsN fun _ _ _ _ _ _ us hl => match us, hl with | [_], _ => rfl⟩
  g := fun x hx => by
    simp only [List.mem_cons, List.not_mem_nil, or_false] at hx
    rcases hx with rfl | rfl | rfl | rfl | rfl | rfl | rfl | rfl | rfl
    · exact He.glo_ok X G (h.fact 72 (f := .glo "CloserError") rfl)
    · exact He.glo_ok X G (h.fact 73 (f := .glo "TooMany") rfl)
    · exact He.glo_ok X G (h.fact 74 (f := .glo "BadText") rfl)
    · exact He.glo_ok X G (h.fact 75 (f := .glo "BadKeys") rfl)
    · exact He.glo_ok X G (h.fact 76 (f := .glo "BadBook") rfl)
    · exact He.glo_ok X G (h.fact 77 (f := .glo "NotMeant") rfl)
    · exact He.glo_ok X G (h.fact 78 (f := .glo "BadPage") rfl)
    · exact He.glo_ok X G (h.fact 79 (f := .glo "BadManner") rfl)
    · exact He.glo_ok X G (h.fact 80 (f := .glo "BadNumber") rfl)
  ck := xcB_ok (h.more 8 (f := fun K => xcB K "BadKeys" "place") rfl)
  cn := xcB_ok (h.more 9 (f := fun K => xcB K "BadNumber" "value") rfl)
  kk := kkB_ok (h.more 10 (f := fun K => kkB K "BadKeys") rfl)
  kn := kkB_ok (h.more 11 (f := fun K => kkB K "BadNumber") rfl)
  z := (zzB_ok (h.more 12 (f := zzB) rfl)).1
  k := (zzB_ok (h.more 12 (f := zzB) rfl)).2.1
theorem txL (h : Heard K h9) (X : K.In h9) (G : h9.Ns mainGlobals mg) : TxL Pr K mg where
  X := txX h X G
  n_range := He.free_ok X G (h.fact 7 (f := .free "range") rfl)
  n_repr := He.free_ok X G (h.fact 8 (f := .free "repr") rfl)
  n_dict := He.free_ok X G (h.fact 9 (f := .free "dict") rfl)
  n_min := He.free_ok X G (h.fact 10 (f := .free "min") rfl)
  d_mixed := ⟨h.fn 11 rfl rfl, He.glo_ok X G (h.fact 44 (f := .glo "_law_mixed") rfl), (h.fn 11 rfl rfl).bindsN fun _ _ _ _ _ _ us hl => match us, hl with | [_, _], _ => rfl⟩
  d_folded := ⟨h.fn 12 rfl rfl, He.glo_ok X G (h.fact 45 (f := .glo "_law_folded") rfl), (h.fn 12 rfl rfl).bindsN fun _ _ _ _ _ _ us hl => match us, hl with | [_], _ => rfl⟩
  d_draw := ⟨h.fn 13 rfl rfl, He.glo_ok X G (h.fact 46 (f := .glo "_law_draw") rfl), (h.fn 13 rfl rfl).bindsN fun _ _ _ _ _ _ us hl => match us, hl with | [_, _], _ => rfl⟩
  d_begun := ⟨h.fn 14 rfl rfl, He.glo_ok X G (h.fact 47 (f := .glo "_law_begun") rfl), (h.fn 14 rfl rfl).bindsN fun _ _ _ _ _ _ us hl => match us, hl with | [_], _ => rfl⟩
  d_like := ⟨h.fn 15 rfl rfl, He.glo_ok X G (h.fact 48 (f := .glo "_law_like") rfl), (h.fn 15 rfl rfl).bindsN fun _ _ _ _ _ _ us hl => match us, hl with | [_, _], _ => rfl⟩
  d_book := ⟨h.fn 16 rfl rfl, He.glo_ok X G (h.fact 49 (f := .glo "_law_book") rfl), (h.fn 16 rfl rfl).bindsN fun _ _ _ _ _ _ us hl => match us, hl with | [_], _ => rfl⟩
  d_signs := ⟨h.fn 17 rfl rfl, He.glo_ok X G (h.fact 50 (f := .glo "_law_signs") rfl), (h.fn 17 rfl rfl).bindsN fun _ _ _ _ _ _ us hl => match us, hl with | [_, _], _ => rfl⟩
  d_closer := ⟨h.fn 18 rfl rfl, He.glo_ok X G (h.fact 51 (f := .glo "_law_closer") rfl), (h.fn 18 rfl rfl).bindsN fun _ _ _ _ _ _ us hl => match us, hl with | [_], _ => rfl⟩
  d_puts := ⟨h.fn 19 rfl rfl, He.glo_ok X G (h.fact 52 (f := .glo "_law_puts") rfl), (h.fn 19 rfl rfl).bindsN fun _ _ _ _ _ _ us hl => match us, hl with | [_, _, _, _], _ => rfl⟩
  d_pressed := ⟨h.fn 20 rfl rfl, He.glo_ok X G (h.fact 53 (f := .glo "_law_pressed") rfl), (h.fn 20 rfl rfl).bindsN fun _ _ _ _ _ _ us hl => match us, hl with | [_, _, _], _ => rfl⟩
  d_page := ⟨h.fn 21 rfl rfl, He.glo_ok X G (h.fact 54 (f := .glo "_law_page") rfl), (h.fn 21 rfl rfl).bindsN fun _ _ _ _ _ _ us hl => match us, hl with | [_], _ => rfl⟩
  d_on := ⟨h.fn 22 rfl rfl, He.glo_ok X G (h.fact 55 (f := .glo "_law_on") rfl), (h.fn 22 rfl rfl).bindsN fun _ _ _ _ _ _ us hl => match us, hl with | [_], _ => rfl⟩
  d_own := ⟨h.fn 24 rfl rfl, He.glo_ok X G (h.fact 57 (f := .glo "_law_own") rfl), (h.fn 24 rfl rfl).bindsN fun _ _ _ _ _ _ us hl => match us, hl with | [_, _], _ => rfl⟩
  d_now := ⟨h.fn 25 rfl rfl, He.glo_ok X G (h.fact 58 (f := .glo "_law_now") rfl), (h.fn 25 rfl rfl).bindsN fun _ _ _ _ _ _ us hl => match us, hl with | [_], _ => rfl⟩
  d_keyed := ⟨h.fn 26 rfl rfl, He.glo_ok X G (h.fact 59 (f := .glo "_law_keyed") rfl), (h.fn 26 rfl rfl).bindsN fun _ _ _ _ _ _ us hl => match us, hl with | [_, _], _ => rfl⟩
  d_shift := ⟨h.fn 27 rfl rfl, He.glo_ok X G (h.fact 60 (f := .glo "_law_shift") rfl), (h.fn 27 rfl rfl).bindsN fun _ _ _ _ _ _ us hl => match us, hl with | [_, _, _], _ => rfl⟩
  d_stands := ⟨h.fn 28 rfl rfl, He.glo_ok X G (h.fact 61 (f := .glo "_law_stands") rfl), (h.fn 28 rfl rfl).bindsN fun _ _ _ _ _ _ us hl => match us, hl with | [_, _], _ => rfl⟩
  d_keys := ⟨h.fn 29 rfl rfl, He.glo_ok X G (h.fact 62 (f := .glo "_law_keys") rfl), (h.fn 29 rfl rfl).bindsN fun _ _ _ _ _ _ us hl => match us, hl with | [_, _], _ => rfl⟩
  d_step := ⟨h.fn 30 rfl rfl, He.glo_ok X G (h.fact 63 (f := .glo "_law_step") rfl), (h.fn 30 rfl rfl).bindsN fun _ _ _ _ _ _ us hl => match us, hl with | [_, _, _], _ => rfl⟩
  d_within := ⟨h.fn 31 rfl rfl, He.glo_ok X G (h.fact 64 (f := .glo "_law_within") rfl), (h.fn 31 rfl rfl).bindsN fun _ _ _ _ _ _ us hl => match us, hl with | [_, _, _, _, _], _ => rfl⟩
  d_tried := ⟨h.fn 32 rfl rfl, He.glo_ok X G (h.fact 65 (f := .glo "_law_tried") rfl), (h.fn 32 rfl rfl).bindsN fun _ _ _ _ _ _ us hl => match us, hl with | [_, _, _, _], _ => rfl⟩
  d_later_right := ⟨h.fn 33 rfl rfl, He.glo_ok X G (h.fact 66 (f := .glo "_law_later_right") rfl), (h.fn 33 rfl rfl).bindsN fun _ _ _ _ _ _ us hl => match us, hl with | [_, _], _ => rfl⟩
theorem d_law (h : Heard K h9) (X : K.In h9) (G : h9.Ns mainGlobals mg) : Df K mg "law" s_law p_law := ⟨h.fn 34 rfl rfl, He.glo_ok X G (h.fact 67 (f := .glo "law") rfl), (h.fn 34 rfl rfl).bindsN fun _ _ _ _ _ _ us hl => match us, hl with | [_], _ => rfl⟩
theorem law_binds (h : Heard K h9) (s : Shared) (u : Value) : BindsTo s (fdAt K (He.fAd K ("law", none))) ⟨[u], []⟩ [("_law_script", u)] :=
  (h.fn 34 rfl rfl).bindsA (ps := p_law) (fun _ _ _ _ _ _ us hl => match us, hl with | [_], _ => rfl) s [u] rfl
theorem cod_law_tried (h : Heard K h9) : ∃ c, (fdAt K (He.fAd K ("_law_tried", none))).code = .ref c ∧ He.codeOf K ("_law_tried", none) = c := code_at (h.sees 32 rfl) (h.good 32 rfl)
theorem cod_law_later_right (h : Heard K h9) : ∃ c, (fdAt K (He.fAd K ("_law_later_right", none))).code = .ref c ∧ He.codeOf K ("_law_later_right", none) = c := code_at (h.sees 33 rfl) (h.good 33 rfl)
theorem cod_law (h : Heard K h9) : ∃ c, (fdAt K (He.fAd K ("law", none))).code = .ref c ∧ He.codeOf K ("law", none) = c := code_at (h.sees 34 rfl) (h.good 34 rfl)
theorem frees (h : Heard K h9) (X : K.In h9) (G : h9.Ns mainGlobals mg) : mg "ZeroDivisionError" = none ∧ mg "KeyError" = none := ⟨He.free_ok X G (h.fact 12 (f := .free "ZeroDivisionError") rfl), He.free_ok X G (h.fact 13 (f := .free "KeyError") rfl)⟩
theorem zzs (h : Heard K h9) : PySem.W.exmAny K (.type "ZeroDivisionError") [.type "ZeroDivisionError", .type "KeyError"] = some true ∧ PySem.W.exmAny K (.type "KeyError") [.type "ZeroDivisionError", .type "KeyError"] = some true := (zzB_ok (h.more 12 (f := zzB) rfl)).2.2
end
end Ob
set_option maxHeartbeats 0
/-! The head: its run, what it tells. -/
namespace Ob
open PySem PySem.Spec PyProof.Rows L2 L2H LamX NdefX
/-- what an object leads on to: a class to its names, a def to its code, keyword defaults and cells, a tuple, a dict, a record to what they hold -/
def leads (o : Obj) : List Addr := match o.data with
  | .cls z => [z.ns]
  | .func z => He.refV z.code ++ (He.refV z.kwdefaults ++ z.closure.map Prod.snd)
  | .seq its _ => its.toList.flatMap He.refV
  | .dict es _ => es.toList.flatMap fun e => He.refV e.val
  | .fields vs => if vs.size ≤ 8 then vs.toList.flatMap He.refV else []
  | _ => []
def onto (g : Addr → Option Obj) (as : List Addr) : List Addr := as.flatMap fun a => match g a with
  | some o => leads o
  | none => []
def frK (g : Addr → Option Obj) : PySem.W.Frag :=
  let l1 := onto g [mainGlobals]
  let l2 := onto g l1
  let l3 := onto g l2
  let l4 := onto g l3
  He.frT g (mainGlobals :: cStatics :: (l1 ++ (l2 ++ (l3 ++ (l4 ++ onto g l4)))))
def heardB (g : Addr → Option Obj) (K : PySem.W.Frag) : Bool := (faL.all fun f => f.ok K) && ((exL.all fun f => f K) && ((dsL.all fun d => d.fine K) && (tbB g K && apB K)))
def obsH (g : Addr → Option Obj) : Bool × List ObV := (heardB g (frK g), dsL.map fun d => seen (frK g) (d.ad (frK g)))
theorem heard_of {h : Heap} (e : obsH h.get? = (true, dsL.map Dx.due)) : Heard (frK h.get?) h := by
  have e1 : heardB h.get? (frK h.get?) = true := congrArg Prod.fst e
  have e2 := congrArg Prod.snd e
  obtain ⟨a1, a⟩ := and2 e1
  obtain ⟨a2, a⟩ := and2 a
  obtain ⟨a3, a⟩ := and2 a
  obtain ⟨a4, a5⟩ := and2 a
  have key : ∀ x ∈ tfL, PySem.W.codeHdIn (frK h.get?) (cO (frK h.get?) x) (tO (frK h.get?) x) = true ∧ ∃ o, h.get? (tO (frK h.get?) x) = some o ∧ He.emptyTab o = true := fun x hx => by
    obtain ⟨b1, b2⟩ := and2 (List.all_eq_true.mp a4 x hx)
    refine ⟨b1, ?_⟩
    split at b2
    · rename_i o q
      exact ⟨o, q, b2⟩
    · cases b2
  exact ⟨a1, a2, e2, a3, fun x hx => (key x hx).1, fun x hx => (key x hx).2.elim fun o z => He.frT_none z.1 z.2, fun x hx => (key x hx).2.elim fun o z => by rw [z.1, He.emptyTab_eq z.2], a5⟩
def hkL : PySem.W.Hook where
  α := Bool × List ObV
  obs := fun s => obsH s.heap.get?
  val := fun _ => (true, dsL.map Dx.due)
  says := fun _ h => ∃ K : PySem.W.Frag, K.In h ∧ Heard K h
  of := fun _ _ e => ⟨_, He.frT_in, heard_of e⟩
  keeps := fun _ _ _ ⟨K, hK, c⟩ k => ⟨K, hK.keeps k, ⟨c.fa, c.ex, c.ds, c.df, c.hd, c.out, fun x hx => k _ _ (c.empty x hx), c.ap⟩⟩
abbrev RL : PySem.W.OpenRow := PySem.W.OpenLaw.row PySem.Challenge.rw_ownclosers_k90_whole_trials_and_copies
def obL (s : PySem.W.SharedT) : Bool × List ObV := obsH (HandSHeadRun.getT s)
theorem obL_eq (s : PySem.W.SharedT) : obL s = hkL.obs s.abs := by
  unfold obL
  rw [show HandSHeadRun.getT s = s.abs.heap.get? from funext fun a => HandSHeadRun.getT_eq s a] <;> rfl
def looseL : List Str := (["CloserError", "BadText", "BadPage", "BadKeys", "BadBook", "BadManner", "NotMeant", "BadNumber", "TooMany", "ALWAYS", "FREE", "NEVER", "APART", "SAME", "NONE", "OWN", "ANY", "ONE", "AT_LINES", "CHOICES"] : List Str) ++
 (["need_book", "OPENERS", "CLOSERS", "QUOTE", "BLANK", "LINE", "LETTERS", "SIGNS", "MOST_TEXT", "need_text", "is_sign", "closer_of", "is_letter", "is_closing", "is_free", "is_within", "BACK", "RIGHT", "END", "MOST_KEYS", "is_key", "need_keys"] : List Str) ++
 (["Page", "Trial", "Editor", "under", "_law_mixed", "_law_folded", "_law_draw", "_law_begun", "_law_like", "_law_book", "_law_signs", "_law_closer", "_law_puts", "_law_pressed", "_law_page", "_law_on", "_law_said", "_law_own", "_law_now", "_law_keyed", "_law_shift", "_law_stands", "_law_keys", "_law_step", "_law_within", "_law_tried", "_law_later_right"] : List Str)
theorem runL (w : World) : HandSHeadRun.RunEq RL (PySem.W.view RL.prog [75]) hkL obL 6000 looseL w := by
  intro os
  kernel_rfl
end Ob
set_option maxHeartbeats 4000000
/-! The call of the law, where nothing is told but the script and the tables. -/
namespace Ob
open PySem PySem.Spec PyProof.Rows L2 L2H LamX NdefX
/-- in sight: the script (unless the written part has it), the tables -/
def sight (K : PySem.W.Frag) (a : Addr) (o : Obj) (xs : List V) (tb : List Addr) : Hp := fun b => if b ∈ tb then some (.tbl #[]) else if b = a ∧ (K.lookup a).isNone = true then some (.frz o (.lst xs)) else none
theorem sight_in {K : PySem.W.Frag} {a b : Addr} {o : Obj} {xs : List V} {tb : List Addr} {u : HO} (h : sight K a o xs tb b = some u) : (b ∈ tb ∧ u = .tbl #[]) ∨ (b = a ∧ K.lookup a = none ∧ u = .frz o (.lst xs)) := by
  unfold sight at h
  split at h
  · rename_i q
    exact .inl ⟨q, (Option.some.inj h).symm⟩
  · split at h
    · rename_i q
      exact .inr ⟨q.1, Option.isNone_iff_eq_none.mp q.2, (Option.some.inj h).symm⟩
    · cases h
theorem sight_tb {K : PySem.W.Frag} {a b : Addr} {o : Obj} {xs : List V} {tb : List Addr} (h : b ∈ tb) : sight K a o xs tb b = some (.tbl #[]) := if_pos h
theorem law_from {P : Program} {w : World} {K : PySem.W.Frag} {mg mb : Str → Option Value} {k : Nat} {fa a : Addr} {fd : FuncData} {x : Str} {sp : Sp} {s : Shared} {vs : List Value} {ns : List Int} {cs : List (Addr × Addr)} (KX : K.In s.heap) (hg : s.heap.Ns mainGlobals mg) (hb : s.heap.Ns builtinsNs mb) (hbb : ∀ x : Str, x ≠ "__name__" → mb x = bootBuiltins x)
    (hlim : s.heap.NoLimit) (hgen : s.gens = #[]) (hbm : ∃ (bm : Addr) (ob : Obj), mg "__builtins__" = some (.ref bm) ∧ bm ≠ builtinsNs ∧ s.heap.get? bm = some ob ∧ ob.cls = .type "module" ∧ ob.dict = some builtinsNs ∧ ob.data = .plain)
    (ha : s.heap.get? a = some { cls := .type "list", data := .seq vs.toArray }) (hi : IntsAre vs ns) (hl : ns.length ≤ 63) (he : ∀ q ∈ cs, s.heap.get? q.2 = some { cls := .none, data := .fields #[] }) (hn : ∀ q ∈ cs, K.lookup q.2 = none) (hc : ∀ q ∈ cs, PySem.W.CodeHd s.heap q.1 q.2) (hr : Room k callerA)
    (F : ∀ base : Heap, (∃ P0, base.BuiltinsAt mg P0) → (∀ q ∈ cs, PySem.W.CodeHd base q.1 q.2) → FnW P w K mg base CX0 k fa fd [x] sp) (hbi : ∀ (s : Shared) (u : Value), BindsTo s fd ⟨[u], []⟩ [(x, u)])
    (hsp : ∀ H : Hp, (∀ q ∈ cs, H q.2 = some (.tbl #[])) → SqL K H a (ns.map V.int) → sp [.ref a] H (fun v _ => v = .bl true) fun _ _ _ => False) :
    codeAny (model P w) callerA (.call (.ref fa) ⟨[.ref a], []⟩) (fun r s' => r = .ok (.ret (.bool true)) ∧ OldK s.heap s'.heap ∧ s'.os = s.os ∧ AllBare s'.gens) s := by
  have rv := vals_ints hi
  have lv := hi.length
  have hsz : ns.length ≤ sizeLine := by rw [sizeLine_eq]; omega
  generalize eT : cs.map (·.2) = tb
  have tbE : ∀ b ∈ tb, s.heap.get? b = some { cls := .none, data := .fields #[] } := fun b hb => by
    rw [← eT] at hb
    obtain ⟨q, hq, rfl⟩ := List.mem_map.mp hb
    exact he q hq
  have tbI : ∀ q ∈ cs, q.2 ∈ tb := fun q hq => by rw [← eT]; exact List.mem_map.mpr ⟨q, hq, rfl⟩
  have aT : a ∉ tb := fun z => by
    have := tbE a z
    rw [ha] at this
    cases congrArg Obj.cls (Option.some.inj this)
  generalize eH : sight K a { cls := .type "list", data := .seq vs.toArray } (ns.map V.int) tb = H
  have inH : ∀ {b : Addr} {u : HO}, H b = some u → (b ∈ tb ∧ u = .tbl #[]) ∨ (b = a ∧ K.lookup a = none ∧ u = .frz { cls := .type "list", data := .seq vs.toArray } (.lst (ns.map V.int))) := fun {b u} h => by
    rw [← eH] at h
    exact sight_in h
  have Htb : ∀ b ∈ tb, H b = some (.tbl #[]) := fun b hb => by rw [← eH]; exact sight_tb hb
  have ok : HOk P w H s.heap := fun b u h => by
    rcases inH h with ⟨h1, rfl⟩ | ⟨rfl, _, rfl⟩
    · exact tbE b h1
    · exact ⟨ha, by rw [List.length_map]; exact hsz, vs, _, rv, ha⟩
  have seqs : SqL K H a (ns.map V.int) := by
    cases lk : K.lookup a with
    | none => exact .inl (.inr ⟨{ cls := .type "list", data := .seq vs.toArray }, by rw [← eH]; exact (if_neg aT).trans (if_pos ⟨rfl, by rw [lk]; rfl⟩)⟩)
    | some o =>
      have := KX a o lk
      rw [ha] at this
      cases this
      exact .inr ⟨_, vs.toArray, _, lk, rfl, rfl, rfl, by rw [List.size_toArray, lv]; exact hsz, rv⟩
  -- what is neither is out of sight
  have away : ∀ {b : Addr} {o : Obj}, s.heap.get? b = some o → o.data ≠ .fields #[] → o.data ≠ .seq vs.toArray → H b = none := fun {b o} e n1 n2 => by
    cases q : H b with
    | none => rfl
    | some u =>
      rcases inH q with ⟨h1, _⟩ | ⟨rfl, _, _⟩
      · rw [tbE b h1] at e
        cases e
        exact absurd rfl n1
      · rw [ha] at e
        cases e
        exact absurd rfl n2
  have up : ∀ {b : Addr} {o : Obj}, s.heap.get? b = some o → o.data ≠ .fields #[] → o.data ≠ .seq vs.toArray → (hidT s.heap H).get? b = some o := fun e n1 n2 => hidT_get e (away e n1 n2)
  have upN : ∀ {b : Addr} {m : Str → Option Value}, s.heap.Ns b m → (hidT s.heap H).Ns b m := fun {b m} ⟨o, es, ep, e, d, r⟩ => ⟨o, es, ep, up e (fun z => by rw [d] at z; cases z) (fun z => by rw [d] at z; cases z), d, r⟩
  have upK : K.In (hidT s.heap H) := fun b o e => hidT_get (KX b o e) (by
    cases q : H b with
    | none => rfl
    | some u =>
      rcases inH q with ⟨h1, _⟩ | ⟨rfl, h1, _⟩
      · rw [← eT] at h1
        obtain ⟨q, hq, z⟩ := List.mem_map.mp h1
        rw [← z, hn q hq] at e
        cases e
      · rw [h1] at e
        cases e)
  obtain ⟨mc, l1, l2⟩ := hlim
  have env : Env0 P w K mg (hidT s.heap H) callerA [] s H := { frames := rfl, mod := ⟨upK, upN hg, ⟨mb, upN hb, hbb⟩, ⟨mc, upN l1, l2⟩⟩, bs := fun b o e => of_hidT e, bsz := Nat.le_of_eq (hidT_size _ _), funs := trivial, frf := fun b hb => (by cases hb), hok := ok, bare := .of_eq hgen }
  obtain ⟨bm, ob, b1, b2, b3, b4, b5, b6⟩ := hbm
  have bmB : (hidT s.heap H).BuiltinsAt mg builtinsNs := by
    refine ⟨bm, ob, b1, b2, fun z => ?_, b2, up b3 (fun z => by rw [b6] at z; cases z) (fun z => by rw [b6] at z; cases z), b4, b5, b6⟩
    obtain ⟨o, es, ep, e, d, _⟩ := hg
    rw [z, e] at b3
    cases b3
    rw [b6] at d
    cases d
  have codes : ∀ q ∈ cs, PySem.W.CodeHd (hidT s.heap H) q.1 q.2 := fun q hq => by
    obtain ⟨o, us, file, tf, flags, tg, inF, text, tt, e1, r1, r2, r⟩ := hc q hq
    refine ⟨o, us, file, tf, flags, tg, inF, text, tt, up e1 (fun z => ?_) (fun z => ?_), r1, r2, r⟩
    · rw [r2] at z
      cases z
      simp at r
    · rw [r2] at z
      cases z
  have run := (F _ ⟨_, bmB⟩ codes).run callerA [] s H ⟨[.ref a], []⟩ [.ref a] [.ref a] _ _ hr rfl env (hbi s (.ref a)) (.cons rfl .nil) (hsp H (fun q hq => Htb _ (tbI q hq)) seqs)
  refine codeAny_mono run fun r s' h => ?_
  cases r with
  | error e => exact False.elim h
  | ok fl =>
    cases fl with
    | ret u =>
      obtain ⟨v, H', os, bare, un, ok', ru, rfl⟩ := h
      cases (show u = Value.bool true from ru)
      have more : ∀ b ∈ tb, ∃ m : Array Value, s'.heap.get? b = some { cls := .none, data := .fields m } := fun b hb => by
        obtain ⟨m, z⟩ := un.tbls b #[] (Htb b hb)
        exact ⟨_, ok' b _ z⟩
      have rest : ∀ {b : Addr} {o : Obj}, b ∉ tb → s.heap.get? b = some o → s'.heap.get? b = some o := fun {b o} nb e => by
        cases q : H b with
        | none => exact un.keep b o e q (fun z => by cases z) (fun z => by cases z)
        | some u =>
          rcases inH q with ⟨h1, _⟩ | ⟨rfl, _, rfl⟩
          · exact absurd h1 nb
          · rw [ha] at e
            cases e
            exact (ok' _ _ (un.frzs _ _ _ q)).1
      refine ⟨rfl, ⟨fun b o e => ?_, fun b o e => ?_⟩, os, bare⟩
      · by_cases hb : b ∈ tb
        · have hb' := hb
          rw [← eT] at hb'
          obtain ⟨q, hq, rfl⟩ := List.mem_map.mp hb'
          have e2 := he q hq
          rw [e] at e2
          cases e2
          obtain ⟨m, z⟩ := more _ hb
          exact .inr (.inl ⟨((hc q hq).tab (he q hq)).isCodeTable, rfl, #[], m, rfl, by rw [Array.empty_append]; exact z⟩)
        · exact .inl (rest hb e)
      · by_cases hb : b ∈ tb
        · obtain ⟨m, z⟩ := more b hb
          exact ⟨_, z⟩
        · exact ⟨o, rest hb e⟩
    | next => exact False.elim h
    | brk => exact False.elim h
    | cont => exact False.elim h
end Ob
/-! The end. -/
namespace Ob
open PySem PySem.Spec PyProof.Rows L2 L2H LamX NdefX
abbrev csL (K : PySem.W.Frag) : List (Addr × Addr) := tfL.map fun x => (cO K x, tO K x)
abbrev rtL (K : PySem.W.Frag) : List (Addr × Str) := tfL.map fun x => (tO K x, lamIn x)
theorem rt_one {K : PySem.W.Frag} (h : apB K = true) : ∀ P q q', (P, q) ∈ rtL K → (P, q') ∈ rtL K → q = q' := by
  obtain ⟨h1, h⟩ := and2 h
  obtain ⟨h2, h3⟩ := and2 h
  have h1 : tO K "_law_tried" ≠ tO K "_law_later_right" := of_decide_eq_true h1
  have h2 : tO K "_law_tried" ≠ tO K "law" := of_decide_eq_true h2
  have h3 : tO K "_law_later_right" ≠ tO K "law" := of_decide_eq_true h3
  have mem : ∀ {P : Addr} {q : Str}, (P, q) ∈ rtL K → (P = tO K "_law_tried" ∧ q = lamIn "_law_tried") ∨ (P = tO K "_law_later_right" ∧ q = lamIn "_law_later_right") ∨ (P = tO K "law" ∧ q = lamIn "law") := fun {P q} h => by
    rcases List.mem_cons.mp h with z | h
    · exact .inl ⟨congrArg Prod.fst z, congrArg Prod.snd z⟩
    · rcases List.mem_cons.mp h with z | h
      · exact .inr (.inl ⟨congrArg Prod.fst z, congrArg Prod.snd z⟩)
      · have z := List.mem_singleton.mp h
        exact .inr (.inr ⟨congrArg Prod.fst z, congrArg Prod.snd z⟩)
  intro P q q' a b
  rcases mem a with ⟨e, f⟩ | ⟨e, f⟩ | ⟨e, f⟩ <;> rcases mem b with ⟨e', f'⟩ | ⟨e', f'⟩ | ⟨e', f'⟩
  · rw [f, f']
  · exact absurd (e.symm.trans e') h1
  · exact absurd (e.symm.trans e') h2
  · exact absurd (e'.symm.trans e) h1
  · rw [f, f']
  · exact absurd (e.symm.trans e') h3
  · exact absurd (e'.symm.trans e) h2
  · exact absurd (e'.symm.trans e) h3
  · rw [f, f']
section
variable {w : World} {K : PySem.W.Frag} {h9 : Heap} {mg : Str → Option Value} {base : Heap}
theorem law_ok (h : Heard K h9) (X : K.In h9) (G : h9.Ns mainGlobals mg) (hbm : ∃ P0, base.BuiltinsAt mg P0) (hc : ∀ q ∈ csL K, PySem.W.CodeHd base q.1 q.2) : FWk Pr w K mg base CX0 34 ("law", none) p_law (spLaw K (rtL K)) := by
  have cod : ∀ x ∈ tfL, (∃ c, (fdAt K (He.fAd K (x, none))).code = .ref c ∧ He.codeOf K (x, none) = c) → CodF K base (rtL K) x := fun x hx ⟨c, e1, e2⟩ => ⟨cO K x, tO K x, by rw [e1]; exact congrArg Value.ref e2.symm, hc _ (List.mem_map.mpr ⟨x, hx, rfl⟩), List.mem_map.mpr ⟨x, hx, rfl⟩⟩
  obtain ⟨z1, z2⟩ := zzs h
  obtain ⟨f1, f2⟩ := frees h X G
  exact ok_law (txL h X G) (d_law h X G) ⟨hbm, cod _ (by simp [tfL]) (cod_law_tried h), f1, f2, z1, z2⟩ (cod _ (by simp [tfL]) (cod_law_later_right h)) (cod _ (by simp [tfL]) (cod_law h))
/-- the law's call -/
theorem law_call9 {mb : Str → Option Value} {s : Shared} {fa a : Addr} {vs : List Value} {ns : List Int} (h : Heard K s.heap) (X : K.In s.heap) (hg : s.heap.Ns mainGlobals mg) (hb : s.heap.Ns builtinsNs mb) (hbb : ∀ x : Str, x ≠ "__name__" → mb x = bootBuiltins x) (hlim : s.heap.NoLimit) (hgen : s.gens = #[])
    (hbm : ∃ (bm : Addr) (ob : Obj), mg "__builtins__" = some (.ref bm) ∧ bm ≠ builtinsNs ∧ s.heap.get? bm = some ob ∧ ob.cls = .type "module" ∧ ob.dict = some builtinsNs ∧ ob.data = .plain) (ha : s.heap.get? a = some { cls := .type "list", data := .seq vs.toArray }) (hi : IntsAre vs ns) (hl : ns.length ≤ 63) (hf : mg "law" = some (.ref fa)) :
    codeAny (model Pr w) callerA (.call (.ref fa) ⟨[.ref a], []⟩) (fun r s' => r = .ok (.ret (.bool true)) ∧ OldK s.heap s'.heap ∧ s'.os = s.os ∧ AllBare s'.gens) s := by
  have e := (d_law h X hg).g
  rw [hf] at e
  cases e
  refine law_from (cs := csL K) X hg hb hbb hlim hgen hbm ha hi hl (fun q hq => ?_) (fun q hq => ?_) (fun q hq => ?_) ⟨rfl, by decide, by decide⟩ (fun base b c => law_ok h X hg b c) (fun s u => law_binds h s u) fun H hH hS => ⟨a, ns, rfl, hS, hl, ⟨rtL K, TTy.nil (rt_one h.ap) fun r hr => ?_⟩, fun _ => rfl⟩
  · obtain ⟨x, hx, rfl⟩ := List.mem_map.mp hq
    exact h.empty x hx
  · obtain ⟨x, hx, rfl⟩ := List.mem_map.mp hq
    exact h.out x hx
  · obtain ⟨x, hx, rfl⟩ := List.mem_map.mp hq
    exact PySem.W.codeHd_of_K X (h.hd x hx)
  · obtain ⟨x, hx, rfl⟩ := List.mem_map.mp hr
    exact hH _ (List.mem_map.mpr ⟨x, hx, rfl⟩)
end
end Ob
open PySem PySem.W PySem.Calls PyProof.Rows
theorem PySem.Challenge.cw_ownclosers_k90_whole_trials_and_copies_holds : PySem.Challenge.rw_ownclosers_k90_whole_trials_and_copies.Holds := by
  w_on; o_law
  refine HandSHeadRun.head_any (r := OpenLaw.row PySem.Challenge.rw_ownclosers_k90_whole_trials_and_copies) (q := view (OpenLaw.row PySem.Challenge.rw_ownclosers_k90_whole_trials_and_copies).prog [75]) (H := Ob.hkL) (ob := Ob.obL) (M := 6000) (loose := Ob.looseL) (d := HandSHeadRun.topDef (OpenLaw.row PySem.Challenge.rw_ownclosers_k90_whole_trials_and_copies).prog 75) (kwd := []) Ob.obL_eq
    (by kernel_rfl) (fun s => by kernel_rfl) Ob.runL (by kernel_rfl) (by kernel_rfl) (by kernel_rfl) (by rfl) (by first | assumption | decide +kernel) (by decide +kernel) ⟨rfl, rfl, rfl, rfl, rfl, by decide +kernel⟩ ?hw ?hc
  case hw => w_witness2
  case hc =>
    refine Att.attach_callB (l := PySem.Challenge.rw_ownclosers_k90_whole_trials_and_copies) (n := 63) rfl (by kernel_rfl) fun w s₀ s₁ mg mb fa o pm cd doc a vs ns G Y ho hd hcd hmg hobj hints hlen hbits hg => ?_
    obtain ⟨K, KX, hh⟩ := Y
    have hmg' : mg ("law" : PySem.Str) = some (.ref fa) := by
      have e : (HandSHeadRun.topDef (OpenLaw.row PySem.Challenge.rw_ownclosers_k90_whole_trials_and_copies).prog 75).name = ("law" : PySem.Str) := by kernel_rfl
      rw [← e]
      exact hmg
    exact Ob.law_call9 hh KX G.T.g G.T.b G.T.builtins G.T.nolimit hg G.T.bmain hobj hints hlen hmg'
